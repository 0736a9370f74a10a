import PyProof.Rows.All
import Wide.All
import OpenK.AllK
import Wide.FinOn
import HandS.ForMost
import HandS.ForExc
import HandS.TupAny
import HandS.Conv
import HandS.IsInst
import HandS.More
import HandS.SortInts
import PyProof.ReprRoads
import HandS.Style
import PyProof.StrLawsRepr
import HandS.Small
import HandS.Zip
import HandS.Ends
import HandS.ExcInit
import HandS.ExcField
import HandS.TryMany
import KE.KExcIs
import HandS.Strs
import KE.KDictPairs
import KE.KEqDict
import HandS.Rev
import KE.KDictZip
import KE.GoesZip
import KE.GoesMore
import HandS.Zip0
import HandS.WordsExc
import KE.KxText
import PySem.Challenge.RW_ticksurety_k11_whole_forms_equal_exactly
set_option Elab.async false
set_option linter.all false
set_option maxRecDepth 100000
set_option autoImplicit false
set_option maxHeartbeats  4000000
namespace L3
open PySem PySem.Spec PyProof.Rows L2

/-- data without addresses -/
inductive D where
  | non | bl (b : Bool) | int (i : Int) | str (x : Str)
  | tup (ds : List D) | lst (ds : List D)
  | dic (kvs : List (Key × D))
  | dit (kvs : List (List Key × D))
  | obj (c : Str) (ks : List Str) (ds : List D)
  | ty (n : String)

/-- the text's side -/
structure Pm where
  K : PySem.W.Frag
  mg : Str → Option Value
abbrev _root_.L2.Cx.G (X : Cx) : Pm := ⟨X.K, X.mg⟩


/-- a constant of the module that is a tuple, a list -/
def ConT (K : PySem.W.Frag) (a : Addr) (xs : List V) : Prop :=
  ∃ (o : Obj) (its : Array Value) (n : Nat), K.lookup a = some o ∧ o.cls = .type "tuple" ∧ o.data = .seq its n ∧ its.size ≤ sizeLine ∧ Vals xs its.toList ∧ o.dict = none

abbrev St := L2.St
/-- a tuple that the heap holds has no dict of its own -/
def TD (H : Hp) (a : Addr) (d : D) : Prop := match d with
  | .tup _ => ∃ (ob : Obj) (vs : List V), H a = some (.frz ob (.tup vs)) ∧ ob.dict = none
  | _ => True
mutual
inductive Rep (G : Pm) (W : Addr → Prop) (H : Hp) : V → D → Prop where
  | non : Rep G W H .non .non
  | bl (b : Bool) : Rep G W H (.bl b) (.bl b)
  | int (i : Int) : Rep G W H (.int i) (.int i)
  | str (x : Str) : Rep G W H (.str x) (.str x)
  | ty (n : String) : Rep G W H (.ty n) (.ty n)
  | ref {a : Addr} {o : HO} {d : D} (h : Rd H a o) (w : ¬ W a) (c : Cont G W H o d) (t : TD H a d) : Rep G W H (.ref a) d
  | tupK {a : Addr} {vs : List V} {ds : List D} (h : ConT G.K a vs) (r : Reps G W H vs ds) : Rep G W H (.ref a) (.tup ds)
inductive Cont (G : Pm) (W : Addr → Prop) (H : Hp) : HO → D → Prop where
  | tup {vs : List V} {ds : List D} (r : Reps G W H vs ds) : Cont G W H (.tup vs) (.tup ds)
  | wtp {vs : List V} {ds : List D} (r : Reps G W H vs ds) : Cont G W H (.tup vs) (.obj "" [] ds)
  | lst {vs : List V} {ds : List D} (r : Reps G W H vs ds) : Cont G W H (.lst vs) (.lst ds)
  | dic {kvs : List (Key × V)} {kds : List (Key × D)} (k : kvs.map (·.1) = kds.map (·.1)) (r : Reps G W H (kvs.map (·.2)) (kds.map (·.2))) : Cont G W H (.dK kvs) (.dic kds)
  | dit {kvs : List (List Key × V)} {kds : List (List Key × D)} (k : kvs.map (·.1) = kds.map (·.1)) (r : Reps G W H (kvs.map (·.2)) (kds.map (·.2))) : Cont G W H (.dT kvs) (.dit kds)
  | obj {C dx : Addr} {c : Str} {vs : List V} {ks : List Str} {ds : List D} (m : G.mg c = some (.ref C)) (l : vs.length = ks.length) (r : Reps G W H vs ds) : Cont G W H (.ins C dx (ks.zip vs)) (.obj c ks ds)
inductive Reps (G : Pm) (W : Addr → Prop) (H : Hp) : List V → List D → Prop where
  | nil : Reps G W H [] []
  | cons {v : V} {d : D} {vs : List V} {ds : List D} (h : Rep G W H v d) (t : Reps G W H vs ds) : Reps G W H (v :: vs) (d :: ds)
end

/-- from one heap and its own objects to the next -/
structure Go (A : Addr → Prop) (H : Hp) (A' : Addr → Prop) (H' : Hp) : Prop where
  keep : ∀ b o, H b = some o → ¬ A b → H' b = some o
  sub : ∀ b, A' b → A b ∨ H b = none
  grow : ∀ b, H' b = none → H b = none
def Wu (W0 A : Addr → Prop) : Addr → Prop := fun b => W0 b ∨ A b

section
variable {G : Pm} {W0 W W' A A' A'' : Addr → Prop} {H H' H'' : Hp} {v : V} {d : D} {vs : List V} {ds : List D} {a : Addr} {u : HO}
theorem Go.refl : Go A H A H := ⟨fun _ _ h _ => h, fun _ h => .inl h, fun _ h => h⟩
theorem Go.trans (g : Go A H A' H') (g' : Go A' H' A'' H'') : Go A H A'' H'' where
  keep := fun b o h n => g'.keep b o (g.keep b o h n) fun z => (g.sub b z).elim n fun e => by rw [h] at e; cases e
  sub := fun b h => (g'.sub b h).elim (fun z => g.sub b z) fun e => .inr (g.grow b e)
  grow := fun b h => g.grow b (g'.grow b h)
theorem Go.of_same (s : Same H H') : Go A H A H' := ⟨fun b o h _ => s b o h, fun _ h => .inl h, fun _ h => s.free h⟩
theorem Go.less (h : ∀ b, A' b → A b) : Go A H A' H := ⟨fun _ _ h _ => h, fun _ z => .inl (h _ z), fun _ h => h⟩
theorem Rd.go (r : Rd H a u) (g : Go A H A' H') (n : ¬ A a) : Rd H' a u := by
  rcases r with r | ⟨o, r⟩
  · exact .inl (g.keep _ _ r n)
  · exact .inr ⟨o, g.keep _ _ r n⟩
theorem Rd.there (r : Rd H a u) : ∃ o, H a = some o := by
  rcases r with r | ⟨o, r⟩
  · exact ⟨_, r⟩
  · exact ⟨_, r⟩
/-- what a step asks of a footprint -/
def Stp (W : Addr → Prop) (H : Hp) (W' : Addr → Prop) (H' : Hp) : Prop := ∀ b o, H b = some o → ¬ W b → H' b = some o ∧ ¬ W' b
theorem Go.stp (g : Go A H A' H') : Stp (Wu W0 A) H (Wu W0 A') H' := fun b o h n =>
  ⟨g.keep b o h fun z => n (.inr z), fun z => z.elim (fun z => n (.inl z)) fun z => (g.sub b z).elim (fun z => n (.inr z)) fun e => by rw [h] at e; cases e⟩
theorem Rd.stp (r : Rd H a u) (g : Stp W H W' H') (n : ¬ W a) : Rd H' a u ∧ ¬ W' a := by
  rcases r with r | ⟨o, r⟩
  · exact ⟨.inl (g _ _ r n).1, (g _ _ r n).2⟩
  · exact ⟨.inr ⟨o, (g _ _ r n).1⟩, (g _ _ r n).2⟩
theorem TD.stp (t : TD H a d) (g : Stp W H W' H') (n : ¬ W a) : TD H' a d := by
  cases d with
  | tup ds =>
    obtain ⟨ob, vs, e, h⟩ := t
    exact ⟨ob, vs, (g _ _ e n).1, h⟩
  | _ => trivial
mutual
theorem Rep.stp (g : Stp W H W' H') : ∀ {v : V} {d : D}, Rep G W H v d → Rep G W' H' v d
  | _, _, .non => .non
  | _, _, .bl b => .bl b
  | _, _, .int i => .int i
  | _, _, .str x => .str x
  | _, _, .ty n => .ty n
  | _, _, .ref h w c t => .ref (Rd.stp h g w).1 (Rd.stp h g w).2 (Cont.stp g c) (TD.stp t g w)
  | _, _, .tupK h r => .tupK h (Reps.stp g r)
theorem Cont.stp (g : Stp W H W' H') : ∀ {o : HO} {d : D}, Cont G W H o d → Cont G W' H' o d
  | _, _, .tup r => .tup (Reps.stp g r)
  | _, _, .wtp r => .wtp (Reps.stp g r)
  | _, _, .lst r => .lst (Reps.stp g r)
  | _, _, .dic k r => .dic k (Reps.stp g r)
  | _, _, .dit k r => .dit k (Reps.stp g r)
  | _, _, .obj m l r => .obj m l (Reps.stp g r)
theorem Reps.stp (g : Stp W H W' H') : ∀ {vs : List V} {ds : List D}, Reps G W H vs ds → Reps G W' H' vs ds
  | _, _, .nil => .nil
  | _, _, .cons h t => .cons (Rep.stp g h) (Reps.stp g t)
end
theorem Rep.go (r : Rep G (Wu W0 A) H v d) (g : Go A H A' H') : Rep G (Wu W0 A') H' v d := r.stp g.stp
theorem Reps.go (r : Reps G (Wu W0 A) H vs ds) (g : Go A H A' H') : Reps G (Wu W0 A') H' vs ds := r.stp g.stp
theorem Stp.same (s : Same H H') : Stp W H W H' := fun b o h n => ⟨s b o h, n⟩
/-- fewer, or new ones -/
theorem Stp.less (h : ∀ b, W' b → W b ∨ H b = none) : Stp W H W' H := fun b o e n => ⟨e, fun z => (h b z).elim n fun q => by rw [e] at q; cases q⟩
theorem Reps.length : ∀ {vs : List V} {ds : List D}, Reps G W H vs ds → vs.length = ds.length
  | _, _, .nil => rfl
  | _, _, .cons _ t => by simp [Reps.length t]
theorem Reps.get : ∀ {vs : List V} {ds : List D} {i : Nat} {d : D}, Reps G W H vs ds → ds[i]? = some d → ∃ v, vs[i]? = some v ∧ Rep G W H v d
  | _, _, _, _, .nil, e => by simp at e
  | _, _, 0, _, .cons h _, e => by simp at e; subst e; exact ⟨_, rfl, h⟩
  | _, _, i + 1, d, .cons _ t, e => by
    obtain ⟨v, h1, h2⟩ := Reps.get (i := i) (d := d) t (by simpa using e)
    exact ⟨v, by simpa using h1, h2⟩
theorem Reps.getv : ∀ {vs : List V} {ds : List D} {i : Nat} {v : V}, Reps G W H vs ds → vs[i]? = some v → ∃ d, ds[i]? = some d ∧ Rep G W H v d
  | _, _, _, _, .nil, e => by simp at e
  | _, _, 0, _, .cons h _, e => by simp at e; subst e; exact ⟨_, rfl, h⟩
  | _, _, i + 1, d, .cons _ t, e => by
    obtain ⟨v, h1, h2⟩ := Reps.getv (i := i) (v := d) t (by simpa using e)
    exact ⟨v, by simpa using h1, h2⟩
theorem Reps.append : ∀ {vs vs' : List V} {ds ds' : List D}, Reps G W H vs ds → Reps G W H vs' ds' → Reps G W H (vs ++ vs') (ds ++ ds')
  | _, _, _, _, .nil, s => s
  | _, _, _, _, .cons h t, s => .cons h (Reps.append t s)
theorem Reps.take : ∀ {vs : List V} {ds : List D} (n : Nat), Reps G W H vs ds → Reps G W H (vs.take n) (ds.take n)
  | _, _, 0, _ => .nil
  | _, _, _ + 1, .nil => .nil
  | _, _, n + 1, .cons h t => .cons h (Reps.take n t)
theorem Reps.drop : ∀ {vs : List V} {ds : List D} (n : Nat), Reps G W H vs ds → Reps G W H (vs.drop n) (ds.drop n)
  | _, _, 0, r => r
  | _, _, _ + 1, .nil => .nil
  | _, _, n + 1, .cons _ t => Reps.drop n t
theorem Reps.set {v : V} {d : D} (h : Rep G W H v d) : ∀ {vs : List V} {ds : List D} (i : Nat), Reps G W H vs ds → Reps G W H (vs.set i v) (ds.set i d)
  | _, _, _, .nil => .nil
  | _, _, 0, .cons _ t => .cons h t
  | _, _, i + 1, .cons q t => .cons q (Reps.set h i t)
theorem Reps.erase : ∀ {vs : List V} {ds : List D} (i : Nat), Reps G W H vs ds → Reps G W H (vs.eraseIdx i) (ds.eraseIdx i)
  | _, _, _, .nil => .nil
  | _, _, 0, .cons _ t => t
  | _, _, i + 1, .cons q t => .cons q (Reps.erase i t)
theorem Reps.reverse : ∀ {vs : List V} {ds : List D}, Reps G W H vs ds → Reps G W H vs.reverse ds.reverse
  | _, _, .nil => .nil
  | _, _, .cons q t => by
    rw [List.reverse_cons, List.reverse_cons]
    exact Reps.append (Reps.reverse t) (.cons q .nil)
theorem Reps.ints : ∀ {vs : List V} {ns : List Int}, Reps G W H vs (ns.map D.int) → vs = ns.map V.int
  | _, [], .nil => rfl
  | _, _ :: _, .cons (.int _) t => by rw [Reps.ints t]; rfl
theorem Reps.of_ints : ∀ (ns : List Int), Reps G W H (ns.map V.int) (ns.map D.int)
  | [] => .nil
  | n :: r => .cons (.int n) (Reps.of_ints r)
theorem Reps.bls : ∀ {vs : List V} {ns : List Bool}, Reps G W H vs (ns.map D.bl) → vs = ns.map V.bl
  | _, [], .nil => rfl
  | _, _ :: _, .cons (.bl _) t => by rw [Reps.bls t]; rfl
theorem Reps.strs : ∀ {vs : List V} {ns : List Str}, Reps G W H vs (ns.map D.str) → vs = ns.map V.str
  | _, [], .nil => rfl
  | _, _ :: _, .cons (.str _) t => by rw [Reps.strs t]; rfl
theorem Reps.of_strs : ∀ (ns : List Str), Reps G W H (ns.map V.str) (ns.map D.str)
  | [] => .nil
  | n :: r => .cons (.str n) (Reps.of_strs r)

/-- an object of one's own: what stands at a -/
def Own (G : Pm) (W : Addr → Prop) (H : Hp) (a : Addr) (d : D) : Prop := ∃ o, H a = some o ∧ Mut (some o) ∧ Cont G W H o d
theorem Own.there (r : Own G W H a d) : ∃ o, H a = some o := let ⟨o, h, _⟩ := r; ⟨o, h⟩
theorem Own.stp (r : Own G W H a d) (g : Stp W H W' H') (e : H' a = H a) : Own G W' H' a d := let ⟨o, h, m, c⟩ := r; ⟨o, e.trans h, m, c.stp g⟩
/-- let go of: it is a value from now on -/
theorem Own.rep (r : Own G W H a d) (h : ∀ b, W' b → W b) (n : ¬ W' a) : Rep G W' H (.ref a) d :=
  let ⟨_, e, m, c⟩ := r
  .ref (.inl e) n (c.stp (.less fun b z => .inl (h b z))) (by
    cases d with
    | tup ds => cases c; exact m.elim
    | _ => trivial)

/-- a value that is looked at: its own top may be one's own -/
inductive RepP (G : Pm) (W : Addr → Prop) (H : Hp) : V → D → Prop where
  | rep {v : V} {d : D} (h : Rep G W H v d) : RepP G W H v d
  | own {a : Addr} {d : D} (h : Own G W H a d) : RepP G W H (.ref a) d
end

/-! ### slots -/
inductive Sl where
  | un | val (d : D) | own (d : D) | bor (d : D)
inductive SlOk (G : Pm) (W : Addr → Prop) (H : Hp) : Option V → Sl → Option Addr → Prop where
  | un (v : Option V) : SlOk G W H v .un none
  | val {v : V} {d : D} (h : Rep G W H v d) : SlOk G W H (some v) (.val d) none
  | own {a : Addr} {d : D} (h : Own G W H a d) : SlOk G W H (some (.ref a)) (.own d) (some a)
  | bor {a : Addr} {d : D} (h : Own G W H a d) : SlOk G W H (some (.ref a)) (.bor d) (some a)
abbrev Ad (as : List (Option Addr)) : Addr → Prop := fun b => some b ∈ as
abbrev En := List Sl
/-- what is fixed through a def's body: addresses that are left alone, the addresses of what is lent (by slot), the heap at the entry -/
structure Bs where
  W0 : Addr → Prop
  pn : List (Option Addr)
  He : Hp
abbrev Bs.W (B : Bs) (as : List (Option Addr)) : Addr → Prop := Wu B.W0 (Ad as)
structure Rel (G : Pm) (B : Bs) (as : List (Option Addr)) (σ : St) (H : Hp) (ρ : En) : Prop where
  l1 : σ.length = ρ.length
  l2 : as.length = ρ.length
  sl : ∀ (i : Nat) v s a, σ[i]? = some v → ρ[i]? = some s → as[i]? = some a → SlOk G (B.W as) H v s a
  pin : ∀ (i : Nat) d, ρ[i]? = some (.bor d) → as[i]? = B.pn[i]?
  fr : ∀ (i : Nat) d a, ρ[i]? = some (.own d) → as[i]? = some (some a) → B.He a = none
  inj : ∀ (i j : Nat) a, as[i]? = some (some a) → as[j]? = some (some a) → i = j
  nw : ∀ a, Ad as a → ¬ B.W0 a
  dom : ∀ b, B.W0 b → ∃ o, H b = some o
  gr : ∀ b, H b = none → B.He b = none

section
variable {G : Pm} {B : Bs} {W W' A A' : Addr → Prop} {as as' : List (Option Addr)} {σ σ' : St} {H H' : Hp} {ρ ρ' : En} {v : V} {d : D} {a : Addr}
theorem Ad.ix {b : Addr} (h : Ad as b) : ∃ i : Nat, as[i]? = some (some b) := List.mem_iff_getElem?.mp h
theorem Ad.of {b : Addr} {i : Nat} (h : as[i]? = some (some b)) : Ad as b := List.mem_of_getElem? h
theorem SlOk.adr {v : Option V} {s : Sl} (h : SlOk G W H v s (some a)) : ∃ d, v = some (.ref a) ∧ (s = .own d ∨ s = .bor d) ∧ Own G W H a d := by
  cases h with
  | own h => exact ⟨_, rfl, .inl rfl, h⟩
  | bor h => exact ⟨_, rfl, .inr rfl, h⟩
theorem Rel.three (R : Rel G B as σ H ρ) {i : Nat} (h : i < ρ.length) : ∃ v s a, σ[i]? = some v ∧ ρ[i]? = some s ∧ as[i]? = some a ∧ SlOk G (B.W as) H v s a := by
  have h1 : i < σ.length := by rw [R.l1]; exact h
  have h2 : i < as.length := by rw [R.l2]; exact h
  exact ⟨_, _, _, List.getElem?_eq_getElem h1, List.getElem?_eq_getElem h, List.getElem?_eq_getElem h2, R.sl i _ _ _ (List.getElem?_eq_getElem h1) (List.getElem?_eq_getElem h) (List.getElem?_eq_getElem h2)⟩
theorem lt_of_get {α : Type} {l : List α} {i : Nat} {x : α} (h : l[i]? = some x) : i < l.length := (List.getElem?_eq_some_iff.mp h).1
theorem Rel.at_s (R : Rel G B as σ H ρ) {i : Nat} {s : Sl} (h : ρ[i]? = some s) : ∃ v a, σ[i]? = some v ∧ as[i]? = some a ∧ SlOk G (B.W as) H v s a := by
  obtain ⟨v, s', a, h1, h2, h3, h4⟩ := R.three (lt_of_get h)
  rw [h] at h2; cases h2
  exact ⟨v, a, h1, h3, h4⟩
theorem Rel.at_a (R : Rel G B as σ H ρ) {i : Nat} (h : as[i]? = some (some a)) : ∃ d, σ[i]? = some (some (.ref a)) ∧ (ρ[i]? = some (.own d) ∨ ρ[i]? = some (.bor d)) ∧ Own G (B.W as) H a d := by
  obtain ⟨v, s, a', h1, h2, h3, h4⟩ := R.three (by rw [← R.l2]; exact lt_of_get h)
  rw [h] at h3; cases h3
  obtain ⟨d, rfl, h5, h6⟩ := h4.adr
  exact ⟨d, h1, h5.imp (fun e => by rw [h2, e]) (fun e => by rw [h2, e]), h6⟩
theorem Rel.domA (R : Rel G B as σ H ρ) : ∀ b, B.W as b → ∃ o, H b = some o := fun b h => by
  rcases h with h | h
  · exact R.dom b h
  · obtain ⟨i, h⟩ := Ad.ix h
    obtain ⟨d, _, _, o⟩ := R.at_a h
    exact o.there
theorem Rel.fresh (R : Rel G B as σ H ρ) {p : Addr} (h : H p = none) : ¬ B.W as p := fun z => by
  obtain ⟨o, e⟩ := R.domA p z
  rw [h] at e; cases e
/-- THE STEP: slots are kept or new -/
theorem Rel.step (R : Rel G B as σ H ρ) (g : Go (Ad as) H (Ad as') H') (l1 : σ'.length = ρ'.length) (l2 : as'.length = ρ'.length)
    (hs : ∀ j, j < ρ'.length → (σ'[j]? = σ[j]? ∧ ρ'[j]? = ρ[j]? ∧ as'[j]? = as[j]? ∧ ∀ a, as[j]? = some (some a) → H' a = H a) ∨
      ∃ v s a, σ'[j]? = some v ∧ ρ'[j]? = some s ∧ as'[j]? = some a ∧ SlOk G (B.W as') H' v s a ∧ (∀ d, s = .bor d → some a = B.pn[j]?) ∧ ∀ d b, s = .own d → a = some b → B.He b = none)
    (inj : ∀ (i j : Nat) a, as'[i]? = some (some a) → as'[j]? = some (some a) → i = j) (nw : ∀ a, Ad as' a → ¬ B.W0 a) : Rel G B as' σ' H' ρ' where
  l1 := l1
  l2 := l2
  sl := fun i v s a h1 h2 h3 => by
    rcases hs i (lt_of_get h2) with ⟨e1, e2, e3, e4⟩ | ⟨v', s', a', e1, e2, e3, e4, _, _⟩
    · have x := R.sl i v s a (e1.symm.trans h1) (e2.symm.trans h2) (e3.symm.trans h3)
      cases x with
      | un => exact .un _
      | val h => exact .val (h.go g)
      | own h => exact .own (h.stp g.stp (e4 _ (e3.symm.trans h3)))
      | bor h => exact .bor (h.stp g.stp (e4 _ (e3.symm.trans h3)))
    · rw [h1] at e1; rw [h2] at e2; rw [h3] at e3
      cases e1; cases e2; cases e3
      exact e4
  pin := fun i d h => by
    rcases hs i (lt_of_get h) with ⟨e1, e2, e3, e4⟩ | ⟨v', s', a', e1, e2, e3, _, e5, _⟩
    · rw [e3]; exact R.pin i d (e2.symm.trans h)
    · rw [h] at e2; cases e2
      rw [e3]; exact e5 d rfl
  fr := fun i d a h ha => by
    rcases hs i (lt_of_get h) with ⟨e1, e2, e3, e4⟩ | ⟨v', s', a', e1, e2, e3, _, e5, e6⟩
    · exact R.fr i d a (e2.symm.trans h) (e3.symm.trans ha)
    · rw [h] at e2; cases e2
      rw [ha] at e3; cases e3
      exact e6 d a rfl rfl
  gr := fun b e => R.gr b (g.grow b e)
  inj := inj
  nw := nw
  dom := fun b h => by
    obtain ⟨o, e⟩ := R.dom b h
    cases q : H' b with
    | none => rw [g.grow b q] at e; cases e
    | some o' => exact ⟨o', rfl⟩
theorem Rel.same (R : Rel G B as σ H ρ) (s : Same H H') : Rel G B as σ H' ρ :=
  R.step (.of_same s) R.l1 R.l2 (fun j _ => .inl ⟨rfl, rfl, rfl, fun a h => by
    obtain ⟨d, _, _, o⟩ := R.at_a h
    obtain ⟨u, e⟩ := o.there
    rw [e]; exact s _ _ e⟩) R.inj R.nw
theorem Ad.set_none {i : Nat} {b : Addr} (h : Ad (as.set i none) b) : Ad as b := by
  obtain ⟨j, h⟩ := Ad.ix h
  by_cases e : j = i
  · subst e
    by_cases hl : j < as.length
    · rw [List.getElem?_set_self hl] at h; cases h
    · rw [List.set_eq_of_length_le (by omega)] at h; exact Ad.of h
  · rw [List.getElem?_set_ne (Ne.symm e)] at h; exact Ad.of h
theorem get_set {α : Type} {l : List α} {i j : Nat} {x y : α} (h : (l.set i x)[j]? = some y) : (j = i ∧ y = x ∧ i < l.length) ∨ (j ≠ i ∧ l[j]? = some y) := by
  by_cases e : j = i
  · subst e
    by_cases hl : j < l.length
    · rw [List.getElem?_set_self hl] at h; cases h; exact .inl ⟨rfl, rfl, hl⟩
    · rw [List.set_eq_of_length_le (by omega)] at h; exact absurd (lt_of_get h) hl
  · rw [List.getElem?_set_ne (Ne.symm e)] at h; exact .inr ⟨e, h⟩
theorem Ad.set_some {i : Nat} {b p : Addr} (h : Ad (as.set i (some p)) b) : b = p ∨ Ad as b := by
  obtain ⟨j, h⟩ := Ad.ix h
  rcases get_set h with ⟨_, e, _⟩ | ⟨_, e⟩
  · cases e; exact .inl rfl
  · exact .inr (Ad.of e)
/-- a value into a slot -/
theorem Rel.setVal0 (R : Rel G B as σ H ρ) {i : Nat} (hi : i < ρ.length) (r : Rep G (B.W as) H v d) : Rel G B (as.set i none) (σ.set i (some v)) H (ρ.set i (.val d)) := by
  have g : Go (Ad as) H (Ad (as.set i none)) H := .less fun b => Ad.set_none
  refine R.step g (by simp [R.l1]) (by simp [R.l2]) (fun j hj => ?_) (fun m j a h1 h2 => ?_) fun a h => R.nw a (Ad.set_none h)
  · by_cases e : j = i
    · subst e
      refine .inr ⟨some v, .val d, none, ?_, ?_, ?_, .val (r.go g), fun d h => (nomatch h), fun d b h => (nomatch h)⟩
      · rw [List.getElem?_set_self (by rw [R.l1]; exact hi)]
      · rw [List.getElem?_set_self hi]
      · rw [List.getElem?_set_self (by rw [R.l2]; exact hi)]
    · refine .inl ⟨?_, ?_, ?_, fun _ _ => rfl⟩ <;> rw [List.getElem?_set_ne (Ne.symm e)]
  · rcases get_set h1 with ⟨_, e, _⟩ | ⟨_, e1⟩
    · cases e
    · rcases get_set h2 with ⟨_, e, _⟩ | ⟨_, e2⟩
      · cases e
      · exact R.inj m j a e1 e2
/-- a slot is wiped -/
theorem Rel.setUn (R : Rel G B as σ H ρ) {i : Nat} (hi : i < ρ.length) (v : Option V) : Rel G B (as.set i none) (σ.set i v) H (ρ.set i .un) := by
  have g : Go (Ad as) H (Ad (as.set i none)) H := .less fun b => Ad.set_none
  refine R.step g (by simp [R.l1]) (by simp [R.l2]) (fun j hj => ?_) (fun m j a h1 h2 => ?_) fun a h => R.nw a (Ad.set_none h)
  · by_cases e : j = i
    · subst e
      refine .inr ⟨v, .un, none, ?_, ?_, ?_, .un _, fun d h => (nomatch h), fun d b h => (nomatch h)⟩
      · rw [List.getElem?_set_self (by rw [R.l1]; exact hi)]
      · rw [List.getElem?_set_self hi]
      · rw [List.getElem?_set_self (by rw [R.l2]; exact hi)]
    · refine .inl ⟨?_, ?_, ?_, fun _ _ => rfl⟩ <;> rw [List.getElem?_set_ne (Ne.symm e)]
  · rcases get_set h1 with ⟨_, e, _⟩ | ⟨_, e1⟩
    · cases e
    · rcases get_set h2 with ⟨_, e, _⟩ | ⟨_, e2⟩
      · cases e
      · exact R.inj m j a e1 e2
/-- a new object of one's own into a slot: H is the heap ahead of it -/
theorem Rel.setOwn (R : Rel G B as σ H ρ) {i : Nat} (hi : i < ρ.length) {p : Addr} {o : HO} (hp : H p = none) (mu : Mut (some o)) (c : Cont G (B.W as) H o d) :
    Rel G B (as.set i (some p)) (σ.set i (some (.ref p))) (upd H p o) (ρ.set i (.own d)) ∧ Go (Ad as) H (Ad (as.set i (some p))) (upd H p o) := by
  have s : Same H (upd H p o) := fun b u e => by rw [upd_ne (ne_of_none e hp)]; exact e
  have g0 : Go (Ad as) H (Ad (as.set i (some p))) H := ⟨fun _ _ h _ => h, fun b h => (Ad.set_some h).elim (fun e => .inr (by rw [e]; exact hp)) .inl, fun _ h => h⟩
  have g : Go (Ad as) H (Ad (as.set i (some p))) (upd H p o) := g0.trans (.of_same s)
  have np : ¬ B.W as p := R.fresh hp
  refine ⟨R.step g (by simp [R.l1]) (by simp [R.l2]) (fun j hj => ?_) (fun m j a h1 h2 => ?_) fun a h => ?_, g⟩
  · by_cases e : j = i
    · subst e
      refine .inr ⟨some (.ref p), .own d, some p, ?_, ?_, ?_, .own ⟨o, upd_same, mu, c.stp g.stp⟩, fun d h => (nomatch h), fun d b _ h => by cases h; exact R.gr p hp⟩
      · rw [List.getElem?_set_self (by rw [R.l1]; exact hi)]
      · rw [List.getElem?_set_self hi]
      · rw [List.getElem?_set_self (by rw [R.l2]; exact hi)]
    · refine .inl ⟨?_, ?_, ?_, fun a ha => ?_⟩
      · rw [List.getElem?_set_ne (Ne.symm e)]
      · rw [List.getElem?_set_ne (Ne.symm e)]
      · rw [List.getElem?_set_ne (Ne.symm e)]
      · obtain ⟨d', _, _, o'⟩ := R.at_a ha
        obtain ⟨u, eu⟩ := o'.there
        rw [eu]; exact s _ _ eu
  · rcases get_set h1 with ⟨m1, e, _⟩ | ⟨m1, e1⟩
    · cases e
      rcases get_set h2 with ⟨m2, e, _⟩ | ⟨m2, e2⟩
      · rw [m1, m2]
      · exact absurd (.inr (Ad.of e2)) np
    · rcases get_set h2 with ⟨m2, e, _⟩ | ⟨m2, e2⟩
      · cases e
        exact absurd (.inr (Ad.of e1)) np
      · exact R.inj m j a e1 e2
  · rcases Ad.set_some h with rfl | h
    · exact fun z => np (.inl z)
    · exact R.nw a h
/-- an object of one's own is let go of -/
theorem Rel.freeze (R : Rel G B as σ H ρ) {i : Nat} (h : ρ[i]? = some (.own d)) : Rel G B (as.set i none) σ H (ρ.set i (.val d)) ∧ Go (Ad as) H (Ad (as.set i none)) H := by
  have hi := lt_of_get h
  obtain ⟨v, a, h1, h2, h3⟩ := R.at_s h
  cases h3 with
  | @own a _ o =>
  have g : Go (Ad as) H (Ad (as.set i none)) H := .less fun b => Ad.set_none
  have na : ¬ B.W (as.set i none) a := fun z => by
    rcases z with z | z
    · exact R.nw a (Ad.of h2) z
    · obtain ⟨j, z⟩ := Ad.ix z
      rcases get_set z with ⟨_, e, _⟩ | ⟨ne, e⟩
      · cases e
      · exact ne (R.inj j i a e h2)
  refine ⟨R.step g (by simp [R.l1]) (by simp [R.l2]) (fun j hj => ?_) (fun m j a h1 h2 => ?_) fun a h => R.nw a (Ad.set_none h), g⟩
  · by_cases e : j = i
    · subst e
      refine .inr ⟨_, .val d, none, h1, ?_, ?_, .val (o.rep (fun b z => z.imp id Ad.set_none) na), fun d h => (nomatch h), fun d b h => (nomatch h)⟩
      · rw [List.getElem?_set_self hi]
      · rw [List.getElem?_set_self (by rw [R.l2]; exact hi)]
    · refine .inl ⟨rfl, ?_, ?_, fun _ _ => rfl⟩ <;> rw [List.getElem?_set_ne (Ne.symm e)]
  · rcases get_set h1 with ⟨_, e, _⟩ | ⟨_, e1⟩
    · cases e
    · rcases get_set h2 with ⟨_, e, _⟩ | ⟨_, e2⟩
      · cases e
      · exact R.inj m j a e1 e2
/-- the content of one's own object (own or lent) is changed -/
def Sl.put : Sl → D → Sl
  | .own _, d => .own d
  | .bor _, d => .bor d
  | s, _ => s
def Sl.get : Sl → Option D
  | .own d => some d
  | .bor d => some d
  | _ => none
theorem Rel.mut (R : Rel G B as σ H ρ) {i : Nat} {s : Sl} {d' : D} {o : HO} (h : ρ[i]? = some s) (ha : as[i]? = some (some a)) (hm : H' a = some o) (hk : ∀ b, b ≠ a → H' b = H b) (mu : Mut (some o)) (c : Cont G (B.W as) H' o d') :
    Rel G B as σ H' (ρ.set i (s.put d')) ∧ Go (Ad as) H (Ad as) H' := by
  have hi := lt_of_get h
  obtain ⟨v, a', h1, h2, h3⟩ := R.at_s h
  rw [ha] at h2; cases h2
  obtain ⟨d0, rfl, hs, o0⟩ := h3.adr
  obtain ⟨u0, e0⟩ := o0.there
  have g : Go (Ad as) H (Ad as) H' := ⟨fun b u e n => by
      rw [hk b fun z => n (z ▸ Ad.of ha)]; exact e, fun _ h => .inl h, fun b e => by
      by_cases z : b = a
      · subst z; rw [hm] at e; cases e
      · rw [hk b z] at e; exact e⟩
  refine ⟨R.step g (by simp [R.l1]) (by simp [R.l2]) (fun j hj => ?_) R.inj R.nw, g⟩
  by_cases e : j = i
  · subst e
    refine .inr ⟨_, s.put d', some a, h1, ?_, ha, ?_, fun d hd => ?_, fun d b hd hb => ?_⟩
    · rw [List.getElem?_set_self hi]
    · rcases hs with rfl | rfl
      · exact .own ⟨o, hm, mu, c⟩
      · exact .bor ⟨o, hm, mu, c⟩
    · rcases hs with rfl | rfl
      · cases hd
      · rw [← R.pin j d0 h, ha]
    · cases hb
      rcases hs with rfl | rfl
      · exact R.fr j d0 a h ha
      · cases hd
  · refine .inl ⟨rfl, ?_, rfl, fun b hb => hk b fun z => ?_⟩
    · rw [List.getElem?_set_ne (Ne.symm e)]
    · subst z; exact e (R.inj j i _ hb ha)
end
end L3
namespace L3
open PySem PySem.Spec PyProof.Rows L2
/-! ### tuples that are made have no dict of their own: the library's rules, with the object told -/
theorem ConT.sq {K : PySem.W.Frag} {H : Hp} {a : Addr} {vs : List V} (h : ConT K a vs) : SqT K H a vs := let ⟨o, its, n, h1, h2, h3, h4, h5, _⟩ := h; .inr ⟨o, its, n, h1, h2, h3, h4, h5⟩
section
variable {X : Cx} {es : List Expr} {t : TA} {pos : Pos}
def tTupS (t : TA) : TE := fun σ H Q => t σ H fun xs H1 => xs.length ≤ sizeLine ∧ ∀ p (ob : Obj), H1 p = none → ob.dict = none → Q (.ref p) (upd H1 p (.frz ob (.tup xs)))
theorem pe_tupS {x1} (h : PA X es t) : PE X (.Tuple es x1 pos) (tTupS t) := by
  refine ⟨fun pins s σ H Q I hq => ?_⟩
  refine wpAny_Tuple_spliced (thn (h.run pos pins s σ H _ I hq) fun us s1 ⟨xs, H1, I1, r, z, q⟩ => ⟨by rw [← r.length]; exact z, ?_⟩)
  have hf : H1 s1.heap.objs.size = none := I1.hok.fresh (Nat.le_refl _)
  refine ⟨.ref s1.heap.objs.size, upd H1 s1.heap.objs.size (.frz { cls := .type "tuple", data := .seq us.toArray } (.tup xs)), I1.laid (t' := s1.toks) (fun b u e => Heap.get?_push_of_some _ e) (Nat.le_refl _) ?_, rfl, q _ _ hf rfl⟩
  exact ⟨Heap.get?_push_size _ rfl, z, us, r, ⟨_, Heap.get?_push_size _ rfl, rfl, _, rfl⟩⟩
theorem call_tuple_ofS : CallR X (.type "tuple") (fun xs H Q => ∃ p ys, xs = [.ref p] ∧ ((SqL X.K H p ys ∧ ∀ l (ob : Obj), H l = none → ob.dict = none → Q (.ref l) (upd H l (.frz ob (.tup ys)))) ∨ (SqT X.K H p ys ∧ Q (.ref p) H))) := by
  intro pins s σ H xs us Q I r h
  obtain ⟨p, ys, rfl, h⟩ := h
  obtain ⟨u, rfl, rx⟩ := vals1 r
  cases rx
  rcases h with ⟨hq, q⟩ | ⟨hq, q⟩
  · obtain ⟨its, r', pl, hz⟩ := I.list hq
    have hlen := r'.length
    refine call_tuple_list pl.isList (fun h' kp => ?_) (by simp only [List.size_toArray] <;> omega)
    have I1 : Inv X pins σ H { s with heap := h' } := I.kept (t' := s.toks) kp
    have I2 : Inv X pins σ (upd H h'.objs.size (.frz { cls := .type "tuple", data := .seq its.toArray } (.tup ys))) { s with heap := h'.push { cls := .type "tuple", data := .seq its.toArray } } :=
      I1.laid (t' := s.toks) (fun b o e => Heap.get?_push_of_some _ e) (Nat.le_refl _) (show ObjOk X.prog X.w _ _ _ (.frz { cls := .type "tuple", data := .seq its.toArray } (.tup ys)) from ⟨Heap.get?_push_size _ rfl, hz, its, r', IsTup.new _ _⟩)
    exact ⟨.ref h'.objs.size, _, I2, rfl, q _ _ (I1.hok.fresh (Nat.le_refl _)) rfl⟩
  · obtain ⟨its, r', pl, hz⟩ := I.tuple hq
    exact call_tuple_same pl ⟨.ref p, H, I, rfl, q⟩
def rCatS (K : PySem.W.Frag) : R2 := fun x y H Q => ∃ a b xs ys, x = .ref a ∧ y = .ref b ∧ SqT K H a xs ∧ SqT K H b ys ∧ xs.length + ys.length ≤ sizeLine ∧
  (xs = [] → Q (.ref b) H) ∧ (xs ≠ [] → ys = [] → Q (.ref a) H) ∧ (xs ≠ [] → ys ≠ [] → ∀ p (ob : Obj), H p = none → ob.dict = none → Q (.ref p) (upd H p (.frz ob (.tup (xs ++ ys)))))
theorem op_catS : OpR X (binaryOp .Add) (rCatS X.K) := by
  intro pins s σ H x y v u Q I rx ry h
  obtain ⟨a, b, xs, ys, rfl, rfl, ha, hb, hz, q0, q1, q2⟩ := h
  cases rx
  cases ry
  obtain ⟨its, r1, p1, _⟩ := I.tuple ha
  obtain ⟨its2, r2, p2, _⟩ := I.tuple hb
  by_cases hx : xs = []
  · subst hx
    cases r1
    exact cat_tup0 p1 p2 ⟨.ref b, H, I, rfl, q0 rfl⟩
  · refine HT.cat_tup p1 p2 (fun z => hx (r1.nil_iff.mp z)) (fun z => ⟨.ref a, H, I, rfl, q1 hx (r2.nil_iff.mp z)⟩) (fun z => ?_) (by rw [← r1.length, ← r2.length]; exact hz)
    refine ⟨.ref s.heap.objs.size, _, I.laid (t' := s.toks) (o := .frz { cls := .type "tuple", data := .seq (its ++ its2).toArray } (.tup (xs ++ ys))) (fun b ob q => Heap.get?_push_of_some _ q) (Nat.le_refl _) ?_, rfl, q2 hx (fun w => z (r2.nil_iff.mpr w)) _ _ (I.hok.fresh (Nat.le_refl _)) rfl⟩
    exact ⟨Heap.get?_push_size _ rfl, by rw [List.length_append]; exact hz, _, r1.append r2, IsTup.new _ _⟩
def rSlS (K : PySem.W.Frag) : V → Option Int → Option Int → Hp → VK → Prop := fun x lo hi H Q => ∃ a xs, x = .ref a ∧ SqT K H a xs ∧
  (HT.sIx xs.length 0 lo = 0 ∧ HT.sIx xs.length xs.length hi = xs.length → Q (.ref a) H) ∧ (¬ (HT.sIx xs.length 0 lo = 0 ∧ HT.sIx xs.length xs.length hi = xs.length) → ∀ p (ob : Obj), H p = none → ob.dict = none → Q (.ref p) (upd H p (.frz ob (.tup (cutV xs lo hi)))))
theorem sl_tupS : SlR X (rSlS X.K) := by
  intro pins s σ H x v vl vu lo hi sl Q I rx hs pl pu h
  obtain ⟨a, xs, rfl, hx, q1, q2⟩ := h
  cases rx
  obtain ⟨its, r, ht, hz⟩ := I.tuple hx
  have hlen : its.toArray.size = xs.length := by rw [List.size_toArray]; exact r.length.symm
  by_cases hw : HT.sIx xs.length 0 lo = 0 ∧ HT.sIx xs.length xs.length hi = xs.length
  · refine ⟨"tuple", _, PyProof.Rows.slot_tuple_getitem.lookup, ht.typeIs, ?_⟩
    exact getItem_tuple_whole ht hs pl pu (by rw [hlen]; exact hw) ⟨.ref a, H, I, rfl, q1 hw⟩
  · refine ⟨"tuple", _, PyProof.Rows.slot_tuple_getitem.lookup, ht.typeIs, ?_⟩
    refine HT.getItem_tuple_cut ht hs pl pu (by rw [hlen]; exact hw) ?_ (by rw [hlen]; exact hz)
    rw [hlen]
    refine ⟨.ref s.heap.objs.size, _, I.laid (t' := s.toks) (o := .frz { cls := .type "tuple", data := .seq ((its.drop (HT.sIx xs.length 0 lo)).take (HT.sIx xs.length xs.length hi - HT.sIx xs.length 0 lo)).toArray } (.tup (cutV xs lo hi))) (fun b ob q => Heap.get?_push_of_some _ q) (Nat.le_refl _) ?_, rfl, q2 hw _ _ (I.hok.fresh (Nat.le_refl _)) rfl⟩
    exact ⟨Heap.get?_push_size _ rfl, Nat.le_trans (cutV_length xs lo hi) hz, _, (r.drop (HT.sIx xs.length 0 lo)).take (HT.sIx xs.length xs.length hi - HT.sIx xs.length 0 lo), IsTup.new _ _⟩
end
end L3
namespace L3
open PySem PySem.Spec PyProof.Rows L2

/-- an exception: its class by its name, its fields -/
structure Ex where
  c : Str
  fs : List (Str × D)
inductive Out (α : Type) where
  | ok (a : α) (ρ : En) | exc (e : Ex) (ρ : En) | bad
def Out.bind {α β : Type} (x : Out α) (k : α → En → Out β) : Out β := match x with
  | .ok a ρ => k a ρ
  | .exc e ρ => .exc e ρ
  | .bad => .bad
/-- an expression's result: data, or what stands in a slot as one's own -/
inductive Pv where
  | v (d : D) | b (i : Nat)
def Sl.dat : Sl → Option D
  | .own d => some d
  | .bor d => some d
  | _ => none
def pvD (ρ : En) : Pv → Option D
  | .v d => some d
  | .b i => (ρ[i]?).bind Sl.dat
def ofO (o : Option D) (ρ : En) : Out Pv := match o with
  | some d => .ok (.v d) ρ
  | none => .bad
def ofB (o : Option Bool) (ρ : En) : Out Bool := match o with
  | some d => .ok d ρ
  | none => .bad

abbrev Bs.and (B : Bs) (a : Addr) : Bs := { B with W0 := fun b => B.W0 b ∨ b = a }

/-- an exception as it lies -/
def RepX (G : Pm) (W : Addr → Prop) (H : Hp) (cls : Value) (dx : Option Addr) (e : Ex) : Prop :=
  (G.mg e.c = some cls ∨ (G.mg e.c = none ∧ bootBuiltins e.c = some cls)) ∧
    ((dx = none ∧ e.fs = []) ∨ ∃ d vfs, dx = some d ∧ H d = some (.xd vfs) ∧ vfs.map (·.1) = e.fs.map (·.1) ∧ Reps G W H (vfs.map (·.2)) (e.fs.map (·.2)))

inductive PvOk (G : Pm) (W : Addr → Prop) (as : List (Option Addr)) (H : Hp) : V → Pv → Prop where
  | v {v : V} {d : D} (h : Rep G W H v d) : PvOk G W as H v (.v d)
  | b {a : Addr} {i : Nat} (h : as[i]? = some (some a)) : PvOk G W as H (.ref a) (.b i)
inductive PvsOk (G : Pm) (W : Addr → Prop) (as : List (Option Addr)) (H : Hp) : List V → List Pv → Prop where
  | nil : PvsOk G W as H [] []
  | cons {v : V} {p : Pv} {vs : List V} {ps : List Pv} (h : PvOk G W as H v p) (t : PvsOk G W as H vs ps) : PvsOk G W as H (v :: vs) (p :: ps)

abbrev WXZ := Value → Option Addr → L2.St → Hp → Prop

section
variable {X : Cx} {Z : WXZ} {B : Bs} {as as' : List (Option Addr)} {σ σ' : L2.St} {H H' H1 : Hp} {ρ ρ' : En} {α β : Type}

/-- an outcome is met -/
def EO (X : Cx) (Z : WXZ) (B : Bs) (as : List (Option Addr)) (σ : L2.St) (H : Hp) (K : α → En → Hp → Prop) : Out α → Prop
  | .ok a ρ' => ∀ H', Rel X.G B as σ H' ρ' → Go (Ad as) H (Ad as) H' → K a ρ' H'
  | .exc e ρ' => ∀ cls dx H', Rel X.G B as σ H' ρ' → Go (Ad as) H (Ad as) H' → RepX X.G (B.W as) H' cls dx e → Z cls dx σ H'
  | .bad => False
theorem EO.imp {K K' : α → En → Hp → Prop} {o : Out α} (h : EO X Z B as σ H K o) (f : ∀ a ρ' H', Rel X.G B as σ H' ρ' → Go (Ad as) H (Ad as) H' → K a ρ' H' → K' a ρ' H') : EO X Z B as σ H K' o := by
  cases o with
  | ok a ρ' => exact fun H' R g => f a ρ' H' R g (h H' R g)
  | exc e ρ' => exact h
  | bad => exact h
theorem EO.after {K : α → En → Hp → Prop} {o : Out α} (h : EO X Z B as σ H K o) (g : Go (Ad as) H (Ad as) H1) : EO X Z B as σ H1 K o := by
  cases o with
  | ok a ρ' => exact fun H' R g' => h H' R (g.trans g')
  | exc e ρ' => exact fun cls dx H' R g' x => h cls dx H' R (g.trans g') x
  | bad => exact h
theorem EO.bind {K : β → En → Hp → Prop} {o : Out α} {k : α → En → Out β} (h : EO X Z B as σ H K (o.bind k)) : EO X Z B as σ H (fun a ρ1 H1 => EO X Z B as σ H1 K (k a ρ1)) o := by
  cases o with
  | ok a ρ' => exact fun H' R g => EO.after h g
  | exc e ρ' => exact h
  | bad => exact h

theorem PvOk.go {v : V} {p : Pv} (h : PvOk X.G (B.W as) as H v p) (g : Go (Ad as) H (Ad as) H') : PvOk X.G (B.W as) as H' v p := by
  cases h with
  | v h => exact .v (h.go g)
  | b h => exact .b h
theorem PvsOk.go : ∀ {vs : List V} {ps : List Pv} (h : PvsOk X.G (B.W as) as H vs ps) (g : Go (Ad as) H (Ad as) H'), PvsOk X.G (B.W as) as H' vs ps
  | _, _, .nil, _ => .nil
  | _, _, .cons h t, g => .cons (h.go g) (PvsOk.go t g)
theorem PvOk.peek {v : V} {p : Pv} {d : D} (R : Rel X.G B as σ H ρ) (h : PvOk X.G (B.W as) as H v p) (e : pvD ρ p = some d) : RepP X.G (B.W as) H v d := by
  cases h with
  | v h => cases e; exact .rep h
  | @b a i h =>
    obtain ⟨d', h1, h2, h3⟩ := R.at_a h
    have : d' = d := by
      rcases h2 with h2 | h2
      · simpa [pvD, h2, Sl.dat] using e
      · simpa [pvD, h2, Sl.dat] using e
    subst this
    exact .own h3

/-! ### the judgements -/
structure DEt (X : Cx) (Z : WXZ) (t : TE) (f : En → Out Pv) : Prop where
  go : ∀ {B : Bs} {as : List (Option Addr)} {σ : L2.St} {H : Hp} {ρ : En} {Q : VK}, Rel X.G B as σ H ρ → EO X Z B as σ H (fun p _ H' => ∀ v, PvOk X.G (B.W as) as H' v p → Q v H') (f ρ) → t σ H Q
def DE (X : Cx) (Z : WXZ) (e : Expr) (f : En → Out Pv) : Prop := ∃ t, PE X e t ∧ DEt X Z t f
structure DTt (X : Cx) (Z : WXZ) (t : TT) (f : En → Out Bool) : Prop where
  go : ∀ {B : Bs} {as : List (Option Addr)} {σ : L2.St} {H : Hp} {ρ : En} {Q : Bool → Hp → Prop}, Rel X.G B as σ H ρ → EO X Z B as σ H (fun b _ H' => Q b H') (f ρ) → t σ H Q
def DT (X : Cx) (Z : WXZ) (e : Expr) (f : En → Out Bool) : Prop := ∃ t, PT X e t ∧ DTt X Z t f
def DW (X : Cx) (Z : WXZ) (e : Expr) (f : En → Out Bool) : Prop := ∃ t, PW X e t ∧ DTt X Z t f
structure DAt (X : Cx) (Z : WXZ) (t : TA) (f : En → Out (List Pv)) : Prop where
  go : ∀ {B : Bs} {as : List (Option Addr)} {σ : L2.St} {H : Hp} {ρ : En} {Q : List V → Hp → Prop}, Rel X.G B as σ H ρ → EO X Z B as σ H (fun ps _ H' => ∀ vs, PvsOk X.G (B.W as) as H' vs ps → Q vs H') (f ρ) → t σ H Q
def DA (X : Cx) (Z : WXZ) (es : List Expr) (f : En → Out (List Pv)) : Prop := ∃ t, PA X es t ∧ DAt X Z t f
/-- an expression that makes a new list (dict ..), for a slot of its own -/
structure DNt (X : Cx) (Z : WXZ) (t : TE) (f : En → Out D) : Prop where
  go : ∀ {B : Bs} {as : List (Option Addr)} {σ : L2.St} {H : Hp} {ρ : En} {Q : VK}, Rel X.G B as σ H ρ →
    EO X Z B as σ H (fun d ρ' H' => ∀ a H2, Rel X.G (B.and a) as σ H2 ρ' → Go (Ad as) H' (Ad as) H2 → H a = none → Own X.G ((B.and a).W as) H2 a d → Q (.ref a) H2) (f ρ) → t σ H Q
def DN (X : Cx) (Z : WXZ) (e : Expr) (f : En → Out D) : Prop := ∃ t, PE X e t ∧ DNt X Z t f

inductive Fl where
  | nx | bk | ct | rt (d : D) | rn (d : D)
def SO (X : Cx) (Z : WXZ) (B : Bs) (as : List (Option Addr)) (H : Hp) (D' : Ends) : Out Fl → Prop
  | .ok .nx ρ' => ∀ as' σ' H', Rel X.G B as' σ' H' ρ' → Go (Ad as) H (Ad as') H' → D'.nx σ' H'
  | .ok .bk ρ' => ∀ as' σ' H', Rel X.G B as' σ' H' ρ' → Go (Ad as) H (Ad as') H' → D'.bk σ' H'
  | .ok .ct ρ' => ∀ as' σ' H', Rel X.G B as' σ' H' ρ' → Go (Ad as) H (Ad as') H' → D'.ct σ' H'
  | .ok (.rt d) ρ' => ∀ v as' σ' H', Rel X.G B as' σ' H' ρ' → Go (Ad as) H (Ad as') H' → Rep X.G (B.W as') H' v d → D'.rt v H'
  | .ok (.rn d) ρ' => ∀ a as' σ' H', Rel X.G (B.and a) as' σ' H' ρ' → Go (Ad as) H (Ad as') H' → B.He a = none → Own X.G ((B.and a).W as') H' a d → D'.rt (.ref a) H'
  | .exc e ρ' => ∀ cls dx as' σ' H', Rel X.G B as' σ' H' ρ' → Go (Ad as) H (Ad as') H' → RepX X.G (B.W as') H' cls dx e → Z cls dx σ' H'
  | .bad => False
structure DSt (X : Cx) (Z : WXZ) (t : TS) (g : En → Out Fl) : Prop where
  go : ∀ {B : Bs} {as : List (Option Addr)} {σ : L2.St} {H : Hp} {ρ : En} {D' : Ends}, Rel X.G B as σ H ρ → SO X Z B as H D' (g ρ) → t D' σ H
def DS (X : Cx) (Z : WXZ) (st : Stmt) (g : En → Out Fl) : Prop := ∃ t, PS X st t ∧ DSt X Z t g
def DSs (X : Cx) (Z : WXZ) (st : List Stmt) (g : En → Out Fl) : Prop := ∃ t, PSs X st t ∧ DSt X Z t g
theorem SO.after {D' : Ends} {o : Out Fl} (h : SO X Z B as H D' o) (g : Go (Ad as) H (Ad as') H1) : SO X Z B as' H1 D' o := by
  cases o with
  | ok a ρ' => cases a with
    | nx => exact fun _ _ _ R g' => h _ _ _ R (g.trans g')
    | bk => exact fun _ _ _ R g' => h _ _ _ R (g.trans g')
    | ct => exact fun _ _ _ R g' => h _ _ _ R (g.trans g')
    | rt d => exact fun _ _ _ _ R g' r => h _ _ _ _ R (g.trans g') r
    | rn d => exact fun _ _ _ _ R g' n r => h _ _ _ _ R (g.trans g') n r
  | exc e ρ' => exact fun _ _ _ _ _ R g' x => h _ _ _ _ _ R (g.trans g') x
  | bad => exact h
/-- an expression, then what is made of it -/
theorem SO.bind {D' : Ends} {o : Out α} {k : α → En → Out Fl} (R0 : Rel X.G B as σ H ρ) (h : SO X Z B as H D' (o.bind k)) : EO X Z B as σ H (fun a ρ1 H1 => SO X Z B as H1 D' (k a ρ1)) o := by
  cases o with
  | ok a ρ' => exact fun H' R g => SO.after h g
  | exc e ρ' => exact fun cls dx H' R g x => h cls dx as σ H' R g x
  | bad => exact h

theorem Rel.less {a : Addr} (R : Rel X.G (B.and a) as σ H ρ) : Rel X.G B as σ H ρ where
  l1 := R.l1
  l2 := R.l2
  sl := fun i v s b h1 h2 h3 => by
    have st : Stp ((B.and a).W as) H (B.W as) H := .less fun b z => .inl (z.imp .inl id)
    cases R.sl i v s b h1 h2 h3 with
    | un => exact .un _
    | val h => exact .val (h.stp st)
    | own h => exact .own (h.stp st rfl)
    | bor h => exact .bor (h.stp st rfl)
  pin := R.pin
  fr := R.fr
  inj := R.inj
  nw := fun b h z => R.nw b h (.inl z)
  dom := fun b z => R.dom b (.inl z)
  gr := R.gr
/-- a new object that nobody refers to -/
theorem Rel.more {a : Addr} {o : HO} (R : Rel X.G B as σ H ρ) (h : H a = none) : Rel X.G (B.and a) as σ (upd H a o) ρ ∧ Go (Ad as) H (Ad as) (upd H a o) := by
  have s : Same H (upd H a o) := fun b u e => by rw [upd_ne (ne_of_none e h)]; exact e
  have R' := R.same s
  refine ⟨⟨R.l1, R.l2, fun i v sl b h1 h2 h3 => ?_, R.pin, R.fr, R.inj, fun b hb z => ?_, fun b z => ?_, R'.gr⟩, .of_same s⟩
  · have st : Stp (B.W as) H ((B.and a).W as) (upd H a o) := fun b u e n => ⟨s b u e, fun z => by
      rcases z with (z | z) | z
      · exact n (.inl z)
      · subst z; rw [h] at e; cases e
      · exact n (.inr z)⟩
    cases R.sl i v sl b h1 h2 h3 with
    | un => exact .un _
    | val x => exact .val (x.stp st)
    | own x =>
      obtain ⟨u, e⟩ := x.there
      exact .own (x.stp st (by rw [e]; exact s _ _ e))
    | bor x =>
      obtain ⟨u, e⟩ := x.there
      exact .bor (x.stp st (by rw [e]; exact s _ _ e))
  · rcases z with z | z
    · exact R.nw b hb z
    · subst z; exact R.fresh h (.inr hb)
  · rcases z with z | z
    · exact R'.dom b z
    · subst z; exact ⟨o, upd_same⟩
theorem Cont.more {a : Addr} {o : HO} {o' : HO} {d : D} (h : H a = none) (c : Cont X.G (B.W as) H o d) : Cont X.G ((B.and a).W as) (upd H a o') o d :=
  c.stp fun b u e n => ⟨by rw [upd_ne (ne_of_none e h)]; exact e, fun z => by
    rcases z with (z | z) | z
    · exact n (.inl z)
    · subst z; rw [h] at e; cases e
    · exact n (.inr z)⟩
/-- what is new is a value, too -/
theorem DNt.val {t : TE} {f : En → Out D} (h : DNt X Z t f) : DEt X Z t (fun ρ => (f ρ).bind fun d ρ1 => .ok (.v d) ρ1) := by
  refine ⟨fun {B as σ H ρ Q} R q => h.go R (q.bind.imp fun d ρ1 H1 R1 g1 q1 a H2 R2 g2 n o => ?_)⟩
  refine q1 H2 R2.less g2 _ (.v ?_)
  exact o.rep (fun b z => z.imp .inl id) fun z => by
    rcases z with z | z
    · obtain ⟨u, e⟩ := R.dom a z
      rw [n] at e; cases e
    · exact R2.nw a z (.inr rfl)
def vN (f : En → Out D) : En → Out Pv := fun ρ => (f ρ).bind fun d ρ1 => .ok (.v d) ρ1
theorem DN.val {e : Expr} {f : En → Out D} (h : DN X Z e f) : DE X Z e (vN f) := let ⟨t, p, s⟩ := h; ⟨t, p, s.val⟩

/-! ### names, constants, operators -/
def cVar (i : Nat) : En → Out Pv := fun ρ => match ρ[i]? with
  | some (.val d) => .ok (.v d) ρ
  | some (.own _) => .ok (.b i) ρ
  | some (.bor _) => .ok (.b i) ρ
  | _ => .bad
theorem det_var (i : Nat) : DEt X Z (tVar i) (cVar i) := by
  refine ⟨fun {B as σ H ρ Q} R q => ?_⟩
  unfold cVar at q
  cases e : ρ[i]? with
  | none => rw [e] at q; exact q.elim
  | some s =>
    rw [e] at q
    obtain ⟨v, a, h1, h2, h3⟩ := R.at_s e
    cases h3 with
    | un => exact q.elim
    | val h => exact ⟨_, h1, q H R .refl _ (.v h)⟩
    | own h => exact ⟨_, h1, q H R .refl _ (.b h2)⟩
    | bor h => exact ⟨_, h1, q H R .refl _ (.b h2)⟩
theorem dv (i : Nat) {x : Str} {pos : Pos} (hN : X.N[i]? = some x := by rfl) (hv : Vis X.env.scope x := by first | exact Or.inl rfl | exact Or.inr (Or.inl rfl) | exact Or.inr (Or.inr rfl)) (hd : (x == ("__debug__" : Str)) = false := by decide)
    (hcd : (x == ("__classdict__" : Str)) = false := by decide) : DE X Z (.Name x pos) (cVar i) := ⟨_, pe_var hN hv hd hcd, det_var i⟩
def cK (d : D) : En → Out Pv := fun ρ => .ok (.v d) ρ
theorem det_c {v : V} {d : D} (h : ∀ W H, Rep X.G W H v d) : DEt X Z (tC v) (cK d) := ⟨fun {B as σ H ρ Q} R q => q H R .refl _ (.v (h _ _))⟩
theorem d_int {i : Int} {j pos} : DE X Z (.Constant (.int i) j pos) (cK (.int i)) := ⟨_, pe_int, det_c fun _ _ => .int i⟩
theorem d_bl {b : Bool} {j pos} : DE X Z (.Constant (.bool b) j pos) (cK (.bl b)) := ⟨_, pe_bl, det_c fun _ _ => .bl b⟩
theorem d_non {j pos} : DE X Z (.Constant .none j pos) (cK .non) := ⟨_, pe_non, det_c fun _ _ => .non⟩
theorem d_str {x : Str} {j pos} : DE X Z (.Constant (.str x) j pos) (cK (.str x)) := ⟨_, pe_str, det_c fun _ _ => .str x⟩

/-- an operation of one, two values: by data; nothing is changed -/
def Op1 (X : Cx) (r : V → Hp → VK → Prop) (g : D → Option D) : Prop := ∀ {W : Addr → Prop} {H : Hp} {x : V} {a d : D} {Q : VK}, (∀ b, W b → ∃ o, H b = some o) → RepP X.G W H x a → g a = some d → (∀ v H', Same H H' → Rep X.G W H' v d → Q v H') → r x H Q
def Op2 (X : Cx) (r : R2) (g : D → D → Option D) : Prop := ∀ {W : Addr → Prop} {H : Hp} {x y : V} {a b d : D} {Q : VK}, (∀ b, W b → ∃ o, H b = some o) → RepP X.G W H x a → RepP X.G W H y b → g a b = some d → (∀ v H', Same H H' → Rep X.G W H' v d → Q v H') → r x y H Q
def c1 (g : D → Option D) (fa : En → Out Pv) : En → Out Pv := fun ρ => (fa ρ).bind fun p ρ1 => ofO ((pvD ρ1 p).bind g) ρ1
def c2 (g : D → D → Option D) (fa fb : En → Out Pv) : En → Out Pv := fun ρ => (fa ρ).bind fun p ρ1 => (fb ρ1).bind fun q ρ2 => ofO ((pvD ρ2 p).bind fun a => (pvD ρ2 q).bind fun b => g a b) ρ2
theorem EO.ofO {o : Option D} {Q : VK} (h : EO X Z B as σ H (fun p _ H' => ∀ v, PvOk X.G (B.W as) as H' v p → Q v H') (L3.ofO o ρ)) (R : Rel X.G B as σ H ρ) : ∃ d, o = some d ∧ ∀ v H', Same H H' → Rep X.G (B.W as) H' v d → Q v H' := by
  cases o with
  | none => exact h.elim
  | some d => exact ⟨d, rfl, fun v H' s r => h H' (R.same s) (.of_same s) v (.v r)⟩
theorem det_1 {r : V → Hp → VK → Prop} {g : D → Option D} {ta : TE} {fa : En → Out Pv} (hr : Op1 X r g) (ha : DEt X Z ta fa) : DEt X Z (tUn r ta) (c1 g fa) := by
  refine ⟨fun {B as σ H ρ Q} R q => ha.go R (q.bind.imp fun p ρ1 H1 R1 g1 q1 v k1 => ?_)⟩
  obtain ⟨d, e, q⟩ := q1.ofO R1
  cases ep : pvD ρ1 p with
  | none => rw [ep] at e; cases e
  | some a =>
    rw [ep] at e
    exact hr R1.domA (k1.peek R1 ep) e q
theorem det_2 {r : R2} {g : D → D → Option D} {ta tb : TE} {fa fb : En → Out Pv} (hr : Op2 X r g) (ha : DEt X Z ta fa) (hb : DEt X Z tb fb) : DEt X Z (tOp r ta tb) (c2 g fa fb) := by
  refine ⟨fun {B as σ H ρ Q} R q => ha.go R (q.bind.imp fun p ρ1 H1 R1 g1 q1 v k1 => ?_)⟩
  refine hb.go R1 (q1.bind.imp fun p' ρ2 H2 R2 g2 q2 u k2 => ?_)
  obtain ⟨d, e, q⟩ := q2.ofO R2
  cases ep : pvD ρ2 p with
  | none => rw [ep] at e; cases e
  | some a =>
    rw [ep] at e
    cases eq : pvD ρ2 p' with
    | none => rw [eq] at e; cases e
    | some b =>
      rw [eq] at e
      exact hr R2.domA ((k1.go g2).peek R2 ep) (k2.peek R2 eq) e q
theorem d_op {op : Operator} {r : R2} {g : D → D → Option D} {a b : Expr} {pos : Pos} {fa fb : En → Out Pv} (ho : OpR X (binaryOp op) r) (hr : Op2 X r g) (ha : DE X Z a fa) (hb : DE X Z b fb) : DE X Z (.BinOp a op b pos) (c2 g fa fb) :=
  let ⟨_, pa, sa⟩ := ha; let ⟨_, pb, sb⟩ := hb; ⟨_, pe_op ho pa pb, det_2 hr sa sb⟩
theorem d_cmp {op : CmpOp} {r : R2} {g : D → D → Option D} {a b : Expr} {pos : Pos} {fa fb : En → Out Pv} (ho : OpR X (compareOp op) r) (hr : Op2 X r g) (ha : DE X Z a fa) (hb : DE X Z b fb) (hm : behindInMarks op b = false) : DE X Z (.Compare a [op] [b] pos) (c2 g fa fb) :=
  let ⟨_, pa, sa⟩ := ha; let ⟨_, pb, sb⟩ := hb; ⟨_, pe_cmpR ho pa pb hm, det_2 hr sa sb⟩
theorem d_un {op : UnaryOp} {r : V → Hp → VK → Prop} {g : D → Option D} {a : Expr} {pos : Pos} {fa : En → Out Pv} (ho : UnR X (unaryOp op) r) (hr : Op1 X r g) (ha : DE X Z a fa) : DE X Z (.UnaryOp op a pos) (c1 g fa) :=
  let ⟨_, pa, sa⟩ := ha; ⟨_, pe_un ho pa, det_1 hr sa⟩
/-- a bool result -/
def cB (f : En → Out Pv) : En → Out Bool := fun ρ => (f ρ).bind fun p ρ1 => match p with
  | .v (.bl b) => .ok b ρ1
  | _ => .bad
theorem dtt_B {t : TE} {f : En → Out Pv} (h : DEt X Z t f) : DTt X Z (tTest t) (cB f) := by
  refine ⟨fun {B as σ H ρ Q} R q => h.go R (q.bind.imp fun p ρ1 H1 R1 g1 q1 v k1 => ?_)⟩
  cases k1 with
  | @v v d k =>
    cases d with
    | bl b =>
      cases k with
      | bl => exact ⟨b, rfl, q1 H1 R1 .refl⟩
      | ref _ _ c => cases c
    | _ => exact q1.elim
  | b => exact q1.elim
theorem t_cmp {op : CmpOp} {r : R2} {g : D → D → Option D} {a b : Expr} {pos : Pos} {fa fb : En → Out Pv} (ho : OpR X (compareOp op) r) (hr : Op2 X r g) (ha : DE X Z a fa) (hb : DE X Z b fb) (hm : behindInMarks op b = false) : DT X Z (.Compare a [op] [b] pos) (cB (c2 g fa fb)) :=
  let ⟨_, pa, sa⟩ := ha; let ⟨_, pb, sb⟩ := hb; ⟨_, pt_cmpR ho pa pb hm, dtt_B (det_2 hr sa sb)⟩
theorem t_val {e : Expr} {f : En → Out Pv} (h : DE X Z e f) (he : ∀ whole, isTrue e X.env whole = (do let v ← whole; standAt e.pos; holding [v] (truthy v)) := by intro _; rfl) : DT X Z e (cB f) :=
  let ⟨_, p, s⟩ := h; ⟨_, pt_val p he, dtt_B s⟩
/-! and, or, not, if -/
def cNot (f : En → Out Bool) : En → Out Bool := fun ρ => (f ρ).bind fun b ρ1 => .ok (!b) ρ1
def cAnd (f g : En → Out Bool) : En → Out Bool := fun ρ => (f ρ).bind fun b ρ1 => if b = true then g ρ1 else .ok false ρ1
def cOr (f g : En → Out Bool) : En → Out Bool := fun ρ => (f ρ).bind fun b ρ1 => if b = true then .ok true ρ1 else g ρ1
theorem t_not {a : Expr} {pos : Pos} {f : En → Out Bool} (h : DT X Z a f) : DT X Z (.UnaryOp .Not a pos) (cNot f) :=
  let ⟨_, p, s⟩ := h; ⟨_, pt_not p, ⟨fun {B as σ H ρ Q} R q => s.go R (q.bind.imp fun b ρ1 H1 R1 g1 q1 => q1 H1 R1 .refl)⟩⟩
theorem w_and1 {a : Expr} {pos : Pos} {f : En → Out Bool} (h : DT X Z a f) : DW X Z (.BoolOp .And [a] pos) f := let ⟨_, p, s⟩ := h; ⟨_, pw_and1 p, s⟩
theorem w_or1 {a : Expr} {pos : Pos} {f : En → Out Bool} (h : DT X Z a f) : DW X Z (.BoolOp .Or [a] pos) f := let ⟨_, p, s⟩ := h; ⟨_, pw_or1 p, s⟩
theorem w_and {a b : Expr} {rest : List Expr} {pos : Pos} {f g : En → Out Bool} (h : DT X Z a f) (h2 : DW X Z (.BoolOp .And (b :: rest) pos) g) : DW X Z (.BoolOp .And (a :: b :: rest) pos) (cAnd f g) :=
  let ⟨_, p, s⟩ := h; let ⟨_, p2, s2⟩ := h2; ⟨_, pw_and p p2, ⟨fun {B as σ H ρ Q} R q => s.go R (q.bind.imp fun b ρ1 H1 R1 g1 q1 => by
    cases b with
    | true => exact iteT (s2.go R1 q1)
    | false => exact iteF (q1 H1 R1 .refl))⟩⟩
theorem w_or {a b : Expr} {rest : List Expr} {pos : Pos} {f g : En → Out Bool} (h : DT X Z a f) (h2 : DW X Z (.BoolOp .Or (b :: rest) pos) g) : DW X Z (.BoolOp .Or (a :: b :: rest) pos) (cOr f g) :=
  let ⟨_, p, s⟩ := h; let ⟨_, p2, s2⟩ := h2; ⟨_, pw_or p p2, ⟨fun {B as σ H ρ Q} R q => s.go R (q.bind.imp fun b ρ1 H1 R1 g1 q1 => by
    cases b with
    | true => exact iteT (q1 H1 R1 .refl)
    | false => exact iteF (s2.go R1 q1))⟩⟩
theorem t_w {e : Expr} {f : En → Out Bool} (h : DW X Z e f) : DT X Z e f := let ⟨_, p, s⟩ := h; ⟨_, p.pt, s⟩
/-- as values -/
def cBv (f : En → Out Bool) : En → Out Pv := fun ρ => (f ρ).bind fun b ρ1 => .ok (.v (.bl b)) ρ1
def cIte (c : En → Out Bool) (f g : En → Out Pv) : En → Out Pv := fun ρ => (c ρ).bind fun b ρ1 => if b = true then f ρ1 else g ρ1
theorem d_if {c a b : Expr} {pos : Pos} {fc : En → Out Bool} {fa fb : En → Out Pv} (hc : DT X Z c fc) (ha : DE X Z a fa) (hb : DE X Z b fb) : DE X Z (.IfExp c a b pos) (cIte fc fa fb) :=
  let ⟨_, pc, sc⟩ := hc; let ⟨_, pa, sa⟩ := ha; let ⟨_, pb, sb⟩ := hb
  ⟨_, pe_ifExp pc pa pb, ⟨fun {B as σ H ρ Q} R q => sc.go R (q.bind.imp fun b ρ1 H1 R1 g1 q1 => by
    cases b with
    | true => exact iteT (sa.go R1 q1)
    | false => exact iteF (sb.go R1 q1))⟩⟩
/-- a and b, a or b, not a, as values (bools) -/
def cAndV (f g : En → Out Pv) : En → Out Pv := fun ρ => (cB f ρ).bind fun b ρ1 => if b = true then g ρ1 else .ok (.v (.bl false)) ρ1
def cOrV (f g : En → Out Pv) : En → Out Pv := fun ρ => (cB f ρ).bind fun b ρ1 => if b = true then .ok (.v (.bl true)) ρ1 else g ρ1
def cNotV (f : En → Out Pv) : En → Out Pv := fun ρ => (cB f ρ).bind fun b ρ1 => .ok (.v (.bl (!b))) ρ1
theorem d_one {op : BoolOp} {a : Expr} {pos : Pos} {f : En → Out Pv} (h : DE X Z a f) : DE X Z (.BoolOp op [a] pos) f := let ⟨_, p, s⟩ := h; ⟨_, pe_one p, s⟩
theorem det_B {t : TE} {f : En → Out Pv} (h : DEt X Z t f) {Q : VK} {K : Bool → En → Hp → Prop} (R : Rel X.G B as σ H ρ) (q : EO X Z B as σ H K (cB f ρ)) (hq : ∀ b ρ1 H1, Rel X.G B as σ H1 ρ1 → K b ρ1 H1 → Q (.bl b) H1) : t σ H Q := by
  refine h.go R (q.bind.imp fun p ρ1 H1 R1 g1 q1 v k1 => ?_)
  cases k1 with
  | @v v d k =>
    cases d with
    | bl b =>
      cases k with
      | bl => exact hq b ρ1 H1 R1 (q1 H1 R1 .refl)
      | ref _ _ c => cases c
    | _ => exact q1.elim
  | b => exact q1.elim
theorem d_and {a b : Expr} {rest : List Expr} {pos : Pos} {f g : En → Out Pv} (h : DE X Z a f) (h2 : DE X Z (.BoolOp .And (b :: rest) pos) g) : DE X Z (.BoolOp .And (a :: b :: rest) pos) (cAndV f g) :=
  let ⟨_, p, s⟩ := h; let ⟨_, p2, s2⟩ := h2; ⟨_, pe_and p p2, ⟨fun {B as σ H ρ Q} R q => det_B s R q.bind fun b ρ1 H1 R1 q1 => ⟨b, rfl, by
    cases b with
    | true => exact iteT (s2.go R1 q1)
    | false => exact iteF (q1 H1 R1 .refl _ (.v (.bl false)))⟩⟩⟩
theorem d_or {a b : Expr} {rest : List Expr} {pos : Pos} {f g : En → Out Pv} (h : DE X Z a f) (h2 : DE X Z (.BoolOp .Or (b :: rest) pos) g) : DE X Z (.BoolOp .Or (a :: b :: rest) pos) (cOrV f g) :=
  let ⟨_, p, s⟩ := h; let ⟨_, p2, s2⟩ := h2; ⟨_, pe_or p p2, ⟨fun {B as σ H ρ Q} R q => det_B s R q.bind fun b ρ1 H1 R1 q1 => ⟨b, rfl, by
    cases b with
    | true => exact iteT (q1 H1 R1 .refl _ (.v (.bl true)))
    | false => exact iteF (s2.go R1 q1)⟩⟩⟩
theorem d_not {a : Expr} {pos : Pos} {f : En → Out Pv} (h : DE X Z a f) : DE X Z (.UnaryOp .Not a pos) (cNotV f) :=
  let ⟨_, p, s⟩ := h; ⟨_, pe_not p, ⟨fun {B as σ H ρ Q} R q => det_B s R q.bind fun b ρ1 H1 R1 q1 => ⟨b, rfl, q1 H1 R1 .refl _ (.v (.bl (!b)))⟩⟩⟩

/-! ### arguments, displays -/
def aNil : En → Out (List Pv) := fun ρ => .ok [] ρ
def aCons (f : En → Out Pv) (g : En → Out (List Pv)) : En → Out (List Pv) := fun ρ => (f ρ).bind fun p ρ1 => (g ρ1).bind fun ps ρ2 => .ok (p :: ps) ρ2
theorem a_nil : DA X Z [] aNil := ⟨_, pa_nil, ⟨fun {B as σ H ρ Q} R q => q H R .refl _ .nil⟩⟩
theorem a_cons {e : Expr} {es : List Expr} {f : En → Out Pv} {g : En → Out (List Pv)} (ha : DE X Z e f) (hr : DA X Z es g) (hs : starEach (e :: es) X.env = (false, eval e X.env) :: starEach es X.env := by rfl) : DA X Z (e :: es) (aCons f g) :=
  let ⟨_, p, s⟩ := ha; let ⟨_, p2, s2⟩ := hr
  ⟨_, pa_cons p p2 hs, ⟨fun {B as σ H ρ Q} R q => s.go R (q.bind.imp fun x ρ1 H1 R1 g1 q1 v k1 => s2.go R1 (q1.bind.imp fun xs ρ2 H2 R2 g2 q2 vs k2 => q2 H2 R2 .refl _ (.cons (k1.go g2) k2)))⟩⟩
/-- values alone -/
def pvs : List Pv → Option (List D)
  | [] => some []
  | .v d :: r => (pvs r).map (d :: ·)
  | .b _ :: _ => none
theorem PvsOk.reps {G : Pm} {W : Addr → Prop} : ∀ {vs : List V} {ps : List Pv} {ds : List D}, PvsOk G W as H vs ps → pvs ps = some ds → Reps G W H vs ds
  | _, _, _, .nil, e => by cases e; exact .nil
  | _, _, _, .cons (.v h) t, e => by
    simp only [pvs, Option.map_eq_some_iff] at e
    obtain ⟨r, e1, rfl⟩ := e
    exact .cons h (PvsOk.reps t e1)
  | _, _, _, .cons (.b _) t, e => by cases e
def cTup (f : En → Out (List Pv)) : En → Out Pv := fun ρ => (f ρ).bind fun ps ρ1 => ofO ((pvs ps).bind fun ds => if ds.length ≤ sizeLine then some (.tup ds) else none) ρ1
theorem d_tup {es : List Expr} {k : Nat} {pos : Pos} {f : En → Out (List Pv)} (h : DA X Z es f) : DE X Z (.Tuple es k pos) (cTup f) :=
  let ⟨_, p, s⟩ := h
  ⟨_, pe_tupS p, ⟨fun {B as σ H ρ Q} R q => s.go R (q.bind.imp fun ps ρ1 H1 R1 g1 q1 vs k1 => by
    obtain ⟨d, e, q⟩ := q1.ofO R1
    cases ep : pvs ps with
    | none => rw [ep] at e; cases e
    | some ds =>
      rw [ep] at e
      have r := k1.reps ep
      simp only [Option.bind_some] at e
      split at e
      · rename_i hl
        cases e
        refine ⟨by rw [r.length]; exact hl, fun p ob hp hd => ?_⟩
        have s1 : Same H1 (upd H1 p (.frz ob (.tup vs))) := fun b u e => by rw [upd_ne (ne_of_none e hp)]; exact e
        exact q _ _ s1 (.ref (.inr ⟨ob, upd_same⟩) (R1.fresh hp) (.tup (r.stp (.same s1))) ⟨ob, vs, upd_same, hd⟩)
      · cases e)⟩⟩
def nLst (f : En → Out (List Pv)) : En → Out D := fun ρ => (f ρ).bind fun ps ρ1 => match pvs ps with
  | some ds => if ds.length ≤ sizeLine then .ok (.lst ds) ρ1 else .bad
  | none => .bad
/-- a new object is laid -/
theorem DNt.lay {Q : VK} {d : D} {p : Addr} {o : HO} (R : Rel X.G B as σ H ρ) (hp : H p = none) (h0 : H1 p = none) (mu : Mut (some o)) (c : Cont X.G (B.W as) H o d)
    (q : EO X Z B as σ H (fun d ρ' H' => ∀ a H2, Rel X.G (B.and a) as σ H2 ρ' → Go (Ad as) H' (Ad as) H2 → H1 a = none → Own X.G ((B.and a).W as) H2 a d → Q (.ref a) H2) (.ok d ρ)) : Q (.ref p) (upd H p o) := by
  obtain ⟨R2, g2⟩ := R.more (o := o) hp
  exact q H R .refl p _ R2 g2 h0 ⟨o, upd_same, mu, Cont.more hp c⟩
theorem n_lst {es : List Expr} {pos : Pos} {f : En → Out (List Pv)} (h : DA X Z es f) : DN X Z (.List es pos) (nLst f) :=
  let ⟨_, p, s⟩ := h
  ⟨_, pe_lst p, ⟨fun {B as σ H ρ Q} R q => s.go R (q.bind.imp fun ps ρ1 H1 R1 g1 q1 vs k1 => by
    cases ep : pvs ps with
    | none => rw [ep] at q1; exact q1.elim
    | some ds =>
      rw [ep] at q1
      have r := k1.reps ep
      dsimp only at q1
      split at q1
      · rename_i hl
        exact ⟨by rw [r.length]; exact hl, fun p hp => DNt.lay R1 hp (g1.grow p hp) True.intro (.lst r) q1⟩
      · exact q1.elim)⟩⟩
end
end L3
namespace L3
open PySem PySem.Spec PyProof.Rows L2

section
variable {X : Cx} {Z : WXZ} {B : Bs} {as as' : List (Option Addr)} {σ σ' : L2.St} {H H' H1 : Hp} {ρ ρ' : En} {α β : Type} {v : V} {d : D} {a : Addr}

theorem Rel.setVal (R : Rel X.G B as σ H ρ) (i : Nat) (r : Rep X.G (B.W as) H v d) : Rel X.G B (as.set i none) (σ.set i (some v)) H (ρ.set i (.val d)) ∧ Go (Ad as) H (Ad (as.set i none)) H := by
  refine ⟨?_, .less fun b => Ad.set_none⟩
  by_cases hi : i < ρ.length
  · exact R.setVal0 hi r
  · rw [List.set_eq_of_length_le (by rw [R.l2]; omega), List.set_eq_of_length_le (by rw [R.l1]; omega), List.set_eq_of_length_le (by omega)]
    exact R
/-- one's own object is handed out: it is in no slot any more -/
theorem Rel.take (R : Rel X.G B as σ H ρ) {i : Nat} (h : ρ[i]? = some (.own d)) (ha : as[i]? = some (some a)) :
    Rel X.G (B.and a) (as.set i none) σ H (ρ.set i .un) ∧ Go (Ad as) H (Ad (as.set i none)) H ∧ B.He a = none ∧ Own X.G ((B.and a).W (as.set i none)) H a d := by
  have hi := lt_of_get h
  obtain ⟨v, a', h1, h2, h3⟩ := R.at_s h
  rw [ha] at h2; cases h2
  obtain ⟨d', rfl, hs, o⟩ := h3.adr
  have ed : d' = d := by
    rcases hs with e | e
    · cases e; rfl
    · cases e
  subst ed
  have mem : ∀ b, Ad as b → b = a ∨ Ad (as.set i none) b := fun b hb => by
    obtain ⟨j, e⟩ := Ad.ix hb
    by_cases hj : j = i
    · subst hj; rw [ha] at e; cases e; exact .inl rfl
    · exact .inr (Ad.of (i := j) (by rw [List.getElem?_set_ne (Ne.symm hj)]; exact e))
  have st : Stp (B.W as) H ((B.and a).W (as.set i none)) H := .less fun b z => by
    rcases z with (z | z) | z
    · exact .inl (.inl z)
    · subst z; exact .inl (.inr (Ad.of ha))
    · exact .inl (.inr (Ad.set_none z))
  have na : ¬ Ad (as.set i none) a := fun z => by
    obtain ⟨j, z⟩ := Ad.ix z
    rcases get_set z with ⟨_, e, _⟩ | ⟨ne, e⟩
    · cases e
    · exact ne (R.inj j i a e ha)
  refine ⟨⟨by simp [R.l1], by simp [R.l2], fun j v s b h1 h2 h3 => ?_, fun j d hj => ?_, fun j d b hj hb => ?_, fun m j b h1 h2 => ?_, fun b hb z => ?_, fun b z => ?_, R.gr⟩, .less fun b => Ad.set_none, R.fr i _ a h ha, o.stp st rfl⟩
  · rcases get_set h2 with ⟨rfl, rfl, _⟩ | ⟨ne, h2⟩
    · rw [List.getElem?_set_self (by rw [R.l2]; exact hi)] at h3
      cases h3
      exact .un _
    · rw [List.getElem?_set_ne (Ne.symm ne)] at h3
      cases R.sl j v s b h1 h2 h3 with
      | un => exact .un _
      | val x => exact .val (x.stp st)
      | own x => exact .own (x.stp st rfl)
      | bor x => exact .bor (x.stp st rfl)
  · rcases get_set hj with ⟨_, e, _⟩ | ⟨ne, hj⟩
    · cases e
    · rw [List.getElem?_set_ne (Ne.symm ne)]; exact R.pin j d hj
  · rcases get_set hj with ⟨_, e, _⟩ | ⟨ne, hj⟩
    · cases e
    · rw [List.getElem?_set_ne (Ne.symm ne)] at hb; exact R.fr j d b hj hb
  · rcases get_set h1 with ⟨_, e, _⟩ | ⟨_, e1⟩
    · cases e
    · rcases get_set h2 with ⟨_, e, _⟩ | ⟨_, e2⟩
      · cases e
      · exact R.inj m j b e1 e2
  · rcases z with z | z
    · exact R.nw b (Ad.set_none hb) z
    · subst z; exact na hb
  · rcases z with z | z
    · exact R.dom b z
    · subst z; exact R.domA _ (.inr (Ad.of ha))
/-- a new object, held by nobody, goes into a slot -/
theorem Rel.keep (R : Rel X.G (B.and a) as σ H ρ) (n : B.He a = none) (n1 : H1 a = none) (o : Own X.G ((B.and a).W as) H a d) (nB : ¬ B.W0 a) (g : Go (Ad as) H1 (Ad as) H) (i : Nat) :
    Rel X.G B (as.set i (some a)) (σ.set i (some (.ref a))) H (ρ.set i (.own d)) ∧ Go (Ad as) H1 (Ad (as.set i (some a))) H := by
  have na : ¬ Ad as a := fun z => R.nw a z (.inr rfl)
  have g2 : Go (Ad as) H1 (Ad (as.set i (some a))) H := ⟨g.keep, fun b z => by
    rcases Ad.set_some z with rfl | z
    · exact .inr n1
    · exact .inl z, g.grow⟩
  have st : Stp ((B.and a).W as) H (B.W (as.set i (some a))) H := .less fun b z => by
    rcases z with z | z
    · exact .inl (.inl (.inl z))
    · rcases Ad.set_some z with rfl | z
      · exact .inl (.inl (.inr rfl))
      · exact .inl (.inr z)
  refine ⟨⟨by simp [R.l1], by simp [R.l2], fun j v s b h1 h2 h3 => ?_, fun j d hj => ?_, fun j d b hj hb => ?_, fun m j b h1 h2 => ?_, fun b hb z => ?_, fun b z => R.dom b (.inl z), R.gr⟩, g2⟩
  · rcases get_set h2 with ⟨rfl, rfl, hl⟩ | ⟨ne, h2⟩
    · rw [List.getElem?_set_self (by rw [R.l1]; exact hl)] at h1
      rw [List.getElem?_set_self (by rw [R.l2]; exact hl)] at h3
      cases h1; cases h3
      exact .own (o.stp st rfl)
    · rw [List.getElem?_set_ne (Ne.symm ne)] at h1 h3
      cases R.sl j v s b h1 h2 h3 with
      | un => exact .un _
      | val x => exact .val (x.stp st)
      | own x => exact .own (x.stp st rfl)
      | bor x => exact .bor (x.stp st rfl)
  · rcases get_set hj with ⟨_, e, _⟩ | ⟨ne, hj⟩
    · cases e
    · rw [List.getElem?_set_ne (Ne.symm ne)]; exact R.pin j d hj
  · rcases get_set hj with ⟨rfl, e, hl⟩ | ⟨ne, hj⟩
    · rw [List.getElem?_set_self (by rw [R.l2]; exact hl)] at hb
      cases hb; exact n
    · rw [List.getElem?_set_ne (Ne.symm ne)] at hb; exact R.fr j d b hj hb
  · rcases get_set h1 with ⟨m1, e, _⟩ | ⟨m1, e1⟩
    · cases e
      rcases get_set h2 with ⟨m2, e, _⟩ | ⟨m2, e2⟩
      · rw [m1, m2]
      · exact absurd (Ad.of e2) na
    · rcases get_set h2 with ⟨m2, e, _⟩ | ⟨m2, e2⟩
      · cases e; exact absurd (Ad.of e1) na
      · exact R.inj m j b e1 e2
  · rcases Ad.set_some hb with rfl | hb
    · exact nB z
    · exact R.nw b hb (.inl z)

/-! ### blocks -/
def sNil : En → Out Fl := fun ρ => .ok .nx ρ
def Out.thn (x : Out Fl) (k : En → Out Fl) : Out Fl := match x with
  | .ok .nx ρ => k ρ
  | o => o
def sSeq (f g : En → Out Fl) : En → Out Fl := fun ρ => (f ρ).thn g
theorem SO.thn {D' : Ends} {o : Out Fl} {k : En → Out Fl} (h : SO X Z B as H D' (o.thn k)) {N : L2.St → Hp → Prop} (hN : ∀ ρ1 as1 σ1 H1, Rel X.G B as1 σ1 H1 ρ1 → SO X Z B as1 H1 D' (k ρ1) → N σ1 H1) :
    SO X Z B as H { D' with nx := N } o := by
  cases o with
  | ok a ρ' => cases a with
    | nx => exact fun as1 σ1 H1 R g => hN ρ' as1 σ1 H1 R (SO.after h g)
    | bk => exact h
    | ct => exact h
    | rt d => exact h
    | rn d => exact h
  | exc e ρ' => exact h
  | bad => exact h
theorem b_nil : DSs X Z [] sNil := ⟨_, pss_nil, ⟨fun {B as σ H ρ D'} R q => q as σ H R .refl⟩⟩
theorem b_cons {st : Stmt} {rest : List Stmt} {f g : En → Out Fl} (h1 : DS X Z st f) (h2 : DSs X Z rest g) : DSs X Z (st :: rest) (sSeq f g) :=
  let ⟨_, p, s⟩ := h1; let ⟨_, p2, s2⟩ := h2
  ⟨_, pss_cons p p2, ⟨fun {B as σ H ρ D'} R q => s.go R (q.thn fun ρ1 as1 σ1 H1 R1 q1 => s2.go R1 q1)⟩⟩
theorem b_one {st : Stmt} {f : En → Out Fl} (h1 : DS X Z st f) : DSs X Z [st] f := let ⟨_, p, s⟩ := h1; ⟨_, pss_one p, s⟩
/-- ahead of a statement something is let go of -/
def sFrz (i : Nat) (g : En → Out Fl) : En → Out Fl := fun ρ => match ρ[i]? with
  | some (.own d) => g (ρ.set i (.val d))
  | _ => g ρ
theorem dst_frz {t : TS} {g : En → Out Fl} (i : Nat) (h : DSt X Z t g) : DSt X Z t (sFrz i g) := by
  refine ⟨fun {B as σ H ρ D'} R q => ?_⟩
  unfold sFrz at q
  cases e : ρ[i]? with
  | none => rw [e] at q; exact h.go R q
  | some s =>
    rw [e] at q
    cases s with
    | own d =>
      obtain ⟨R1, g1⟩ := R.freeze e
      exact h.go R1 (q.after g1)
    | _ => exact h.go R q
theorem s_frz {st : Stmt} {g : En → Out Fl} (i : Nat) (h : DS X Z st g) : DS X Z st (sFrz i g) := let ⟨_, p, s⟩ := h; ⟨_, p, dst_frz i s⟩
theorem b_frz {st : List Stmt} {g : En → Out Fl} (i : Nat) (h : DSs X Z st g) : DSs X Z st (sFrz i g) := let ⟨_, p, s⟩ := h; ⟨_, p, dst_frz i s⟩

/-! ### small statements -/
theorem s_pass {pos : Pos} : DS X Z (.Pass pos) sNil := ⟨_, ps_pass, ⟨fun {B as σ H ρ D'} R q => q as σ H R .refl⟩⟩
def sBrk : En → Out Fl := fun ρ => .ok .bk ρ
def sCnt : En → Out Fl := fun ρ => .ok .ct ρ
theorem s_break {pos : Pos} : DS X Z (.Break pos) sBrk := ⟨_, ps_break, ⟨fun {B as σ H ρ D'} R q => q as σ H R .refl⟩⟩
theorem s_cont {pos : Pos} : DS X Z (.Continue pos) sCnt := ⟨_, ps_continue, ⟨fun {B as σ H ρ D'} R q => q as σ H R .refl⟩⟩
theorem s_doc {x : Str} {j pos pos'} : DS X Z (.Expr (.Constant (.str x) j pos) pos') sNil := ⟨_, ps_doc, ⟨fun {B as σ H ρ D'} R q => q as σ H R .refl⟩⟩
def sExp (f : En → Out Pv) : En → Out Fl := fun ρ => (f ρ).bind fun _ ρ1 => .ok .nx ρ1
theorem s_expr {e : Expr} {pos : Pos} {f : En → Out Pv} (h : DE X Z e f) (hs : swapsWith e none pos.line X.env = pure false := by rfl) : DS X Z (.Expr e pos) (sExp f) :=
  let ⟨_, p, s⟩ := h; ⟨_, ps_expr p hs, ⟨fun {B as σ H ρ D'} R q => s.go R ((q.bind R).imp fun x ρ1 H1 R1 g1 q1 v k1 => q1 as σ H1 R1 .refl)⟩⟩
def sRet (f : En → Out Pv) : En → Out Fl := fun ρ => (f ρ).bind fun p ρ1 => match p with
  | .v d => .ok (.rt d) ρ1
  | .b i => match ρ1[i]? with
    | some (.own d) => .ok (.rn d) (ρ1.set i .un)
    | _ => .bad
theorem s_ret {e : Expr} {pos : Pos} {f : En → Out Pv} (h : DE X Z e f) : DS X Z (.Return (some e) pos) (sRet f) := by
  obtain ⟨_, p, s⟩ := h
  refine ⟨_, ps_ret p, ⟨fun {B as σ H ρ D'} R q => s.go R ((q.bind R).imp fun x ρ1 H1 R1 g1 q1 v k1 => ?_)⟩⟩
  cases k1 with
  | v k => exact q1 v as σ H1 R1 .refl k
  | @b a i k =>
    dsimp only at q1
    cases e : ρ1[i]? with
    | none => rw [e] at q1; exact q1.elim
    | some s =>
      rw [e] at q1
      cases s with
      | own d =>
        obtain ⟨R2, g2, n, o⟩ := R1.take e k
        exact q1 a _ σ H1 R2 g2 n o
      | _ => exact q1.elim
/-- a new object is handed back -/
def sRetN (f : En → Out D) : En → Out Fl := fun ρ => (f ρ).bind fun d ρ1 => .ok (.rn d) ρ1
theorem s_retN {e : Expr} {pos : Pos} {f : En → Out D} (h : DN X Z e f) : DS X Z (.Return (some e) pos) (sRetN f) := by
  obtain ⟨_, p, s⟩ := h
  refine ⟨_, ps_ret p, ⟨fun {B as σ H ρ D'} R q => s.go R ((q.bind R).imp fun d ρ1 H1 R1 g1 q1 a H2 R2 g2 n o => ?_)⟩⟩
  exact q1 a as σ H2 R2 g2 (R.gr a n) o
def sRetU : En → Out Fl := fun ρ => .ok (.rt .non) ρ
theorem s_retU {pos : Pos} : DS X Z (.Return none pos) sRetU := ⟨_, ps_retN, ⟨fun {B as σ H ρ D'} R q => q .non as σ H R .refl .non⟩⟩
def sIf (c : En → Out Bool) (f g : En → Out Fl) : En → Out Fl := fun ρ => (c ρ).bind fun b ρ1 => if b = true then f ρ1 else g ρ1
theorem s_if {c : Expr} {x y : List Stmt} {pos : Pos} {fc : En → Out Bool} {f g : En → Out Fl} (hc : DT X Z c fc) (ha : DSs X Z x f) (hb : DSs X Z y g) : DS X Z (.If c x y pos) (sIf fc f g) :=
  let ⟨_, pc, sc⟩ := hc; let ⟨_, pa, sa⟩ := ha; let ⟨_, pb, sb⟩ := hb
  ⟨_, ps_if pc pa pb, ⟨fun {B as σ H ρ D'} R q => sc.go R ((q.bind R).imp fun b ρ1 H1 R1 g1 q1 => by
    cases b with
    | true => exact iteT (sa.go R1 q1)
    | false => exact iteF (sb.go R1 q1))⟩⟩
/-- name = a value; name = a new object -/
def sSet (i : Nat) (f : En → Out Pv) : En → Out Fl := fun ρ => (f ρ).bind fun p ρ1 => match p with
  | .v d => .ok .nx (ρ1.set i (.val d))
  | .b _ => .bad
theorem s_set {i : Nat} {x : Str} {e : Expr} {f : En → Out Pv} {pos pos' : Pos} (hN : X.N.Nodup) (h : DE X Z e f) (hi : X.N[i]? = some x := by rfl) (hx : Loc X.env.scope x := by first | exact Or.inl rfl | exact Or.inr rfl)
    (hs : swapsWith e (some (.Name x pos')) pos.line X.env = pure false := by rfl) (hf : X.fn x = true ∨ X.env.scope.names.lookup x = some .local := by first | exact .inl rfl | exact .inr rfl | assumption) :
    DS X Z (.Assign [.Name x pos'] e pos) (sSet i f) := by
  obtain ⟨_, p, s⟩ := h
  refine ⟨_, ps_set hN hi hx p hs hf, ⟨fun {B as σ H ρ D'} R q => s.go R ((q.bind R).imp fun p ρ1 H1 R1 g1 q1 v k1 => ?_)⟩⟩
  cases k1 with
  | v k =>
    obtain ⟨R2, g2⟩ := R1.setVal i k
    exact q1 _ _ _ R2 g2
  | b k => exact q1.elim
def sSetN (i : Nat) (f : En → Out D) : En → Out Fl := fun ρ => (f ρ).bind fun d ρ1 => .ok .nx (ρ1.set i (.own d))
theorem DNt.set {t : TE} {f : En → Out D} (s : DNt X Z t f) (i : Nat) : DSt X Z (tAsg t (gName i)) (sSetN i f) := by
  refine ⟨fun {B as σ H ρ D'} R q => s.go R ?_⟩
  unfold sSetN at q
  cases e : f ρ with
  | bad => rw [e] at q; exact q.elim
  | exc x ρ1 =>
    rw [e] at q
    exact fun cls dx H' R g y => q cls dx as σ H' R g y
  | ok d ρ1 =>
    rw [e] at q
    intro H1 R1 g1 a H2 R2 g2 n o
    have nB : ¬ B.W0 a := fun z => by
      obtain ⟨o, e⟩ := R.dom a z
      rw [n] at e; cases e
    obtain ⟨R3, g3⟩ := R2.keep (R.gr a n) n o nB (g1.trans g2) i
    exact q (as.set i (some a)) _ _ R3 g3
theorem s_setN {i : Nat} {x : Str} {e : Expr} {f : En → Out D} {pos pos' : Pos} (hN : X.N.Nodup) (h : DN X Z e f) (hi : X.N[i]? = some x := by rfl) (hx : Loc X.env.scope x := by first | exact Or.inl rfl | exact Or.inr rfl)
    (hs : swapsWith e (some (.Name x pos')) pos.line X.env = pure false := by rfl) (hf : X.fn x = true ∨ X.env.scope.names.lookup x = some .local := by first | exact .inl rfl | exact .inr rfl | assumption) :
    DS X Z (.Assign [.Name x pos'] e pos) (sSetN i f) := let ⟨_, p, s⟩ := h; ⟨_, ps_set hN hi hx p hs hf, s.set i⟩

/-! ### targets -/
/-- a target's outcome -/
def GO (X : Cx) (Z : WXZ) (B : Bs) (as : List (Option Addr)) (H : Hp) (N : L2.St → Hp → Prop) : Out Unit → Prop
  | .ok _ ρ' => ∀ as' σ' H', Rel X.G B as' σ' H' ρ' → Go (Ad as) H (Ad as') H' → N σ' H'
  | .exc e ρ' => ∀ cls dx as' σ' H', Rel X.G B as' σ' H' ρ' → Go (Ad as) H (Ad as') H' → RepX X.G (B.W as') H' cls dx e → Z cls dx σ' H'
  | .bad => False
theorem GO.after {N : L2.St → Hp → Prop} {o : Out Unit} (h : GO X Z B as H N o) (g : Go (Ad as) H (Ad as') H1) : GO X Z B as' H1 N o := by
  cases o with
  | ok a ρ' => exact fun _ _ _ R g' => h _ _ _ R (g.trans g')
  | exc e ρ' => exact fun _ _ _ _ _ R g' x => h _ _ _ _ _ R (g.trans g') x
  | bad => exact h
theorem GO.bind {N N' : L2.St → Hp → Prop} {o : Out Unit} {k : En → Out Unit} (h : GO X Z B as H N (o.bind fun _ ρ1 => k ρ1)) (hN : ∀ ρ1 as1 σ1 H1, Rel X.G B as1 σ1 H1 ρ1 → GO X Z B as1 H1 N (k ρ1) → N' σ1 H1) : GO X Z B as H N' o := by
  cases o with
  | ok a ρ' => exact fun as1 σ1 H1 R g => hN ρ' as1 σ1 H1 R (GO.after h g)
  | exc e ρ' => exact h
  | bad => exact h
theorem SO.ofG {D' : Ends} {o : Out Unit} {k : En → Out Fl} (h : SO X Z B as H D' (o.bind fun _ ρ1 => k ρ1)) {N : L2.St → Hp → Prop} (hN : ∀ ρ1 as1 σ1 H1, Rel X.G B as1 σ1 H1 ρ1 → SO X Z B as1 H1 D' (k ρ1) → N σ1 H1) : GO X Z B as H N o := by
  cases o with
  | ok a ρ' => exact fun as1 σ1 H1 R g => hN ρ' as1 σ1 H1 R (SO.after h g)
  | exc e ρ' => exact h
  | bad => exact h
structure DGt (X : Cx) (Z : WXZ) (g : TG) (h : D → En → Out Unit) : Prop where
  go : ∀ {B : Bs} {as : List (Option Addr)} {σ : L2.St} {H : Hp} {ρ : En} {v : V} {d : D} {N : L2.St → Hp → Prop}, Rel X.G B as σ H ρ → Rep X.G (B.W as) H v d → GO X Z B as H N (h d ρ) → g v σ H N
def DG (X : Cx) (Z : WXZ) (tg : Expr) (h : D → En → Out Unit) : Prop := ∃ g, PG X tg g ∧ DGt X Z g h
structure DGst (X : Cx) (Z : WXZ) (g : TGs) (h : List D → En → Out Unit) : Prop where
  go : ∀ {B : Bs} {as : List (Option Addr)} {σ : L2.St} {H : Hp} {ρ : En} {vs : List V} {ds : List D} {N : L2.St → Hp → Prop}, Rel X.G B as σ H ρ → Reps X.G (B.W as) H vs ds → GO X Z B as H N (h ds ρ) → g vs σ H N
def DGs (X : Cx) (Z : WXZ) (tgs : List Expr) (h : List D → En → Out Unit) : Prop := ∃ g, PGs X tgs g ∧ DGst X Z g h
def gSet (i : Nat) : D → En → Out Unit := fun d ρ => .ok () (ρ.set i (.val d))
theorem g_name {i : Nat} {x : Str} {pos : Pos} (hN : X.N.Nodup) (hi : X.N[i]? = some x := by rfl) (hx : Loc X.env.scope x := by first | exact Or.inl rfl | exact Or.inr rfl) (hf : X.fn x = true ∨ X.env.scope.names.lookup x = some .local := by first | exact .inl rfl | exact .inr rfl | assumption) :
    DG X Z (.Name x pos) (gSet i) := ⟨_, pg_name hN hi hx hf, ⟨fun {B as σ H ρ v d N} R r q => by
      obtain ⟨R2, g2⟩ := R.setVal i r
      exact q _ _ _ R2 g2⟩⟩
def gsNil : List D → En → Out Unit := fun ds ρ => match ds with
  | [] => .ok () ρ
  | _ => .bad
def gsCons (h : D → En → Out Unit) (hs : List D → En → Out Unit) : List D → En → Out Unit := fun ds ρ => match ds with
  | d :: r => (h d ρ).bind fun _ ρ1 => hs r ρ1
  | [] => .bad
theorem gs_nil : DGs X Z [] gsNil := ⟨_, pgs_nil, ⟨fun {B as σ H ρ vs ds N} R r q => by
  cases r with
  | nil => exact ⟨rfl, q as σ H R .refl⟩
  | cons _ _ => exact q.elim⟩⟩
theorem Reps.goW {vs : List V} {ds : List D} (r : Reps X.G (B.W as) H vs ds) (g : Go (Ad as) H (Ad as') H') : Reps X.G (B.W as') H' vs ds := r.stp g.stp
theorem gs_cons {e : Expr} {es : List Expr} {h : D → En → Out Unit} {hs : List D → En → Out Unit} (h1 : DG X Z e h) (h2 : DGs X Z es hs) (hst : (assignEach (e :: es) X.env).map (·.2) = assign e X.env :: (assignEach es X.env).map (·.2) := by rfl) :
    DGs X Z (e :: es) (gsCons h hs) := by
  obtain ⟨_, p, s⟩ := h1
  obtain ⟨_, p2, s2⟩ := h2
  refine ⟨_, pgs_cons p p2 hst, ⟨fun {B as σ H ρ vs ds N} R r q => ?_⟩⟩
  cases r with
  | nil => exact q.elim
  | @cons v d vs ds r t =>
    refine ⟨v, vs, rfl, ?_⟩
    unfold gsCons at q
    dsimp only at q
    cases e : h d ρ with
    | ok x ρ1 =>
      rw [e] at q
      refine s.go R r ?_
      rw [e]
      intro as1 σ1 H1 R1 g1
      exact s2.go R1 (t.goW g1) (GO.after q g1)
    | exc x ρ1 =>
      rw [e] at q
      refine s.go R r ?_
      rw [e]
      exact q
    | bad => rw [e] at q; exact q.elim
def gTupD (n : Nat) (hs : List D → En → Out Unit) : D → En → Out Unit := fun d ρ => match d with
  | .tup ds => if ds.length = n then hs ds ρ else .bad
  | .obj c ks ds => if c = "" ∧ ks = [] ∧ ds ≠ [] ∧ ds.length = n then hs ds ρ else .bad
  | _ => .bad
def gLstD (n : Nat) (hs : List D → En → Out Unit) : D → En → Out Unit := fun d ρ => match d with
  | .lst ds => if ds.length = n then hs ds ρ else .bad
  | _ => .bad
theorem RepP.tupR {G : Pm} {W : Addr → Prop} {ds : List D} (r : RepP G W H v (.tup ds)) : Rep G W H v (.tup ds) := by
  cases r with
  | rep r => exact r
  | own o =>
    obtain ⟨u, e, m, c⟩ := o
    cases c with
    | tup r => exact m.elim
theorem RepP.tup {G : Pm} {W : Addr → Prop} {ds : List D} (r : RepP G W H v (.tup ds)) : ∃ a vs, v = .ref a ∧ SqT G.K H a vs ∧ Reps G W H vs ds := by
  cases r.tupR with
  | ref h w c => cases c with | tup r => exact ⟨_, _, rfl, .inl h, r⟩
  | tupK h r => exact ⟨_, _, rfl, h.sq, r⟩
theorem RepP.wtp {G : Pm} {W : Addr → Prop} {ds : List D} (r : RepP G W H v (.obj "" [] ds)) (hn : ds ≠ []) : ∃ a vs, v = .ref a ∧ SqT G.K H a vs ∧ Reps G W H vs ds := by
  have no : ∀ {vs : List V}, vs.length = ([] : List Str).length → Reps G W H vs ds → False := fun {vs} l r => by
    cases vs with
    | nil => cases r; exact hn rfl
    | cons _ _ => simp at l
  cases r with
  | rep r =>
    cases r with
    | ref h w c => cases c with
      | wtp r => exact ⟨_, _, rfl, .inl h, r⟩
      | obj m l r => exact (no l r).elim
  | own o =>
    obtain ⟨u, e, m, c⟩ := o
    cases c with
    | wtp r => exact m.elim
    | obj m l r => exact (no l r).elim
theorem RepP.lst {G : Pm} {W : Addr → Prop} {ds : List D} (r : RepP G W H v (.lst ds)) : ∃ a vs, v = .ref a ∧ Rd H a (.lst vs) ∧ Reps G W H vs ds := by
  cases r with
  | rep r =>
    cases r with
    | ref h w c => cases c with | lst r => exact ⟨_, _, rfl, h, r⟩
  | own o =>
    obtain ⟨u, e, _, c⟩ := o
    cases c with
    | lst r => exact ⟨_, _, rfl, .inl e, r⟩
theorem g_tup {es : List Expr} {k : Nat} {pos : Pos} {hs : List D → En → Out Unit} (n : Nat) (hc : X.calm = true) (h : DGs X Z es hs)
    (hn : (assignEach es X.env).length = n := by rfl) (hst : (assignEach es X.env).findIdx? (·.1) = none := by rfl) : DG X Z (.Tuple es k pos) (gTupD n hs) := by
  obtain ⟨_, p, s⟩ := h
  refine ⟨_, pg_tup hc p hn hst, ⟨fun {B as σ H ρ v d N} R r q => ?_⟩⟩
  cases d with
  | tup ds =>
    obtain ⟨a, vs, e, h1, h2⟩ := RepP.tup (.rep r)
    have q : GO X Z B as H N (if ds.length = n then hs ds ρ else .bad) := q
    split at q
    · rename_i hl
      exact ⟨a, vs, e, h1, by rw [h2.length]; exact hl, s.go R h2 q⟩
    · exact q.elim
  | obj c ks ds =>
    have q2 : GO X Z B as H N (if c = "" ∧ ks = [] ∧ ds ≠ [] ∧ ds.length = n then hs ds ρ else .bad) := q
    clear q
    by_cases hl : c = "" ∧ ks = [] ∧ ds ≠ [] ∧ ds.length = n
    · rw [if_pos hl] at q2
      obtain ⟨rfl, rfl, hn, hl⟩ := hl
      obtain ⟨a, vs, e, h1, h2⟩ := RepP.wtp (.rep r) hn
      exact ⟨a, vs, e, h1, by rw [h2.length]; exact hl, s.go R h2 q2⟩
    · rw [if_neg hl] at q2; exact q2.elim
  | _ => exact q.elim
theorem g_lst {es : List Expr} {k : Nat} {pos : Pos} {hs : List D → En → Out Unit} (n : Nat) (hc : X.calm = true) (h : DGs X Z es hs)
    (hn : (assignEach es X.env).length = n := by rfl) (hst : (assignEach es X.env).findIdx? (·.1) = none := by rfl) : DG X Z (.Tuple es k pos) (gLstD n hs) := by
  obtain ⟨_, p, s⟩ := h
  refine ⟨_, pg_lst hc p hn hst, ⟨fun {B as σ H ρ v d N} R r q => ?_⟩⟩
  cases d with
  | lst ds =>
    obtain ⟨a, vs, e, h1, h2⟩ := RepP.lst (.rep r)
    have q : GO X Z B as H N (if ds.length = n then hs ds ρ else .bad) := q
    split at q
    · rename_i hl
      exact ⟨a, vs, e, .inl h1, by rw [h2.length]; exact hl, s.go R h2 q⟩
    · exact q.elim
  | _ => exact q.elim
def sAsg (f : En → Out Pv) (h : D → En → Out Unit) : En → Out Fl := fun ρ => (f ρ).bind fun p ρ1 => match p with
  | .v d => (h d ρ1).bind fun _ ρ2 => .ok .nx ρ2
  | .b _ => .bad
theorem s_asg {tg e : Expr} {pos : Pos} {f : En → Out Pv} {h : D → En → Out Unit} (he : DE X Z e f) (hg : DG X Z tg h) (hs : swapsWithSole [tg] e pos.line X.env = pure false := by rfl) (hw : swappedStores [tg] e X.env = pure none := by rfl)
    (h1 : (assignEach [tg] X.env).map (·.2) = [assign tg X.env] := by rfl) : DS X Z (.Assign [tg] e pos) (sAsg f h) := by
  obtain ⟨_, p, s⟩ := he
  obtain ⟨_, p2, s2⟩ := hg
  refine ⟨_, ps_asg p p2 hs hw h1, ⟨fun {B as σ H ρ D'} R q => s.go R ((q.bind R).imp fun p ρ1 H1 R1 g1 q1 v k1 => ?_)⟩⟩
  cases k1 with
  | v k =>
    refine s2.go R1 k (q1.ofG fun ρ2 as2 σ2 H2 R2 q2 => ?_)
    exact q2 _ _ _ R2 .refl
  | b k => exact q1.elim
/-- name op= e -/
def sAug (i : Nat) (f : En → Out Pv) (g : D → D → Option D) : En → Out Fl := fun ρ => match ρ[i]? with
  | some (.val a) => (f ρ).bind fun q ρ1 => match (pvD ρ1 q).bind fun b => g a b with
    | some d => .ok .nx (ρ1.set i (.val d))
    | none => .bad
  | _ => .bad
theorem s_aug {i : Nat} {x : Str} {e : Expr} {op : Operator} {r : R2} {pos pos' : Pos} {f : En → Out Pv} {g : D → D → Option D} (hN : X.N.Nodup) (ho : OpR X (inplaceOp op) r) (hr : Op2 X r g) (h : DE X Z e f) (hi : X.N[i]? = some x := by rfl) (hx : Loc X.env.scope x := by first | exact Or.inl rfl | exact Or.inr rfl)
    (hf : X.fn x = true ∨ X.env.scope.names.lookup x = some .local := by first | exact .inl rfl | exact .inr rfl | assumption) : DS X Z (.AugAssign (.Name x pos') op e pos) (sAug i f g) := by
  obtain ⟨_, p, s⟩ := h
  refine ⟨_, ps_aug hN hi hx p ho hf, ⟨fun {B as σ H ρ D'} R q => ?_⟩⟩
  unfold sAug at q
  cases e : ρ[i]? with
  | none => rw [e] at q; exact q.elim
  | some sl =>
    rw [e] at q
    obtain ⟨v, a, h1, h2, h3⟩ := R.at_s e
    cases h3 with
    | val k =>
      refine ⟨_, h1, s.go R ((q.bind R).imp fun p ρ1 H1 R1 g1 q1 u k1 => ?_)⟩
      cases eq : (pvD ρ1 p) with
      | none => rw [eq] at q1; exact q1.elim
      | some b =>
        rw [eq] at q1
        dsimp only [Option.bind_some] at q1
        rename_i d0
        cases eg : g d0 b with
        | none => rw [eg] at q1; exact q1.elim
        | some c =>
          rw [eg] at q1
          refine hr R1.domA (.rep (k.go g1)) (k1.peek R1 eq) eg fun w H2 s2 rw2 => ?_
          obtain ⟨R3, g3⟩ := (R1.same s2).setVal i rw2
          exact q1 _ _ _ R3 ((Go.of_same s2).trans g3)
    | _ => exact q.elim

/-! ### iterables -/
/-- J walks the items ds, whatever is done meanwhile to one's own objects and new ones -/
def Walks (X : Cx) (B : Bs) (as : List (Option Addr)) (H : Hp) (J : It) (ds : List D) : Prop :=
  ∀ (A : Addr → Prop) (H2 : Hp), (∀ b, Wu B.W0 A b → ∃ o, H2 b = some o) → Go (Ad as) H A H2 → J.stop ds.length H2 ∧ ∀ i d, ds[i]? = some d → J.go i H2 ∧ ∀ x H3, J.yld i H2 x H3 → Same H2 H3 ∧ (Rep X.G (Wu B.W0 A) H3 x d)
structure DIt (X : Cx) (Z : WXZ) (wi : TI) (f : En → Out (List D)) : Prop where
  go : ∀ {B : Bs} {as : List (Option Addr)} {σ : L2.St} {H : Hp} {ρ : En} {R' : It → Hp → Prop}, Rel X.G B as σ H ρ → EO X Z B as σ H (fun ds _ H' => ∀ J H2, Same H' H2 → Walks X B as H2 J ds → R' J H2) (f ρ) → wi σ H R'
def DI (X : Cx) (Z : WXZ) (tg iter : Expr) (f : En → Out (List D)) : Prop := ∃ wi, PI X tg iter wi ∧ DIt X Z wi f
theorem walks_list {a : Addr} {vs : List V} {ds : List D} (h : Rd H a (.lst vs)) (w : ¬ B.W as a) (r : Reps X.G (B.W as) H vs ds) : Walks X B as H (Itl X.K a) ds := by
  intro A H2 _ g
  have h2 : SqL X.K H2 a vs := .inl (Rd.stp h g.stp w).1
  have r2 := r.go g
  refine ⟨⟨vs, h2, by rw [r2.length]; exact Nat.le_refl _⟩, fun i d e => ?_⟩
  obtain ⟨v, e1, r3⟩ := r2.get e
  refine ⟨⟨vs, v, h2, e1⟩, fun x H3 y => ?_⟩
  obtain ⟨rfl, y⟩ := y
  have := y vs h2
  rw [e1] at this; cases this
  exact ⟨Same.refl _, r3⟩
theorem walks_tup {a : Addr} {vs : List V} {ds : List D} (h : SqT X.K H a vs) (w : (∃ o, H a = some o) → ¬ B.W as a) (r : Reps X.G (B.W as) H vs ds) : Walks X B as H (Itt X.K a) ds := by
  intro A H2 _ g
  have h2 : SqT X.K H2 a vs := by
    rcases h with h | h
    · exact .inl (Rd.stp h g.stp (w (Rd.there h))).1
    · exact .inr h
  have r2 := r.go g
  refine ⟨⟨vs, h2, by rw [r2.length]; exact Nat.le_refl _⟩, fun i d e => ?_⟩
  obtain ⟨v, e1, r3⟩ := r2.get e
  refine ⟨⟨vs, v, h2, e1⟩, fun x H3 y => ?_⟩
  obtain ⟨rfl, y⟩ := y
  have := y vs h2
  rw [e1] at this; cases this
  exact ⟨Same.refl _, r3⟩
def iL (f : En → Out Pv) : En → Out (List D) := fun ρ => (f ρ).bind fun p ρ1 => match p with
  | .v (.lst ds) => .ok ds ρ1
  | _ => .bad
def iT (f : En → Out Pv) : En → Out (List D) := fun ρ => (f ρ).bind fun p ρ1 => match p with
  | .v (.tup ds) => .ok ds ρ1
  | _ => .bad
theorem i_lst {tg e : Expr} {f : En → Out Pv} (h : DE X Z e f) : DI X Z tg e (iL f) := by
  obtain ⟨_, p, s⟩ := h
  refine ⟨_, pi_list p, ⟨fun {B as σ H ρ R'} R q => s.go R (q.bind.imp fun p ρ1 H1 R1 g1 q1 v k1 => ?_)⟩⟩
  cases k1 with
  | @v v d k =>
    cases d with
    | lst ds =>
      cases k with
      | ref h w c =>
        cases c with
        | lst r => exact ⟨_, rfl, ⟨_, .inl h⟩, q1 H1 R1 .refl _ H1 (Same.refl _) (walks_list h w r)⟩
    | _ => exact q1.elim
  | b => exact q1.elim
theorem i_tup {tg e : Expr} {f : En → Out Pv} (h : DE X Z e f) : DI X Z tg e (iT f) := by
  obtain ⟨_, p, s⟩ := h
  refine ⟨_, pi_tup p, ⟨fun {B as σ H ρ R'} R q => s.go R (q.bind.imp fun p ρ1 H1 R1 g1 q1 v k1 => ?_)⟩⟩
  cases k1 with
  | @v v d k =>
    cases d with
    | tup ds =>
      cases k with
      | ref h w c =>
        cases c with
        | tup r => exact ⟨_, rfl, ⟨_, .inl h⟩, q1 H1 R1 .refl _ H1 (Same.refl _) (walks_tup (.inl h) (fun _ => w) r)⟩
      | @tupK a vs ds h r => exact ⟨_, rfl, ⟨_, h.sq⟩, q1 H1 R1 .refl _ H1 (Same.refl _) (fun A H2 _ g => by
          have r2 := r.go g
          have h2 : SqT X.K H2 a vs := h.sq
          refine ⟨⟨vs, h2, by rw [r2.length]; exact Nat.le_refl _⟩, fun i d e => ?_⟩
          obtain ⟨v, e1, r3⟩ := r2.get e
          refine ⟨⟨vs, v, h2, e1⟩, fun x H3 y => ?_⟩
          obtain ⟨rfl, y⟩ := y
          have := y vs h2
          rw [e1] at this; cases this
          exact ⟨Same.refl _, r3⟩)⟩
    | _ => exact q1.elim
  | b => exact q1.elim
def rangeD (lo hi : Int) : List D := (List.range (hi - lo).toNat).map fun (i : Nat) => D.int (lo + i)
theorem walks_range (lo : Int) (n : Nat) : Walks X B as H (Itr lo n) ((List.range n).map fun (i : Nat) => D.int (lo + i)) := by
  intro A H2 _ g
  refine ⟨by show n ≤ _; simp, fun i d e => ?_⟩
  have hi : i < n := by simpa using lt_of_get e
  rw [List.getElem?_map, List.getElem?_range hi] at e
  cases e
  exact ⟨hi, fun x H3 ⟨e1, e2⟩ => by subst e1 e2; exact ⟨Same.refl _, .int _⟩⟩
/-- (by natAbs: the kernel would count down from 2 ^ 62 at the whole number of an unknown natural) -/
def inR (i : Int) : Bool := decide (i.natAbs < 2 ^ 62)
theorem inR_b {i : Int} (h : inR i = true) : -(2 ^ 62) ≤ i ∧ i < 2 ^ 62 := by
  have := of_decide_eq_true h
  omega
def iR1 (f : En → Out (List Pv)) : En → Out (List D) := fun ρ => (f ρ).bind fun ps ρ1 => match ps with
  | [.v (.int j)] => if inR j = true then .ok (rangeD 0 j) ρ1 else .bad
  | _ => .bad
def iR2 (f : En → Out (List Pv)) : En → Out (List D) := fun ρ => (f ρ).bind fun ps ρ1 => match ps with
  | [.v (.int i), .v (.int j)] => if (inR i && inR j) = true then .ok (rangeD i j) ρ1 else .bad
  | _ => .bad
theorem Rep.int_ {G : Pm} {W : Addr → Prop} {i : Int} (r : Rep G W H v (.int i)) : v = .int i := by
  cases r with
  | int => rfl
  | ref _ _ c => cases c
theorem i_range1 {tg a : Expr} {p pos : Pos} {f : En → Out (List Pv)} (h : DA X Z [a] f) (hg : Gl X "range") (hm : X.mg "range" = none) (hs : starEach [a] X.env = [(false, eval a X.env)] := by rfl) : DI X Z tg (.Call (.Name "range" p) [a] [] pos) (iR1 f) := by
  obtain ⟨_, p, s⟩ := h
  refine ⟨_, pi_range1 hg hm p hs, ⟨fun {B as σ H ρ R'} R q => s.go R (q.bind.imp fun ps ρ1 H1 R1 g1 q1 vs k1 => ?_)⟩⟩
  split at q1
  · rename_i j
    cases k1 with
    | cons k kn =>
      cases kn
      cases k with
      | v k =>
        have e := k.int_
        subst e
        split at q1
        · rename_i hj
          have hj := inR_b hj
          refine ⟨j, rfl, hj.1, hj.2, q1 H1 R1 .refl _ H1 (Same.refl _) ?_⟩
          have := walks_range (X := X) (B := B) (as := as) (H := H1) 0 j.toNat
          unfold rangeD
          rw [Int.sub_zero]
          exact this
        · exact q1.elim
  · exact q1.elim
theorem i_range2 {tg a b : Expr} {p pos : Pos} {f : En → Out (List Pv)} (h : DA X Z [a, b] f) (hg : Gl X "range") (hm : X.mg "range" = none) (hs : starEach [a, b] X.env = [(false, eval a X.env), (false, eval b X.env)] := by rfl) (hs2 : starEach [b] X.env = [(false, eval b X.env)] := by rfl) :
    DI X Z tg (.Call (.Name "range" p) [a, b] [] pos) (iR2 f) := by
  obtain ⟨_, p, s⟩ := h
  refine ⟨_, pi_range2 hg hm p hs hs2, ⟨fun {B as σ H ρ R'} R q => s.go R (q.bind.imp fun ps ρ1 H1 R1 g1 q1 vs k1 => ?_)⟩⟩
  split at q1
  · rename_i i j
    cases k1 with
    | cons k kn =>
      cases kn with
      | cons k2 kn =>
        cases kn
        cases k with
        | v k =>
          cases k2 with
          | v k2 =>
            have e := k.int_
            have e2 := k2.int_
            subst e e2
            split at q1
            · rename_i hj
              rw [Bool.and_eq_true] at hj
              have h1 := inR_b hj.1
              have h2 := inR_b hj.2
              exact ⟨i, j, rfl, ⟨h1.1, h1.2, h2.1, h2.2⟩, q1 H1 R1 .refl _ H1 (Same.refl _) (walks_range i (j - i).toNat)⟩
            · exact q1.elim
  · exact q1.elim

/-! ### for -/
def forL (g : D → En → Out Unit) (body : En → Out Fl) : List D → En → Out Fl
  | [], ρ => .ok .nx ρ
  | d :: r, ρ => match g d ρ with
    | .ok _ ρ1 => match body ρ1 with
      | .ok .nx ρ2 => forL g body r ρ2
      | .ok .ct ρ2 => forL g body r ρ2
      | .ok .bk ρ2 => .ok .nx ρ2
      | o => o
    | .exc e ρ1 => .exc e ρ1
    | .bad => .bad
def sFor (it : En → Out (List D)) (g : D → En → Out Unit) (body : En → Out Fl) : En → Out Fl := fun ρ => (it ρ).bind fun ds ρ1 => forL g body ds ρ1
theorem s_for {tg iter : Expr} {body : List Stmt} {pos : Pos} {it : En → Out (List D)} {g : D → En → Out Unit} {f : En → Out Fl} (hp : PassesOwn (model X.prog X.w) X.A X.env X.xe) (hc : X.calm = true) (hi : DI X Z tg iter it) (hg : DG X Z tg g) (hb : DSs X Z body f)
    (hs : ∀ x, foldedSetIterable iter X.env x = pure x := by intro _; rfl) : DS X Z (.For tg iter body [] pos) (sFor it g f) := by
  obtain ⟨_, pi, si⟩ := hi
  obtain ⟨_, pg, sg⟩ := hg
  obtain ⟨_, pb, sb⟩ := hb
  refine ⟨_, ps_for hp hc pi pg pb hs, ⟨fun {B as σ H ρ D'} R q => si.go R ((q.bind R).imp fun ds ρ1 H1 R1 g1 q1 J H2 s2 wk => ?_)⟩⟩
  have R2 := R1.same s2
  have q2 : SO X Z B as H2 D' (forL g f ds ρ1) := q1.after (.of_same s2)
  refine ⟨fun i m σ3 H3 => m = ds.length - i ∧ i ≤ ds.length ∧ ∃ as3 ρ3, Rel X.G B as3 σ3 H3 ρ3 ∧ Go (Ad as) H2 (Ad as3) H3 ∧ SO X Z B as3 H3 D' (forL g f (ds.drop i) ρ3),
    ⟨_, rfl, Nat.zero_le _, as, ρ1, R2, .refl, q2⟩, ?_⟩
  rintro i m σ3 H3 ⟨rfl, hle, as3, ρ3, R3, g3, q3⟩
  obtain ⟨w1, w2⟩ := wk (Ad as3) H3 R3.domA g3
  by_cases hlt : i < ds.length
  · have e : ds.drop i = ds[i] :: ds.drop (i + 1) := List.drop_eq_getElem_cons hlt
    rw [e] at q3
    obtain ⟨w3, w4⟩ := w2 i ds[i] (List.getElem?_eq_getElem hlt)
    refine .inr ⟨w3, fun σ4 H4 => i + 1 ≤ ds.length ∧ ∃ as4 ρ4, Rel X.G B as4 σ4 H4 ρ4 ∧ Go (Ad as) H2 (Ad as4) H4 ∧ SO X Z B as4 H4 D' (forL g f (ds.drop (i + 1)) ρ4), fun σ4 H4 hN => ?_, fun x H4 y => ?_⟩
    · exact ⟨ds.length - (i + 1), by omega, rfl, hN.1, hN.2⟩
    · obtain ⟨s4, r4⟩ := w4 x H4 y
      have R4 := R3.same s4
      have q4 := q3.after (.of_same s4)
      unfold forL at q4
      refine sg.go R4 r4 ?_
      cases eg : g ds[i] ρ3 with
      | bad => rw [eg] at q4; exact q4.elim
      | exc e ρ5 => rw [eg] at q4; exact q4
      | ok u ρ5 =>
        rw [eg] at q4
        intro as5 σ5 H5 R5 g5
        have q5 := q4.after g5
        have gg : Go (Ad as) H2 (Ad as5) H5 := g3.trans ((Go.of_same s4).trans g5)
        refine sb.go R5 ?_
        dsimp only at q5
        cases eb : f ρ5 with
        | bad => rw [eb] at q5; exact q5.elim
        | exc e ρ6 => rw [eb] at q5; exact q5
        | ok fl ρ6 =>
          rw [eb] at q5
          cases fl with
          | nx => exact fun as6 σ6 H6 R6 g6 => ⟨hlt, as6, ρ6, R6, gg.trans g6, SO.after q5 g6⟩
          | ct => exact fun as6 σ6 H6 R6 g6 => ⟨hlt, as6, ρ6, R6, gg.trans g6, SO.after q5 g6⟩
          | bk => exact q5
          | rt d => exact q5
          | rn d => exact q5
  · have e : i = ds.length := by omega
    subst e
    rw [List.drop_length] at q3
    exact .inl ⟨w1, q3 as3 σ3 H3 R3 .refl⟩
/-! ### while, with a bound of the turns -/
def whileN (c : En → Out Bool) (body : En → Out Fl) : Nat → En → Out Fl
  | 0, _ => .bad
  | n + 1, ρ => match c ρ with
    | .ok true ρ1 => match body ρ1 with
      | .ok .nx ρ2 => whileN c body n ρ2
      | .ok .ct ρ2 => whileN c body n ρ2
      | .ok .bk ρ2 => .ok .nx ρ2
      | o => o
    | .ok false ρ1 => .ok .nx ρ1
    | .exc e ρ1 => .exc e ρ1
    | .bad => .bad
theorem s_while {c : Expr} {body : List Stmt} {pos : Pos} {fc : En → Out Bool} {f : En → Out Fl} (n : Nat) (hp : PassesOwn (model X.prog X.w) X.A X.env X.xe) (hc : DT X Z c fc) (hb : DSs X Z body f) : DS X Z (.While c body [] pos) (whileN fc f n) := by
  obtain ⟨_, pc, sc⟩ := hc
  obtain ⟨_, pb, sb⟩ := hb
  refine ⟨_, ps_while hp pc pb, ⟨fun {B as σ H ρ D'} R q => ?_⟩⟩
  refine ⟨fun m σ3 H3 => ∃ as3 ρ3, Rel X.G B as3 σ3 H3 ρ3 ∧ SO X Z B as3 H3 D' (whileN fc f m ρ3), ⟨n, as, ρ, R, q⟩, ?_⟩
  rintro m σ3 H3 ⟨as3, ρ3, R3, q3⟩
  cases m with
  | zero => exact q3.elim
  | succ m =>
    unfold whileN at q3
    refine sc.go R3 ?_
    cases ec : fc ρ3 with
    | bad => rw [ec] at q3; exact q3.elim
    | exc e ρ4 => rw [ec] at q3; exact fun cls dx H' R g x => q3 cls dx as3 σ3 H' R g x
    | ok b ρ4 =>
      rw [ec] at q3
      intro H4 R4 g4
      have q4 := q3.after g4
      cases b with
      | false => exact iteF (q4 as3 σ3 H4 R4 .refl)
      | true =>
        refine iteT ⟨fun σ5 H5 => ∃ as5 ρ5, Rel X.G B as5 σ5 H5 ρ5 ∧ SO X Z B as5 H5 D' (whileN fc f m ρ5), fun σ5 H5 h => ⟨m, Nat.lt_succ_self m, h⟩, sb.go R4 ?_⟩
        dsimp only at q4
        cases eb : f ρ4 with
        | bad => rw [eb] at q4; exact q4.elim
        | exc e ρ6 => rw [eb] at q4; exact q4
        | ok fl ρ6 =>
          rw [eb] at q4
          cases fl with
          | nx => exact fun as6 σ6 H6 R6 g6 => ⟨as6, ρ6, R6, SO.after q4 g6⟩
          | ct => exact fun as6 σ6 H6 R6 g6 => ⟨as6, ρ6, R6, SO.after q4 g6⟩
          | bk => exact q4
          | rt d => exact q4
          | rn d => exact q4
end
end L3
namespace L3
open PySem PySem.Spec PyProof.Rows L2

/-! ### what a def is worth -/
/-- a def's result: a value, or a new object -/
inductive Rt where
  | v (d : D) | n (d : D)
def Rt.d : Rt → D
  | .v d => d
  | .n d => d
/-- a def's mirror: the arguments as slots; the result, and what stands behind in the slots that were lent -/
abbrev Mf := En → Out Rt
def outs : En → En → Option En
  | [], _ => some []
  | .bor _ :: r, .bor c :: r' => (outs r r').map (.bor c :: ·)
  | .bor _ :: _, _ => none
  | _ :: r, _ :: r' => (outs r r').map (.un :: ·)
  | _ :: _, [] => none
def fin (ρ0 : En) (r : Rt) (ρ' : En) : Out Rt := match outs ρ0 ρ' with
  | some cs => .ok r cs
  | none => .bad
def run (x : Bool) (n : Nat) (g : En → Out Fl) : Mf := fun ρ0 => match g (ρ0 ++ List.replicate (n - ρ0.length) .un) with
  | .ok (.rt d) ρ' => fin ρ0 (.v d) ρ'
  | .ok (.rn d) ρ' => fin ρ0 (.n d) ρ'
  | .ok .nx ρ' => fin ρ0 (.v .non) ρ'
  | .exc e ρ' => match x, outs ρ0 ρ' with
    | true, some cs => .exc e cs
    | _, _ => .bad
  | _ => .bad
/-- no exception leaves -/
def NoX (m : Mf) : Prop := ∀ ρ0 e cs, m ρ0 ≠ .exc e cs
theorem fin_nox {ρ0 ρ' : En} {r : Rt} {e : Ex} {cs : En} : fin ρ0 r ρ' ≠ .exc e cs := by
  unfold fin
  split <;> exact fun z => nomatch z
theorem run_nox {n : Nat} {g : En → Out Fl} : NoX (run false n g) := by
  intro ρ0 e cs
  unfold run
  split
  · exact fin_nox
  · exact fin_nox
  · exact fin_nox
  · exact fun z => nomatch z
  · exact fun z => nomatch z

/-- what is lent holds what cs tells -/
def CtOk (G : Pm) (W : Addr → Prop) (a0 : List (Option Addr)) (H : Hp) (cs : En) : Prop := ∀ (i : Nat) a, a0[i]? = some (some a) → ∃ c, cs[i]? = some (.bor c) ∧ Own G W H a c
def noOwn (ρ0 : En) : Prop := ∀ (i : Nat) (d : D), ρ0[i]? ≠ some (Sl.own d)
/-- the promise; x: an exception may leave -/
def spM (x : Bool) (G : Pm) (np : Nat) (m : Mf) : Sp := fun vs H Q E => vs.length = np ∧ ∃ (W0 : Addr → Prop) (a0 : List (Option Addr)) (ρ0 : En), Rel G ⟨W0, a0, H⟩ a0 (vs.map some) H ρ0 ∧ noOwn ρ0 ∧
  match m ρ0 with
  | .ok (.v d) cs => ∀ v H', Go (Ad a0) H (Ad a0) H' → CtOk G (Wu W0 (Ad a0)) a0 H' cs → Rep G (Wu W0 (Ad a0)) H' v d → Q v H'
  | .ok (.n d) cs => ∀ a H', Go (Ad a0) H (Ad a0) H' → H a = none → CtOk G (Wu (fun b => W0 b ∨ b = a) (Ad a0)) a0 H' cs → Own G (Wu (fun b => W0 b ∨ b = a) (Ad a0)) H' a d → Q (.ref a) H'
  | .exc e cs => x = true ∧ ∀ cls dx H', Go (Ad a0) H (Ad a0) H' → CtOk G (Wu W0 (Ad a0)) a0 H' cs → RepX G (Wu W0 (Ad a0)) H' cls dx e → E cls dx H'
  | .bad => False

section
variable {G : Pm} {W0 W W' : Addr → Prop} {a0 as : List (Option Addr)} {vs : List V} {H H' : Hp} {ρ0 ρ' cs : En} {a : Addr} {d : D} {B : Bs} {σ : L2.St}
theorem outs_len : ∀ {ρ0 ρ' cs : En}, outs ρ0 ρ' = some cs → cs.length = ρ0.length
  | [], _, _, h => by cases h; rfl
  | .bor _ :: r, .bor c :: r', cs, h => by
    simp only [outs, Option.map_eq_some_iff] at h
    obtain ⟨t, h1, rfl⟩ := h
    simp [outs_len h1]
  | .bor _ :: _, .un :: _, _, h => by simp [outs] at h
  | .bor _ :: _, .val _ :: _, _, h => by simp [outs] at h
  | .bor _ :: _, .own _ :: _, _, h => by simp [outs] at h
  | .bor _ :: _, [], _, h => by simp [outs] at h
  | .un :: r, _ :: r', cs, h => by
    simp only [outs, Option.map_eq_some_iff] at h
    obtain ⟨t, h1, rfl⟩ := h
    simp [outs_len h1]
  | .val _ :: r, _ :: r', cs, h => by
    simp only [outs, Option.map_eq_some_iff] at h
    obtain ⟨t, h1, rfl⟩ := h
    simp [outs_len h1]
  | .own _ :: r, _ :: r', cs, h => by
    simp only [outs, Option.map_eq_some_iff] at h
    obtain ⟨t, h1, rfl⟩ := h
    simp [outs_len h1]
  | .un :: _, [], _, h => by simp [outs] at h
  | .val _ :: _, [], _, h => by simp [outs] at h
  | .own _ :: _, [], _, h => by simp [outs] at h
theorem outs_get : ∀ {ρ0 ρ' cs : En} {i : Nat} {c0 : D}, outs ρ0 ρ' = some cs → ρ0[i]? = some (.bor c0) → ∃ c, cs[i]? = some (.bor c) ∧ ρ'[i]? = some (.bor c)
  | [], _, _, _, _, _, h => by simp at h
  | .bor _ :: r, .bor c :: r', cs, i, c0, h, hi => by
    simp only [outs, Option.map_eq_some_iff] at h
    obtain ⟨t, h1, rfl⟩ := h
    cases i with
    | zero => exact ⟨c, rfl, rfl⟩
    | succ i => simpa using outs_get (i := i) h1 (by simpa using hi)
  | .bor _ :: _, .un :: _, _, _, _, h, _ => by simp [outs] at h
  | .bor _ :: _, .val _ :: _, _, _, _, h, _ => by simp [outs] at h
  | .bor _ :: _, .own _ :: _, _, _, _, h, _ => by simp [outs] at h
  | .bor _ :: _, [], _, _, _, h, _ => by simp [outs] at h
  | .un :: r, _ :: r', cs, i, c0, h, hi => by
    simp only [outs, Option.map_eq_some_iff] at h
    obtain ⟨t, h1, rfl⟩ := h
    cases i with
    | zero => simp at hi
    | succ i => simpa using outs_get (i := i) h1 (by simpa using hi)
  | .val _ :: r, _ :: r', cs, i, c0, h, hi => by
    simp only [outs, Option.map_eq_some_iff] at h
    obtain ⟨t, h1, rfl⟩ := h
    cases i with
    | zero => simp at hi
    | succ i => simpa using outs_get (i := i) h1 (by simpa using hi)
  | .own _ :: r, _ :: r', cs, i, c0, h, hi => by
    simp only [outs, Option.map_eq_some_iff] at h
    obtain ⟨t, h1, rfl⟩ := h
    cases i with
    | zero => simp at hi
    | succ i => simpa using outs_get (i := i) h1 (by simpa using hi)
  | .un :: _, [], _, _, _, h, _ => by simp [outs] at h
  | .val _ :: _, [], _, _, _, h, _ => by simp [outs] at h
  | .own _ :: _, [], _, _, _, h, _ => by simp [outs] at h

/-- at a def's entry: the other names stand empty -/
theorem Rel.enter (R : Rel G ⟨W0, a0, H⟩ a0 (vs.map some) H ρ0) (N : List Str) (n : Nat) (hn : n = N.length) (hl : vs.length ≤ n) :
    Rel G ⟨W0, a0 ++ List.replicate (n - vs.length) none, H⟩ (a0 ++ List.replicate (n - vs.length) none) (L2.start N vs) H (ρ0 ++ List.replicate (n - ρ0.length) .un) := by
  have l1 : vs.length = ρ0.length := by simpa using R.l1
  have l2 := R.l2
  have mem : ∀ b, Ad (a0 ++ List.replicate (n - vs.length) none) b → Ad a0 b := fun b hb => by
    have hb : some b ∈ a0 ++ List.replicate (n - vs.length) none := hb
    rcases List.mem_append.mp hb with h | h
    · exact h
    · have := List.eq_of_mem_replicate h; cases this
  have ix : ∀ (i : Nat) b, (a0 ++ List.replicate (n - vs.length) none)[i]? = some (some b) → a0[i]? = some (some b) := fun i b h => by
    by_cases hi : i < a0.length
    · rwa [List.getElem?_append_left hi] at h
    · rw [List.getElem?_append_right (by omega)] at h
      have := List.eq_of_mem_replicate (List.mem_of_getElem? h); cases this
  have st : Stp (Wu W0 (Ad a0)) H (Wu W0 (Ad (a0 ++ List.replicate (n - vs.length) none))) H := .less fun b z => .inl (z.imp id (mem b))
  refine ⟨?_, ?_, fun i v s b h1 h2 h3 => ?_, fun i d h => ?_, fun i d b h1 h2 => ?_, fun i j b h1 h2 => R.inj i j b (ix i b h1) (ix j b h2), fun b hb => R.nw b (mem b hb), R.dom, fun b hb => hb⟩
  · unfold L2.start; simp; omega
  · simp; omega
  · by_cases hi : i < ρ0.length
    · rw [List.getElem?_append_left hi] at h2
      rw [List.getElem?_append_left (by omega)] at h3
      unfold L2.start at h1
      rw [List.getElem?_append_left (by simp; omega)] at h1
      cases R.sl i v s b h1 h2 h3 with
      | un => exact .un _
      | val x => exact .val (x.stp st)
      | own x => exact .own (x.stp st rfl)
      | bor x => exact .bor (x.stp st rfl)
    · rw [List.getElem?_append_right (by omega)] at h2
      rw [List.getElem?_append_right (by omega)] at h3
      have e2 := List.eq_of_mem_replicate (List.mem_of_getElem? h2)
      have e3 := List.eq_of_mem_replicate (List.mem_of_getElem? h3)
      subst e2 e3
      exact .un _
  · rfl
  · by_cases hi : i < ρ0.length
    · rw [List.getElem?_append_left hi] at h1
      have := R.fr i d b h1 (by rw [← ix i b h2])
      exact this
    · rw [List.getElem?_append_right (by omega)] at h1
      have e2 := List.eq_of_mem_replicate (List.mem_of_getElem? h1)
      cases e2

/-- at a def's end -/
theorem Rel.leave {k : Nat} (R0 : Rel G ⟨W0, a0, H⟩ a0 (vs.map some) H ρ0) (no : noOwn ρ0) (hB : B.pn = a0 ++ List.replicate k none) (R : Rel G B as σ H' ρ') (e : outs ρ0 ρ' = some cs) :
    (∀ b, Ad a0 b → Ad as b) ∧ ∀ (i : Nat) a, a0[i]? = some (some a) → ∃ c, cs[i]? = some (.bor c) ∧ Own G (B.W as) H' a c := by
  have key : ∀ (i : Nat) a, a0[i]? = some (some a) → as[i]? = some (some a) ∧ ∃ c, cs[i]? = some (.bor c) ∧ Own G (B.W as) H' a c := fun i a h => by
    obtain ⟨d, h1, h2, h3⟩ := R0.at_a h
    have hb : ρ0[i]? = some (.bor d) := h2.resolve_left (no i d)
    obtain ⟨c, e1, e2⟩ := outs_get e hb
    have p := R.pin i c e2
    rw [hB, List.getElem?_append_left (lt_of_get h), h] at p
    obtain ⟨c', h4, h5, h6⟩ := R.at_a p
    have : c' = c := by
      rw [e2] at h5
      rcases h5 with h5 | h5
      · cases h5
      · cases h5; rfl
    subst this
    exact ⟨p, c', e1, h6⟩
  refine ⟨fun b hb => ?_, fun i a h => (key i a h).2⟩
  obtain ⟨i, h⟩ := Ad.ix hb
  exact Ad.of (key i b h).1
theorem Own.mono (o : Own G W H a d) (h : ∀ b, W' b → W b) : Own G W' H a d := o.stp (.less fun b z => .inl (h b z)) rfl
theorem Rep.mono {v : V} (o : Rep G W H v d) (h : ∀ b, W' b → W b) : Rep G W' H v d := o.stp (.less fun b z => .inl (h b z))
end

section
variable {P : Program} {w : World} {K : PySem.W.Frag} {mg : Str → Option Value} {base : Heap}
/-- the body's outcome is the promise's -/
theorem SO.body {x : Bool} {X : Cx} {Z : WXZ} {np n : Nat} {g : En → Out Fl} {vs : List V} {H : Hp} {Q : VK} {E : XK} {N : List Str} (h : spM x X.G np (run x n g) vs H Q E) (hn : n = N.length) (hp : np ≤ n)
    (hZ : x = true → ∀ cls dx σ H, E cls dx H → Z cls dx σ H) :
    ∃ B as ρ, Rel X.G B as (L2.start N vs) H ρ ∧ SO X Z B as H { nx := fun _ H' => Q .non H', rt := Q } (g ρ) := by
  obtain ⟨hl, W0, a0, ρ0, R0, no, hm⟩ := h
  have R := R0.enter N n hn (by omega)
  refine ⟨_, _, _, R, ?_⟩
  have l1 : vs.length = ρ0.length := by simpa using R0.l1
  have memA : ∀ {b : Addr}, Ad (a0 ++ List.replicate (n - vs.length) none) b → Ad a0 b := fun {b} hb => by
    rcases List.mem_append.mp hb with h | h
    · exact h
    · have := List.eq_of_mem_replicate h; cases this
  -- what a final state gives
  have goB : ∀ {as' : List (Option Addr)} {H' : Hp}, Go (Ad (a0 ++ List.replicate (n - vs.length) none)) H (Ad as') H' → (∀ b, Ad a0 b → Ad as' b) → Go (Ad a0) H (Ad a0) H' := fun {as' H'} g hs =>
    ⟨fun b o e nb => g.keep b o e fun z => nb (memA z), fun b z => .inl z, g.grow⟩
  unfold run at hm
  cases eg : g (ρ0 ++ List.replicate (n - ρ0.length) .un) with
  | bad => rw [eg] at hm; exact hm.elim
  | exc e ρ' =>
    rw [eg] at hm
    cases x with
    | false => exact hm.elim
    | true =>
    simp only at hm
    cases eo : outs ρ0 ρ' with
    | none => rw [eo] at hm; exact hm.elim
    | some cs =>
      rw [eo] at hm
      intro cls dx as' σ' H' R' g' rx
      have hx : true = true := rfl
      have hm := hm.2
      obtain ⟨hs, hc⟩ := Rel.leave R0 no rfl R' eo
      refine hZ hx cls dx σ' H' (hm cls dx H' (goB g' hs) (fun i a h => ?_) ?_)
      · obtain ⟨c, e1, e2⟩ := hc i a h
        exact ⟨c, e1, e2.mono fun b z => z.imp id (hs b)⟩
      · obtain ⟨r1, r2⟩ := rx
        refine ⟨r1, r2.imp id fun ⟨d, vfs, q1, q2, q3, q4⟩ => ⟨d, vfs, q1, q2, q3, q4.stp (.less fun b z => .inl (z.imp id (hs b)))⟩⟩
  | ok fl ρ' =>
    rw [eg] at hm
    cases fl with
    | bk => exact hm.elim
    | ct => exact hm.elim
    | nx =>
      unfold fin at hm
      simp only at hm
      cases eo : outs ρ0 ρ' with
      | none => rw [eo] at hm; exact hm.elim
      | some cs =>
        rw [eo] at hm
        intro as' σ' H' R' g'
        obtain ⟨hs, hc⟩ := Rel.leave R0 no rfl R' eo
        refine hm .non H' (goB g' hs) (fun i a h => ?_) .non
        obtain ⟨c, e1, e2⟩ := hc i a h
        exact ⟨c, e1, e2.mono fun b z => z.imp id (hs b)⟩
    | rt d =>
      unfold fin at hm
      simp only at hm
      cases eo : outs ρ0 ρ' with
      | none => rw [eo] at hm; exact hm.elim
      | some cs =>
        rw [eo] at hm
        intro v as' σ' H' R' g' r
        obtain ⟨hs, hc⟩ := Rel.leave R0 no rfl R' eo
        refine hm v H' (goB g' hs) (fun i a h => ?_) (r.mono fun b z => z.imp id (hs b))
        obtain ⟨c, e1, e2⟩ := hc i a h
        exact ⟨c, e1, e2.mono fun b z => z.imp id (hs b)⟩
    | rn d =>
      unfold fin at hm
      simp only at hm
      cases eo : outs ρ0 ρ' with
      | none => rw [eo] at hm; exact hm.elim
      | some cs =>
        rw [eo] at hm
        intro a as' σ' H' R' g' na r
        obtain ⟨hs, hc⟩ := Rel.leave (B := Bs.and _ a) R0 no rfl R' eo
        refine hm a H' (goB g' hs) na (fun i b h => ?_) (r.mono fun b z => z.imp id (hs b))
        obtain ⟨c, e1, e2⟩ := hc i b h
        exact ⟨c, e1, e2.mono fun b z => z.imp id (hs b)⟩
/-- THE RULE for a def that lets no exception out -/
theorem fn_ok {x qual : Str} {st : Stmt} {f : Addr} {fd : FuncData} {N ps : List Str} {k : Nat} {g : En → Out Fl} (F : Fun K x qual st f fd) (S : FnScope N ps (defScope st)) (n np : Nat) (hn : n = N.length) (hnp : np = ps.length) (hp : np ≤ n)
    (hbody : ∀ (cdv : Value) (A : Around) (outer : List Env) (s : Shared) (H : Hp) (E : XK), Room k (A.deeper (envOfC qual (defScope st) s.heap.objs.size f cdv)) →
      DSs (cxOf CX0 P w K mg base N qual (defScope st) f cdv A outer s H E).nox (fun _ _ _ _ => False) (defBody st) g) : FnOk P w K mg base CX0 (k + 1) f fd ps (spM false ⟨K, mg⟩ np (run false n g)) := by
  refine F.ok S (fun vs H Q E h => by rw [h.1, hnp]) fun cdv A outer s H vs Q E hr h => ?_
  obtain ⟨t, p, s'⟩ := hbody cdv A outer s H E hr
  refine ⟨t, p, ?_⟩
  obtain ⟨B, as, ρ, R, q⟩ := SO.body (X := (cxOf CX0 P w K mg base N qual (defScope st) f cdv A outer s H E).nox) (Z := fun _ _ _ _ => False) h hn hp (fun z => nomatch z)
  exact s'.go R q
/-- .. for one that may raise -/
theorem fn_okX {x qual : Str} {st : Stmt} {f : Addr} {fd : FuncData} {N ps : List Str} {k : Nat} {g : En → Out Fl} (F : Fun K x qual st f fd) (S : FnScope N ps (defScope st)) (n np : Nat) (hn : n = N.length) (hnp : np = ps.length) (hp : np ≤ n)
    (hbody : ∀ (cdv : Value) (A : Around) (outer : List Env) (s : Shared) (H : Hp) (E : XK), Room k (A.deeper (envOfC qual (defScope st) s.heap.objs.size f cdv)) →
      DSs (cxOf (L2.CX P w) P w K mg base N qual (defScope st) f cdv A outer s H E) (fun cls dx _ H => E cls dx H) (defBody st) g) : FnOk P w K mg base (L2.CX P w) (k + 1) f fd ps (spM true ⟨K, mg⟩ np (run true n g)) := by
  refine F.okX S (fun vs H Q E h => by rw [h.1, hnp]) fun cdv A outer s H vs Q E hr h => ?_
  obtain ⟨t, p, s'⟩ := hbody cdv A outer s H E hr
  refine ⟨t, p, ?_⟩
  obtain ⟨B, as, ρ, R, q⟩ := SO.body (X := cxOf (L2.CX P w) P w K mg base N qual (defScope st) f cdv A outer s H E) (Z := fun cls dx _ H => E cls dx H) h hn hp (fun _ _ _ _ _ z => z)
  exact s'.go R q
end

/-! ### calls -/
/-- the arguments as the callee's slots -/
def sls (ρ : En) : List Pv → Option En
  | [] => some []
  | .v d :: r => (sls ρ r).map (.val d :: ·)
  | .b i :: r => ((ρ[i]?).bind Sl.dat).bind fun d => (sls ρ r).map (.bor d :: ·)
def lents : List Pv → List Nat
  | [] => []
  | .v _ :: r => lents r
  | .b i :: r => i :: lents r
def lk : List Pv → En → Nat → Option D
  | .b i :: ps, .bor c :: cs, j => if i = j then some c else lk ps cs j
  | _ :: ps, _ :: cs, j => lk ps cs j
  | _, _, _ => none
/-- what was lent is written back -/
def wbk (ps : List Pv) (cs : En) : Nat → En → En
  | _, [] => []
  | j, s :: r => (match lk ps cs j with
    | some c => s.put c
    | none => s) :: wbk ps cs (j + 1) r
def callM (np : Nat) (m : Mf) (ps : List Pv) (ρ : En) : Out Rt := if (lents ps).Nodup ∧ ps.length = np then match sls ρ ps with
    | some ρ0 => match m ρ0 with
      | .ok r cs => .ok r (wbk ps cs 0 ρ)
      | .exc e cs => .exc e (wbk ps cs 0 ρ)
      | .bad => .bad
    | none => .bad
  else .bad
def cCall (np : Nat) (m : Mf) (f : En → Out (List Pv)) : En → Out Pv := fun ρ => (f ρ).bind fun ps ρ1 => (callM np m ps ρ1).bind fun r ρ2 => .ok (.v r.d) ρ2
def nCall (np : Nat) (m : Mf) (f : En → Out (List Pv)) : En → Out D := fun ρ => (f ρ).bind fun ps ρ1 => (callM np m ps ρ1).bind fun r ρ2 => match r with
  | .n d => .ok d ρ2
  | .v _ => .bad

theorem wbk_get (ps : List Pv) (cs : En) : ∀ (ρ : En) (j i : Nat), (wbk ps cs j ρ)[i]? = (ρ[i]?).map fun s => match lk ps cs (j + i) with
    | some c => s.put c
    | none => s
  | [], j, i => by simp [wbk]
  | s :: r, j, 0 => by simp [wbk]
  | s :: r, j, i + 1 => by
    simp only [wbk, List.getElem?_cons_succ]
    rw [wbk_get ps cs r (j + 1) i, show j + 1 + i = j + (i + 1) by omega]
theorem wbk_len (ps : List Pv) (cs : En) : ∀ (ρ : En) (j : Nat), (wbk ps cs j ρ).length = ρ.length
  | [], _ => rfl
  | _ :: r, j => by simp [wbk, wbk_len ps cs r (j + 1)]
theorem lk_some : ∀ {ps : List Pv} {cs : En} {j : Nat} {c : D}, lk ps cs j = some c → ∃ k : Nat, ps[k]? = some (.b j) ∧ cs[k]? = some (.bor c)
  | .b i :: ps, .bor c' :: cs, j, c, h => by
    unfold lk at h
    split at h
    · rename_i e; subst e; cases h; exact ⟨0, rfl, rfl⟩
    · obtain ⟨k, h1, h2⟩ := lk_some h; exact ⟨k + 1, h1, h2⟩
  | .b i :: ps, .un :: cs, j, c, h => by obtain ⟨k, h1, h2⟩ := lk_some (ps := ps) (cs := cs) h; exact ⟨k + 1, h1, h2⟩
  | .b i :: ps, .val _ :: cs, j, c, h => by obtain ⟨k, h1, h2⟩ := lk_some (ps := ps) (cs := cs) h; exact ⟨k + 1, h1, h2⟩
  | .b i :: ps, .own _ :: cs, j, c, h => by obtain ⟨k, h1, h2⟩ := lk_some (ps := ps) (cs := cs) h; exact ⟨k + 1, h1, h2⟩
  | .v _ :: ps, s :: cs, j, c, h => by obtain ⟨k, h1, h2⟩ := lk_some (ps := ps) (cs := cs) (by cases s <;> exact h); exact ⟨k + 1, h1, h2⟩
  | [], _, _, _, h => by cases h
  | .b _ :: _, [], _, _, h => by cases h
  | .v _ :: _, [], _, _, h => by cases h
theorem lk_none : ∀ {ps : List Pv} {cs : En} {j k : Nat}, lk ps cs j = none → (∀ k : Nat, ps[k]? = some (.b j) → ∃ c, cs[k]? = some (.bor c)) → ps[k]? ≠ some (.b j)
  | [], _, _, _, _, _ => by simp
  | .b i :: ps, [], j, k, h, hc => fun e => by
    obtain ⟨c, z⟩ := hc k e
    simp at z
  | .v i :: ps, [], j, k, h, hc => fun e => by
    obtain ⟨c, z⟩ := hc k e
    simp at z
  | .b i :: ps, s :: cs, j, 0, h, hc => fun e => by
    obtain ⟨c, z⟩ := hc 0 e
    simp at z e
    subst z e
    simp [lk] at h
  | .b i :: ps, s :: cs, j, k + 1, h, hc => by
    have h' : lk ps cs j = none := by
      cases s <;> unfold lk at h
      · exact h
      · exact h
      · exact h
      · split at h
        · cases h
        · exact h
    exact lk_none (ps := ps) (cs := cs) (k := k) h' fun k' e => by simpa using hc (k' + 1) (by simpa using e)
  | .v i :: ps, s :: cs, j, 0, h, hc => by simp
  | .v i :: ps, s :: cs, j, k + 1, h, hc => lk_none (ps := ps) (cs := cs) (by cases s <;> exact h) fun k' e => by simpa using hc (k' + 1) (by simpa using e)
theorem mem_lents : ∀ {ps : List Pv} {i : Nat}, i ∈ lents ps ↔ ∃ k : Nat, ps[k]? = some (.b i)
  | [], i => by simp [lents]
  | .v _ :: ps, i => by
    simp only [lents]
    rw [mem_lents]
    exact ⟨fun ⟨k, h⟩ => ⟨k + 1, h⟩, fun ⟨k, h⟩ => by cases k with | zero => simp at h | succ k => exact ⟨k, h⟩⟩
  | .b j :: ps, i => by
    simp only [lents, List.mem_cons]
    rw [mem_lents]
    exact ⟨fun h => h.elim (fun e => ⟨0, by simp [e]⟩) fun ⟨k, h⟩ => ⟨k + 1, h⟩, fun ⟨k, h⟩ => by
      cases k with
      | zero => simp at h; exact .inl h.symm
      | succ k => exact .inr ⟨k, h⟩⟩
theorem lents_inj : ∀ {ps : List Pv} {i k k' : Nat}, (lents ps).Nodup → ps[k]? = some (.b i) → ps[k']? = some (.b i) → k = k'
  | [], _, _, _, _, h, _ => by simp at h
  | .v _ :: ps, i, 0, _, _, h, _ => by simp at h
  | .v _ :: ps, i, _, 0, _, _, h => by simp at h
  | .v _ :: ps, i, k + 1, k' + 1, n, h, h' => congrArg (· + 1) (lents_inj (ps := ps) (i := i) (k := k) (k' := k') n (by simpa using h) (by simpa using h'))
  | .b j :: ps, i, 0, 0, _, _, _ => rfl
  | .b j :: ps, i, 0, k' + 1, n, h, h' => by
    simp at h h'
    subst h
    exact absurd (mem_lents.mpr ⟨k', h'⟩) (List.nodup_cons.mp n).1
  | .b j :: ps, i, k + 1, 0, n, h, h' => by
    simp at h h'
    subst h'
    exact absurd (mem_lents.mpr ⟨k, h⟩) (List.nodup_cons.mp n).1
  | .b j :: ps, i, k + 1, k' + 1, n, h, h' => congrArg (· + 1) (lents_inj (ps := ps) (i := i) (k := k) (k' := k') (List.nodup_cons.mp n).2 (by simpa using h) (by simpa using h'))
/-- the addresses that are lent -/
def ladr (as : List (Option Addr)) : List Pv → List (Option Addr)
  | [] => []
  | .v _ :: r => none :: ladr as r
  | .b i :: r => (as[i]?).join :: ladr as r
theorem ladr_get {as : List (Option Addr)} : ∀ {ps : List Pv} {k : Nat} {a : Addr}, (ladr as ps)[k]? = some (some a) → ∃ i, ps[k]? = some (.b i) ∧ as[i]? = some (some a)
  | [], _, _, h => by simp [ladr] at h
  | .v _ :: ps, 0, _, h => by simp [ladr] at h
  | .v _ :: ps, k + 1, a, h => ladr_get (ps := ps) (k := k) (by simpa [ladr] using h)
  | .b i :: ps, 0, a, h => by
    simp only [ladr, List.getElem?_cons_zero, Option.some.injEq] at h
    refine ⟨i, rfl, ?_⟩
    cases e : as[i]? with
    | none => rw [e] at h; cases h
    | some x => rw [e] at h; simp at h; rw [h]
  | .b i :: ps, k + 1, a, h => ladr_get (ps := ps) (k := k) (by simpa [ladr] using h)
theorem ladr_of {as : List (Option Addr)} : ∀ {ps : List Pv} {k i : Nat} {a : Addr}, ps[k]? = some (.b i) → as[i]? = some (some a) → (ladr as ps)[k]? = some (some a)
  | [], _, _, _, h, _ => by simp at h
  | .v _ :: ps, 0, _, _, h, _ => by simp at h
  | .v _ :: ps, k + 1, i, a, h, h' => by simpa [ladr] using ladr_of (ps := ps) (k := k) (by simpa using h) h'
  | .b j :: ps, 0, i, a, h, h' => by simp at h; subst h; simp [ladr, h']
  | .b j :: ps, k + 1, i, a, h, h' => by simpa [ladr] using ladr_of (ps := ps) (k := k) (by simpa using h) h'
theorem ladr_len {as : List (Option Addr)} : ∀ ps : List Pv, (ladr as ps).length = ps.length
  | [] => rfl
  | .v _ :: r => by simp [ladr, ladr_len r]
  | .b _ :: r => by simp [ladr, ladr_len r]

section
variable {X : Cx} {Z : WXZ} {B : Bs} {as : List (Option Addr)} {σ : L2.St} {H H' : Hp} {ρ ρ0 cs : En}
theorem sls_ok (R : Rel X.G B as σ H ρ) : ∀ {vs : List V} {ps : List Pv} {ρ0 : En}, PvsOk X.G (B.W as) as H vs ps → sls ρ ps = some ρ0 →
    ρ0.length = vs.length ∧ vs.length = ps.length ∧ ∀ (i : Nat) v s a, (vs.map some)[i]? = some v → ρ0[i]? = some s → (ladr as ps)[i]? = some a → SlOk X.G (B.W as) H v s a ∧ ∀ d, s ≠ .own d
  | _, _, _, .nil, e => by cases e; exact ⟨rfl, rfl, fun i v s a h => by simp at h⟩
  | _, _, _, .cons (v := v) (.v h) t, e => by
    simp only [sls, Option.map_eq_some_iff] at e
    obtain ⟨r, e1, rfl⟩ := e
    obtain ⟨l1, l2, q⟩ := sls_ok R t e1
    refine ⟨by simp [l1], by simp [l2], fun i v s a h1 h2 h3 => ?_⟩
    cases i with
    | zero =>
      simp [ladr] at h1 h2 h3
      subst h1 h2 h3
      exact ⟨.val h, fun d z => nomatch z⟩
    | succ i => exact q i v s a (by simpa using h1) (by simpa using h2) (by simpa [ladr] using h3)
  | _, _, _, .cons (.b (a := a0) (i := j) h) t, e => by
    simp only [sls, Option.bind_eq_some_iff, Option.map_eq_some_iff] at e
    obtain ⟨d, ⟨s0, e0, e0'⟩, r, e1, rfl⟩ := e
    obtain ⟨l1, l2, q⟩ := sls_ok R t e1
    refine ⟨by simp [l1], by simp [l2], fun i v s a h1 h2 h3 => ?_⟩
    cases i with
    | zero =>
      simp [ladr, h] at h1 h2 h3
      subst h1 h2 h3
      obtain ⟨d', _, h5, o⟩ := R.at_a h
      have : d' = d := by
        rw [e0] at h5
        rcases h5 with h5 | h5
        · cases h5; cases e0'; rfl
        · cases h5; cases e0'; rfl
      subst this
      exact ⟨.bor o, fun d z => nomatch z⟩
    | succ i => exact q i v s a (by simpa using h1) (by simpa using h2) (by simpa [ladr] using h3)
/-- the callee's state -/
theorem Rel.lend (R : Rel X.G B as σ H ρ) {vs : List V} {ps : List Pv} (k : PvsOk X.G (B.W as) as H vs ps) (nd : (lents ps).Nodup) (e : sls ρ ps = some ρ0) :
    Rel X.G ⟨fun b => B.W as b ∧ ¬ Ad (ladr as ps) b, ladr as ps, H⟩ (ladr as ps) (vs.map some) H ρ0 ∧ noOwn ρ0 ∧ ∀ b, Wu (fun b => B.W as b ∧ ¬ Ad (ladr as ps) b) (Ad (ladr as ps)) b ↔ B.W as b := by
  obtain ⟨l1, l2, q⟩ := sls_ok R k e
  have sub : ∀ b, Ad (ladr as ps) b → Ad as b := fun b hb => by
    obtain ⟨i, h⟩ := Ad.ix hb
    obtain ⟨j, _, h2⟩ := ladr_get h
    exact Ad.of h2
  have iff : ∀ b, Wu (fun b => B.W as b ∧ ¬ Ad (ladr as ps) b) (Ad (ladr as ps)) b ↔ B.W as b := fun b =>
    ⟨fun h => h.elim (fun h => h.1) fun h => .inr (sub b h), fun h => by
      by_cases z : Ad (ladr as ps) b
      · exact .inr z
      · exact .inl ⟨h, z⟩⟩
  have st : Stp (B.W as) H (Wu (fun b => B.W as b ∧ ¬ Ad (ladr as ps) b) (Ad (ladr as ps))) H := .less fun b z => .inl ((iff b).mp z)
  have no : noOwn ρ0 := fun i d h => by
    have hv : i < (vs.map some).length := by simp [← l1]; exact lt_of_get h
    have ha : i < (ladr as ps).length := by rw [ladr_len, ← l2, ← l1]; exact lt_of_get h
    exact (q i _ _ _ (List.getElem?_eq_getElem hv) h (List.getElem?_eq_getElem ha)).2 d rfl
  refine ⟨⟨by simp [l1], by rw [ladr_len, ← l2, l1], fun i v s a h1 h2 h3 => ?_, fun i d h => rfl, fun i d a h _ => absurd h (no i d), fun i j a h1 h2 => ?_, fun a h z => z.2 h, fun b z => R.domA b z.1, fun b h => h⟩, no, iff⟩
  · cases (q i v s a h1 h2 h3).1 with
    | un => exact .un _
    | val x => exact .val (x.stp st)
    | own x => exact .own (x.stp st rfl)
    | bor x => exact .bor (x.stp st rfl)
  · obtain ⟨i', g1, g2⟩ := ladr_get h1
    obtain ⟨j', g3, g4⟩ := ladr_get h2
    have := R.inj i' j' a g2 g4
    subst this
    exact lents_inj nd g1 g3
/-- behind the call; W: B's, or with the new one -/
theorem Rel.back {B' : Bs} (R : Rel X.G B as σ H ρ) {ps : List Pv} (hpn : B'.pn = B.pn) (hHe : B'.He = B.He) (g : Go (Ad (ladr as ps)) H (Ad (ladr as ps)) H') (st : Stp (B.W as) H (B'.W as) H')
    (hp : ∀ (k i : Nat), ps[k]? = some (.b i) → ∃ a, as[i]? = some (some a)) (c : CtOk X.G (B'.W as) (ladr as ps) H' cs) (nw : ∀ a, Ad as a → ¬ B'.W0 a) (dom : ∀ b, B'.W0 b → ∃ o, H' b = some o) : Rel X.G B' as σ H' (wbk ps cs 0 ρ) := by
  have lkb : ∀ (k j : Nat), ps[k]? = some (.b j) → ∃ c, cs[k]? = some (.bor c) := fun k j h => by
    obtain ⟨a, ha⟩ := hp k j h
    obtain ⟨c, h1, _⟩ := c k a (ladr_of h ha)
    exact ⟨c, h1⟩
  refine ⟨by rw [wbk_len]; exact R.l1, by rw [wbk_len]; exact R.l2, fun j v s a h1 h2 h3 => ?_, fun j d h => ?_, fun j d a h ha => ?_, R.inj, nw, dom, fun b h => by rw [hHe]; exact R.gr b (g.grow b h)⟩
  · rw [wbk_get, Nat.zero_add] at h2
    cases es : ρ[j]? with
    | none => rw [es] at h2; cases h2
    | some s0 =>
      rw [es] at h2
      simp only [Option.map_some, Option.some.injEq] at h2
      have x := R.sl j v s0 a h1 es h3
      cases el : lk ps cs j with
      | none =>
        rw [el] at h2
        subst h2
        have ne := fun k => lk_none (k := k) el (fun k h => lkb k j h)
        have same : ∀ b, a = some b → ∀ o, H b = some o → H' b = some o := fun b eb o ho => g.keep b o ho fun z => by
          obtain ⟨k, hk⟩ := Ad.ix z
          obtain ⟨j', h5, h6⟩ := ladr_get hk
          subst eb
          have := R.inj j' j b h6 h3
          subst this
          exact ne k h5
        cases x with
        | un => exact .un _
        | val x => exact .val (x.stp st)
        | own x =>
          obtain ⟨o, ho⟩ := x.there
          exact .own (x.stp st (by rw [ho]; exact same _ rfl o ho))
        | bor x =>
          obtain ⟨o, ho⟩ := x.there
          exact .bor (x.stp st (by rw [ho]; exact same _ rfl o ho))
      | some cc =>
        rw [el] at h2
        subst h2
        obtain ⟨k, h5, h6⟩ := lk_some el
        obtain ⟨b, hb⟩ := hp k j h5
        rw [h3] at hb
        cases hb
        obtain ⟨c2, h7, h8⟩ := c k b (ladr_of h5 h3)
        rw [h6] at h7; cases h7
        cases x with
        | own x => exact .own h8
        | bor x => exact .bor h8
  · rw [hpn]
    rw [wbk_get, Nat.zero_add] at h
    cases es : ρ[j]? with
    | none => rw [es] at h; cases h
    | some s0 =>
      rw [es] at h
      simp only [Option.map_some, Option.some.injEq] at h
      cases s0 with
      | bor d0 => exact R.pin j d0 es
      | _ => (split at h) <;> cases h
  · rw [hHe]
    rw [wbk_get, Nat.zero_add] at h
    cases es : ρ[j]? with
    | none => rw [es] at h; cases h
    | some s0 =>
      rw [es] at h
      simp only [Option.map_some, Option.some.injEq] at h
      cases s0 with
      | own d0 => exact R.fr j d0 a es ha
      | _ => (split at h) <;> cases h
theorem PvsOk.bs {vs : List V} {ps : List Pv} (k : PvsOk X.G (B.W as) as H vs ps) : ∀ (j i : Nat), ps[j]? = some (.b i) → ∃ a, as[i]? = some (some a) := by
  induction k with
  | nil => intro j i h; simp at h
  | cons h t ih =>
    intro j i e
    cases j with
    | zero =>
      simp at e
      subst e
      cases h with
      | b h => exact ⟨_, h⟩
    | succ j => exact ih j i (by simpa using e)
/-- a call's promise is met: as a value -/
theorem call_v {x : Bool} {m : Mf} {np : Nat} {vs : List V} {ps : List Pv} {Q : VK} {E : XK} (R : Rel X.G B as σ H ρ) (k : PvsOk X.G (B.W as) as H vs ps)
    (q : EO X Z B as σ H (fun p _ H' => ∀ v, PvOk X.G (B.W as) as H' v p → Q v H') ((callM np m ps ρ).bind fun r ρ2 => .ok (.v r.d) ρ2)) (hE : x = true → ∀ cls dx H', Z cls dx σ H' → E cls dx H') (hx : x = false → NoX m) :
    spM x X.G np m vs H Q E := by
  unfold callM at q
  split at q
  · rename_i ndl
    obtain ⟨nd, hl⟩ := ndl
    cases es : sls ρ ps with
    | none => rw [es] at q; exact q.elim
    | some ρ0 =>
      rw [es] at q
      obtain ⟨R0, no, iff⟩ := R.lend k nd es
      obtain ⟨l1, l2, _⟩ := sls_ok R k es
      refine ⟨l2.trans hl, _, _, ρ0, R0, no, ?_⟩
      dsimp only at q
      have gA : ∀ {H' : Hp}, Go (Ad (ladr as ps)) H (Ad (ladr as ps)) H' → Go (Ad as) H (Ad as) H' := fun {H'} g => ⟨fun b o h n => g.keep b o h fun z => by
        obtain ⟨i, h⟩ := Ad.ix z
        obtain ⟨j, _, h2⟩ := ladr_get h
        exact n (Ad.of h2), fun b z => .inl z, g.grow⟩
      have stA : ∀ {H' : Hp}, Go (Ad (ladr as ps)) H (Ad (ladr as ps)) H' → Stp (B.W as) H (B.W as) H' := fun {H'} g => (gA g).stp
      have domA : ∀ {H' : Hp}, Go (Ad (ladr as ps)) H (Ad (ladr as ps)) H' → ∀ b, (∃ o, H b = some o) → ∃ o, H' b = some o := fun {H'} g b ⟨o, h⟩ => by
        cases e : H' b with
        | none => rw [g.grow b e] at h; cases h
        | some o => exact ⟨o, rfl⟩
      cases em : m ρ0 with
      | bad => rw [em] at q; exact q.elim
      | exc e cs' =>
        rw [em] at q
        dsimp only
        cases x with
        | false => exact absurd em (hx rfl ρ0 e cs')
        | true =>
          refine ⟨rfl, fun cls dx H' g c rx => hE rfl _ _ _ (q cls dx H' ?_ (gA g) ?_)⟩
          · exact R.back rfl rfl g (stA g) k.bs (fun i a h => by
              obtain ⟨c1, h1, h2⟩ := c i a h
              exact ⟨c1, h1, h2.mono fun b z => (iff b).mpr z⟩) R.nw fun b z => domA g b (R.dom b z)
          · obtain ⟨r1, r2⟩ := rx
            exact ⟨r1, r2.imp id fun ⟨d, vfs, q1, q2, q3, q4⟩ => ⟨d, vfs, q1, q2, q3, q4.stp (.less fun b z => .inl ((iff b).mpr z))⟩⟩
      | ok r cs' =>
        rw [em] at q
        cases r with
        | v d =>
          intro v H' g c rv
          refine q H' (R.back rfl rfl g (stA g) k.bs (fun i a h => ?_) R.nw fun b z => domA g b (R.dom b z)) (gA g) v (.v (rv.mono fun b z => (iff b).mpr z))
          obtain ⟨c1, h1, h2⟩ := c i a h
          exact ⟨c1, h1, h2.mono fun b z => (iff b).mpr z⟩
        | n d =>
          intro a H' g na c o
          have nB : ¬ B.W as a := fun z => by
            obtain ⟨u, e⟩ := R.domA a z
            rw [na] at e; cases e
          have sub : ∀ b, B.W as b → Wu (fun b => (B.W as b ∧ ¬ Ad (ladr as ps) b) ∨ b = a) (Ad (ladr as ps)) b := fun b z => ((iff b).mpr z).imp .inl id
          refine q H' (R.back rfl rfl g (stA g) k.bs (fun i b h => ?_) R.nw fun b z => domA g b (R.dom b z)) (gA g) (.ref a) (.v (o.rep sub nB))
          obtain ⟨c1, h1, h2⟩ := c i b h
          exact ⟨c1, h1, h2.mono sub⟩
  · exact q.elim
/-- .. as a new object -/
theorem call_n {x : Bool} {m : Mf} {np : Nat} {vs : List V} {ps : List Pv} {Q : VK} {E : XK} {Hs : Hp} (R : Rel X.G B as σ H ρ) (gs : Go (Ad as) Hs (Ad as) H) (k : PvsOk X.G (B.W as) as H vs ps)
    (q : EO X Z B as σ H (fun d ρ' H' => ∀ a H2, Rel X.G (B.and a) as σ H2 ρ' → Go (Ad as) H' (Ad as) H2 → Hs a = none → Own X.G ((B.and a).W as) H2 a d → Q (.ref a) H2) ((callM np m ps ρ).bind fun r ρ2 => match r with
      | .n d => .ok d ρ2
      | .v _ => .bad)) (hE : x = true → ∀ cls dx H', Z cls dx σ H' → E cls dx H') (hx : x = false → NoX m) :
    spM x X.G np m vs H Q E := by
  unfold callM at q
  split at q
  · rename_i ndl
    obtain ⟨nd, hl⟩ := ndl
    cases es : sls ρ ps with
    | none => rw [es] at q; exact q.elim
    | some ρ0 =>
      rw [es] at q
      obtain ⟨R0, no, iff⟩ := R.lend k nd es
      obtain ⟨l1, l2, _⟩ := sls_ok R k es
      refine ⟨l2.trans hl, _, _, ρ0, R0, no, ?_⟩
      dsimp only at q
      have gA : ∀ {H' : Hp}, Go (Ad (ladr as ps)) H (Ad (ladr as ps)) H' → Go (Ad as) H (Ad as) H' := fun {H'} g => ⟨fun b o h n => g.keep b o h fun z => by
        obtain ⟨i, h⟩ := Ad.ix z
        obtain ⟨j, _, h2⟩ := ladr_get h
        exact n (Ad.of h2), fun b z => .inl z, g.grow⟩
      have stA : ∀ {H' : Hp}, Go (Ad (ladr as ps)) H (Ad (ladr as ps)) H' → Stp (B.W as) H (B.W as) H' := fun {H'} g => (gA g).stp
      have domA : ∀ {H' : Hp}, Go (Ad (ladr as ps)) H (Ad (ladr as ps)) H' → ∀ b, (∃ o, H b = some o) → ∃ o, H' b = some o := fun {H'} g b ⟨o, h⟩ => by
        cases e : H' b with
        | none => rw [g.grow b e] at h; cases h
        | some o => exact ⟨o, rfl⟩
      cases em : m ρ0 with
      | bad => rw [em] at q; exact q.elim
      | exc e cs' =>
        rw [em] at q
        dsimp only
        cases x with
        | false => exact absurd em (hx rfl ρ0 e cs')
        | true =>
          refine ⟨rfl, fun cls dx H' g c rx => hE rfl _ _ _ (q cls dx H' ?_ (gA g) ?_)⟩
          · exact R.back rfl rfl g (stA g) k.bs (fun i a h => by
              obtain ⟨c1, h1, h2⟩ := c i a h
              exact ⟨c1, h1, h2.mono fun b z => (iff b).mpr z⟩) R.nw fun b z => domA g b (R.dom b z)
          · obtain ⟨r1, r2⟩ := rx
            exact ⟨r1, r2.imp id fun ⟨d, vfs, q1, q2, q3, q4⟩ => ⟨d, vfs, q1, q2, q3, q4.stp (.less fun b z => .inl ((iff b).mpr z))⟩⟩
      | ok r cs' =>
        rw [em] at q
        cases r with
        | v d => exact q.elim
        | n d =>
          intro a H' g na c o
          have nB : ¬ B.W as a := fun z => by
            obtain ⟨u, e⟩ := R.domA a z
            rw [na] at e; cases e
          have sub : ∀ b, (B.and a).W as b → Wu (fun b => (B.W as b ∧ ¬ Ad (ladr as ps) b) ∨ b = a) (Ad (ladr as ps)) b := fun b z => by
            rcases z with (z | z) | z
            · exact ((iff b).mpr (.inl z)).imp .inl id
            · exact .inl (.inr z)
            · exact ((iff b).mpr (.inr z)).imp .inl id
          have st : Stp (B.W as) H ((B.and a).W as) H' := fun b u e n => ⟨(stA g b u e n).1, fun z => by
            rcases z with (z | z) | z
            · exact n (.inl z)
            · subst z; rw [na] at e; cases e
            · exact n (.inr z)⟩
          have R2 : Rel X.G (B.and a) as σ H' (wbk ps cs' 0 ρ) := R.back (B' := B.and a) rfl rfl g st k.bs (fun i b h => by
              obtain ⟨c1, h1, h2⟩ := c i b h
              exact ⟨c1, h1, h2.mono sub⟩) (fun b hb z => by
              rcases z with z | z
              · exact R.nw b hb z
              · subst z; exact nB (.inr hb)) fun b z => by
              rcases z with z | z
              · exact domA g b (R.dom b z)
              · subst z; exact o.there
          exact q H' R2.less (gA g) a H' R2 .refl (gs.grow a na) (o.mono sub)
  · exact q.elim

variable {k : Nat} {f C : Addr} {fd : FuncData} {ps : List Str} {x : Str} {p pos : Pos} {e : Expr} {es : List Expr} {m : Mf} {fa : En → Out (List Pv)} {np : Nat}
theorem tCall_v {b : Bool} {E : XK} {t : TA} (s : DAt X Z t fa) (hx : b = false → NoX m) (hE : b = true → ∀ cls dx σ H', Z cls dx σ H' → E cls dx H') : DEt X Z (tCall (spM b X.G np m) [] E t) (cCall np m fa) := by
  refine ⟨fun {B as σ H ρ Q} R q => s.go R (q.bind.imp fun ps ρ1 H1 R1 g1 q1 vs k1 => ?_)⟩
  rw [List.append_nil]
  exact call_v R1 k1 q1 (fun h cls dx H' => hE h cls dx σ H') hx
theorem tCall_n {b : Bool} {E : XK} {t : TA} (s : DAt X Z t fa) (hx : b = false → NoX m) (hE : b = true → ∀ cls dx σ H', Z cls dx σ H' → E cls dx H') : DNt X Z (tCall (spM b X.G np m) [] E t) (nCall np m fa) := by
  refine ⟨fun {B as σ H ρ Q} R q => s.go R (q.bind.imp fun ps ρ1 H1 R1 g1 q1 vs k1 => ?_)⟩
  rw [List.append_nil]
  exact call_n R1 g1 k1 q1 (fun h cls dx H' => hE h cls dx σ H') hx
theorem tCallS_v {t : TA} (s : DAt X Z t fa) : DEt X Z (tCallS (spM true X.G np m) (WE Z) t) (cCall np m fa) :=
  ⟨fun {B as σ H ρ Q} R q => s.go R (q.bind.imp fun ps ρ1 H1 R1 g1 q1 vs k1 => call_v R1 k1 q1 (fun _ _ _ _ z => z) (fun z => nomatch z))⟩
theorem tCallS_n {t : TA} (s : DAt X Z t fa) : DNt X Z (tCallS (spM true X.G np m) (WE Z) t) (nCall np m fa) :=
  ⟨fun {B as σ H ρ Q} R q => s.go R (q.bind.imp fun ps ρ1 H1 R1 g1 q1 vs k1 => call_n R1 g1 k1 q1 (fun _ _ _ _ z => z) (fun z => nomatch z))⟩
/-- f(..) of a def that lets nothing out -/
theorem d_call (F : FnOk X.prog X.w X.K X.mg X.base CX0 k f fd ps (spM false X.G np m)) (hx : NoX m) (hr : Room k X.A) (hm : X.mg x = some (.ref f)) (hk : PySem.W.keepIn X.K (.ref f) = true) (hb : Binds X.K fd ps []) (ha : DA X Z (e :: es) fa)
    (hg : Gl X x := by rfl) (hdb : (x == ("__debug__" : Str)) = false := by decide) (he : starEach (e :: es) X.env = (false, eval e X.env) :: starEach es X.env := by rfl) (hpl : (backTo pos (starEach es X.env)).any (·.1) = false := by rfl) :
    DE X Z (.Call (.Name x p) (e :: es) [] pos) (cCall np m fa) := let ⟨_, p, s⟩ := ha; ⟨_, pe_call F hr hg hm hk hb .nil pass0 p hdb he hpl, tCall_v s (fun _ => hx) (fun z => nomatch z)⟩
theorem n_call (F : FnOk X.prog X.w X.K X.mg X.base CX0 k f fd ps (spM false X.G np m)) (hx : NoX m) (hr : Room k X.A) (hm : X.mg x = some (.ref f)) (hk : PySem.W.keepIn X.K (.ref f) = true) (hb : Binds X.K fd ps []) (ha : DA X Z (e :: es) fa)
    (hg : Gl X x := by rfl) (hdb : (x == ("__debug__" : Str)) = false := by decide) (he : starEach (e :: es) X.env = (false, eval e X.env) :: starEach es X.env := by rfl) (hpl : (backTo pos (starEach es X.env)).any (·.1) = false := by rfl) :
    DN X Z (.Call (.Name x p) (e :: es) [] pos) (nCall np m fa) := let ⟨_, p, s⟩ := ha; ⟨_, pe_call F hr hg hm hk hb .nil pass0 p hdb he hpl, tCall_n s (fun _ => hx) (fun z => nomatch z)⟩
/-- .. of one that may raise -/
theorem d_callX (F : FnOk X.prog X.w X.K X.mg X.base (L2.CX X.prog X.w) k f fd ps (spM true X.G np m)) (tk : Takes X Z) (hr : Room k X.A) (hm : X.mg x = some (.ref f)) (hk : PySem.W.keepIn X.K (.ref f) = true) (hb : Binds X.K fd ps []) (ha : DA X Z (e :: es) fa)
    (hg : Gl X x := by rfl) (hdb : (x == ("__debug__" : Str)) = false := by decide) (he : starEach (e :: es) X.env = (false, eval e X.env) :: starEach es X.env := by rfl) (hpl : (backTo pos (starEach es X.env)).any (·.1) = false := by rfl) :
    DE X Z (.Call (.Name x p) (e :: es) [] pos) (cCall np m fa) := let ⟨_, p, s⟩ := ha; ⟨_, pe_callS F hr hg hm hk hb (fun σ => passAt tk σ) p hdb he hpl, tCallS_v s⟩
theorem n_callX (F : FnOk X.prog X.w X.K X.mg X.base (L2.CX X.prog X.w) k f fd ps (spM true X.G np m)) (tk : Takes X Z) (hr : Room k X.A) (hm : X.mg x = some (.ref f)) (hk : PySem.W.keepIn X.K (.ref f) = true) (hb : Binds X.K fd ps []) (ha : DA X Z (e :: es) fa)
    (hg : Gl X x := by rfl) (hdb : (x == ("__debug__" : Str)) = false := by decide) (he : starEach (e :: es) X.env = (false, eval e X.env) :: starEach es X.env := by rfl) (hpl : (backTo pos (starEach es X.env)).any (·.1) = false := by rfl) :
    DN X Z (.Call (.Name x p) (e :: es) [] pos) (nCall np m fa) := let ⟨_, p, s⟩ := ha; ⟨_, pe_callS F hr hg hm hk hb (fun σ => passAt tk σ) p hdb he hpl, tCallS_n s⟩
end
end L3
namespace L3
open PySem PySem.Spec PyProof.Rows L2

/-- room for k calls, and nothing that is shown is under way -/
structure RoomG (k : Nat) (A : Around) : Prop where
  room : Room k A
  gd : A.guards = some []
theorem RoomG.mono {j k : Nat} {A : Around} (r : RoomG k A) (h : j ≤ k) : RoomG j A := ⟨r.room.mono h, r.gd⟩
theorem RoomG.deeper {k : Nat} {A : Around} (r : RoomG (k + 1) A) (env : Env) : RoomG k (A.deeper env) := ⟨r.room.deeper env, r.gd⟩
theorem RoomG.make {k : Nat} {A : Around} (r : RoomG (k + 1) A) (C : Addr) (us : List Value) (kw : List (Str × Value)) : RoomG k (A.under (.builtin "type.__call__" ⟨.ref C :: us, kw⟩)) :=
  ⟨r.room.make C us kw, by
    have e : (Code.builtin "type.__call__" ⟨.ref C :: us, kw⟩).guards = [] := by
      first | rfl | simp [Code.guards, Code.isGuard, guardIds]
    have e2 : (A.under (.builtin "type.__call__" ⟨.ref C :: us, kw⟩)).guards = pushGuards (Code.builtin "type.__call__" ⟨.ref C :: us, kw⟩).guards A.guards := rfl
    rw [e2, e, r.gd]; rfl⟩

/-- a def keeps its promise wherever nothing that is shown is under way -/
structure FnG (P : Program) (w : World) (K : PySem.W.Frag) (mg : Str → Option Value) (base : Heap) (cx : CXT) (k : Nat) (f : Addr) (fd : FuncData) (ps : List Str) (sp : Sp) : Prop where
  len : ∀ vs H Q E, sp vs H Q E → vs.length = ps.length
  run : ∀ (A : Around) (outer : List Env) (s : Shared) (H : Hp) (args : Args) (us : List Value) (vs : List V) (Q : VK) (E : XK), RoomG k A → Env0 P w K mg base A outer s H →
    BindsTo s fd args (ps.zip us) → Vals vs us → sp vs H Q E → codeAny (model P w) A (.call (.ref f) args) (CR cx outer P w H s Q E) s
section
variable {P : Program} {w : World} {K : PySem.W.Frag} {mg : Str → Option Value} {base : Heap} {cx : CXT} {f : Addr} {fd : FuncData} {ps : List Str} {sp sp' : Sp}
theorem FnG.mono {j k : Nat} (F : FnG P w K mg base cx j f fd ps sp) (h : j ≤ k) : FnG P w K mg base cx k f fd ps sp :=
  ⟨F.len, fun A outer s H args us vs Q E r => F.run A outer s H args us vs Q E (r.mono h)⟩
theorem FnG.of {k : Nat} (F : FnOk P w K mg base cx k f fd ps sp) : FnG P w K mg base cx k f fd ps sp :=
  ⟨F.len, fun A outer s H args us vs Q E r => F.run A outer s H args us vs Q E r.room⟩
theorem FnG.imp {k : Nat} (F : FnG P w K mg base cx k f fd ps sp) (h : ∀ vs H Q E, sp' vs H Q E → sp vs H Q E) : FnG P w K mg base cx k f fd ps sp' :=
  ⟨fun vs H Q E q => F.len vs H Q E (h _ _ _ _ q), fun A outer s H args us vs Q E r e b v q => F.run A outer s H args us vs Q E r e b v (h _ _ _ _ q)⟩
end
section
variable {X : Cx} {Z : WXZ} {cx : CXT} {k : Nat} {f C : Addr} {fd : FuncData} {ps : List Str} {sp : Sp} {E : L2.St → XK} {pins : List (Addr × Obj)} {σ : L2.St} {H : Hp} {s : Shared} {Q : VK} {us : List Value} {vs : List V}
/-- the callee runs -/
theorem FnG.go (F : FnG X.prog X.w X.K X.mg X.base cx k f fd ps sp) (hr : RoomG k X.A) (hb : Binds X.K fd ps []) (hx : PassesAt cx X σ (E σ)) (I : Inv X pins σ H s) (r : Vals vs us) (h : sp vs H Q (E σ)) :
    wpAny (model X.prog X.w) X.A (call (.ref f) us) (EP X pins σ Q) X.xe s := by
  have bd := hb s us I.kIn (by rw [List.append_nil, ← r.length]; exact F.len _ _ _ _ h)
  rw [List.append_nil] at bd
  refine wpAny_call (codeAny_mono (F.run X.A X.stack s H ⟨us, []⟩ us vs Q (E σ) hr I.env0 bd r h) ?_)
  intro res s2 hq
  match res, hq with
  | .error e, hq => exact hx pins H s e s2 I hq
  | .ok (.ret u), hq => exact I.after hq
  | .ok .next, hq => exact False.elim hq
  | .ok .brk, hq => exact False.elim hq
  | .ok .cont, hq => exact False.elim hq
variable {x m : Str} {p pos apos : Pos} {e o : Expr} {es : List Expr} {ta : TE} {t : TA}
theorem pg_call (F : FnG X.prog X.w X.K X.mg X.base cx k f fd ps sp) (hr : RoomG k X.A) (hg : Gl X x) (hm : X.mg x = some (.ref f)) (hk : PySem.W.keepIn X.K (.ref f) = true) (hb : Binds X.K fd ps []) (hx : ∀ σ, PassesAt cx X σ (E σ)) (ha : PA X (e :: es) t)
    (hdb : (x == ("__debug__" : Str)) = false) (he : starEach (e :: es) X.env = (false, eval e X.env) :: starEach es X.env) (hpl : (backTo pos (starEach es X.env)).any (·.1) = false) : PE X (.Call (.Name x p) (e :: es) [] pos) (tCallS sp E t) where
  run pins s σ H Q I h := wpAny_Call_Name_kw (ld_glob I hg hm (PySem.W.callWith_K (h₀ := X.base) I.ok.mod.kin hk
    (thn (ha.run pos pins s σ H _ I h) fun us s1 ⟨vs, H1, I1, r, q⟩ => ⟨I1.kIn, F.go hr hb (hx σ) I1 r q⟩) he hpl) hdb)
theorem pg_call0 (F : FnG X.prog X.w X.K X.mg X.base cx k f fd ps sp) (hr : RoomG k X.A) (hg : Gl X x) (hm : X.mg x = some (.ref f)) (hk : PySem.W.keepIn X.K (.ref f) = true) (hb : Binds X.K fd ps []) (hx : ∀ σ, PassesAt cx X σ (E σ))
    (hdb : (x == ("__debug__" : Str)) = false) : PE X (.Call (.Name x p) [] [] pos) (tCallS sp E tNil) where
  run pins s σ H Q I h := wpAny_Call_Name_kw (ld_glob I hg hm (PySem.W.callWith_K0 I.kIn hk (F.go (us := []) hr hb (hx σ) I .nil h)) hdb)
/-- o.m(e, ..) -/
def tMethS (C : Addr) (m : Str) (sp : Sp) (E : L2.St → XK) (ta : TE) (t : TA) : TE := fun σ H Q => ta σ H fun x H1 => ∃ a dx fs, x = .ref a ∧ H1 a = some (.ins C dx fs) ∧ fs.lookup m = none ∧ t σ H1 fun vs H2 => sp (x :: vs) H2 Q (E σ)
theorem pg_meth {pl : Sem Bool} (he : PE X o ta) (c : Cls X.K C) (hm : Meth X.K C m f) (F : FnG X.prog X.w X.K X.mg X.base cx k f fd ps sp) (hr : RoomG k X.A) (hb : Binds X.K fd ps []) (hx : ∀ σ, PassesAt cx X σ (E σ)) (ha : PA X (e :: es) t)
    (hst : starEach (e :: es) X.env = (false, eval e X.env) :: starEach es X.env) (hpl : (backTo pos (starEach es X.env)).any (·.1) = false)
    (ht : eval (.Call (.Attribute o m apos) (e :: es) [] pos) X.env = (do
      let ov ← eval o X.env
      standAt apos.atName
      let (f, first) ← holding [ov] (getMethod ov m pl)
      callWith pos f first (backTo pos (starEach (e :: es) X.env)) (backToKw pos (keywordEach [] X.env)))) :
    PE X (.Call (.Attribute o m apos) (e :: es) [] pos) (tMethS C m sp E ta t) := by
  constructor
  intro pins s σ H Q I h
  refine PySem.W.methodCall_KW (pl := pl) (thn (he.run pins s σ H _ I h) ?_) ht
  rintro u s1 ⟨x, H1, I1, rx, a, dx, fs, ex, ea, l, q⟩
  subst ex
  obtain rfl : u = Value.ref a := rx
  refine getmeth_ok I1 ea c hm l (PySem.W.callWith_K (first := [.ref a]) (h₀ := X.base) I.ok.mod.kin hm.kp (thn (ha.run pos pins s1 σ H1 _ I1 q) ?_) hst hpl)
  exact fun us s2 ⟨vs, H2, I2, r, q2⟩ => ⟨I2.kIn, F.go (us := .ref a :: us) (vs := .ref a :: vs) hr hb (hx σ) I2 (.cons rfl r) q2⟩
theorem pg_meth0 {pl : Sem Bool} (he : PE X o ta) (c : Cls X.K C) (hm : Meth X.K C m f) (F : FnG X.prog X.w X.K X.mg X.base cx k f fd ps sp) (hr : RoomG k X.A) (hb : Binds X.K fd ps []) (hx : ∀ σ, PassesAt cx X σ (E σ))
    (ht : eval (.Call (.Attribute o m apos) [] [] pos) X.env = (do
      let ov ← eval o X.env
      standAt apos.atName
      let (f, first) ← holding [ov] (getMethod ov m pl)
      callWith pos f first (backTo pos (starEach [] X.env)) (backToKw pos (keywordEach [] X.env)))) :
    PE X (.Call (.Attribute o m apos) [] [] pos) (tMethS C m sp E ta tNil) := by
  constructor
  intro pins s σ H Q I h
  refine PySem.W.methodCall_KW (pl := pl) (thn (he.run pins s σ H _ I h) ?_) ht
  rintro u s1 ⟨x, H1, I1, rx, a, dx, fs, ex, ea, l, q⟩
  subst ex
  obtain rfl : u = Value.ref a := rx
  exact getmeth_ok I1 ea c hm l (PySem.W.callWith_K0 (first := [.ref a]) I1.kIn hm.kp (F.go (us := [.ref a]) (vs := [.ref a]) hr hb (hx σ) I1 (.cons rfl .nil) q))
end

section
variable {P : Program} {w : World} {K : PySem.W.Frag} {mg : Str → Option Value} {base : Heap} {cx : CXT}
/-- THE RULE of a def by its body -/
theorem fnG_of {k : Nat} {f : Addr} {x qual : Str} {st : Stmt} {fd : FuncData} {N ps : List Str} {sp : Sp} (F : Fun K x qual st f fd) (S : FnScope N ps (defScope st)) (len : ∀ vs H Q E, sp vs H Q E → vs.length = ps.length)
    (hbody : ∀ (cdv : Value) (A : Around) (outer : List Env) (s : Shared) (H : Hp) (vs : List V) (Q : VK) (E : XK), RoomG k (A.deeper (envOfC qual (defScope st) s.heap.objs.size f cdv)) → sp vs H Q E →
      ∃ t, PSs (cxOf cx P w K mg base N qual (defScope st) f cdv A outer s H E) (defBody st) t ∧ t { nx := fun _ H' => Q .non H', rt := Q } (L2.start N vs) H) : FnG P w K mg base cx (k + 1) f fd ps sp := by
  obtain ⟨oc, od, kV, doc, pm, an, cdv, ct, osl, rfl, lk, hcd⟩ := F.ex
  constructor
  · exact len
  intro A outer s H args us vs Q E hr e0 hb r hsp
  have KX : K.In s.heap := e0.mod.kin.keeps fun b o e => (e0.bs b o e).1
  have lim := e0.mod.nolimit.keeps (h' := s.heap) fun b o e => (e0.bs b o e).1
  have kinds : ∀ y ∈ ps.zip us, (defScope st).names.lookup y.1 = some .local ∨ ((defScope st).names.lookup y.1 = some .cell ∧ ((cellsFrom (s.heap.objs.size + 1) (defScope st).names []).lookup y.1).isSome = true) := by
    rintro ⟨n, v⟩ hy
    exact (S.par n (List.of_mem_zip hy).1).imp id fun q => ⟨q, PySem.W.cellsFrom_some _ _ _ (.inl q)⟩
  refine codeAny_call_function hr.room.depth (KX _ _ lk) rfl S.co S.gen rfl (PySem.W.codeRec_of KX hcd) (hb _ _ _ _ (wpAny_newFunctionEnv_cells S.kind kinds fun env he s1 hx => ?_))
  subst he
  refine ⟨lim.keeps hx.toInCall.keep, codeAny_func ?_⟩
  obtain ⟨t, ht, hq⟩ := hbody cdv A outer s H vs Q E (hr.deeper _) hsp
  have I := inv_start (CX := cx) (N := N) (E := E) S hr.room.hd e0 (len _ _ _ _ hsp) r hx
  refine wpAny_mono (ht.run [] s1 (L2.start N vs) H _ I hq) ?_ fun e s' hs => hs
  intro fl s' hs
  match fl, hs with
  | .ret u, ⟨v, σ', H', J, rv, q⟩ => exact ⟨v, H', J.os, J.bare, J.base, J.hok, rv, q⟩
  | .next, ⟨σ', H', J, q⟩ => exact ⟨V.non, H', J.os, J.bare, J.base, J.hok, rfl, q⟩
  | .brk, ⟨_, _, _, q⟩ => exact False.elim q
  | .cont, ⟨_, _, _, q⟩ => exact False.elim q
theorem fg_ok {x qual : Str} {st : Stmt} {f : Addr} {fd : FuncData} {N ps : List Str} {k : Nat} {g : En → Out Fl} (F : Fun K x qual st f fd) (S : FnScope N ps (defScope st)) (n np : Nat) (hn : n = N.length) (hnp : np = ps.length) (hp : np ≤ n)
    (hbody : ∀ (cdv : Value) (A : Around) (outer : List Env) (s : Shared) (H : Hp) (E : XK), RoomG k (A.deeper (envOfC qual (defScope st) s.heap.objs.size f cdv)) →
      DSs (cxOf CX0 P w K mg base N qual (defScope st) f cdv A outer s H E).nox (fun _ _ _ _ => False) (defBody st) g) : FnG P w K mg base CX0 (k + 1) f fd ps (spM false ⟨K, mg⟩ np (run false n g)) := by
  refine fnG_of F S (fun vs H Q E h => by rw [h.1, hnp]) fun cdv A outer s H vs Q E hr h => ?_
  obtain ⟨t, p, s'⟩ := hbody cdv A outer s H E hr
  obtain ⟨B, as, ρ, R, q⟩ := SO.body (X := (cxOf CX0 P w K mg base N qual (defScope st) f cdv A outer s H E).nox) (Z := fun _ _ _ _ => False) h hn hp (fun z => nomatch z)
  exact ⟨t, p.nox, s'.go R q⟩
theorem fg_okX {x qual : Str} {st : Stmt} {f : Addr} {fd : FuncData} {N ps : List Str} {k : Nat} {g : En → Out Fl} (F : Fun K x qual st f fd) (S : FnScope N ps (defScope st)) (n np : Nat) (hn : n = N.length) (hnp : np = ps.length) (hp : np ≤ n)
    (hbody : ∀ (cdv : Value) (A : Around) (outer : List Env) (s : Shared) (H : Hp) (E : XK), RoomG k (A.deeper (envOfC qual (defScope st) s.heap.objs.size f cdv)) →
      DSs (cxOf (L2.CX P w) P w K mg base N qual (defScope st) f cdv A outer s H E) (fun cls dx _ H => E cls dx H) (defBody st) g) : FnG P w K mg base (L2.CX P w) (k + 1) f fd ps (spM true ⟨K, mg⟩ np (run true n g)) := by
  refine fnG_of F S (fun vs H Q E h => by rw [h.1, hnp]) fun cdv A outer s H vs Q E hr h => ?_
  obtain ⟨t, p, s'⟩ := hbody cdv A outer s H E hr
  obtain ⟨B, as, ρ, R, q⟩ := SO.body (X := cxOf (L2.CX P w) P w K mg base N qual (defScope st) f cdv A outer s H E) (Z := fun cls dx _ H => E cls dx H) h hn hp (fun _ _ _ _ _ z => z)
  exact ⟨t, p, s'.go R q⟩
end

section
variable {X : Cx} {Z : WXZ} {k : Nat} {f C : Addr} {fd : FuncData} {ps : List Str} {x : Str} {p pos : Pos} {e : Expr} {es : List Expr} {m : Mf} {fa : En → Out (List Pv)} {np : Nat}
theorem pass0S {σ : L2.St} {E : XK} : PassesAt CX0 X σ E := fun _ _ _ _ _ _ h => h.elim
theorem tCall0_v {t : TA} (s : DAt X Z t fa) (hx : NoX m) : DEt X Z (tCallS (spM false X.G np m) (fun _ => E0) t) (cCall np m fa) :=
  ⟨fun {B as σ H ρ Q} R q => s.go R (q.bind.imp fun ps ρ1 H1 R1 g1 q1 vs k1 => call_v R1 k1 q1 (fun z => nomatch z) fun _ => hx)⟩
theorem tCall0_n {t : TA} (s : DAt X Z t fa) (hx : NoX m) : DNt X Z (tCallS (spM false X.G np m) (fun _ => E0) t) (nCall np m fa) :=
  ⟨fun {B as σ H ρ Q} R q => s.go R (q.bind.imp fun ps ρ1 H1 R1 g1 q1 vs k1 => call_n R1 g1 k1 q1 (fun z => nomatch z) fun _ => hx)⟩
/-- what a caller knows of a def: where it stands, what it is worth (nothing is let out) -/
structure Def0 (P : Program) (w : World) (K : PySem.W.Frag) (mg : Str → Option Value) (base : Heap) (k : Nat) (x : Str) (np : Nat) (m : Mf) : Prop where
  ex : ∃ f fd ps, FnG P w K mg base CX0 k f fd ps (spM false ⟨K, mg⟩ np m) ∧ mg x = some (.ref f) ∧ PySem.W.keepIn K (.ref f) = true ∧ Binds K fd ps []
  nox : NoX m
/-- .. of one that may raise -/
structure DefX (P : Program) (w : World) (K : PySem.W.Frag) (mg : Str → Option Value) (base : Heap) (k : Nat) (x : Str) (np : Nat) (m : Mf) : Prop where
  ex : ∃ f fd ps, FnG P w K mg base (L2.CX P w) k f fd ps (spM true ⟨K, mg⟩ np m) ∧ mg x = some (.ref f) ∧ PySem.W.keepIn K (.ref f) = true ∧ Binds K fd ps []
theorem e_call (F : Def0 X.prog X.w X.K X.mg X.base k x np m) (hr : RoomG k X.A) (ha : DA X Z (e :: es) fa)
    (hg : Gl X x := by rfl) (hdb : (x == ("__debug__" : Str)) = false := by decide) (he : starEach (e :: es) X.env = (false, eval e X.env) :: starEach es X.env := by rfl) (hpl : (backTo pos (starEach es X.env)).any (·.1) = false := by rfl) :
    DE X Z (.Call (.Name x p) (e :: es) [] pos) (cCall np m fa) := by
  obtain ⟨⟨f, fd, ps, G, hm, hk, hb⟩, hx⟩ := F
  obtain ⟨_, pa, s⟩ := ha
  exact ⟨_, pg_call G hr hg hm hk hb (fun _ => pass0S) pa hdb he hpl, tCall0_v s hx⟩
theorem e_callN (F : Def0 X.prog X.w X.K X.mg X.base k x np m) (hr : RoomG k X.A) (ha : DA X Z (e :: es) fa)
    (hg : Gl X x := by rfl) (hdb : (x == ("__debug__" : Str)) = false := by decide) (he : starEach (e :: es) X.env = (false, eval e X.env) :: starEach es X.env := by rfl) (hpl : (backTo pos (starEach es X.env)).any (·.1) = false := by rfl) :
    DN X Z (.Call (.Name x p) (e :: es) [] pos) (nCall np m fa) := by
  obtain ⟨⟨f, fd, ps, G, hm, hk, hb⟩, hx⟩ := F
  obtain ⟨_, pa, s⟩ := ha
  exact ⟨_, pg_call G hr hg hm hk hb (fun _ => pass0S) pa hdb he hpl, tCall0_n s hx⟩
theorem e_callX (F : DefX X.prog X.w X.K X.mg X.base k x np m) (tk : Takes X Z) (hr : RoomG k X.A) (ha : DA X Z (e :: es) fa)
    (hg : Gl X x := by rfl) (hdb : (x == ("__debug__" : Str)) = false := by decide) (he : starEach (e :: es) X.env = (false, eval e X.env) :: starEach es X.env := by rfl) (hpl : (backTo pos (starEach es X.env)).any (·.1) = false := by rfl) :
    DE X Z (.Call (.Name x p) (e :: es) [] pos) (cCall np m fa) := by
  obtain ⟨f, fd, ps, G, hm, hk, hb⟩ := F.ex
  obtain ⟨_, pa, s⟩ := ha
  exact ⟨_, pg_call G hr hg hm hk hb (fun σ => passAt tk σ) pa hdb he hpl, tCallS_v s⟩
theorem e_callXN (F : DefX X.prog X.w X.K X.mg X.base k x np m) (tk : Takes X Z) (hr : RoomG k X.A) (ha : DA X Z (e :: es) fa)
    (hg : Gl X x := by rfl) (hdb : (x == ("__debug__" : Str)) = false := by decide) (he : starEach (e :: es) X.env = (false, eval e X.env) :: starEach es X.env := by rfl) (hpl : (backTo pos (starEach es X.env)).any (·.1) = false := by rfl) :
    DN X Z (.Call (.Name x p) (e :: es) [] pos) (nCall np m fa) := by
  obtain ⟨f, fd, ps, G, hm, hk, hb⟩ := F.ex
  obtain ⟨_, pa, s⟩ := ha
  exact ⟨_, pg_call G hr hg hm hk hb (fun σ => passAt tk σ) pa hdb he hpl, tCallS_n s⟩
end
end L3
namespace L3
open PySem PySem.Spec PyProof.Rows L2

section
variable {X : Cx} {Z : WXZ} {G : Pm} {W : Addr → Prop} {H : Hp} {v : V} {d : D}
theorem RepP.int_ {i : Int} (r : RepP G W H v (.int i)) : v = .int i := by
  cases r with
  | rep r => exact r.int_
  | own o => obtain ⟨u, e, _, c⟩ := o; cases c
theorem RepP.bl_ {i : Bool} (r : RepP G W H v (.bl i)) : v = .bl i := by
  cases r with
  | rep r => cases r with
    | bl => rfl
    | ref _ _ c => cases c
  | own o => obtain ⟨u, e, _, c⟩ := o; cases c
theorem RepP.str_ {i : Str} (r : RepP G W H v (.str i)) : v = .str i := by
  cases r with
  | rep r => cases r with
    | str => rfl
    | ref _ _ c => cases c
  | own o => obtain ⟨u, e, _, c⟩ := o; cases c
theorem RepP.non_ (r : RepP G W H v .non) : v = .non := by
  cases r with
  | rep r => cases r with
    | non => rfl
    | ref _ _ c => cases c
  | own o => obtain ⟨u, e, _, c⟩ := o; cases c
theorem Same.new {p : Addr} {o : HO} (h : H p = none) : Same H (upd H p o) := fun b u e => by rw [upd_ne (ne_of_none e h)]; exact e
theorem fresh_of (dom : ∀ b, W b → ∃ o, H b = some o) {p : Addr} (h : H p = none) : ¬ W p := fun z => by
  obtain ⟨o, e⟩ := dom p z
  rw [h] at e; cases e
theorem Rep.newTup (dom : ∀ b, W b → ∃ o, H b = some o) {p : Addr} (h : H p = none) {vs : List V} {ds : List D} (r : Reps G W H vs ds) : ∀ (ob : Obj), ob.dict = none → Rep G W (upd H p (.frz ob (.tup vs))) (.ref p) (.tup ds) := fun ob hd =>
  .ref (.inr ⟨ob, upd_same⟩) (fresh_of dom h) (.tup (r.stp (.same (Same.new h)))) ⟨ob, vs, upd_same, hd⟩
theorem Rep.newWtp (dom : ∀ b, W b → ∃ o, H b = some o) {p : Addr} (h : H p = none) {vs : List V} {ds : List D} (r : Reps G W H vs ds) : Rep G W (upd H p (.tup vs)) (.ref p) (.obj "" [] ds) :=
  .ref (.inl upd_same) (fresh_of dom h) (.wtp (r.stp (.same (Same.new h)))) trivial
theorem Rep.newLst (dom : ∀ b, W b → ∃ o, H b = some o) {p : Addr} (h : H p = none) {vs : List V} {ds : List D} (r : Reps G W H vs ds) : Rep G W (upd H p (.lst vs)) (.ref p) (.lst ds) :=
  .ref (.inl upd_same) (fresh_of dom h) (.lst (r.stp (.same (Same.new h)))) trivial

/-! ### whole numbers -/
def gI (f : Int → Int → Int) : D → D → Option D
  | .int a, .int b => some (.int (f a b))
  | _, _ => none
def gIc (c : Int → Int → Bool) (f : Int → Int → Int) : D → D → Option D
  | .int a, .int b => if c a b = true then some (.int (f a b)) else none
  | _, _ => none
def gC (f : Int → Int → Bool) : D → D → Option D
  | .int a, .int b => some (.bl (f a b))
  | _, _ => none
theorem o_I {f : Int → Int → Int} : Op2 X (rI0 fun i j => .int (f i j)) (gI f) := by
  intro W H x y a b d Q dom ha hb e q
  unfold gI at e
  split at e
  · cases e
    exact ⟨_, _, ha.int_, hb.int_, q _ H (Same.refl _) (.int _)⟩
  · cases e
theorem o_Ic {C : Int → Int → Prop} {c : Int → Int → Bool} {f : Int → Int → Int} (hc : ∀ i j, c i j = true → C i j) : Op2 X (rI C fun i j => .int (f i j)) (gIc c f) := by
  intro W H x y a b d Q dom ha hb e q
  unfold gIc at e
  split at e
  · split at e
    · rename_i h
      cases e
      exact ⟨_, _, ha.int_, hb.int_, hc _ _ h, q _ H (Same.refl _) (.int _)⟩
    · cases e
  · cases e
theorem o_C {f : Int → Int → Bool} : Op2 X (rI0 fun i j => .bl (f i j)) (gC f) := by
  intro W H x y a b d Q dom ha hb e q
  unfold gC at e
  split at e
  · cases e
    exact ⟨_, _, ha.int_, hb.int_, q _ H (Same.refl _) (.bl _)⟩
  · cases e
def gMns : D → D → Option D := gI (· - ·)
def b64 (i : Int) : Bool := decide (i.natAbs < 2 ^ 64)
theorem b64_b {i : Int} (h : b64 i = true) : -(2 ^ 64) < i ∧ i < 2 ^ 64 := by
  have := of_decide_eq_true h
  omega
def gMul : D → D → Option D := gIc (fun i j => b64 i || b64 j) (· * ·)
def gDiv : D → D → Option D := gIc (fun _ j => decide (0 < j ∧ j.natAbs < 1073741824)) (· / ·)
def gMod : D → D → Option D := gIc (fun _ j => decide (0 < j)) (· % ·)
def gPow : D → D → Option D := gIc (fun i j => decide (0 ≤ j ∧ j ≤ 1000000 ∧ i.natAbs < 2 ^ 64)) fun i j => i ^ j.toNat
variable {a b : Expr} {pos : Pos} {fa fb : En → Out Pv}
theorem e_sub (ha : DE X Z a fa) (hb : DE X Z b fb) : DE X Z (.BinOp a .Sub b pos) (c2 gMns fa fb) := d_op op_sub o_I ha hb
theorem e_mul (ha : DE X Z a fa) (hb : DE X Z b fb) : DE X Z (.BinOp a .Mult b pos) (c2 gMul fa fb) := d_op op_mul (o_Ic fun i j h => by
  rw [Bool.or_eq_true] at h
  exact h.imp b64_b b64_b) ha hb
theorem e_div (ha : DE X Z a fa) (hb : DE X Z b fb) : DE X Z (.BinOp a .FloorDiv b pos) (c2 gDiv fa fb) := d_op op_fdiv (o_Ic fun i j h => by have h := of_decide_eq_true h; exact ⟨h.1, by omega⟩) ha hb
theorem e_mod (ha : DE X Z a fa) (hb : DE X Z b fb) : DE X Z (.BinOp a .Mod b pos) (c2 gMod fa fb) := d_op op_mod (o_Ic fun i j h => of_decide_eq_true h) ha hb
theorem e_pow (ha : DE X Z a fa) (hb : DE X Z b fb) : DE X Z (.BinOp a .Pow b pos) (c2 gPow fa fb) := d_op op_pow (o_Ic fun i j h => of_decide_eq_true h) ha hb
def gNeg : D → Option D
  | .int a => some (.int (-a))
  | _ => none
theorem e_neg (ha : DE X Z a fa) : DE X Z (.UnaryOp .USub a pos) (c1 gNeg fa) := d_un un_neg (fun {W H x a d Q} dom ha e q => by
  unfold gNeg at e
  split at e
  · cases e
    exact ⟨_, ha.int_, q _ H (Same.refl _) (.int _)⟩
  · cases e) ha
/-! comparisons: ints, texts -/
def gLt : D → D → Option D
  | .int a, .int b => some (.bl (decide (a < b)))
  | .str a, .str b => some (.bl (decide (a.cps.toList < b.cps.toList)))
  | _, _ => none
def gLe : D → D → Option D := gC fun i j => decide (i ≤ j)
def gGt : D → D → Option D := gC fun i j => decide (j < i)
def gGe : D → D → Option D := gC fun i j => decide (j ≤ i)
theorem o_Lt : ∃ r, OpR X (compareOp .Lt) r ∧ Op2 X r gLt := ⟨_, op_lt.or op_lt_str, fun {W H x y a b d Q} dom ha hb e q => by
  unfold gLt at e
  split at e
  · cases e; exact .inl ⟨_, _, ha.int_, hb.int_, q _ H (Same.refl _) (.bl _)⟩
  · cases e; exact .inr ⟨_, _, ha.str_, hb.str_, q _ H (Same.refl _) (.bl _)⟩
  · cases e⟩
theorem e_lt (ha : DE X Z a fa) (hb : DE X Z b fb) : DE X Z (.Compare a [.Lt] [b] pos) (c2 gLt fa fb) := let ⟨_, o, h⟩ := o_Lt (X := X); d_cmp o h ha hb (nomark _)
theorem t_lt (ha : DE X Z a fa) (hb : DE X Z b fb) : DT X Z (.Compare a [.Lt] [b] pos) (cB (c2 gLt fa fb)) := let ⟨_, o, h⟩ := o_Lt (X := X); t_cmp o h ha hb (nomark _)
theorem e_le (ha : DE X Z a fa) (hb : DE X Z b fb) : DE X Z (.Compare a [.LtE] [b] pos) (c2 gLe fa fb) := d_cmp op_le o_C ha hb (nomark _)
theorem t_le (ha : DE X Z a fa) (hb : DE X Z b fb) : DT X Z (.Compare a [.LtE] [b] pos) (cB (c2 gLe fa fb)) := t_cmp op_le o_C ha hb (nomark _)
theorem e_gt (ha : DE X Z a fa) (hb : DE X Z b fb) : DE X Z (.Compare a [.Gt] [b] pos) (c2 gGt fa fb) := d_cmp op_gt o_C ha hb (nomark _)
theorem t_gt (ha : DE X Z a fa) (hb : DE X Z b fb) : DT X Z (.Compare a [.Gt] [b] pos) (cB (c2 gGt fa fb)) := t_cmp op_gt o_C ha hb (nomark _)
theorem e_ge (ha : DE X Z a fa) (hb : DE X Z b fb) : DE X Z (.Compare a [.GtE] [b] pos) (c2 gGe fa fb) := d_cmp op_ge o_C ha hb (nomark _)
theorem t_ge (ha : DE X Z a fa) (hb : DE X Z b fb) : DT X Z (.Compare a [.GtE] [b] pos) (cB (c2 gGe fa fb)) := t_cmp op_ge o_C ha hb (nomark _)

/-! ### + : ints, texts, tuples, lists -/
theorem op_catL : OpR X (binaryOp .Add) (fun x y H Q => ∃ l b xs zs, x = .ref l ∧ y = .ref b ∧ Rd H l (.lst xs) ∧ Rd H b (.lst zs) ∧ xs.length + zs.length ≤ sizeLine ∧ ∀ p, H p = none → Q (.ref p) (upd H p (.lst (xs ++ zs)))) := by
  rintro pins s σ H x y v u Q I rx ry ⟨l, b, xs, zs, rfl, rfl, hH, hB, hz, q⟩
  cases rx
  cases ry
  obtain ⟨_, its, n, r, e⟩ := hH.ok I.hok
  obtain ⟨_, its2, n2, r2, e2⟩ := hB.ok I.hok
  have l1 := r.length
  have l2 := r2.length
  refine PySem.P.add_list e e2 ?_ (by rw [List.size_toArray, List.size_toArray, ← l1, ← l2]; exact hz)
  have ea : its.toArray ++ its2.toArray = (its ++ its2).toArray := by simp
  rw [ea]
  exact ⟨.ref _, _, I.lnew (t' := s.toks) (r.append r2) (by rw [List.length_append]; exact hz), rfl, q _ I.fresh⟩
def gAdd : D → D → Option D
  | .int a, .int b => some (.int (a + b))
  | .str a, .str b => if a.length + b.length ≤ sizeLine then some (.str (a ++ b)) else none
  | .tup a, .tup b => if a.length + b.length ≤ sizeLine then some (.tup (a ++ b)) else none
  | .lst a, .lst b => if a.length + b.length ≤ sizeLine then some (.lst (a ++ b)) else none
  | _, _ => none
theorem o_Add : ∃ r, OpR X (binaryOp .Add) r ∧ Op2 X r gAdd := ⟨_, op_add.or (op_add_str.or (op_catS.or op_catL)), fun {W H x y a b d Q} dom ha hb e q => by
  unfold gAdd at e
  split at e
  · cases e; exact .inl ⟨_, _, ha.int_, hb.int_, q _ H (Same.refl _) (.int _)⟩
  · split at e
    · rename_i hz
      cases e; exact .inr (.inl ⟨_, _, ha.str_, hb.str_, hz, q _ H (Same.refl _) (.str _)⟩)
    · cases e
  · split at e
    · rename_i xs ys hz
      cases e
      obtain ⟨a, vs, rfl, s1, r1⟩ := ha.tup
      obtain ⟨b, ws, rfl, s2, r2⟩ := hb.tup
      refine .inr (.inr (.inl ⟨a, b, vs, ws, rfl, rfl, s1, s2, by rw [r1.length, r2.length]; exact hz, fun z => ?_, fun _ z => ?_, fun _ _ p ob hp hd => ?_⟩))
      · subst z
        cases r1
        exact q _ H (Same.refl _) hb.tupR
      · subst z
        cases r2
        rw [List.append_nil] at q
        exact q _ H (Same.refl _) ha.tupR
      · exact q _ _ (Same.new hp) (Rep.newTup dom hp (r1.append r2) ob hd)
    · cases e
  · split at e
    · rename_i hz
      cases e
      obtain ⟨a, vs, rfl, s1, r1⟩ := ha.lst
      obtain ⟨b, ws, rfl, s2, r2⟩ := hb.lst
      exact .inr (.inr (.inr ⟨a, b, vs, ws, rfl, rfl, s1, s2, by rw [r1.length, r2.length]; exact hz, fun p hp => q _ _ (Same.new hp) (Rep.newLst dom hp (r1.append r2))⟩))
    · cases e
  · cases e⟩
theorem e_add (ha : DE X Z a fa) (hb : DE X Z b fb) : DE X Z (.BinOp a .Add b pos) (c2 gAdd fa fb) := let ⟨_, o, h⟩ := o_Add (X := X); d_op o h ha hb
theorem iop_catL : OpR X (inplaceOp .Add) (rI0 fun i j => .int (i + j)) := iop_add
/-- .. a new list -/
def nCat (fa fb : En → Out Pv) : En → Out D := fun ρ => (fa ρ).bind fun p ρ1 => (fb ρ1).bind fun q ρ2 => match pvD ρ2 p, pvD ρ2 q with
  | some (.lst a), some (.lst b) => if a.length + b.length ≤ sizeLine then .ok (.lst (a ++ b)) ρ2 else .bad
  | _, _ => .bad
theorem n_cat (ha : DE X Z a fa) (hb : DE X Z b fb) : DN X Z (.BinOp a .Add b pos) (nCat fa fb) := by
  obtain ⟨_, pa, sa⟩ := ha
  obtain ⟨_, pb, sb⟩ := hb
  refine ⟨_, pe_op op_catL pa pb, ⟨fun {B as σ H ρ Q} R q => sa.go R (q.bind.imp fun p ρ1 H1 R1 g1 q1 v k1 => sb.go R1 (q1.bind.imp fun p' ρ2 H2 R2 g2 q2 u k2 => ?_))⟩⟩
  have k1 := k1.go g2
  split at q2
  · rename_i xs ys e1 e2
    split at q2
    · rename_i hz
      obtain ⟨a, vs, rfl, s1, r1⟩ := (k1.peek R2 e1).lst
      obtain ⟨b, ws, rfl, s2, r2⟩ := (k2.peek R2 e2).lst
      exact ⟨a, b, vs, ws, rfl, rfl, s1, s2, by rw [r1.length, r2.length]; exact hz, fun p hp => DNt.lay R2 hp (g1.grow p (g2.grow p hp)) True.intro (.lst (r1.append r2)) q2⟩
    · exact q2.elim
  · exact q2.elim

/-! ### lengths, items, slices -/
end
theorem Same.grow {H H' : Hp} (s : Same H H') : ∀ b, H' b = none → H b = none := fun b h => s.free h
section
variable {X : Cx} {Z : WXZ} {G : Pm} {W : Addr → Prop} {H : Hp} {v : V} {d : D} {a b : Expr} {pos p1 : Pos} {fa fb : En → Out Pv}
inductive RepPs (G : Pm) (W : Addr → Prop) (H : Hp) : List V → List D → Prop where
  | nil : RepPs G W H [] []
  | cons {v : V} {d : D} {vs : List V} {ds : List D} (h : RepP G W H v d) (t : RepPs G W H vs ds) : RepPs G W H (v :: vs) (d :: ds)
def pvDs (ρ : En) : List Pv → Option (List D)
  | [] => some []
  | p :: r => (pvD ρ p).bind fun d => (pvDs ρ r).map (d :: ·)
theorem PvsOk.peeks {B : Bs} {as : List (Option Addr)} {σ : L2.St} {ρ : En} (R : Rel X.G B as σ H ρ) : ∀ {vs : List V} {ps : List Pv} {ds : List D}, PvsOk X.G (B.W as) as H vs ps → pvDs ρ ps = some ds → RepPs X.G (B.W as) H vs ds
  | _, _, _, .nil, e => by cases e; exact .nil
  | _, _, _, .cons h t, e => by
    simp only [pvDs, Option.bind_eq_some_iff, Option.map_eq_some_iff] at e
    obtain ⟨d, e1, r, e2, rfl⟩ := e
    exact .cons (h.peek R e1) (PvsOk.peeks R t e2)
/-- a built-in's call, by data -/
def OpN (X : Cx) (r : List V → Hp → VK → Prop) (g : List D → Option D) : Prop := ∀ {W : Addr → Prop} {H : Hp} {xs : List V} {ds : List D} {d : D} {Q : VK}, (∀ b, W b → ∃ o, H b = some o) → RepPs X.G W H xs ds → g ds = some d → (∀ v H', Same H H' → Rep X.G W H' v d → Q v H') → r xs H Q
/-- .. that lays a new object -/
def OpL (X : Cx) (r : List V → Hp → VK → Prop) (g : List D → Option D) : Prop := ∀ {W : Addr → Prop} {H : Hp} {xs : List V} {ds : List D} {d : D} {Q : VK}, RepPs X.G W H xs ds → g ds = some d →
  (∀ p o, H p = none → Mut (some o) → Cont X.G W H o d → Q (.ref p) (upd H p o)) → r xs H Q
def cN (g : List D → Option D) (f : En → Out (List Pv)) : En → Out Pv := fun ρ => (f ρ).bind fun ps ρ1 => ofO ((pvDs ρ1 ps).bind g) ρ1
def nN (g : List D → Option D) (f : En → Out (List Pv)) : En → Out D := fun ρ => (f ρ).bind fun ps ρ1 => match (pvDs ρ1 ps).bind g with
  | some d => .ok d ρ1
  | none => .bad
theorem det_N {r : List V → Hp → VK → Prop} {g : List D → Option D} {t : TA} {f : En → Out (List Pv)} (hr : OpN X r g) (ha : DAt X Z t f) : DEt X Z (tCB r t) (cN g f) := by
  refine ⟨fun {B as σ H ρ Q} R q => ha.go R (q.bind.imp fun ps ρ1 H1 R1 g1 q1 vs k1 => ?_)⟩
  obtain ⟨d, e, q⟩ := q1.ofO R1
  cases ep : pvDs ρ1 ps with
  | none => rw [ep] at e; cases e
  | some ds =>
    rw [ep] at e
    exact hr R1.domA (k1.peeks R1 ep) e q
theorem dnt_N {r : List V → Hp → VK → Prop} {g : List D → Option D} {t : TA} {f : En → Out (List Pv)} (hr : OpL X r g) (ha : DAt X Z t f) : DNt X Z (tCB r t) (nN g f) := by
  refine ⟨fun {B as σ H ρ Q} R q => ha.go R (q.bind.imp fun ps ρ1 H1 R1 g1 q1 vs k1 => ?_)⟩
  cases ep : (pvDs ρ1 ps).bind g with
  | none => rw [ep] at q1; exact q1.elim
  | some d =>
    rw [ep] at q1
    simp only [Option.bind_eq_some_iff] at ep
    obtain ⟨ds, e1, e2⟩ := ep
    exact hr (k1.peeks R1 e1) e2 fun p o hp mu c => DNt.lay R1 hp (g1.grow p hp) mu c q1
variable {x : Str} {e : Expr} {es : List Expr} {f : En → Out (List Pv)} {g : List D → Option D} {r : List V → Hp → VK → Prop} {id T : String}
theorem e_blt (hc : CallR X (.builtin id) r) (hr : OpN X r g) (hm : X.mg x = none) (hv : bootBuiltins x = some (.builtin id)) (ha : DA X Z (e :: es) f) (hg : Gl X x := by rfl) (hn : x ≠ "__name__" := by decide) (hdb : (x == ("__debug__" : Str)) = false := by decide)
    (he : starEach (e :: es) X.env = (false, eval e X.env) :: starEach es X.env := by rfl) (hpl : (backTo pos (starEach es X.env)).any (·.1) = false := by rfl) : DE X Z (.Call (.Name x p1) (e :: es) [] pos) (cN g f) :=
  let ⟨_, p, s⟩ := ha; ⟨_, pe_callB hc hg hm hv p hn hdb he hpl, det_N hr s⟩
theorem e_ty (hc : CallR X (.type T) r) (hr : OpN X r g) (hm : X.mg x = none) (hv : bootBuiltins x = some (.type T)) (ha : DA X Z (e :: es) f) (hg : Gl X x := by rfl) (hn : x ≠ "__name__" := by decide) (hdb : (x == ("__debug__" : Str)) = false := by decide)
    (he : starEach (e :: es) X.env = (false, eval e X.env) :: starEach es X.env := by rfl) (hpl : (backTo pos (starEach es X.env)).any (·.1) = false := by rfl) : DE X Z (.Call (.Name x p1) (e :: es) [] pos) (cN g f) :=
  let ⟨_, p, s⟩ := ha; ⟨_, pe_callTy hc hg hm hv p hn hdb he hpl, det_N hr s⟩
theorem n_blt (hc : CallR X (.builtin id) r) (hr : OpL X r g) (hm : X.mg x = none) (hv : bootBuiltins x = some (.builtin id)) (ha : DA X Z (e :: es) f) (hg : Gl X x := by rfl) (hn : x ≠ "__name__" := by decide) (hdb : (x == ("__debug__" : Str)) = false := by decide)
    (he : starEach (e :: es) X.env = (false, eval e X.env) :: starEach es X.env := by rfl) (hpl : (backTo pos (starEach es X.env)).any (·.1) = false := by rfl) : DN X Z (.Call (.Name x p1) (e :: es) [] pos) (nN g f) :=
  let ⟨_, p, s⟩ := ha; ⟨_, pe_callB hc hg hm hv p hn hdb he hpl, dnt_N hr s⟩
theorem n_ty (hc : CallR X (.type T) r) (hr : OpL X r g) (hm : X.mg x = none) (hv : bootBuiltins x = some (.type T)) (ha : DA X Z (e :: es) f) (hg : Gl X x := by rfl) (hn : x ≠ "__name__" := by decide) (hdb : (x == ("__debug__" : Str)) = false := by decide)
    (he : starEach (e :: es) X.env = (false, eval e X.env) :: starEach es X.env := by rfl) (hpl : (backTo pos (starEach es X.env)).any (·.1) = false := by rfl) : DN X Z (.Call (.Name x p1) (e :: es) [] pos) (nN g f) :=
  let ⟨_, p, s⟩ := ha; ⟨_, pe_callTy hc hg hm hv p hn hdb he hpl, dnt_N hr s⟩
theorem RepPs.one {d : D} {vs : List V} (h : RepPs G W H vs [d]) : ∃ v, vs = [v] ∧ RepP G W H v d := by
  cases h with
  | cons h t => cases t; exact ⟨_, rfl, h⟩
theorem RepPs.two {d d2 : D} {vs : List V} (h : RepPs G W H vs [d, d2]) : ∃ v v2, vs = [v, v2] ∧ RepP G W H v d ∧ RepP G W H v2 d2 := by
  cases h with
  | cons h t => obtain ⟨v2, rfl, h2⟩ := t.one; exact ⟨_, _, rfl, h, h2⟩
/-! len -/
def gLen : List D → Option D
  | [.tup ds] => some (.int ds.length)
  | [.lst ds] => some (.int ds.length)
  | [.str x] => if x.length ≤ sizeLine then some (.int x.length) else none
  | _ => none
theorem o_len : ∃ r, CallR X (.builtin "len") r ∧ OpN X r gLen := ⟨_, call_len_seq.or call_len_str, fun {W H xs ds d Q} dom h e q => by
  unfold gLen at e
  split at e
  · cases e
    obtain ⟨v, rfl, hv⟩ := h.one
    obtain ⟨a, vs, rfl, s1, r1⟩ := hv.tup
    exact .inl ⟨a, vs, rfl, .inr s1, by rw [r1.length]; exact q _ H (Same.refl _) (.int _)⟩
  · cases e
    obtain ⟨v, rfl, hv⟩ := h.one
    obtain ⟨a, vs, rfl, s1, r1⟩ := hv.lst
    exact .inl ⟨a, vs, rfl, .inl (.inl s1), by rw [r1.length]; exact q _ H (Same.refl _) (.int _)⟩
  · split at e
    · rename_i hz
      cases e
      obtain ⟨v, rfl, hv⟩ := h.one
      exact .inr ⟨_, by rw [hv.str_], hz, q _ H (Same.refl _) (.int _)⟩
    · cases e
  · cases e⟩
theorem e_len (hm : X.mg "len" = none) (ha : DA X Z [a] f) (hg : Gl X "len" := by rfl) (he : starEach [a] X.env = (false, eval a X.env) :: starEach [] X.env := by rfl) (hpl : (backTo pos (starEach [] X.env)).any (·.1) = false := by rfl) : DE X Z (.Call (.Name "len" p1) [a] [] pos) (cN gLen f) :=
  let ⟨_, o, h⟩ := o_len (X := X); e_blt o h hm (by decide +kernel) ha hg (by decide) (by decide) he hpl
/-! items -/
def gIx : D → D → Option D
  | .tup ds, .int i => atI ds i
  | .lst ds, .int i => atI ds i
  | .str z, .int i => if z.length ≤ sizeLine then (atI z.cps.toList i).map fun c => .str ⟨#[c]⟩ else none
  | _, _ => none
theorem Reps.atI {vs : List V} {ds : List D} {i : Int} {d : D} (r : Reps G W H vs ds) (e : atI ds i = some d) : ∃ v, L2.atI vs i = some v ∧ Rep G W H v d := by
  unfold L2.atI at e ⊢
  rw [r.length]
  simp only [Option.bind_eq_some_iff] at e
  obtain ⟨j, e1, e2⟩ := e
  obtain ⟨v, h1, h2⟩ := r.get e2
  exact ⟨v, by rw [e1]; exact h1, h2⟩
theorem o_ix : ∃ r, IxR X r ∧ Op2 X r gIx := ⟨_, ix_seq, fun {W H x y a b d Q} dom ha hb e q => by
  unfold gIx at e
  split at e
  · obtain ⟨a, vs, rfl, s1, r1⟩ := ha.tup
    obtain ⟨v, h1, h2⟩ := r1.atI e
    exact .inr (.inl ⟨a, vs, _, v, rfl, hb.int_, s1, h1, q _ H (Same.refl _) h2⟩)
  · obtain ⟨a, vs, rfl, s1, r1⟩ := ha.lst
    obtain ⟨v, h1, h2⟩ := r1.atI e
    exact .inl ⟨a, vs, _, v, rfl, hb.int_, .inl s1, h1, q _ H (Same.refl _) h2⟩
  · split at e
    · rename_i hz
      simp only [Option.map_eq_some_iff] at e
      obtain ⟨c, e1, rfl⟩ := e
      exact .inr (.inr ⟨_, _, c, ha.str_, hb.int_, hz, e1, q _ H (Same.refl _) (.str _)⟩)
    · cases e
  · cases e⟩
theorem e_ix (ha : DE X Z a fa) (hb : DE X Z b fb) (hs : PlainIx b := by exact fun _ _ => rfl) : DE X Z (.Subscript a b pos) (c2 gIx fa fb) :=
  let ⟨_, o, h⟩ := o_ix (X := X); let ⟨_, pa, sa⟩ := ha; let ⟨_, pb, sb⟩ := hb; ⟨_, pe_ix o pa pb hs, det_2 h sa sb⟩
end
end L3
namespace L3
open PySem PySem.Spec PyProof.Rows L2
section
variable {X : Cx} {Z : WXZ} {G : Pm} {W : Addr → Prop} {H : Hp} {v : V} {d : D} {a b : Expr} {pos p1 : Pos} {fa fb : En → Out Pv} {f : En → Out (List Pv)}

/-! ### slices -/
def cutD {α : Type} (xs : List α) (lo hi : Option Int) : List α := (xs.drop (HT.sIx xs.length 0 lo)).take (HT.sIx xs.length xs.length hi - HT.sIx xs.length 0 lo)
theorem Reps.cut {vs : List V} {ds : List D} (r : Reps G W H vs ds) (lo hi : Option Int) : Reps G W H (cutV vs lo hi) (cutD ds lo hi) := by
  unfold cutV cutD
  rw [r.length]
  exact (r.drop _).take _
def oNone : En → Out (Option Int) := fun ρ => .ok none ρ
def oSome (f : En → Out Pv) : En → Out (Option Int) := fun ρ => (f ρ).bind fun p ρ1 => match p with
  | .v (.int i) => .ok (some i) ρ1
  | _ => .bad
structure DOt (X : Cx) (Z : WXZ) (t : TO) (f : En → Out (Option Int)) : Prop where
  go : ∀ {B : Bs} {as : List (Option Addr)} {σ : L2.St} {H : Hp} {ρ : En} {Q : Option Int → Hp → Prop}, Rel X.G B as σ H ρ → EO X Z B as σ H (fun o _ H' => Q o H') (f ρ) → t σ H Q
def DO (X : Cx) (Z : WXZ) (e : Option Expr) (f : En → Out (Option Int)) : Prop := ∃ t, PO X e t ∧ DOt X Z t f
theorem o_none : DO X Z none oNone := ⟨_, po_none, ⟨fun {B as σ H ρ Q} R q => q H R .refl⟩⟩
theorem o_some (h : DE X Z a fa) : DO X Z (some a) (oSome fa) := by
  obtain ⟨_, p, s⟩ := h
  refine ⟨_, po_some p, ⟨fun {B as σ H ρ Q} R q => s.go R (q.bind.imp fun p ρ1 H1 R1 g1 q1 v k1 => ?_)⟩⟩
  split at q1
  · rename_i i
    cases k1 with
    | v k => exact ⟨i, k.int_, q1 H1 R1 .refl⟩
  · exact q1.elim
def gSl (d : D) (lo hi : Option Int) : Option D := match d with
  | .tup ds => some (.tup (cutD ds lo hi))
  | .lst ds => some (.lst (cutD ds lo hi))
  | _ => none
def cSl (f : En → Out Pv) (l h : En → Out (Option Int)) : En → Out Pv := fun ρ => (f ρ).bind fun p ρ1 => (l ρ1).bind fun lo ρ2 => (h ρ2).bind fun hi ρ3 => ofO ((pvD ρ3 p).bind fun d => gSl d lo hi) ρ3
def nSl (f : En → Out Pv) (l h : En → Out (Option Int)) : En → Out D := fun ρ => (f ρ).bind fun p ρ1 => (l ρ1).bind fun lo ρ2 => (h ρ2).bind fun hi ρ3 => match pvD ρ3 p with
  | some (.lst ds) => .ok (.lst (cutD ds lo hi)) ρ3
  | _ => .bad
theorem cut_whole {α : Type} (xs : List α) {lo hi : Option Int} (h : HT.sIx xs.length 0 lo = 0 ∧ HT.sIx xs.length xs.length hi = xs.length) : cutD xs lo hi = xs := by
  unfold cutD
  rw [h.1, h.2]
  simp
variable {lo hi : Option Expr} {p2 : Pos} {fl fh : En → Out (Option Int)}
theorem e_sl (ha : DE X Z a fa) (hl : DO X Z lo fl) (hh : DO X Z hi fh) : DE X Z (.Subscript a (.Slice lo hi none p2) pos) (cSl fa fl fh) := by
  obtain ⟨_, pa, sa⟩ := ha
  obtain ⟨_, pl, sl⟩ := hl
  obtain ⟨_, ph, sh⟩ := hh
  refine ⟨_, pe_slice (sl_list.or sl_tupS) pa pl ph, ⟨fun {B as σ H ρ Q} R q => sa.go R (q.bind.imp fun p ρ1 H1 R1 g1 q1 v k1 => sl.go R1 (q1.bind.imp fun l ρ2 H2 R2 g2 q2 => sh.go R2 (q2.bind.imp fun u ρ3 H3 R3 g3 q3 => ?_)))⟩⟩
  obtain ⟨d, e, q⟩ := q3.ofO R3
  have k1 := (k1.go g2).go g3
  simp only [Option.bind_eq_some_iff] at e
  obtain ⟨d0, e1, e2⟩ := e
  have kp := k1.peek R3 e1
  unfold gSl at e2
  split at e2
  · rename_i ds
    cases e2
    obtain ⟨a, vs, rfl, s1, r1⟩ := kp.tup
    refine .inr ⟨a, vs, rfl, s1, fun w => ?_, fun _ p ob hp hd => q _ _ (Same.new hp) (Rep.newTup R3.domA hp (r1.cut l u) ob hd)⟩
    rw [r1.length] at w
    rw [cut_whole ds w] at q
    exact q _ H3 (Same.refl _) kp.tupR
  · cases e2
    obtain ⟨a, vs, rfl, s1, r1⟩ := kp.lst
    exact .inl ⟨a, vs, rfl, .inl s1, fun p hp => q _ _ (Same.new hp) (Rep.newLst R3.domA hp (r1.cut l u))⟩
  · cases e2
theorem n_sl (ha : DE X Z a fa) (hl : DO X Z lo fl) (hh : DO X Z hi fh) : DN X Z (.Subscript a (.Slice lo hi none p2) pos) (nSl fa fl fh) := by
  obtain ⟨_, pa, sa⟩ := ha
  obtain ⟨_, pl, sl⟩ := hl
  obtain ⟨_, ph, sh⟩ := hh
  refine ⟨_, pe_slice sl_list pa pl ph, ⟨fun {B as σ H ρ Q} R q => sa.go R (q.bind.imp fun p ρ1 H1 R1 g1 q1 v k1 => sl.go R1 (q1.bind.imp fun l ρ2 H2 R2 g2 q2 => sh.go R2 (q2.bind.imp fun u ρ3 H3 R3 g3 q3 => ?_)))⟩⟩
  have k1 := (k1.go g2).go g3
  split at q3
  · rename_i ds e1
    obtain ⟨a, vs, rfl, s1, r1⟩ := (k1.peek R3 e1).lst
    exact ⟨a, vs, rfl, .inl s1, fun p hp => DNt.lay R3 hp (g1.grow p (g2.grow p (g3.grow p hp))) True.intro (.lst (r1.cut l u)) q3⟩
  · exact q3.elim

/-! ### list(..), tuple(..) -/
def gToT : List D → Option D
  | [.tup ds] => some (.tup ds)
  | [.lst ds] => some (.tup ds)
  | _ => none
theorem o_toT : OpN X (fun xs H Q => ∃ p ys, xs = [.ref p] ∧ ((SqL X.K H p ys ∧ ∀ l (ob : Obj), H l = none → ob.dict = none → Q (.ref l) (upd H l (.frz ob (.tup ys)))) ∨ (SqT X.K H p ys ∧ Q (.ref p) H))) gToT := fun {W H xs ds d Q} dom h e q => by
  unfold gToT at e
  split at e
  · cases e
    obtain ⟨v, rfl, hv⟩ := h.one
    obtain ⟨a, vs, rfl, s1, r1⟩ := hv.tup
    exact ⟨a, vs, rfl, .inr ⟨s1, q _ H (Same.refl _) hv.tupR⟩⟩
  · cases e
    obtain ⟨v, rfl, hv⟩ := h.one
    obtain ⟨a, vs, rfl, s1, r1⟩ := hv.lst
    exact ⟨a, vs, rfl, .inl ⟨.inl s1, fun p ob hp hd => q _ _ (Same.new hp) (Rep.newTup dom hp r1 ob hd)⟩⟩
  · cases e
theorem e_toT (hm : X.mg "tuple" = none) (ha : DA X Z [a] f) (hg : Gl X "tuple" := by rfl) (he : starEach [a] X.env = (false, eval a X.env) :: starEach [] X.env := by rfl) (hpl : (backTo pos (starEach [] X.env)).any (·.1) = false := by rfl) : DE X Z (.Call (.Name "tuple" p1) [a] [] pos) (cN gToT f) :=
  e_ty call_tuple_ofS o_toT hm (by decide +kernel) ha hg (by decide) (by decide) he hpl
def gToL : List D → Option D
  | [.tup ds] => some (.lst ds)
  | [.lst ds] => some (.lst ds)
  | _ => none
theorem o_toL : OpL X (fun xs H Q => ∃ p ys, xs = [.ref p] ∧ (SqL X.K H p ys ∨ SqT X.K H p ys) ∧ ∀ l, H l = none → Q (.ref l) (upd H l (.lst ys))) gToL := fun {W H xs ds d Q} h e q => by
  unfold gToL at e
  split at e
  · cases e
    obtain ⟨v, rfl, hv⟩ := h.one
    obtain ⟨a, vs, rfl, s1, r1⟩ := hv.tup
    exact ⟨a, vs, rfl, .inr s1, fun p hp => q p _ hp True.intro (.lst r1)⟩
  · cases e
    obtain ⟨v, rfl, hv⟩ := h.one
    obtain ⟨a, vs, rfl, s1, r1⟩ := hv.lst
    exact ⟨a, vs, rfl, .inl (.inl s1), fun p hp => q p _ hp True.intro (.lst r1)⟩
  · cases e
theorem n_toL (hm : X.mg "list" = none) (ha : DA X Z [a] f) (hg : Gl X "list" := by rfl) (he : starEach [a] X.env = (false, eval a X.env) :: starEach [] X.env := by rfl) (hpl : (backTo pos (starEach [] X.env)).any (·.1) = false := by rfl) : DN X Z (.Call (.Name "list" p1) [a] [] pos) (nN gToL f) :=
  n_ty call_list_of o_toL hm (by decide +kernel) ha hg (by decide) (by decide) he hpl

/-! ### sums, greatest, least -/
def asInts : List D → Option (List Int)
  | [] => some []
  | .int i :: r => (asInts r).map (i :: ·)
  | _ :: _ => none
theorem asInts_some : ∀ {ds : List D} {ns : List Int}, asInts ds = some ns → ds = ns.map D.int
  | [], _, h => by cases h; rfl
  | .int i :: r, ns, h => by
    simp only [asInts, Option.map_eq_some_iff] at h
    obtain ⟨m, h1, rfl⟩ := h
    rw [asInts_some h1]; rfl
  | .non :: _, _, h | .bl _ :: _, _, h | .str _ :: _, _, h | .tup _ :: _, _, h | .lst _ :: _, _, h | .dic _ :: _, _, h | .dit _ :: _, _, h | .obj _ _ _ :: _, _, h | .ty _ :: _, _, h => by cases h
theorem asInts_map (ns : List Int) : asInts (ns.map D.int) = some ns := by
  induction ns with
  | nil => rfl
  | cons n r ih => simp [asInts, ih]
def maxI : List Int → Int
  | [] => 0
  | [a] => a
  | a :: r => max a (maxI r)
def minI : List Int → Int
  | [] => 0
  | [a] => a
  | a :: r => min a (minI r)
theorem maxI_cons (a b : Int) (r : List Int) : maxI (a :: b :: r) = max a (maxI (b :: r)) := rfl
theorem minI_cons (a b : Int) (r : List Int) : minI (a :: b :: r) = min a (minI (b :: r)) := rfl
theorem maxI_mem : ∀ {ns : List Int}, ns ≠ [] → maxI ns ∈ ns ∧ ∀ y ∈ ns, y ≤ maxI ns
  | [], h => absurd rfl h
  | [a], _ => by simp [maxI]
  | a :: b :: r, _ => by
    obtain ⟨h1, h2⟩ := maxI_mem (ns := b :: r) (by simp)
    rw [maxI_cons]
    refine ⟨?_, fun y hy => ?_⟩
    · rcases Int.le_total a (maxI (b :: r)) with h | h
      · rw [Int.max_eq_right h]; exact List.mem_cons_of_mem _ h1
      · rw [Int.max_eq_left h]; exact List.mem_cons_self
    · rcases List.mem_cons.mp hy with rfl | hy
      · omega
      · have := h2 y hy; omega
theorem minI_mem : ∀ {ns : List Int}, ns ≠ [] → minI ns ∈ ns ∧ ∀ y ∈ ns, minI ns ≤ y
  | [], h => absurd rfl h
  | [a], _ => by simp [minI]
  | a :: b :: r, _ => by
    obtain ⟨h1, h2⟩ := minI_mem (ns := b :: r) (by simp)
    rw [minI_cons]
    refine ⟨?_, fun y hy => ?_⟩
    · rcases Int.le_total a (minI (b :: r)) with h | h
      · rw [Int.min_eq_left h]; exact List.mem_cons_self
      · rw [Int.min_eq_right h]; exact List.mem_cons_of_mem _ h1
    · rcases List.mem_cons.mp hy with rfl | hy
      · omega
      · have := h2 y hy; omega
theorem maxI_eq {ns : List Int} {m : Int} (h : m ∈ ns) (h2 : ∀ y ∈ ns, y ≤ m) : maxI ns = m := by
  have hn : ns ≠ [] := by rintro rfl; simp at h
  obtain ⟨q1, q2⟩ := maxI_mem hn
  have := q2 m h; have := h2 _ q1; omega
theorem minI_eq {ns : List Int} {m : Int} (h : m ∈ ns) (h2 : ∀ y ∈ ns, m ≤ y) : minI ns = m := by
  have hn : ns ≠ [] := by rintro rfl; simp at h
  obtain ⟨q1, q2⟩ := minI_mem hn
  have := q2 m h; have := h2 _ q1; omega
end

section
variable {prog : Program} {w : World} {A : Around} {E : Value → Shared → Prop} {s : Shared} {t : Addr} {its : List Value} {ns : List Int} {Q : Value → Shared → Prop}
theorem ints_at (hi : IntsAre its ns) {i : Nat} {v : Value} (h : its.toArray[i]? = some v) : ∃ tk, v = .int (ns.getD i 0) tk := by
  have r := vals_of_ints hi
  rw [List.getElem?_toArray] at h
  have hl : i < ns.length := by
    have := lt_of_get h
    have := r.length
    simp at this
    omega
  obtain ⟨u, h1, h2⟩ := r.get (i := i) (x := .int ns[i]) (by simp [hl])
  rw [h] at h1; cases h1
  obtain ⟨tk, rfl⟩ := h2
  exact ⟨tk, by simp [hl]⟩
theorem preSum_getD (ns : List Int) : ∀ n, n ≤ ns.length → preSum (fun i => ns.getD i 0) n = (ns.take n).sum
  | 0, _ => by simp [preSum]
  | n + 1, h => by
    rw [preSum, preSum_getD ns n (by omega), List.take_add_one, List.sum_append]
    simp [List.getElem?_eq_getElem (show n < ns.length by omega)]
theorem iter_tup (ht : IsTup s.heap t its.toArray) {K : Value → Shared → Prop}
    (h : ∀ s₂ : Shared, s₂ = { s with heap := s.heap.push { cls := .type "tuple_iterator", data := .fields #[.ref t, .int 0 0] } } → (s₂.heap.IsTupleIter s.heap.objs.size t 0 ∧ s₂.heap.IsTuple t its.toArray) →
      (∀ b ∈ [s.heap.objs.size, t], b < s₂.heap.objs.size) → t ≠ s.heap.objs.size → K (.ref s.heap.objs.size) s₂) : wpAny (model prog w) A (pyIter (.ref t)) K E s := by
  have hlt : t < s.heap.objs.size := ht.lt
  refine wpAny_pyIter_tuple (show s.heap.IsTuple t its.toArray from ht) (h _ rfl ⟨⟨_, Heap.get?_push_size _ rfl, rfl, rfl⟩, ?_⟩ (fun b hb => ?_) (Nat.ne_of_lt hlt))
  · obtain ⟨o, e, c, n, d⟩ := ht
    exact ⟨o, Heap.get?_push_of_some _ e, c, n, d⟩
  · show b < (s.heap.push _).objs.size
    rw [Heap.size_push]
    simp only [List.mem_cons, List.not_mem_nil, or_false] at hb
    rcases hb with e | e
    · rw [e]; exact Nat.lt_succ_self _
    · rw [e]; exact Nat.lt_succ_of_lt hlt
theorem kept_tup {h' : Heap} (hk : ∀ b o, b ∉ [s.heap.objs.size, t] → (s.heap.push { cls := .type "tuple_iterator", data := .fields #[.ref t, .int 0 0] }).get? b = some o → h'.get? b = some o) (b : Addr) (o : Obj) (hb : b ≠ t) (e : s.heap.get? b = some o) : h'.get? b = some o := by
  refine hk b o (fun hm => ?_) (Heap.get?_push_of_some _ e)
  simp only [List.mem_cons, List.not_mem_nil, or_false] at hm
  rcases hm with h | h
  · exact absurd (h ▸ Heap.lt_size e) (Nat.lt_irrefl _)
  · exact hb h
theorem sum_tup (hh : A.handled = none) (ht : IsTup s.heap t its.toArray) (hi : IntsAre its ns)
    (h : ∀ h' tk t', (∀ b o, s.heap.get? b = some o → h'.get? b = some o) → Q (.int ns.sum t') { s with heap := h', toks := tk }) : wpAny (model prog w) A (call (.builtin "sum") [.ref t]) Q E s := by
  refine call_sum_walkG (iter_tup ht fun s₂ e st hfp hne => ?_)
  subst e
  refine ⟨_, _, _, _, _, _, fun i => ns.getD i 0, rfl, Walks.tuple (A := A.in1) hh _ t hne its.toArray, st, hfp, fun i v hv => ints_at hi hv, fun h' tk t' hk => ?_⟩
  have hl : its.toArray.size = ns.length := by simp [hi.length]
  rw [hl, preSum_getD ns _ (Nat.le_refl _), List.take_length]
  refine h h' tk t' fun b o e => hk b o (fun hm => ?_) (Heap.get?_push_of_some _ e)
  simp only [List.mem_cons, List.not_mem_nil, or_false] at hm
  exact absurd (hm ▸ Heap.lt_size e) (Nat.lt_irrefl _)
theorem max_tup (hh : A.handled = none) (ht : IsTup s.heap t its.toArray) (hi : IntsAre its ns) (hne : ns ≠ [])
    (h : ∀ h' tk t', (∀ b o, s.heap.get? b = some o → h'.get? b = some o) → Q (.int (maxI ns) t') { s with heap := h', toks := tk }) : wpAny (model prog w) A (call (.builtin "max") [.ref t]) Q E s := by
  refine call_max_walk (iter_tup ht fun s₂ e st hfp hne' => ?_)
  subst e
  have hl : its.toArray.size = ns.length := by simp [hi.length]
  have hp : 0 < ns.length := List.length_pos_iff.mpr hne
  refine ⟨_, _, _, _, _, _, _, rfl, Walks.tuple (A := A.in1) hh _ t hne' its.toArray, st, hfp, by omega, CmpOf.ints_gt (fun i => ns.getD i 0) fun i v hv => ints_at hi hv, fun v h' tk hP hk => ?_⟩
  obtain ⟨t', rfl⟩ := ints_at hi hP
  obtain ⟨h1, h2⟩ := argBest_gt (fun i => ns.getD i 0) (its.toArray.size - 1)
  have em : ns.getD (argBest (fun i j => decide (ns.getD i 0 > ns.getD j 0)) (its.toArray.size - 1)) 0 = maxI ns := by
    refine (maxI_eq ?_ fun y hy => ?_).symm
    · exact PySem.getD_mem (by omega)
    · obtain ⟨j, hj, rfl⟩ := mem_getD hy
      exact h2 j (by omega)
  rw [em]
  refine h h' tk t' fun b o e => hk b o (fun hm => ?_) (Heap.get?_push_of_some _ e)
  simp only [List.mem_cons, List.not_mem_nil, or_false] at hm
  exact absurd (hm ▸ Heap.lt_size e) (Nat.lt_irrefl _)
theorem min_tup (hh : A.handled = none) (ht : IsTup s.heap t its.toArray) (hi : IntsAre its ns) (hne : ns ≠ [])
    (h : ∀ h' tk t', (∀ b o, s.heap.get? b = some o → h'.get? b = some o) → Q (.int (minI ns) t') { s with heap := h', toks := tk }) : wpAny (model prog w) A (call (.builtin "min") [.ref t]) Q E s := by
  refine call_min_walk (iter_tup ht fun s₂ e st hfp hne' => ?_)
  subst e
  have hl : its.toArray.size = ns.length := by simp [hi.length]
  have hp : 0 < ns.length := List.length_pos_iff.mpr hne
  refine ⟨_, _, _, _, _, _, _, rfl, Walks.tuple (A := A.in1) hh _ t hne' its.toArray, st, hfp, by omega, CmpOf.ints_lt (fun i => ns.getD i 0) fun i v hv => ints_at hi hv, fun v h' tk hP hk => ?_⟩
  obtain ⟨t', rfl⟩ := ints_at hi hP
  obtain ⟨h1, h2⟩ := argBest_lt (fun i => ns.getD i 0) (its.toArray.size - 1)
  have em : ns.getD (argBest (fun i j => decide (ns.getD i 0 < ns.getD j 0)) (its.toArray.size - 1)) 0 = minI ns := by
    refine (minI_eq ?_ fun y hy => ?_).symm
    · exact PySem.getD_mem (by omega)
    · obtain ⟨j, hj, rfl⟩ := mem_getD hy
      exact h2 j (by omega)
  rw [em]
  refine h h' tk t' fun b o e => hk b o (fun hm => ?_) (Heap.get?_push_of_some _ e)
  simp only [List.mem_cons, List.not_mem_nil, or_false] at hm
  exact absurd (hm ▸ Heap.lt_size e) (Nat.lt_irrefl _)
end
section
variable {X : Cx} {Z : WXZ} {G : Pm} {W : Addr → Prop} {H : Hp} {v : V} {d : D} {a b : Expr} {pos p1 : Pos} {fa fb : En → Out Pv} {f : En → Out (List Pv)}
theorem cr_sumT (hc : X.calm = true) : CallR X (.builtin "sum") (fun vs H Q => ∃ (a : Addr) (ns : List Int), vs = [V.ref a] ∧ SqT X.K H a (ns.map V.int) ∧ Q (.int ns.sum) H) := by
  rintro pins s σ H vs us Q I r ⟨a, ns, rfl, hs, q⟩
  obtain ⟨its, rv, ht, _⟩ := I.tuple hs
  rw [Vals.ref1 r]
  exact sum_tup (I.ok.hd hc) ht rv.ints fun h' tk t' hk => ⟨.int _, H, I.kept hk, ⟨_, rfl⟩, q⟩
theorem cr_maxT (hc : X.calm = true) : CallR X (.builtin "max") (fun vs H Q => ∃ (a : Addr) (ns : List Int), vs = [V.ref a] ∧ SqT X.K H a (ns.map V.int) ∧ ns ≠ [] ∧ Q (.int (maxI ns)) H) := by
  rintro pins s σ H vs us Q I r ⟨a, ns, rfl, hs, hne, q⟩
  obtain ⟨its, rv, ht, _⟩ := I.tuple hs
  rw [Vals.ref1 r]
  exact max_tup (I.ok.hd hc) ht rv.ints hne fun h' tk t' hk => ⟨.int _, H, I.kept hk, ⟨_, rfl⟩, q⟩
theorem cr_minT (hc : X.calm = true) : CallR X (.builtin "min") (fun vs H Q => ∃ (a : Addr) (ns : List Int), vs = [V.ref a] ∧ SqT X.K H a (ns.map V.int) ∧ ns ≠ [] ∧ Q (.int (minI ns)) H) := by
  rintro pins s σ H vs us Q I r ⟨a, ns, rfl, hs, hne, q⟩
  obtain ⟨its, rv, ht, _⟩ := I.tuple hs
  rw [Vals.ref1 r]
  exact min_tup (I.ok.hd hc) ht rv.ints hne fun h' tk t' hk => ⟨.int _, H, I.kept hk, ⟨_, rfl⟩, q⟩
def gSum : List D → Option D
  | [.lst ds] => (asInts ds).map fun ns => .int ns.sum
  | [.tup ds] => (asInts ds).map fun ns => .int ns.sum
  | _ => none
theorem o_sum (hc : X.calm = true) : ∃ r, CallR X (.builtin "sum") r ∧ OpN X r gSum := ⟨_, (cr_sum hc).or (cr_sumT hc), fun {W H xs ds d Q} dom h e q => by
  unfold gSum at e
  split at e
  · simp only [Option.map_eq_some_iff] at e
    obtain ⟨ns, e1, rfl⟩ := e
    cases asInts_some e1
    obtain ⟨v, rfl, hv⟩ := h.one
    obtain ⟨a, vs, rfl, s1, r1⟩ := hv.lst
    rw [r1.ints] at s1
    exact .inl ⟨a, ns, rfl, .inl s1, q _ H (Same.refl _) (.int _)⟩
  · simp only [Option.map_eq_some_iff] at e
    obtain ⟨ns, e1, rfl⟩ := e
    cases asInts_some e1
    obtain ⟨v, rfl, hv⟩ := h.one
    obtain ⟨a, vs, rfl, s1, r1⟩ := hv.tup
    rw [r1.ints] at s1
    exact .inr ⟨a, ns, rfl, s1, q _ H (Same.refl _) (.int _)⟩
  · cases e⟩
theorem e_sum (hc : X.calm = true) (hm : X.mg "sum" = none) (ha : DA X Z [a] f) (hg : Gl X "sum" := by rfl) (he : starEach [a] X.env = (false, eval a X.env) :: starEach [] X.env := by rfl) (hpl : (backTo pos (starEach [] X.env)).any (·.1) = false := by rfl) : DE X Z (.Call (.Name "sum" p1) [a] [] pos) (cN gSum f) :=
  let ⟨_, o, h⟩ := o_sum (X := X) hc; e_blt o h hm (by decide +kernel) ha hg (by decide) (by decide) he hpl
def gMax : List D → Option D
  | [.int a, .int b] => some (.int (max a b))
  | [.lst ds] => (asInts ds).bind fun ns => if ns = [] then none else some (.int (maxI ns))
  | [.tup ds] => (asInts ds).bind fun ns => if ns = [] then none else some (.int (maxI ns))
  | _ => none
def gMin : List D → Option D
  | [.int a, .int b] => some (.int (min a b))
  | [.lst ds] => (asInts ds).bind fun ns => if ns = [] then none else some (.int (minI ns))
  | [.tup ds] => (asInts ds).bind fun ns => if ns = [] then none else some (.int (minI ns))
  | _ => none
theorem o_max (hc : X.calm = true) : ∃ r, CallR X (.builtin "max") r ∧ OpN X r gMax := ⟨_, (call_max2 hc).or ((cr_max hc).or (cr_maxT hc)), fun {W H xs ds d Q} dom h e q => by
  unfold gMax at e
  split at e
  · rename_i i j
    cases e
    obtain ⟨v, v2, rfl, h1, h2⟩ := h.two
    refine .inl ⟨_, _, by rw [h1.int_, h2.int_], ?_⟩
    have : (if j > i then j else i) = max i j := by rw [Int.max_def]; split <;> split <;> omega
    rw [this]
    exact q _ H (Same.refl _) (.int _)
  · simp only [Option.bind_eq_some_iff] at e
    obtain ⟨ns, e1, e2⟩ := e
    split at e2
    · cases e2
    · rename_i hn
      cases e2
      cases asInts_some e1
      obtain ⟨v, rfl, hv⟩ := h.one
      obtain ⟨a, vs, rfl, s1, r1⟩ := hv.lst
      rw [r1.ints] at s1
      exact .inr (.inl ⟨a, ns, rfl, .inl s1, List.length_pos_iff.mpr hn, fun m h1 h2 => by rw [← maxI_eq h1 h2]; exact q _ H (Same.refl _) (.int _)⟩)
  · simp only [Option.bind_eq_some_iff] at e
    obtain ⟨ns, e1, e2⟩ := e
    split at e2
    · cases e2
    · rename_i hn
      cases e2
      cases asInts_some e1
      obtain ⟨v, rfl, hv⟩ := h.one
      obtain ⟨a, vs, rfl, s1, r1⟩ := hv.tup
      rw [r1.ints] at s1
      exact .inr (.inr ⟨a, ns, rfl, s1, hn, q _ H (Same.refl _) (.int _)⟩)
  · cases e⟩
theorem o_min (hc : X.calm = true) : ∃ r, CallR X (.builtin "min") r ∧ OpN X r gMin := ⟨_, (call_min2 hc).or ((cr_min hc).or (cr_minT hc)), fun {W H xs ds d Q} dom h e q => by
  unfold gMin at e
  split at e
  · rename_i i j
    cases e
    obtain ⟨v, v2, rfl, h1, h2⟩ := h.two
    refine .inl ⟨_, _, by rw [h1.int_, h2.int_], ?_⟩
    have : (if j < i then j else i) = min i j := by rw [Int.min_def]; split <;> split <;> omega
    rw [this]
    exact q _ H (Same.refl _) (.int _)
  · simp only [Option.bind_eq_some_iff] at e
    obtain ⟨ns, e1, e2⟩ := e
    split at e2
    · cases e2
    · rename_i hn
      cases e2
      cases asInts_some e1
      obtain ⟨v, rfl, hv⟩ := h.one
      obtain ⟨a, vs, rfl, s1, r1⟩ := hv.lst
      rw [r1.ints] at s1
      exact .inr (.inl ⟨a, ns, rfl, .inl s1, List.length_pos_iff.mpr hn, fun m h1 h2 => by rw [← minI_eq h1 h2]; exact q _ H (Same.refl _) (.int _)⟩)
  · simp only [Option.bind_eq_some_iff] at e
    obtain ⟨ns, e1, e2⟩ := e
    split at e2
    · cases e2
    · rename_i hn
      cases e2
      cases asInts_some e1
      obtain ⟨v, rfl, hv⟩ := h.one
      obtain ⟨a, vs, rfl, s1, r1⟩ := hv.tup
      rw [r1.ints] at s1
      exact .inr (.inr ⟨a, ns, rfl, s1, hn, q _ H (Same.refl _) (.int _)⟩)
  · cases e⟩
theorem e_max {es : List Expr} (hc : X.calm = true) (hm : X.mg "max" = none) (ha : DA X Z (a :: es) f) (hg : Gl X "max" := by rfl) (he : starEach (a :: es) X.env = (false, eval a X.env) :: starEach es X.env := by rfl) (hpl : (backTo pos (starEach es X.env)).any (·.1) = false := by rfl) : DE X Z (.Call (.Name "max" p1) (a :: es) [] pos) (cN gMax f) :=
  let ⟨_, o, h⟩ := o_max (X := X) hc; e_blt o h hm (by decide +kernel) ha hg (by decide) (by decide) he hpl
theorem e_min {es : List Expr} (hc : X.calm = true) (hm : X.mg "min" = none) (ha : DA X Z (a :: es) f) (hg : Gl X "min" := by rfl) (he : starEach (a :: es) X.env = (false, eval a X.env) :: starEach es X.env := by rfl) (hpl : (backTo pos (starEach es X.env)).any (·.1) = false := by rfl) : DE X Z (.Call (.Name "min" p1) (a :: es) [] pos) (cN gMin f) :=
  let ⟨_, o, h⟩ := o_min (X := X) hc; e_blt o h hm (by decide +kernel) ha hg (by decide) (by decide) he hpl
/-! abs, int, bool -/
def gAbs : List D → Option D
  | [.int a] => some (.int (if a < 0 then -a else a))
  | _ => none
theorem e_abs (hm : X.mg "abs" = none) (ha : DA X Z [a] f) (hg : Gl X "abs" := by rfl) (he : starEach [a] X.env = (false, eval a X.env) :: starEach [] X.env := by rfl) (hpl : (backTo pos (starEach [] X.env)).any (·.1) = false := by rfl) : DE X Z (.Call (.Name "abs" p1) [a] [] pos) (cN gAbs f) :=
  e_blt call_abs (fun {W H xs ds d Q} dom h e q => by
    unfold gAbs at e
    split at e
    · cases e
      obtain ⟨v, rfl, hv⟩ := h.one
      exact ⟨_, by rw [hv.int_], q _ H (Same.refl _) (.int _)⟩
    · cases e) hm (by decide +kernel) ha hg (by decide) (by decide) he hpl
def gInt : List D → Option D
  | [.int a] => some (.int a)
  | [.bl a] => some (.int (if a then 1 else 0))
  | _ => none
theorem e_int (hm : X.mg "int" = none) (ha : DA X Z [a] f) (hg : Gl X "int" := by rfl) (he : starEach [a] X.env = (false, eval a X.env) :: starEach [] X.env := by rfl) (hpl : (backTo pos (starEach [] X.env)).any (·.1) = false := by rfl) : DE X Z (.Call (.Name "int" p1) [a] [] pos) (cN gInt f) :=
  e_ty call_int1 (fun {W H xs ds d Q} dom h e q => by
    unfold gInt at e
    split at e
    · cases e
      obtain ⟨v, rfl, hv⟩ := h.one
      exact .inl ⟨_, by rw [hv.int_], q _ H (Same.refl _) (.int _)⟩
    · cases e
      obtain ⟨v, rfl, hv⟩ := h.one
      exact .inr ⟨_, by rw [hv.bl_], q _ H (Same.refl _) (.int _)⟩
    · cases e) hm (by decide +kernel) ha hg (by decide) (by decide) he hpl
end
end L3
namespace L3
open PySem PySem.Spec PyProof.Rows L2

/-! ### data as the library's data -/
mutual
def py : D → PyData
  | .non => .none
  | .bl b => .bool b
  | .int i => .int i
  | .str x => .str x
  | .tup ds => .tuple (pyL ds)
  | .lst ds => .list (pyL ds)
  | _ => .none
def pyL : List D → List PyData
  | [] => []
  | d :: r => py d :: pyL r
end
mutual
def pyOk : Nat → D → Bool
  | _, .non => true
  | _, .bl _ => true
  | _, .int _ => true
  | _, .str x => PyData.strOk x
  | n + 1, .tup ds => pyOkL n ds
  | n + 1, .lst ds => pyOkL n ds
  | _, _ => false
def pyOkL : Nat → List D → Bool
  | _, [] => true
  | n, d :: r => pyOk n d && pyOkL n r
end
mutual
/-- a bound of the length of what is shown -/
def wt : D → Nat
  | .non => 4
  | .bl _ => 5
  | .int i => i.natAbs.log2 + 3
  | .str x => 10 * x.length + 2
  | .tup ds => wtL ds + 3
  | .lst ds => wtL ds + 3
  | _ => 0
def wtL : List D → Nat
  | [] => 0
  | d :: r => wt d + 2 + wtL r
end
mutual
def smallD : D → Bool
  | .int i => decide (i.natAbs.log2 < 1920)
  | .tup ds => smallL ds
  | .lst ds => smallL ds
  | _ => true
def smallL : List D → Bool
  | [] => true
  | d :: r => smallD d && smallL r
end
mutual
theorem pyOk_lay : ∀ (d : D) (n : Nat), pyOk n d = true → (py d).canLay0 = true ∧ (py d).depth ≤ n
  | .non, _, _ => by simp [py, PyData.canLay0, PyData.depth]
  | .bl _, _, _ => by simp [py, PyData.canLay0, PyData.depth]
  | .int _, _, _ => by simp [py, PyData.canLay0, PyData.depth]
  | .str x, n, h => by
    have h : PyData.strOk x = true := by cases n <;> simpa [pyOk] using h
    simp [py, PyData.canLay0, PyData.depth, h]
  | .tup ds, n, h => by
    cases n with
    | zero => simp [pyOk] at h
    | succ n =>
      obtain ⟨h1, h2⟩ := pyOkL_lay ds n (by simpa [pyOk] using h)
      simp [py, PyData.canLay0, PyData.depth, h1]; omega
  | .lst ds, n, h => by
    cases n with
    | zero => simp [pyOk] at h
    | succ n =>
      obtain ⟨h1, h2⟩ := pyOkL_lay ds n (by simpa [pyOk] using h)
      simp [py, PyData.canLay0, PyData.depth, h1]; omega
  | .dic _, n, h => by cases n <;> simp [pyOk] at h
  | .dit _, n, h => by cases n <;> simp [pyOk] at h
  | .obj _ _ _, n, h => by cases n <;> simp [pyOk] at h
  | .ty _, n, h => by cases n <;> simp [pyOk] at h
theorem pyOkL_lay : ∀ (ds : List D) (n : Nat), pyOkL n ds = true → PyData.canLayAll0 (pyL ds) = true ∧ PyData.depthAll (pyL ds) ≤ n
  | [], _, _ => by simp [pyL, PyData.canLayAll0, PyData.depthAll]
  | d :: r, n, h => by
    have h : pyOk n d = true ∧ pyOkL n r = true := by cases n <;> simpa [pyOkL] using h
    obtain ⟨h1, h2⟩ := pyOk_lay d n h.1
    obtain ⟨h3, h4⟩ := pyOkL_lay r n h.2
    simp [pyL, PyData.canLayAll0, PyData.depthAll, h1, h3]; omega
end
theorem pyOk_shaped {d : D} {n : Nat} (h : pyOk n d = true) (hn : n ≤ 64) : SeqAt.shaped (py d) = true := by
  obtain ⟨h1, h2⟩ := pyOk_lay d n h
  unfold SeqAt.shaped
  rw [h1, Bool.true_and]
  exact decide_eq_true (by omega)
section
variable {G : Pm} {W : Addr → Prop} {H : Hp}
mutual
theorem Rep.dp : ∀ {v : V} {d : D} {n : Nat}, Rep G W H v d → pyOk n d = true → Dp G.K H v (py d)
  | _, _, _, .non, _ => .non
  | _, _, _, .bl b, _ => .bl b
  | _, _, _, .int i, _ => .int i
  | _, _, _, .str x, _ => .str x
  | _, _, _, .ty _, h => by rename_i n; cases n <;> simp [pyOk] at h
  | _, _, n, .ref h w c _, e => by
    cases c with
    | tup r =>
      cases n with
      | zero => simp [pyOk] at e
      | succ n =>
        simp only [py]
        exact .tup (.inl h) (Reps.dp (n := n) r (by simpa [pyOk] using e))
    | lst r =>
      cases n with
      | zero => simp [pyOk] at e
      | succ n =>
        simp only [py]
        exact .lst (.inl h) (Reps.dp (n := n) r (by simpa [pyOk] using e))
    | dic _ _ => cases n <;> simp [pyOk] at e
    | dit _ _ => cases n <;> simp [pyOk] at e
    | obj _ _ _ => cases n <;> simp [pyOk] at e
    | wtp _ => cases n <;> simp [pyOk] at e
  | _, _, n, .tupK h r, e => by
    cases n with
    | zero => simp [pyOk] at e
    | succ n =>
      simp only [py]
      exact .tup h.sq (Reps.dp (n := n) r (by simpa [pyOk] using e))
theorem Reps.dp : ∀ {vs : List V} {ds : List D} {n : Nat}, Reps G W H vs ds → pyOkL n ds = true → DpAll G.K H vs (pyL ds)
  | _, _, _, .nil, _ => .nil
  | _, _, n, .cons h t, e => by
    have e := (Bool.and_eq_true_iff.mp (show (pyOk n _ && pyOkL n _) = true by cases n <;> simpa [pyOkL] using e))
    exact .cons (Rep.dp (n := n) h e.1) (Reps.dp (n := n) t e.2)
end
theorem RepP.dp {v : V} {d : D} {n : Nat} (r : RepP G W H v d) (e : pyOk n d = true) : Dp G.K H v (py d) := by
  cases r with
  | rep r => exact r.dp e
  | own o =>
    obtain ⟨u, h, _, c⟩ := o
    cases c with
    | tup r =>
      cases n with
      | zero => simp [pyOk] at e
      | succ n => simp only [py]; exact .tup (.inl (.inl h)) (Reps.dp (n := n) r (by simpa [pyOk] using e))
    | lst r =>
      cases n with
      | zero => simp [pyOk] at e
      | succ n => simp only [py]; exact .lst (.inl (.inl h)) (Reps.dp (n := n) r (by simpa [pyOk] using e))
    | dic _ _ => cases n <;> simp [pyOk] at e
    | dit _ _ => cases n <;> simp [pyOk] at e
    | obj _ _ _ => cases n <;> simp [pyOk] at e
    | wtp _ => cases n <;> simp [pyOk] at e
end

/-! ### == and != -/
def eqD (a b : D) : Bool := PyData.eqv (py a) (py b)
def gEq (a b : D) : Option D := match a, b with
  | .str x, .str y => some (.bl (decide (x = y)))
  | a, b => if (pyOk 60 a && pyOk 60 b) = true then some (.bl (eqD a b)) else none
def gNe (a b : D) : Option D := match a, b with
  | .str x, .str y => some (.bl (!decide (x = y)))
  | a, b => if (pyOk 60 a && pyOk 60 b) = true then some (.bl (!eqD a b)) else none
section
variable {X : Cx} {Z : WXZ} {a b : Expr} {pos p1 : Pos} {fa fb : En → Out Pv} {f : En → Out (List Pv)}
theorem dec_vs {x y : Str} : decide (V.str x = V.str y) = decide (x = y) := by simp
theorem o_Eq (hu : X.A.units + 64 < cLine) : ∃ r, OpR X (compareOp .Eq) r ∧ Op2 X r gEq := ⟨_, op_eq.or (op_eqD hu), fun {W H x y a b d Q} dom ha hb e q => by
  unfold gEq at e
  split at e
  · cases e
    exact .inl ⟨by rw [ha.str_, hb.str_]; rfl, by rw [ha.str_, hb.str_, dec_vs]; exact q _ H (Same.refl _) (.bl _)⟩
  · split at e
    · rename_i h
      rw [Bool.and_eq_true] at h
      cases e
      exact .inr ⟨_, _, ha.dp h.1, hb.dp h.2, pyOk_shaped h.1 (by decide), pyOk_shaped h.2 (by decide), q _ H (Same.refl _) (.bl _)⟩
    · cases e⟩
theorem o_Ne (hu : X.A.units + 64 < cLine) : ∃ r, OpR X (compareOp .NotEq) r ∧ Op2 X r gNe := ⟨_, op_ne.or (op_neD hu), fun {W H x y a b d Q} dom ha hb e q => by
  unfold gNe at e
  split at e
  · cases e
    exact .inl ⟨by rw [ha.str_, hb.str_]; rfl, by rw [ha.str_, hb.str_, dec_vs]; exact q _ H (Same.refl _) (.bl _)⟩
  · split at e
    · rename_i h
      rw [Bool.and_eq_true] at h
      cases e
      exact .inr ⟨_, _, ha.dp h.1, hb.dp h.2, pyOk_shaped h.1 (by decide), pyOk_shaped h.2 (by decide), q _ H (Same.refl _) (.bl _)⟩
    · cases e⟩
theorem e_eq {k : Nat} (hr : RoomG k X.A) (ha : DE X Z a fa) (hb : DE X Z b fb) : DE X Z (.Compare a [.Eq] [b] pos) (c2 gEq fa fb) := let ⟨_, o, h⟩ := o_Eq (X := X) hr.room.units; d_cmp o h ha hb (nomark _)
theorem t_eq {k : Nat} (hr : RoomG k X.A) (ha : DE X Z a fa) (hb : DE X Z b fb) : DT X Z (.Compare a [.Eq] [b] pos) (cB (c2 gEq fa fb)) := let ⟨_, o, h⟩ := o_Eq (X := X) hr.room.units; t_cmp o h ha hb (nomark _)
theorem e_ne {k : Nat} (hr : RoomG k X.A) (ha : DE X Z a fa) (hb : DE X Z b fb) : DE X Z (.Compare a [.NotEq] [b] pos) (c2 gNe fa fb) := let ⟨_, o, h⟩ := o_Ne (X := X) hr.room.units; d_cmp o h ha hb (nomark _)
theorem t_ne {k : Nat} (hr : RoomG k X.A) (ha : DE X Z a fa) (hb : DE X Z b fb) : DT X Z (.Compare a [.NotEq] [b] pos) (cB (c2 gNe fa fb)) := let ⟨_, o, h⟩ := o_Ne (X := X) hr.room.units; t_cmp o h ha hb (nomark _)
/-! is None -/
def isNon : D → Bool
  | .non => true
  | _ => false
def gIsN : D → D → Option D := fun a b => match b with
  | .non => some (.bl (isNon a))
  | _ => none
def gNotN : D → D → Option D := fun a b => match b with
  | .non => some (.bl (!isNon a))
  | _ => none
theorem RepP.isN {G : Pm} {W : Addr → Prop} {H : Hp} {v : V} {d : D} (r : RepP G W H v d) : decide (v = .non) = isNon d := by
  cases r with
  | rep r =>
    cases r with
    | non => rfl
    | ref _ _ c => cases c <;> rfl
    | _ => rfl
  | own o =>
    obtain ⟨u, _, _, c⟩ := o
    cases c <;> rfl
theorem o_isN : Op2 X (fun x y H Q => y = .non ∧ Q (.bl (decide (x = .non))) H) gIsN := fun {W H x y a b d Q} dom ha hb e q => by
  unfold gIsN at e
  split at e
  · cases e
    exact ⟨hb.non_, q _ H (Same.refl _) (by rw [ha.isN]; exact .bl _)⟩
  · cases e
theorem o_notN : Op2 X (fun x y H Q => y = .non ∧ Q (.bl (!decide (x = .non))) H) gNotN := fun {W H x y a b d Q} dom ha hb e q => by
  unfold gNotN at e
  split at e
  · cases e
    exact ⟨hb.non_, q _ H (Same.refl _) (by rw [ha.isN]; exact .bl _)⟩
  · cases e
theorem e_isN (ha : DE X Z a fa) (hb : DE X Z b fb) : DE X Z (.Compare a [.Is] [b] pos) (c2 gIsN fa fb) := d_cmp op_isN o_isN ha hb (nomark _)
theorem t_isN (ha : DE X Z a fa) (hb : DE X Z b fb) : DT X Z (.Compare a [.Is] [b] pos) (cB (c2 gIsN fa fb)) := t_cmp op_isN o_isN ha hb (nomark _)
theorem e_notN (ha : DE X Z a fa) (hb : DE X Z b fb) : DE X Z (.Compare a [.IsNot] [b] pos) (c2 gNotN fa fb) := d_cmp op_notN o_notN ha hb (nomark _)
theorem t_notN (ha : DE X Z a fa) (hb : DE X Z b fb) : DT X Z (.Compare a [.IsNot] [b] pos) (cB (c2 gNotN fa fb)) := t_cmp op_notN o_notN ha hb (nomark _)

/-! ### isinstance with a built-in class -/
def tyD : D → Option String
  | .non => some "NoneType"
  | .bl _ => some "bool"
  | .int _ => some "int"
  | .str _ => some "str"
  | .tup _ => some "tuple"
  | .lst _ => some "list"
  | .dic _ => some "dict"
  | _ => none
theorem RepP.ty {K : PySem.W.Frag} {mg : Str → Option Value} {W : Addr → Prop} {H : Hp} {v : V} {d : D} {t : String} (r : RepP ⟨K, mg⟩ W H v d) (e : tyD d = some t) : TyX K H v (.type t) := by
  cases r with
  | rep r =>
    cases r with
    | non => cases e; exact .base .non
    | bl b => cases e; exact .base (.bl b)
    | int i => cases e; exact .base (.int i)
    | str x => cases e; exact .base (.str x)
    | ty _ => cases e
    | ref h w c =>
      cases c with
      | tup r => cases e; rcases h with h | ⟨o, h⟩
                 · exact .base (.tup h)
                 · exact .fTuple h
      | lst r => cases e; rcases h with h | ⟨o, h⟩
                 · exact .base (.lst h)
                 · exact .base (.frz h)
      | dic _ r => cases e; rcases h with h | ⟨o, h⟩
                   · exact .base (.dK h)
                   · exact .fDict h
      | dit _ _ => cases e
      | obj _ _ _ => cases e
      | wtp _ => cases e
    | tupK h r =>
      cases e
      obtain ⟨o, its, n, h1, h2, _⟩ := h
      exact .kTuple h1 h2
  | own o =>
    obtain ⟨u, h, _, c⟩ := o
    cases c with
    | tup r => cases e; exact .base (.tup h)
    | lst r => cases e; exact .base (.lst h)
    | dic _ r => cases e; exact .base (.dK h)
    | dit _ _ => cases e
    | obj _ _ _ => cases e
    | wtp _ => cases e
def gIsi : List D → Option D
  | [d, .ty n] => (tyD d).bind fun t => (kitB t n).map .bl
  | _ => none
theorem RepP.ty_ {G : Pm} {W : Addr → Prop} {H : Hp} {v : V} {n : String} (r : RepP G W H v (.ty n)) : v = .ty n := by
  cases r with
  | rep r => cases r with
    | ty => rfl
    | ref _ _ c => cases c
  | own o => obtain ⟨u, _, _, c⟩ := o; cases c
theorem e_isi (hm : X.mg "isinstance" = none) (ha : DA X Z [a, b] f) (hg : Gl X "isinstance" := by rfl) (he : starEach [a, b] X.env = (false, eval a X.env) :: starEach [b] X.env := by rfl) (hpl : (backTo pos (starEach [b] X.env)).any (·.1) = false := by rfl) : DE X Z (.Call (.Name "isinstance" p1) [a, b] [] pos) (cN gIsi f) :=
  e_blt call_isi (fun {W H xs ds d Q} dom h e q => by
    unfold gIsi at e
    split at e
    · simp only [Option.bind_eq_some_iff, Option.map_eq_some_iff] at e
      obtain ⟨t, e1, r, e2, rfl⟩ := e
      obtain ⟨v, v2, rfl, h1, h2⟩ := h.two
      exact ⟨v, v2, _, _, r, rfl, by rw [h2.ty_]; exact .ty _, h1.ty e1, kit_ty e2, q _ H (Same.refl _) (.bl r)⟩
    · cases e) hm (by decide +kernel) ha hg (by decide) (by decide) he hpl
/-- a built-in class as a value -/
theorem d_bty {x : Str} {n : String} {p : Pos} (hm : X.mg x = none) (hv : bootBuiltins x = some (.type n)) (hg : Gl X x := by rfl) (hn : x ≠ "__name__" := by decide) (hd : (x == ("__debug__" : Str)) = false := by decide) : DE X Z (.Name x p) (cK (.ty n)) :=
  ⟨_, pe_bltn hg hm hv (v := .ty n) rfl (by first | exact hn | exact hd) (by first | exact hd | exact hn), det_c fun _ _ => .ty n⟩
end
end L3
namespace L3
open PySem PySem.Spec PyProof.Rows L2

/-! ### repr -/
theorem piled_eq (ts : List Str) : piled ts = (ts.map (·.length)).sum + 2 * ts.length := by
  induction ts with
  | nil => rfl
  | cons t r ih => rw [piled_cons, ih]; simp; omega
theorem int_len (i : Int) : (Str.ofString (toString i)).length ≤ i.natAbs.log2 + 3 := by
  have h := int_text_length_le (a := i) (k := i.natAbs.log2 + 1) (Nat.succ_pos _) (Nat.lt_succ_self _)
  rw [PySem.ofString_length]
  omega
mutual
theorem shown_len : ∀ (d : D) (n : Nat), pyOk n d = true → (py d).shown.length ≤ wt d
  | .non, _, _ => by simp only [py, PyData.shown, wt]; decide
  | .bl b, _, _ => by cases b <;> (simp only [py, PyData.shown, wt]; decide)
  | .int i, _, _ => by
    simp only [py, PyData.shown, wt]
    exact int_len i
  | .str x, n, h => by
    simp only [py, PyData.shown, wt]
    have h : PyData.strOk x = true := by cases n <;> simpa [pyOk] using h
    refine StrLaws.reprText_len x fun c hc => ?_
    have h2 : c < 0x110000 := by
      have := Array.all_eq_true'.mp h c (by simpa using hc)
      exact of_decide_eq_true this
    omega
  | .tup ds, n, h => by
    cases n with
    | zero => simp [pyOk] at h
    | succ n =>
      have h1 := shownL_len ds n (by simpa [pyOk] using h)
      simp only [py, PyData.shown, wt]
      have := tupleText_len_le (PyData.shownAll (pyL ds))
      rw [piled_eq] at h1
      omega
  | .lst ds, n, h => by
    cases n with
    | zero => simp [pyOk] at h
    | succ n =>
      have h1 := shownL_len ds n (by simpa [pyOk] using h)
      simp only [py, PyData.shown, wt]
      have := listText_len_le (PyData.shownAll (pyL ds))
      rw [piled_eq] at h1
      omega
  | .dic _, n, h => by cases n <;> simp [pyOk] at h
  | .dit _, n, h => by cases n <;> simp [pyOk] at h
  | .obj _ _ _, n, h => by cases n <;> simp [pyOk] at h
  | .ty _, n, h => by cases n <;> simp [pyOk] at h
theorem shownL_len : ∀ (ds : List D) (n : Nat), pyOkL n ds = true → piled (PyData.shownAll (pyL ds)) ≤ wtL ds
  | [], _, _ => by simp [pyL, PyData.shownAll, piled, wtL]
  | d :: r, n, h => by
    have e := (Bool.and_eq_true_iff.mp (show (pyOk n d && pyOkL n r) = true by cases n <;> simpa [pyOkL] using h))
    have h1 := shown_len d n e.1
    have h2 := shownL_len r n e.2
    simp only [pyL, PyData.shownAll, wtL]
    rw [piled_cons]
    omega
end
mutual
theorem small_show : ∀ d : D, smallD d = true → (py d).showable = true
  | .non, _ => by simp only [py, PyData.showable]
  | .bl _, _ => by simp only [py, PyData.showable]
  | .int i, h => by simpa only [py, PyData.showable, smallD] using h
  | .str _, _ => by simp only [py, PyData.showable]
  | .tup ds, h => by
    simp only [py, PyData.showable]
    exact smallL_show ds (by simpa [smallD] using h)
  | .lst ds, h => by
    simp only [py, PyData.showable]
    exact smallL_show ds (by simpa [smallD] using h)
  | .dic _, _ => by simp only [py, PyData.showable]
  | .dit _, _ => by simp only [py, PyData.showable]
  | .obj _ _ _, _ => by simp only [py, PyData.showable]
  | .ty _, _ => by simp only [py, PyData.showable]
theorem smallL_show : ∀ ds : List D, smallL ds = true → PyData.showableAll (pyL ds) = true
  | [], _ => by simp only [pyL, PyData.showableAll]
  | d :: r, h => by
    have h : smallD d = true ∧ smallL r = true := by simpa [smallL] using h
    simp only [pyL, PyData.showableAll, small_show d h.1, smallL_show r h.2, Bool.and_self]
end
/-- data that may be shown -/
def repOk (d : D) : Bool := pyOk 60 d && smallD d && decide (wt d ≤ 16000000)
def showD (d : D) : Str := (py d).shown
def gRepr : List D → Option D
  | [d] => if repOk d = true then some (.str (showD d)) else none
  | _ => none
section
variable {X : Cx} {Z : WXZ} {a b : Expr} {pos p1 : Pos} {fa fb : En → Out Pv} {f : En → Out (List Pv)}
theorem cr_repr {k : Nat} (hr : RoomG k X.A) : CallR X (.builtin "repr") (fun xs H Q => ∃ x d, xs = [x] ∧ Dp X.K H x d ∧ d.canLay0 = true ∧ d.showable = true ∧ d.depth ≤ 60 ∧ d.shown.length ≤ sizeLine ∧ Q (.str d.shown) H) := by
  rintro pins s σ H xs us Q I r ⟨x, d, rfl, h, hl, hs, hd, hz, q⟩
  obtain ⟨u, rfl, ru⟩ := vals1 r
  obtain ⟨as, rd⟩ := Dp.reads I d x u h ru
  cases rd with
  | none => exact PySem.P.repr_of_none ⟨.str _, H, I.tok _, ⟨_, rfl⟩, q⟩
  | bool b => exact PySem.P.repr_of_bool ⟨.str _, H, I.tok _, ⟨_, rfl⟩, q⟩
  | int i t => exact PySem.P.repr_of_int (by simpa [PyData.showable] using hs) ⟨.str _, H, I.tok _, ⟨_, rfl⟩, q⟩
  | str x t => exact PySem.P.repr_of_str ⟨.str _, H, I.tok _, ⟨_, rfl⟩, q⟩ (hsz := hz)
  | list h1 h2 h3 h4 =>
    have hu := hr.room.units
    exact repr_of_reads' (h₀ := s.heap) (Reads.list h1 h2 h3 h4) hs (PyData.noDict_hsm (PyData.hasDict_of_canLay _ hl)) hr.gd (by omega) (fun _ _ e => e) (fun h' u tk hk => ⟨.str _, H, I.kept hk, ⟨_, rfl⟩, q⟩) (hsz := hz)
  | tuple h1 h2 h3 h4 =>
    have hu := hr.room.units
    exact repr_of_reads' (h₀ := s.heap) (Reads.tuple h1 h2 h3 h4) hs (PyData.noDict_hsm (PyData.hasDict_of_canLay _ hl)) hr.gd (by omega) (fun _ _ e => e) (fun h' u tk hk => ⟨.str _, H, I.kept hk, ⟨_, rfl⟩, q⟩) (hsz := hz)
  | dict h1 h2 h3 h4 h5 => simp [PyData.canLay0] at hl
theorem repOk_iff {d : D} : repOk d = true ↔ pyOk 60 d = true ∧ smallD d = true ∧ wt d ≤ 16000000 := by
  unfold repOk
  rw [Bool.and_eq_true, Bool.and_eq_true, decide_eq_true_eq, and_assoc]
theorem e_repr {k : Nat} (hr : RoomG k X.A) (hm : X.mg "repr" = none) (ha : DA X Z [a] f) (hg : Gl X "repr" := by rfl) (he : starEach [a] X.env = (false, eval a X.env) :: starEach [] X.env := by rfl) (hpl : (backTo pos (starEach [] X.env)).any (·.1) = false := by rfl) :
    DE X Z (.Call (.Name "repr" p1) [a] [] pos) (cN gRepr f) := e_blt (cr_repr hr) (fun {W H xs ds d Q} dom h e q => by
    unfold gRepr at e
    split at e
    · split at e
      · rename_i d0 hk
        cases e
        obtain ⟨h1, h2, h3⟩ := repOk_iff.mp hk
        obtain ⟨v, rfl, hv⟩ := h.one
        obtain ⟨l1, l2⟩ := pyOk_lay _ _ h1
        refine ⟨v, _, rfl, hv.dp h1, l1, small_show _ h2, l2, ?_, q _ H (Same.refl _) (.str _)⟩
        have := shown_len _ _ h1
        rw [sizeLine_eq]
        omega
      · cases e
    · cases e) hm (by decide +kernel) ha hg (by decide) (by decide) he hpl
/-! is of bools -/
def gIsB : D → D → Option D
  | .bl a, .bl b => some (.bl (decide (a = b)))
  | _, _ => none
def gNotB : D → D → Option D
  | .bl a, .bl b => some (.bl (!decide (a = b)))
  | _, _ => none
theorem o_isB : Op2 X rIsB gIsB := fun {W H x y a b d Q} dom ha hb e q => by
  unfold gIsB at e
  split at e
  · cases e; exact ⟨_, _, ha.bl_, hb.bl_, q _ H (Same.refl _) (.bl _)⟩
  · cases e
theorem o_notB : Op2 X rNotB gNotB := fun {W H x y a b d Q} dom ha hb e q => by
  unfold gNotB at e
  split at e
  · cases e; exact ⟨_, _, ha.bl_, hb.bl_, q _ H (Same.refl _) (.bl _)⟩
  · cases e
theorem e_isB (ha : DE X Z a fa) (hb : DE X Z b fb) : DE X Z (.Compare a [.Is] [b] pos) (c2 gIsB fa fb) := d_cmp op_isBl o_isB ha hb (nomark _)
theorem t_isB (ha : DE X Z a fa) (hb : DE X Z b fb) : DT X Z (.Compare a [.Is] [b] pos) (cB (c2 gIsB fa fb)) := t_cmp op_isBl o_isB ha hb (nomark _)
theorem e_notB (ha : DE X Z a fa) (hb : DE X Z b fb) : DE X Z (.Compare a [.IsNot] [b] pos) (c2 gNotB fa fb) := d_cmp op_notBl o_notB ha hb (nomark _)
theorem t_notB (ha : DE X Z a fa) (hb : DE X Z b fb) : DT X Z (.Compare a [.IsNot] [b] pos) (cB (c2 gNotB fa fb)) := t_cmp op_notBl o_notB ha hb (nomark _)
end
end L3
namespace L3
open PySem PySem.Spec PyProof.Rows L2

/-! ### dicts with whole numbers and texts as keys -/
def keyD : D → Option Key
  | .int i => some (.inl i)
  | .str x => some (.inr x)
  | _ => none
def dlook (kvs : List (Key × D)) (k : Key) : Option D := (kvs.find? fun kv => decide (kv.1 = k)).map (·.2)
def dput (kvs : List (Key × D)) (k : Key) (d : D) : List (Key × D) :=
  if (kvs.any fun kv => decide (kv.1 = k)) = true then kvs.map (fun kv => if kv.1 = k then (kv.1, d) else kv) else kvs ++ [(k, d)]
section
variable {X : Cx} {Z : WXZ} {G : Pm} {W : Addr → Prop} {H : Hp} {v : V} {d : D} {a b : Expr} {pos p1 : Pos} {fa fb : En → Out Pv} {f : En → Out (List Pv)}
theorem RepP.key {x : V} {b : D} {k : Key} (r : RepP G W H x b) (e : keyD b = some k) : x = kV k := by
  unfold keyD at e
  split at e
  · cases e; rw [r.int_]; rfl
  · cases e; rw [r.str_]; rfl
  · cases e
theorem dlook_ok : ∀ {kvs : List (Key × V)} {kds : List (Key × D)} {k : Key}, kvs.map (·.1) = kds.map (·.1) → Reps G W H (kvs.map (·.2)) (kds.map (·.2)) →
    (dlook kds k = none ∧ valV kvs k = none) ∨ ∃ d v, dlook kds k = some d ∧ valV kvs k = some v ∧ Rep G W H v d
  | [], [], k, _, _ => .inl ⟨rfl, rfl⟩
  | [], _ :: _, _, h, _ => by simp at h
  | _ :: _, [], _, h, _ => by simp at h
  | p :: r, q :: s, k, h, c => by
    simp only [List.map_cons, List.cons.injEq] at h
    simp only [List.map_cons] at c
    cases c with
    | cons c1 c2 =>
      by_cases e : q.1 = k
      · refine .inr ⟨q.2, p.2, ?_, valV_pos (h.1.trans e), c1⟩
        simp [dlook, List.find?_cons, e]
      · have e2 : dlook (q :: s) k = dlook s k := by simp [dlook, List.find?_cons, e]
        rw [e2, valV_neg (fun z => e (h.1.symm.trans z))]
        exact dlook_ok h.2 c2
theorem any_keys {α : Type} {k : Key} : ∀ {kvs : List (Key × V)} {kds : List (Key × α)}, kvs.map (·.1) = kds.map (·.1) → (kvs.any fun kv => decide (kv.1 = k)) = kds.any fun kv => decide (kv.1 = k)
  | [], [], _ => rfl
  | [], _ :: _, h => by simp at h
  | _ :: _, [], h => by simp at h
  | p :: r, q :: s, h => by
    simp only [List.map_cons, List.cons.injEq] at h
    simp only [List.any_cons, h.1, any_keys h.2]
theorem dput_map {k : Key} {v : V} (rv : Rep G W H v d) : ∀ {kvs : List (Key × V)} {kds : List (Key × D)}, kvs.map (·.1) = kds.map (·.1) → Reps G W H (kvs.map (·.2)) (kds.map (·.2)) →
    (kvs.map (fun kv => if kv.1 = k then (kv.1, v) else kv)).map (·.1) = (kds.map (fun kv => if kv.1 = k then (kv.1, d) else kv)).map (·.1) ∧
    Reps G W H ((kvs.map (fun kv => if kv.1 = k then (kv.1, v) else kv)).map (·.2)) ((kds.map (fun kv => if kv.1 = k then (kv.1, d) else kv)).map (·.2))
  | [], [], _, _ => ⟨rfl, .nil⟩
  | [], _ :: _, h, _ => by simp at h
  | _ :: _, [], h, _ => by simp at h
  | p :: r, q :: s, h, c => by
    simp only [List.map_cons, List.cons.injEq] at h
    simp only [List.map_cons] at c
    cases c with
    | cons c1 c2 =>
      obtain ⟨h1, h2⟩ := dput_map rv h.2 c2
      simp only [List.map_cons]
      by_cases e : q.1 = k
      · rw [if_pos e, if_pos (h.1.trans e)]
        exact ⟨by simp only [h.1, h1], .cons rv h2⟩
      · rw [if_neg e, if_neg (fun z => e (h.1.symm.trans z))]
        exact ⟨by simp only [h.1, h1], .cons c1 h2⟩
theorem dput_ok {kvs : List (Key × V)} {kds : List (Key × D)} {k : Key} {v : V} (h : kvs.map (·.1) = kds.map (·.1)) (c : Reps G W H (kvs.map (·.2)) (kds.map (·.2))) (rv : Rep G W H v d) :
    (putK kvs k v).map (·.1) = (dput kds k d).map (·.1) ∧ Reps G W H ((putK kvs k v).map (·.2)) ((dput kds k d).map (·.2)) := by
  unfold putK dput
  rw [any_keys h]
  split
  · exact dput_map rv h c
  · refine ⟨by simp [h], ?_⟩
    rw [List.map_append, List.map_append]
    exact c.append (.cons rv .nil)
theorem RepP.dic {kds : List (Key × D)} (r : RepP G W H v (.dic kds)) : ∃ a kvs, v = .ref a ∧ Rd H a (.dK kvs) ∧ kvs.map (·.1) = kds.map (·.1) ∧ Reps G W H (kvs.map (·.2)) (kds.map (·.2)) := by
  cases r with
  | rep r =>
    cases r with
    | ref h w c => cases c with | dic k r => exact ⟨_, _, rfl, h, k, r⟩
  | own o =>
    obtain ⟨u, e, _, c⟩ := o
    cases c with
    | dic k r => exact ⟨_, _, rfl, .inl e, k, r⟩
theorem ix_dict (hu : X.A.units + 1 < cLine) : IxR X (fun x y H Q => ∃ a v, x = .ref a ∧ DGet H a y (some v) ∧ Q v H) := by
  rintro value slice pins s σ H x y v u Q I rx ry ⟨a, w', rfl, g, q⟩ hs
  cases rx
  exact tail_any (dict_typeIs I g) PySem.F.slot_dict_getitem.lookup (d_getItem hu I g ry fun w2 s2 I2 r2 => ⟨w', H, I2, r2, q⟩) hs
def gGet : D → D → Option D := fun x y => match x with
  | .dic kvs => (keyD y).bind (dlook kvs)
  | _ => gIx x y
theorem o_get (hu : X.A.units + 1 < cLine) : ∃ r, IxR X r ∧ Op2 X r gGet := by
  obtain ⟨r, h1, h2⟩ := o_ix (X := X)
  refine ⟨_, (ix_dict hu).or h1, fun {W H x y a b d Q} dom ha hb e q => ?_⟩
  cases a with
  | dic kds =>
    simp only [gGet, Option.bind_eq_some_iff] at e
    obtain ⟨k, e1, e2⟩ := e
    obtain ⟨a, kvs, rfl, h3, h4, h5⟩ := ha.dic
    rcases dlook_ok (k := k) h4 h5 with ⟨z, _⟩ | ⟨d', v, h6, h7, h8⟩
    · rw [z] at e2; cases e2
    · rw [h6] at e2; cases e2
      exact .inl ⟨a, v, rfl, .inl ⟨kvs, k, h3, hb.key e1, h7.symm⟩, q _ H (Same.refl _) h8⟩
  | _ => exact .inr (h2 dom ha hb e q)
theorem e_get {k : Nat} (hr : RoomG k X.A) (ha : DE X Z a fa) (hb : DE X Z b fb) (hs : PlainIx b := by exact fun _ _ => rfl) : DE X Z (.Subscript a b pos) (c2 gGet fa fb) :=
  let ⟨_, o, h⟩ := o_get (X := X) (hu_of hr.room); let ⟨_, pa, sa⟩ := ha; let ⟨_, pb, sb⟩ := hb; ⟨_, pe_ix o pa pb hs, det_2 h sa sb⟩

/-! ### x[i] = v : a list's place, a dict's key; x in a slot as one's own -/
def setD (x i d : D) : Option D := match x with
  | .lst ds => match i with
    | .int k => (ixN ds.length k).map fun j => .lst (ds.set j d)
    | _ => none
  | .dic kvs => (keyD i).bind fun k => if kvs.length < sizeLine then some (.dic (dput kvs k d)) else none
  | _ => none
def gSubD (i : Nat) (fi : En → Out Pv) : D → En → Out Unit := fun d ρ => if ((ρ[i]?).bind Sl.dat).isSome = false then .bad else (fi ρ).bind fun p ρ1 => match ρ1[i]? with
  | some s => match (Sl.dat s).bind fun x => (pvD ρ1 p).bind fun k => setD x k d with
    | some x' => .ok () (ρ1.set i (s.put x'))
    | none => .bad
  | none => .bad
theorem set_any (hu : X.A.units + 1 < cLine) : PSet X (fun o i v H Q => rSetL o i v H Q ∨ rSetD o i v H Q) := by
  intro pins s σ H o i v ov iv u Q I ro ri rv h
  rcases h with h | h
  · exact set_list pins s σ H o i v ov iv u Q I ro ri rv h
  · exact set_dict hu pins s σ H o i v ov iv u Q I ro ri rv h
theorem setD_ok {B : Bs} {as : List (Option Addr)} {σ : L2.St} {ρ : En} {i : Nat} {s : Sl} {x k : D} {x' : D} {kv : V} {aa : Addr} {Q : Hp → Prop} (R : Rel X.G B as σ H ρ) (hs : ρ[i]? = some s) (ha : as[i]? = some (some aa)) (hx : Sl.dat s = some x)
    (rk : RepP X.G (B.W as) H kv k) (rv : Rep X.G (B.W as) H v d) (e : setD x k d = some x') (q : ∀ H', Rel X.G B as σ H' (ρ.set i (s.put x')) → Go (Ad as) H (Ad as) H' → Q H') :
    rSetL (.ref aa) kv v H Q ∨ rSetD (.ref aa) kv v H Q := by
  obtain ⟨d0, h1, h2, u, e1, mu, c⟩ := R.at_a ha
  have ed : d0 = x := by
    rw [hs] at h2
    rcases h2 with h2 | h2 <;> (cases h2; cases hx; rfl)
  subst ed
  have fin : ∀ {o' : HO}, Mut (some o') → Cont X.G (B.W as) H o' x' → Q (upd H aa o') := fun {o'} m c' => by
    have c2 : Cont X.G (B.W as) (upd H aa o') o' x' := c'.stp fun b u hb n => ⟨by
      rw [upd_ne (fun z => n (by rw [z]; exact .inr (Ad.of ha)))]; exact hb, n⟩
    obtain ⟨R2, g2⟩ := R.mut hs ha upd_same (fun b hb => upd_ne hb) m c2
    exact q _ R2 g2
  unfold setD at e
  split at e
  · rename_i ds
    cases c with
    | lst r =>
      rename_i vs
      split at e
      · rename_i n
        simp only [Option.map_eq_some_iff] at e
        obtain ⟨j, e2, rfl⟩ := e
        refine .inl ⟨aa, vs, n, j, rfl, rk.int_, e1, by rw [r.length]; exact e2, fin True.intro (.lst (r.set rv j))⟩
      · cases e
  · rename_i kds
    cases c with
    | dic hk r =>
      rename_i kvs
      simp only [Option.bind_eq_some_iff] at e
      obtain ⟨key, e2, e3⟩ := e
      split at e3
      · rename_i hl
        cases e3
        obtain ⟨h3, h4⟩ := dput_ok (k := key) hk r rv
        have hlen : kvs.length = kds.length := by have := congrArg List.length hk; simpa using this
        exact .inr ⟨aa, _, rfl, .inl ⟨kvs, key, e1, rk.key e2, by rw [hlen]; exact hl, rfl⟩, fin True.intro (.dic h3 h4)⟩
      · cases e3
  · cases e
theorem GO.ofE {α : Type} {B : Bs} {as : List (Option Addr)} {σ : L2.St} {N : L2.St → Hp → Prop} {o : Out α} {k : α → En → Out Unit} (h : GO X Z B as H N (o.bind k)) : EO X Z B as σ H (fun a ρ1 H1 => GO X Z B as H1 N (k a ρ1)) o := by
  cases o with
  | ok a ρ' => exact fun H' R g => GO.after h g
  | exc e ρ' => exact fun cls dx H' R g x => h cls dx as σ H' R g x
  | bad => exact h
theorem g_sub {k i : Nat} {x : Str} {px : Pos} (hr : RoomG k X.A) (hi : DE X Z b fb) (hN : X.N[i]? = some x := by rfl) (hv : Vis X.env.scope x := by first | exact Or.inl rfl | exact Or.inr (Or.inl rfl) | exact Or.inr (Or.inr rfl))
    (hd : (x == ("__debug__" : Str)) = false := by decide) (hcd : (x == ("__classdict__" : Str)) = false := by decide)
    (ha : ∀ v, assign (.Subscript (.Name x px) b pos) X.env v = (do
      let ov ← holding [v] (eval (.Name x px) X.env)
      let iv ← holding [v, ov] (eval b X.env)
      standAt pos
      holding [v, ov, iv] (setItem ov iv v)
      release [v, ov, iv] []) := by intro _; rfl) : DG X Z (.Subscript (.Name x px) b pos) (gSubD i fb) := by
  obtain ⟨_, pb, sb⟩ := hi
  refine ⟨_, pg_sub (pe_var hN hv hd hcd) pb (set_any (hu_of hr.room)) ha, ⟨fun {B as σ H ρ v d N} R r q => ?_⟩⟩
  unfold gSubD at q
  split at q
  · exact q.elim
  rename_i hsome
  have hsome : ((ρ[i]?).bind Sl.dat).isSome = true := by cases q2 : ((ρ[i]?).bind Sl.dat).isSome with | true => rfl | false => exact absurd q2 hsome
  obtain ⟨x0, hx0⟩ := Option.isSome_iff_exists.mp hsome
  simp only [Option.bind_eq_some_iff] at hx0
  obtain ⟨s0, e0, e0'⟩ := hx0
  obtain ⟨aa, h1, h2⟩ : ∃ aa, σ[i]? = some (some (.ref aa)) ∧ as[i]? = some (some aa) := by
    obtain ⟨v, a, h3, h4, h5⟩ := R.at_s e0
    cases h5 with
    | un => cases e0'
    | val => cases e0'
    | own o => exact ⟨_, h3, h4⟩
    | bor o => exact ⟨_, h3, h4⟩
  refine ⟨_, h1, sb.go R (q.ofE.imp fun p ρ1 H1 R1 g1 q1 kv k1 => ?_)⟩
  cases es : ρ1[i]? with
  | none => rw [es] at q1; exact q1.elim
  | some s =>
    rw [es] at q1
    dsimp only at q1
    cases ex : Sl.dat s with
    | none => rw [ex] at q1; exact q1.elim
    | some x =>
      rw [ex] at q1
      cases ep : pvD ρ1 p with
      | none => rw [ep] at q1; exact q1.elim
      | some k =>
        rw [ep] at q1
        simp only [Option.bind_some] at q1
        cases et : setD x k d with
        | none => rw [et] at q1; exact q1.elim
        | some x' =>
          rw [et] at q1
          exact setD_ok R1 es h2 ex (k1.peek R1 ep) (r.go g1) et fun H' R' g' => q1 as σ H' R' g'
end
end L3
namespace L3
open PySem PySem.Spec PyProof.Rows L2

/-! ### methods of lists of one's own -/
/-- the content and the arguments; the result and the content behind -/
def OpM (X : Cx) (r : V → List V → Hp → VK → Prop) (g : D → List D → Option (D × D)) : Prop := ∀ {W : Addr → Prop} {H : Hp} {a : Addr} {o : HO} {c : D} {vs : List V} {ds : List D} {d c' : D} {Q : VK},
  H a = some o → Mut (some o) → W a → Cont X.G W H o c → Reps X.G W H vs ds → g c ds = some (d, c') →
  (∀ v o', Mut (some o') → Cont X.G W H o' c' → Rep X.G W H v d → Q v (upd H a o')) → r (.ref a) vs H Q
def cM (i : Nat) (g : D → List D → Option (D × D)) (f : En → Out (List Pv)) : En → Out Pv := fun ρ => match (ρ[i]?).bind Sl.dat with
  | some (.lst _) => (f ρ).bind fun ps ρ1 => match ρ1[i]? with
    | some s => match (Sl.dat s).bind fun c => (pvs ps).bind fun ds => g c ds with
      | some (d, c') => .ok (.v d) (ρ1.set i (s.put c'))
      | none => .bad
    | none => .bad
  | _ => .bad
section
variable {X : Cx} {Z : WXZ} {G : Pm} {W : Addr → Prop} {H : Hp} {v : V} {d : D} {B : Bs} {as : List (Option Addr)} {σ : L2.St} {ρ : En}
theorem Rel.own_slot (R : Rel X.G B as σ H ρ) {i : Nat} {x : D} (h : (ρ[i]?).bind Sl.dat = some x) : ∃ s aa, ρ[i]? = some s ∧ Sl.dat s = some x ∧ σ[i]? = some (some (.ref aa)) ∧ as[i]? = some (some aa) ∧ Own X.G (B.W as) H aa x := by
  simp only [Option.bind_eq_some_iff] at h
  obtain ⟨s0, e0, e0'⟩ := h
  obtain ⟨v, a, h3, h4, h5⟩ := R.at_s e0
  cases h5 with
  | un => cases e0'
  | val => cases e0'
  | own o => cases e0'; exact ⟨_, _, e0, rfl, h3, h4, o⟩
  | bor o => cases e0'; exact ⟨_, _, e0, rfl, h3, h4, o⟩
/-- one's own object is changed -/
theorem Rel.put (R : Rel X.G B as σ H ρ) {i : Nat} {s : Sl} {x' : D} {aa : Addr} {o' : HO} (hs : ρ[i]? = some s) (ha : as[i]? = some (some aa)) (m : Mut (some o')) (c : Cont X.G (B.W as) H o' x') :
    Rel X.G B as σ (upd H aa o') (ρ.set i (s.put x')) ∧ Go (Ad as) H (Ad as) (upd H aa o') ∧ Stp (B.W as) H (B.W as) (upd H aa o') := by
  have st : Stp (B.W as) H (B.W as) (upd H aa o') := fun b u hb n => ⟨by rw [upd_ne (fun z => n (by rw [z]; exact .inr (Ad.of ha)))]; exact hb, n⟩
  obtain ⟨R2, g2⟩ := R.mut hs ha upd_same (fun b hb => upd_ne hb) m (c.stp st)
  exact ⟨R2, g2, st⟩
theorem det_M {i : Nat} {r : V → List V → Hp → VK → Prop} {g : D → List D → Option (D × D)} {t : TA} {f : En → Out (List Pv)} (hr : OpM X r g) (ha : DAt X Z t f) : DEt X Z (tBM X.K "list" r (tVar i) t) (cM i g f) := by
  refine ⟨fun {B as σ H ρ Q} R q => ?_⟩
  unfold cM at q
  cases e0 : (ρ[i]?).bind Sl.dat with
  | none => rw [e0] at q; exact q.elim
  | some x0 =>
    rw [e0] at q
    obtain ⟨s0, aa, h1, h2, h3, h4, o0⟩ := R.own_slot e0
    cases x0 with
    | lst ds0 =>
      refine ⟨_, h3, ?_, ?_⟩
      · obtain ⟨u, hu, _, c⟩ := o0
        cases c with
        | lst _ => exact .inl ⟨rfl, _, .inl (.inl hu)⟩
      · refine ha.go R (q.bind.imp fun ps ρ1 H1 R1 g1 q1 vs k1 => ?_)
        cases es : ρ1[i]? with
        | none => rw [es] at q1; exact q1.elim
        | some s =>
          rw [es] at q1
          dsimp only at q1
          cases ex : Sl.dat s with
          | none => rw [ex] at q1; exact q1.elim
          | some x =>
            rw [ex] at q1
            cases ep : pvs ps with
            | none => rw [ep] at q1; exact q1.elim
            | some ds =>
              rw [ep] at q1
              simp only [Option.bind_some] at q1
              cases eg : g x ds with
              | none => rw [eg] at q1; exact q1.elim
              | some dc =>
                obtain ⟨d, c'⟩ := dc
                rw [eg] at q1
                obtain ⟨d0, h5, h6, u, hu, mu, c⟩ := R1.at_a h4
                have ed : d0 = x := by
                  rw [es] at h6
                  rcases h6 with h6 | h6 <;> (cases h6; cases ex; rfl)
                subst ed
                refine hr hu mu (.inr (Ad.of h4)) c (k1.reps ep) eg fun v o' m c2 rv => ?_
                obtain ⟨R2, g2, st⟩ := R1.put es h4 m c2
                exact q1 _ R2 g2 v (.v (rv.stp st))
    | _ => exact q.elim
variable {i : Nat} {x : Str} {px apos cpos : Pos} {e : Expr} {es : List Expr} {f : En → Out (List Pv)}
theorem e_bm {id name : String} {r : V → List V → Hp → VK → Prop} {g : D → List D → Option (D × D)} (slot : Slot "list" name id) (hty : typeOf (.builtin id) = pure (.type "method_descriptor")) (hm : MtR X id r) (hr : OpM X r g) (ha : DA X Z (e :: es) f)
    (hN : X.N[i]? = some x := by rfl) (hv : Vis X.env.scope x := by first | exact Or.inl rfl | exact Or.inr (Or.inl rfl) | exact Or.inr (Or.inr rfl)) (hd : (x == ("__debug__" : Str)) = false := by decide) (hcd : (x == ("__classdict__" : Str)) = false := by decide)
    (hbase : attributeBase (.Name x px) name X.env (eval (.Name x px) X.env) = eval (.Name x px) X.env := by rfl)
    (hfew : ((backTo cpos (starEach (e :: es) X.env)).all (fun x => !x.1) && (backToKw cpos (keywordEach [] X.env)).all (fun x => x.1.isSome) && decide ((e :: es).length + ([] : List Keyword).length + (if ([] : List Keyword).isEmpty then 0 else 1) < 30)) = true := by rfl)
    (hline : (apos.endLine == cpos.line) = true := by rfl) (hs : starEach (e :: es) X.env = (false, eval e X.env) :: starEach es X.env := by rfl) (hplain : (backTo cpos (starEach es X.env)).any (·.1) = false := by rfl) :
    DE X Z (.Call (.Attribute (.Name x px) name apos) (e :: es) [] cpos) (cM i g f) :=
  let ⟨_, p, s⟩ := ha; ⟨_, pe_bm PySem.F.plainAttrs_list slot hty hm (pe_var hN hv hd hcd) p hbase hfew hline hs hplain, det_M hr s⟩
def gAppend : D → List D → Option (D × D)
  | .lst xs, [d] => if xs.length < sizeLine then some (.non, .lst (xs ++ [d])) else none
  | _, _ => none
theorem o_append : OpM X rAppend gAppend := fun {W H a o c vs ds d c' Q} h mu w k r e q => by
  unfold gAppend at e
  split at e
  · split at e
    · rename_i hl
      cases e
      cases k with
      | lst rk =>
        cases r with
        | cons r1 rn =>
          cases rn
          exact ⟨_, _, _, rfl, rfl, h, by rw [rk.length]; exact hl, q .non _ True.intro (.lst (rk.append (.cons r1 .nil))) .non⟩
    · cases e
  · cases e
def gPopAt : D → List D → Option (D × D)
  | .lst xs, [.int i] => if inR i = true then (ixN xs.length i).bind fun k => (xs[k]?).map fun d => (d, .lst (xs.eraseIdx k)) else none
  | _, _ => none
theorem o_popAt : OpM X rPopAt gPopAt := fun {W H a o c vs ds d c' Q} h mu w k r e q => by
  unfold gPopAt at e
  split at e
  · split at e
    · rename_i xs i hi
      have hi := inR_b hi
      simp only [Option.bind_eq_some_iff, Option.map_eq_some_iff] at e
      obtain ⟨j, e1, d0, e2, e3⟩ := e
      cases e3
      cases k with
      | lst rk =>
        cases r with
        | cons r1 rn =>
          cases rn
          obtain ⟨v, h1, h2⟩ := rk.get e2
          obtain ⟨h3, h4, h5, h6⟩ := ixN_seq e1
          exact ⟨_, _, i, j, v, rfl, by rw [r1.int_], h, by omega, by omega, by rw [rk.length]; exact h3, h1, q v _ True.intro (.lst (rk.erase j)) h2⟩
    · cases e
  · cases e
/-- name.append(e) -/
theorem e_append (ha : DA X Z [e] f) (hN : X.N[i]? = some x := by rfl) (hv : Vis X.env.scope x := by first | exact Or.inl rfl | exact Or.inr (Or.inl rfl) | exact Or.inr (Or.inr rfl)) (hd : (x == ("__debug__" : Str)) = false := by decide) (hcd : (x == ("__classdict__" : Str)) = false := by decide)
    (hbase : attributeBase (.Name x px) "append" X.env (eval (.Name x px) X.env) = eval (.Name x px) X.env := by rfl)
    (hfew : ((backTo cpos (starEach [e] X.env)).all (fun x => !x.1) && (backToKw cpos (keywordEach [] X.env)).all (fun x => x.1.isSome) && decide ([e].length + ([] : List Keyword).length + (if ([] : List Keyword).isEmpty then 0 else 1) < 30)) = true := by rfl)
    (hline : (apos.endLine == cpos.line) = true := by rfl) (hs : starEach [e] X.env = (false, eval e X.env) :: starEach [] X.env := by rfl) (hplain : (backTo cpos (starEach [] X.env)).any (·.1) = false := by rfl) :
    DE X Z (.Call (.Attribute (.Name x px) "append" apos) [e] [] cpos) (cM i gAppend f) := e_bm PySem.F.slot_list_append PySem.F.type_list_append mt_append o_append ha hN hv hd hcd hbase hfew hline hs hplain
theorem e_popAt (ha : DA X Z [e] f) (hN : X.N[i]? = some x := by rfl) (hv : Vis X.env.scope x := by first | exact Or.inl rfl | exact Or.inr (Or.inl rfl) | exact Or.inr (Or.inr rfl)) (hd : (x == ("__debug__" : Str)) = false := by decide) (hcd : (x == ("__classdict__" : Str)) = false := by decide)
    (hbase : attributeBase (.Name x px) "pop" X.env (eval (.Name x px) X.env) = eval (.Name x px) X.env := by rfl)
    (hfew : ((backTo cpos (starEach [e] X.env)).all (fun x => !x.1) && (backToKw cpos (keywordEach [] X.env)).all (fun x => x.1.isSome) && decide ([e].length + ([] : List Keyword).length + (if ([] : List Keyword).isEmpty then 0 else 1) < 30)) = true := by rfl)
    (hline : (apos.endLine == cpos.line) = true := by rfl) (hs : starEach [e] X.env = (false, eval e X.env) :: starEach [] X.env := by rfl) (hplain : (backTo cpos (starEach [] X.env)).any (·.1) = false := by rfl) :
    DE X Z (.Call (.Attribute (.Name x px) "pop" apos) [e] [] cpos) (cM i gPopAt f) := e_bm PySem.F.slot_list_pop PySem.F.type_list_pop mt_popAt o_popAt ha hN hv hd hcd hbase hfew hline hs hplain
end
end L3
namespace L3
open PySem PySem.Spec PyProof.Rows L2 RZ

/-! ### zip of two lists, of two tuples -/
section
variable {X : Cx} {Z : WXZ} {B : Bs} {as : List (Option Addr)} {H : Hp}
def zipD (ds es : List D) : List D := (ds.zip es).map fun p => .obj "" [] [p.1, p.2]
def iZ (f : En → Out (List Pv)) : En → Out (List D) := fun ρ => (f ρ).bind fun ps ρ1 => match ps with
  | [.v (.lst ds), .v (.lst es)] => .ok (zipD ds es) ρ1
  | [.v (.tup ds), .v (.tup es)] => .ok (zipD ds es) ρ1
  | _ => .bad
theorem zipD_at {ds es : List D} {i : Nat} {d : D} (h : (zipD ds es)[i]? = some d) : ∃ x y, ds[i]? = some x ∧ es[i]? = some y ∧ d = .obj "" [] [x, y] := by
  unfold zipD at h
  rw [List.getElem?_map, Option.map_eq_some_iff] at h
  obtain ⟨⟨x, y⟩, h1, rfl⟩ := h
  rw [List.getElem?_zip_eq_some] at h1
  exact ⟨x, y, h1.1, h1.2, rfl⟩
theorem zipD_len (ds es : List D) : (zipD ds es).length = min ds.length es.length := by simp [zipD]
theorem walks_zipL {a b : Addr} {xs ys : List V} {ds es : List D} (h1 : Rd H a (.lst xs)) (w1 : ¬ B.W as a) (r1 : Reps X.G (B.W as) H xs ds) (h2 : Rd H b (.lst ys)) (w2 : ¬ B.W as b) (r2 : Reps X.G (B.W as) H ys es) :
    Walks X B as H (Itz X.K a b) (zipD ds es) := by
  intro A H2 dom g
  have g1 : SqL X.K H2 a xs := .inl (Rd.stp h1 g.stp w1).1
  have g2 : SqL X.K H2 b ys := .inl (Rd.stp h2 g.stp w2).1
  have q1 := r1.go g
  have q2 := r2.go g
  refine ⟨⟨xs, ys, g1, g2, ?_⟩, fun i d e => ?_⟩
  · rw [zipD_len, q1.length, q2.length]; omega
  · obtain ⟨x, y, e1, e2, rfl⟩ := zipD_at e
    obtain ⟨v, f1, p1⟩ := q1.get e1
    obtain ⟨u, f2, p2⟩ := q2.get e2
    refine ⟨⟨xs, ys, v, u, g1, g2, f1, f2⟩, ?_⟩
    rintro z H3 ⟨T, v', u', rfl, nT, rfl, k1, k2⟩
    have := k1 xs g1; rw [f1] at this; cases this
    have := k2 ys g2; rw [f2] at this; cases this
    exact ⟨Same.new nT, Rep.newWtp dom nT (.cons p1 (.cons p2 .nil))⟩
theorem walks_zipT {a b : Addr} {xs ys : List V} {ds es : List D} (h1 : (Rd H a (.tup xs) ∧ ¬ B.W as a) ∨ ConT X.K a xs) (r1 : Reps X.G (B.W as) H xs ds) (h2 : (Rd H b (.tup ys) ∧ ¬ B.W as b) ∨ ConT X.K b ys) (r2 : Reps X.G (B.W as) H ys es) :
    Walks X B as H (ItzT X.K a b) (zipD ds es) := by
  intro A H2 dom g
  have g1 : SqT X.K H2 a xs := by
    rcases h1 with ⟨h, w⟩ | h
    · exact .inl (Rd.stp h g.stp w).1
    · exact h.sq
  have g2 : SqT X.K H2 b ys := by
    rcases h2 with ⟨h, w⟩ | h
    · exact .inl (Rd.stp h g.stp w).1
    · exact h.sq
  have q1 := r1.go g
  have q2 := r2.go g
  refine ⟨⟨xs, ys, g1, g2, ?_⟩, fun i d e => ?_⟩
  · rw [zipD_len, q1.length, q2.length]; omega
  · obtain ⟨x, y, e1, e2, rfl⟩ := zipD_at e
    obtain ⟨v, f1, p1⟩ := q1.get e1
    obtain ⟨u, f2, p2⟩ := q2.get e2
    refine ⟨⟨xs, ys, v, u, g1, g2, f1, f2⟩, ?_⟩
    rintro z H3 ⟨T, v', u', rfl, nT, rfl, k1, k2⟩
    have := k1 xs g1; rw [f1] at this; cases this
    have := k2 ys g2; rw [f2] at this; cases this
    exact ⟨Same.new nT, Rep.newWtp dom nT (.cons p1 (.cons p2 .nil))⟩
theorem Rep.lstA {G : Pm} {W : Addr → Prop} {v : V} {ds : List D} (r : Rep G W H v (.lst ds)) : ∃ a vs, v = .ref a ∧ Rd H a (.lst vs) ∧ ¬ W a ∧ Reps G W H vs ds := by
  cases r with
  | ref h w c => cases c with | lst r => exact ⟨_, _, rfl, h, w, r⟩
theorem Rep.tupA {G : Pm} {W : Addr → Prop} {v : V} {ds : List D} (r : Rep G W H v (.tup ds)) : ∃ a vs, v = .ref a ∧ ((Rd H a (.tup vs) ∧ ¬ W a) ∨ ConT G.K a vs) ∧ Reps G W H vs ds := by
  cases r with
  | ref h w c => cases c with | tup r => exact ⟨_, _, rfl, .inl ⟨h, w⟩, r⟩
  | tupK h r => exact ⟨_, _, rfl, .inr h, r⟩
theorem tup_sq {K : PySem.W.Frag} {W : Addr → Prop} {a : Addr} {vs : List V} (h : (Rd H a (.tup vs) ∧ ¬ W a) ∨ ConT K a vs) : SqT K H a vs := h.elim (fun z => .inl z.1) fun z => z.sq
theorem i_zip {e e2 : Expr} {p pos tpos : Pos} {elts : List Expr} {kk : Nat} {f : En → Out (List Pv)} (h : DA X Z [e, e2] f) (hg : Gl X "zip") (hm : X.mg "zip" = none)
    (hs : starEach [e, e2] X.env = (false, eval e X.env) :: starEach [e2] X.env := by rfl) (hpl : (backTo pos (starEach [e2] X.env)).any (·.1) = false := by rfl) :
    DI X Z (.Tuple elts kk tpos) (.Call (.Name "zip" p) [e, e2] [] pos) (iZ f) := by
  obtain ⟨_, pa, s⟩ := h
  refine ⟨_, pi_zipA hg hm pa hs hpl, ⟨fun {B as σ H ρ R'} R q => s.go R (q.bind.imp fun ps ρ1 H1 R1 g1 q1 vs k1 => ?_)⟩⟩
  cases k1 with
  | nil => exact q1.elim
  | cons k1 k2 =>
    cases k2 with
    | nil =>
      cases k1 with
      | b _ => exact q1.elim
      | @v u1 d1 k1 => cases d1 <;> exact q1.elim
    | cons k2 k3 =>
      cases k1 with
      | b _ => exact q1.elim
      | @v u1 d1 k1 =>
        cases k2 with
        | b _ => cases d1 <;> exact q1.elim
        | @v u2 d2 k2 =>
          cases k3 with
          | cons _ _ => cases d1 <;> first | exact q1.elim | (cases d2 <;> exact q1.elim)
          | nil =>
            cases d1 with
            | lst ds =>
              cases d2 with
              | lst es =>
                obtain ⟨a, xs, rfl, a1, a2, a3⟩ := k1.lstA
                obtain ⟨b, ys, rfl, b1, b2, b3⟩ := k2.lstA
                exact ⟨a, b, xs, ys, rfl, .inl ⟨.inl a1, .inl b1, q1 H1 R1 .refl _ H1 (Same.refl _) (walks_zipL a1 a2 a3 b1 b2 b3)⟩⟩
              | _ => exact q1.elim
            | tup ds =>
              cases d2 with
              | tup es =>
                obtain ⟨a, xs, rfl, a1, a3⟩ := k1.tupA
                obtain ⟨b, ys, rfl, b1, b3⟩ := k2.tupA
                exact ⟨a, b, xs, ys, rfl, .inr ⟨tup_sq a1, tup_sq b1, q1 H1 R1 .refl _ H1 (Same.refl _) (walks_zipT a1 a3 b1 b3)⟩⟩
              | _ => exact q1.elim
            | _ => exact q1.elim

/-! ### all, any -/
def asBls : List D → Option (List Bool)
  | [] => some []
  | .bl b :: r => (asBls r).map (b :: ·)
  | _ :: _ => none
theorem asBls_some : ∀ {ds : List D} {bs : List Bool}, asBls ds = some bs → ds = bs.map D.bl
  | [], _, h => by cases h; rfl
  | .bl b :: r, bs, h => by
    simp only [asBls, Option.map_eq_some_iff] at h
    obtain ⟨m, h1, rfl⟩ := h
    rw [asBls_some h1]; rfl
  | .non :: _, _, h | .int _ :: _, _, h | .str _ :: _, _, h | .tup _ :: _, _, h | .lst _ :: _, _, h | .dic _ :: _, _, h | .dit _ :: _, _, h | .obj _ _ _ :: _, _, h | .ty _ :: _, _, h => by cases h
theorem asBls_map (bs : List Bool) : asBls (bs.map D.bl) = some bs := by
  induction bs with
  | nil => rfl
  | cons n r ih => simp [asBls, ih]
theorem Reps.blsV {G : Pm} {W : Addr → Prop} : ∀ {vs : List V} {bs : List Bool}, Reps G W H vs (bs.map D.bl) → vs = bs.map V.bl
  | _, [], .nil => rfl
  | _, b :: bs, .cons h t => by
    rw [Reps.blsV t, List.map_cons]
    cases h with
    | bl => rfl
    | ref _ _ c => cases c
def gAll : List D → Option D
  | [.lst ds] => (asBls ds).map fun bs => .bl (bs.all id)
  | _ => none
def gAny : List D → Option D
  | [.lst ds] => (asBls ds).map fun bs => .bl (bs.any id)
  | _ => none
variable {a : Expr} {pos p1 : Pos} {f : En → Out (List Pv)}
theorem e_all (hc : X.calm = true) (hm : X.mg "all" = none) (ha : DA X Z [a] f) (hg : Gl X "all" := by rfl) (he : starEach [a] X.env = (false, eval a X.env) :: starEach [] X.env := by rfl) (hpl : (backTo pos (starEach [] X.env)).any (·.1) = false := by rfl) :
    DE X Z (.Call (.Name "all" p1) [a] [] pos) (cN gAll f) :=
  e_blt (cr_all hc) (fun {W H xs ds d Q} dom h e q => by
    unfold gAll at e
    split at e
    · simp only [Option.map_eq_some_iff] at e
      obtain ⟨bs, e1, rfl⟩ := e
      have := asBls_some e1
      subst this
      obtain ⟨v, rfl, hv⟩ := h.one
      obtain ⟨b, vs, rfl, s1, r1⟩ := hv.lst
      rw [r1.blsV] at s1
      exact ⟨b, bs, rfl, .inl s1, q _ H (Same.refl _) (.bl _)⟩
    · cases e) hm (by decide +kernel) ha hg (by decide) (by decide) he hpl
theorem e_any (hc : X.calm = true) (hm : X.mg "any" = none) (ha : DA X Z [a] f) (hg : Gl X "any" := by rfl) (he : starEach [a] X.env = (false, eval a X.env) :: starEach [] X.env := by rfl) (hpl : (backTo pos (starEach [] X.env)).any (·.1) = false := by rfl) :
    DE X Z (.Call (.Name "any" p1) [a] [] pos) (cN gAny f) :=
  e_blt (cr_any hc) (fun {W H xs ds d Q} dom h e q => by
    unfold gAny at e
    split at e
    · simp only [Option.map_eq_some_iff] at e
      obtain ⟨bs, e1, rfl⟩ := e
      have := asBls_some e1
      subst this
      obtain ⟨v, rfl, hv⟩ := h.one
      obtain ⟨b, vs, rfl, s1, r1⟩ := hv.lst
      rw [r1.blsV] at s1
      exact ⟨b, bs, rfl, .inl s1, q _ H (Same.refl _) (.bl _)⟩
    · cases e) hm (by decide +kernel) ha hg (by decide) (by decide) he hpl

/-! ### name += e, name -= e : whole numbers -/
theorem s_aug_add {i : Nat} {x : Str} {e : Expr} {pos pos' : Pos} {f : En → Out Pv} (hN : X.N.Nodup) (h : DE X Z e f) (hi : X.N[i]? = some x := by rfl) (hx : Loc X.env.scope x := by first | exact Or.inl rfl | exact Or.inr rfl)
    (hf : X.fn x = true ∨ X.env.scope.names.lookup x = some .local := by first | exact .inl rfl | exact .inr rfl | assumption) : DS X Z (.AugAssign (.Name x pos') .Add e pos) (sAug i f (gI (· + ·))) :=
  s_aug hN (r := ipI fun i j => i + j) ip_add (fun {W H x y a b d Q} dom ha hb e q => by
    unfold gI at e
    split at e
    · cases e; exact ⟨_, _, ha.int_, hb.int_, q _ H (Same.refl _) (.int _)⟩
    · cases e) h hi hx hf
theorem s_aug_sub {i : Nat} {x : Str} {e : Expr} {pos pos' : Pos} {f : En → Out Pv} (hN : X.N.Nodup) (h : DE X Z e f) (hi : X.N[i]? = some x := by rfl) (hx : Loc X.env.scope x := by first | exact Or.inl rfl | exact Or.inr rfl)
    (hf : X.fn x = true ∨ X.env.scope.names.lookup x = some .local := by first | exact .inl rfl | exact .inr rfl | assumption) : DS X Z (.AugAssign (.Name x pos') .Sub e pos) (sAug i f (gI (· - ·))) :=
  s_aug hN (r := ipI fun i j => i - j) ip_sub (fun {W H x y a b d Q} dom ha hb e q => by
    unfold gI at e
    split at e
    · cases e; exact ⟨_, _, ha.int_, hb.int_, q _ H (Same.refl _) (.int _)⟩
    · cases e) h hi hx hf
end
end L3
namespace L3
open PySem PySem.Spec PyProof.Rows L2
/-! ### a op b op c -/
section
variable {X : Cx} {Z : WXZ} {a b c : Expr} {pos : Pos} {fa fb fc : En → Out Pv} {g g' : D → D → Option D}
def cChain (g g' : D → D → Option D) (fa fb fc : En → Out Pv) : En → Out Pv := fun ρ => (fa ρ).bind fun p ρ1 => (fb ρ1).bind fun q ρ2 => match (pvD ρ2 p).bind fun x => (pvD ρ2 q).bind fun y => g x y with
  | some (.bl true) => (fc ρ2).bind fun r ρ3 => ofO ((pvD ρ3 q).bind fun y => (pvD ρ3 r).bind fun z => g' y z) ρ3
  | some (.bl false) => .ok (.v (.bl false)) ρ2
  | _ => .bad
theorem det_chain {r r' : R2} {ta tb tc : TE} (hr : Op2 X r g) (hr' : Op2 X r' g') (sa : DEt X Z ta fa) (sb : DEt X Z tb fb) (sc : DEt X Z tc fc) : DEt X Z (tChain r r' ta tb tc) (cChain g g' fa fb fc) := by
  refine ⟨fun {B as σ H ρ Q} R q => sa.go R (q.bind.imp fun p ρ1 H1 R1 g1 q1 v k1 => sb.go R1 (q1.bind.imp fun p' ρ2 H2 R2 g2 q2 u k2 => ?_))⟩
  cases ep : pvD ρ2 p with
  | none => rw [ep] at q2; exact q2.elim
  | some x =>
    cases eq : pvD ρ2 p' with
    | none => rw [ep, eq] at q2; exact q2.elim
    | some y =>
      rw [ep, eq] at q2
      simp only [Option.bind_some] at q2
      cases eg : g x y with
      | none => rw [eg] at q2; exact q2.elim
      | some d =>
        rw [eg] at q2
        refine hr R2.domA ((k1.go g2).peek R2 ep) (k2.peek R2 eq) eg fun w H3 s3 rw3 => ?_
        cases d with
        | bl k =>
          have ew : w = .bl k := by
            cases rw3 with
            | bl => rfl
            | ref _ _ c => cases c
          subst ew
          have R3 := R2.same s3
          refine ⟨k, rfl, ?_⟩
          cases k with
          | false => exact iteF (q2 H3 R3 (.of_same s3) _ (.v (.bl false)))
          | true =>
            refine iteT (sc.go R3 (q2.bind.after (.of_same s3) |>.imp fun p3 ρ4 H4 R4 g4 q4 z k4 => ?_))
            obtain ⟨d, e, q⟩ := q4.ofO R4
            cases e1 : pvD ρ4 p' with
            | none => rw [e1] at e; cases e
            | some y' =>
              rw [e1] at e
              cases e2 : pvD ρ4 p3 with
              | none => rw [e2] at e; cases e
              | some z' =>
                rw [e2] at e
                exact hr' R4.domA (((k2.go (.of_same s3)).go g4).peek R4 e1) (k4.peek R4 e2) e q
        | _ => exact q2.elim
theorem e_chain {op op' : CmpOp} {r r' : R2} (ho : OpR X (compareOp op) r) (hr : Op2 X r g) (ho' : OpR X (compareOp op') r') (hr' : Op2 X r' g') (ha : DE X Z a fa) (hb : DE X Z b fb) (hc : DE X Z c fc)
    (hm : lastMarks [op, op'] [b, c] = false := by with_unfolding_all rfl) : DE X Z (.Compare a [op, op'] [b, c] pos) (cChain g g' fa fb fc) :=
  let ⟨_, pa, sa⟩ := ha; let ⟨_, pb, sb⟩ := hb; let ⟨_, pc, sc⟩ := hc; ⟨_, pe_chain ho ho' pa pb pc hm, det_chain hr hr' sa sb sc⟩
theorem t_chain {op op' : CmpOp} {r r' : R2} (ho : OpR X (compareOp op) r) (hr : Op2 X r g) (ho' : OpR X (compareOp op') r') (hr' : Op2 X r' g') (ha : DE X Z a fa) (hb : DE X Z b fb) (hc : DE X Z c fc)
    (hm : lastMarks [op, op'] [b, c] = false := by with_unfolding_all rfl) : DT X Z (.Compare a [op, op'] [b, c] pos) (cB (cChain g g' fa fb fc)) :=
  let ⟨_, pa, sa⟩ := ha; let ⟨_, pb, sb⟩ := hb; let ⟨_, pc, sc⟩ := hc; ⟨_, pt_chain ho ho' pa pb pc hm, dtt_B (det_chain hr hr' sa sb sc)⟩
end
/-! ### in, not in : flat items of a list, a tuple -/
def flD : D → Option V
  | .non => some .non
  | .bl b => some (.bl b)
  | .int i => some (.int i)
  | .str x => some (.str x)
  | _ => none
def flDs : List D → Option (List V)
  | [] => some []
  | d :: r => (flD d).bind fun v => (flDs r).map (v :: ·)
def seqD : D → Option (List D)
  | .lst ds => some ds
  | .tup ds => some ds
  | _ => none
def gIn (neg : Bool) (a b : D) : Option D := (flD a).bind fun x => (seqD b).bind fun ds => (flDs ds).map fun xs => .bl (if neg then !inV x xs else inV x xs)
section
variable {X : Cx} {Z : WXZ} {G : Pm} {W : Addr → Prop} {H : Hp} {a b : Expr} {pos : Pos} {fa fb : En → Out Pv}
theorem RepP.fl {x : V} {d : D} {v : V} (r : RepP G W H x d) (e : flD d = some v) : x = v ∧ flatV v = true := by
  cases d with
  | non => cases e; exact ⟨r.non_, rfl⟩
  | bl b => cases e; exact ⟨r.bl_, rfl⟩
  | int i => cases e; exact ⟨r.int_, rfl⟩
  | str z => cases e; exact ⟨r.str_, rfl⟩
  | _ => cases e
theorem Reps.fl : ∀ {vs : List V} {ds : List D} {xs : List V}, Reps G W H vs ds → flDs ds = some xs → vs = xs ∧ xs.all flatV = true
  | _, _, _, .nil, e => by cases e; exact ⟨rfl, rfl⟩
  | _, _, _, .cons h t, e => by
    simp only [flDs, Option.bind_eq_some_iff, Option.map_eq_some_iff] at e
    obtain ⟨v, e1, r, e2, rfl⟩ := e
    obtain ⟨rfl, h2⟩ := RepP.fl (.rep h) e1
    obtain ⟨rfl, h4⟩ := Reps.fl t e2
    exact ⟨rfl, by rw [List.all_cons, h2, h4]; rfl⟩
theorem o_in (neg : Bool) : Op2 X (rIn X.K neg) (gIn neg) := fun {W H x y a b d Q} dom ha hb e q => by
  simp only [gIn, Option.bind_eq_some_iff, Option.map_eq_some_iff] at e
  obtain ⟨v, e1, ds, e2, xs, e3, rfl⟩ := e
  obtain ⟨rfl, f1⟩ := ha.fl e1
  cases b with
  | lst es =>
    cases e2
    obtain ⟨p, vs, rfl, h1, h2⟩ := hb.lst
    obtain ⟨rfl, f2⟩ := h2.fl e3
    exact ⟨p, vs, rfl, .inl (.inl h1), f1, f2, q _ H (Same.refl _) (.bl _)⟩
  | tup es =>
    cases e2
    obtain ⟨p, vs, rfl, h1, h2⟩ := hb.tup
    obtain ⟨rfl, f2⟩ := h2.fl e3
    exact ⟨p, vs, rfl, .inr h1, f1, f2, q _ H (Same.refl _) (.bl _)⟩
  | _ => cases e2
theorem e_in (ha : DE X Z a fa) (hb : DE X Z b fb) (hm : behindInMarks .In b = false := by with_unfolding_all rfl) : DE X Z (.Compare a [.In] [b] pos) (c2 (gIn false) fa fb) := d_cmp op_in_seq (o_in false) ha hb hm
theorem t_in (ha : DE X Z a fa) (hb : DE X Z b fb) (hm : behindInMarks .In b = false := by with_unfolding_all rfl) : DT X Z (.Compare a [.In] [b] pos) (cB (c2 (gIn false) fa fb)) := t_cmp op_in_seq (o_in false) ha hb hm
theorem e_nin (ha : DE X Z a fa) (hb : DE X Z b fb) (hm : behindInMarks .NotIn b = false := by with_unfolding_all rfl) : DE X Z (.Compare a [.NotIn] [b] pos) (c2 (gIn true) fa fb) := d_cmp op_notIn_seq (o_in true) ha hb hm
theorem t_nin (ha : DE X Z a fa) (hb : DE X Z b fb) (hm : behindInMarks .NotIn b = false := by with_unfolding_all rfl) : DT X Z (.Compare a [.NotIn] [b] pos) (cB (c2 (gIn true) fa fb)) := t_cmp op_notIn_seq (o_in true) ha hb hm
end
end L3
namespace L3
open PySem PySem.Spec PyProof.Rows L2
/-! ### range(a, b, c) -/
section
variable {X : Cx} {Z : WXZ} {B : Bs} {as : List (Option Addr)} {H : Hp}
def range3 (i j c : Int) : Option (List D) :=
  if c ≠ 0 ∧ c.natAbs < 1073741824 ∧ Builtin.Range.small i j c = true ∧ 0 ≤ Builtin.Range.rangeSize i j c then some ((List.range (Builtin.Range.rangeSize i j c).toNat).map fun (k : Nat) => D.int (i + (k : Int) * c)) else none
def iR3 (f : En → Out (List Pv)) : En → Out (List D) := fun ρ => (f ρ).bind fun ps ρ1 => match ps with
  | [.v (.int i), .v (.int j), .v (.int c)] => match range3 i j c with
    | some ds => .ok ds ρ1
    | none => .bad
  | _ => .bad
theorem walks_step (lo c : Int) (n : Nat) : Walks X B as H (Itc lo c n) ((List.range n).map fun (i : Nat) => D.int (lo + (i : Int) * c)) := by
  intro A H2 _ g
  refine ⟨by show n ≤ _; simp, fun i d e => ?_⟩
  have hi : i < n := by simpa using lt_of_get e
  rw [List.getElem?_map, List.getElem?_range hi] at e
  cases e
  refine ⟨hi, fun x H3 y => ?_⟩
  obtain ⟨rfl, rfl⟩ := y
  exact ⟨Same.refl _, .int _⟩
theorem i_range3 {tg a b c : Expr} {p pos : Pos} {f : En → Out (List Pv)} (h : DA X Z [a, b, c] f) (hg : Gl X "range") (hm : X.mg "range" = none)
    (hs : starEach [a, b, c] X.env = (false, eval a X.env) :: starEach [b, c] X.env := by rfl) (hpl : (backTo pos (starEach [b, c] X.env)).any (·.1) = false := by rfl) : DI X Z tg (.Call (.Name "range" p) [a, b, c] [] pos) (iR3 f) := by
  obtain ⟨_, pa, s⟩ := h
  refine ⟨_, pi_range3 hg hm pa hs hpl, ⟨fun {B as σ H ρ R'} R q => s.go R (q.bind.imp fun ps ρ1 H1 R1 g1 q1 vs k1 => ?_)⟩⟩
  split at q1
  · rename_i i j c
    cases k1 with
    | cons k1 k =>
      cases k with
      | cons k2 k =>
        cases k with
        | cons k3 k =>
          cases k
          cases k1 with
          | v k1 => cases k2 with
            | v k2 => cases k3 with
              | v k3 =>
                unfold range3 at q1
                split at q1
                · rename_i ds e
                  split at e
                  · rename_i hc
                    cases e
                    exact ⟨i, j, c, _, by rw [k1.int_, k2.int_, k3.int_], ⟨hc.1, hc.2.1, hc.2.2.1, by have := hc.2.2.2; omega⟩, q1 H1 R1 .refl _ H1 (Same.refl _) (walks_step i c _)⟩
                  · cases e
                · exact q1.elim
  · exact q1.elim
end
end L3
namespace L3
open PySem PySem.Spec PyProof.Rows L2
/-! ### list(range(..)) -/
section
variable {X : Cx} {Z : WXZ} {a b c e : Expr} {fa fb fc : En → Out Pv} {p pos p1 : Pos}
/-- an expression that makes a range object -/
structure DRt (X : Cx) (Z : WXZ) (t : L2.St → Hp → (Int → Int → Int → Hp → Prop) → Prop) (f : En → Out (Int × Int × Int)) : Prop where
  go : ∀ {B : Bs} {as : List (Option Addr)} {σ : L2.St} {H : Hp} {ρ : En} {Q : Int → Int → Int → Hp → Prop}, Rel X.G B as σ H ρ → EO X Z B as σ H (fun r _ H' => Q r.1 r.2.1 r.2.2 H') (f ρ) → t σ H Q
def DR (X : Cx) (Z : WXZ) (e : Expr) (f : En → Out (Int × Int × Int)) : Prop := ∃ t, (∀ (pins : List (Addr × Obj)) (s : Shared) (σ : L2.St) (H : Hp) (Q : Int → Int → Int → Hp → Prop), Inv X pins σ H s → t σ H Q →
    wpAny (model X.prog X.w) X.A (eval e X.env) (fun x s' => ∃ r a b c t u v H', x = .ref r ∧ IsRange s'.heap r a b c t u v ∧ Inv X pins σ H' s' ∧ Q a b c H') X.xe s) ∧ DRt X Z t f
def intP (p : Pv) : Option Int := match p with
  | .v (.int i) => some i
  | _ => none
theorem intP_ok {B : Bs} {as : List (Option Addr)} {H : Hp} {v : V} {p : Pv} {i : Int} (h : PvOk X.G (B.W as) as H v p) (e : intP p = some i) : v = .int i := by
  cases h with
  | @v v d h =>
    cases d with
    | int j => cases e; exact h.int_
    | _ => cases e
  | b _ => cases e
def r1F (fa : En → Out Pv) : En → Out (Int × Int × Int) := fun ρ => (fa ρ).bind fun p ρ1 => match intP p with
  | some i => .ok (0, i, 1) ρ1
  | none => .bad
def r2F (fa fb : En → Out Pv) : En → Out (Int × Int × Int) := fun ρ => (fa ρ).bind fun p ρ1 => (fb ρ1).bind fun q ρ2 => match intP p, intP q with
  | some i, some j => .ok (i, j, 1) ρ2
  | _, _ => .bad
def r3F (fa fb fc : En → Out Pv) : En → Out (Int × Int × Int) := fun ρ => (fa ρ).bind fun p ρ1 => (fb ρ1).bind fun q ρ2 => (fc ρ2).bind fun r ρ3 => match intP p, intP q, intP r with
  | some i, some j, some k => if k ≠ 0 ∧ k.natAbs < 1073741824 then .ok (i, j, k) ρ3 else .bad
  | _, _, _ => .bad
theorem r_1 (ha : DE X Z a fa) (hg : Gl X "range") (hm : X.mg "range" = none) (na : starEach [a] X.env = (false, eval a X.env) :: starEach [] X.env := by rfl) : DR X Z (.Call (.Name "range" p) [a] [] pos) (r1F fa) := by
  obtain ⟨ta, pa, sa⟩ := ha
  refine ⟨fun σ H Q => ta σ H fun x H1 => ∃ i, x = .int i ∧ Q 0 i 1 H1, fun pins s σ H Q I h => ?_, ⟨fun {B as σ H ρ Q} R q => sa.go R (q.bind.imp fun p ρ1 H1 R1 g1 q1 v k1 => ?_)⟩⟩
  · refine Call_ (ld_blt I hg hm boot_range (PyProof.Rows.callWith_type1 (one_arg pa I h (fun v s2 x H2 I2 r q => ?_) na) na))
    obtain ⟨n, rfl, q⟩ := q
    obtain ⟨t, rfl⟩ := r
    exact call_range_1 ⟨_, 0, n, 1, _, _, _, H2, rfl, IsRange.new _ _ _ _ _ _ _, I2.kept fun b u e => Heap.get?_push_of_some _ e, q⟩
  · cases e : intP p with
    | none => rw [e] at q1; exact q1.elim
    | some i =>
      rw [e] at q1
      exact ⟨i, intP_ok k1 e, q1 H1 R1 .refl⟩
theorem r_2 (ha : DE X Z a fa) (hb : DE X Z b fb) (hg : Gl X "range") (hm : X.mg "range" = none) (na : starEach [a, b] X.env = (false, eval a X.env) :: starEach [b] X.env := by rfl)
    (nb : starEach [b] X.env = (false, eval b X.env) :: starEach [] X.env := by rfl) (hp : (backTo pos (starEach [b] X.env)).any (·.1) = false := by rfl) : DR X Z (.Call (.Name "range" p) [a, b] [] pos) (r2F fa fb) := by
  obtain ⟨ta, pa, sa⟩ := ha
  obtain ⟨tb, pb, sb⟩ := hb
  refine ⟨fun σ H Q => ta σ H fun x H1 => tb σ H1 fun y H2 => ∃ i j, x = .int i ∧ y = .int j ∧ Q i j 1 H2, fun pins s σ H Q I h => ?_, ⟨fun {B as σ H ρ Q} R q => sa.go R (q.bind.imp fun p ρ1 H1 R1 g1 q1 v k1 => sb.go R1 (q1.bind.imp fun p' ρ2 H2 R2 g2 q2 u k2 => ?_))⟩⟩
  · refine Call_ (ld_blt I hg hm boot_range (PyProof.Rows.callWith_type1 (args_cons (thn (pa.run pins s σ H _ I h) fun v s1 ⟨x, H1, I1, r1, q1⟩ => one_arg pb I1 q1 (fun u s2 y H2 I2 r2 q => ?_) nb) na) na hp))
    obtain ⟨i, j, rfl, rfl, q⟩ := q
    obtain ⟨t, rfl⟩ := r1
    obtain ⟨t', rfl⟩ := r2
    exact call_range_2 ⟨_, i, j, 1, _, _, _, H2, rfl, IsRange.new _ _ _ _ _ _ _, I2.kept fun b u e => Heap.get?_push_of_some _ e, q⟩
  · cases e : intP p with
    | none => rw [e] at q2; exact q2.elim
    | some i =>
      cases e2 : intP p' with
      | none => rw [e, e2] at q2; exact q2.elim
      | some j =>
        rw [e, e2] at q2
        exact ⟨i, j, intP_ok k1 e, intP_ok k2 e2, q2 H2 R2 .refl⟩
theorem r_3 (ha : DE X Z a fa) (hb : DE X Z b fb) (hc : DE X Z c fc) (hg : Gl X "range") (hm : X.mg "range" = none) (na : starEach [a, b, c] X.env = (false, eval a X.env) :: starEach [b, c] X.env := by rfl)
    (nb : starEach [b, c] X.env = (false, eval b X.env) :: starEach [c] X.env := by rfl) (nc : starEach [c] X.env = (false, eval c X.env) :: starEach [] X.env := by rfl) (hp : (backTo pos (starEach [b, c] X.env)).any (·.1) = false := by rfl) : DR X Z (.Call (.Name "range" p) [a, b, c] [] pos) (r3F fa fb fc) := by
  obtain ⟨ta, pa, sa⟩ := ha
  obtain ⟨tb, pb, sb⟩ := hb
  obtain ⟨tc, pc, sc⟩ := hc
  refine ⟨fun σ H Q => ta σ H fun x H1 => tb σ H1 fun y H2 => tc σ H2 fun z H3 => ∃ i j k, x = .int i ∧ y = .int j ∧ z = .int k ∧ (k ≠ 0 ∧ k.natAbs < 1073741824) ∧ Q i j k H3, fun pins s σ H Q I h => ?_,
    ⟨fun {B as σ H ρ Q} R q => sa.go R (q.bind.imp fun p ρ1 H1 R1 g1 q1 v k1 => sb.go R1 (q1.bind.imp fun p' ρ2 H2 R2 g2 q2 u k2 => sc.go R2 (q2.bind.imp fun p3 ρ3 H3 R3 g3 q3 w k3 => ?_)))⟩⟩
  · refine Call_ (ld_blt I hg hm boot_range (PyProof.Rows.callWith_type1 (args_cons (thn (pa.run pins s σ H _ I h) fun v s1 ⟨x, H1, I1, r1, q1⟩ => args_cons (thn (pb.run pins s1 σ H1 _ I1 q1) fun u s2 ⟨y, H2, I2, r2, q2⟩ => one_arg pc I2 q2 (fun w s3 z H3 I3 r3 q => ?_) nc) nb) na) na hp))
    obtain ⟨i, j, k, rfl, rfl, rfl, hk, q⟩ := q
    obtain ⟨t, rfl⟩ := r1
    obtain ⟨t', rfl⟩ := r2
    obtain ⟨t3, rfl⟩ := r3
    exact call_range_3 hk.1 ⟨_, i, j, k, _, _, _, H3, rfl, IsRange.new _ _ _ _ _ _ _, I3.kept fun b u e => Heap.get?_push_of_some _ e, q⟩ (Or.inl (PyProof.noPylong_small (by have := hk.2; omega)))
  · cases e : intP p with
    | none => rw [e] at q3; exact q3.elim
    | some i =>
      cases e2 : intP p' with
      | none => rw [e, e2] at q3; exact q3.elim
      | some j =>
        cases e3 : intP p3 with
        | none => rw [e, e2, e3] at q3; exact q3.elim
        | some k =>
          rw [e, e2, e3] at q3
          dsimp only at q3
          split at q3
          · rename_i hk
            exact ⟨i, j, k, intP_ok k1 e, intP_ok k2 e2, intP_ok k3 e3, hk, q3 H3 R3 .refl⟩
          · exact q3.elim
def ranL (i j c : Int) : Option (List D) :=
  if Builtin.Range.small i j c = true ∧ 0 ≤ Builtin.Range.rangeSize i j c ∧ Builtin.Range.rangeSize i j c ≤ 16000000 then some ((List.range (Builtin.Range.rangeSize i j c).toNat).map fun (k : Nat) => D.int (i + (k : Int) * c)) else none
def nRan (f : En → Out (Int × Int × Int)) : En → Out D := fun ρ => (f ρ).bind fun r ρ1 => match ranL r.1 r.2.1 r.2.2 with
  | some ds => .ok (.lst ds) ρ1
  | none => .bad
theorem reps_ran {G : Pm} {W : Addr → Prop} {H : Hp} (i c : Int) : ∀ l : List Nat, Reps G W H (l.map fun (k : Nat) => V.int (i + (k : Int) * c)) (l.map fun (k : Nat) => D.int (i + (k : Int) * c))
  | [] => .nil
  | _ :: l => .cons (.int _) (reps_ran i c l)
theorem n_ran {f : En → Out (Int × Int × Int)} (hcm : X.calm = true) (hm : X.mg "list" = none) (he : DR X Z e f) (hg : Gl X "list" := by rfl) (na : starEach [e] X.env = (false, eval e X.env) :: starEach [] X.env := by rfl) : DN X Z (.Call (.Name "list" p1) [e] [] pos) (nRan f) := by
  obtain ⟨t, pe, se⟩ := he
  refine ⟨fun σ H Q => t σ H fun i j c H1 => (Builtin.Range.small i j c = true ∧ 0 ≤ Builtin.Range.rangeSize i j c ∧ Builtin.Range.rangeSize i j c ≤ 16000000) ∧
      ∀ q, H1 q = none → Q (.ref q) (upd H1 q (.lst ((List.range (Builtin.Range.rangeSize i j c).toNat).map fun (k : Nat) => V.int (i + (k : Int) * c)))), ⟨fun pins s σ H Q I h => ?_⟩, ⟨fun {B as σ H ρ Q} R q => se.go R (q.bind.imp fun r ρ1 H1 R1 g1 q1 => ?_)⟩⟩
  · refine Call_ (ld_blt I hg hm boot_list (PyProof.Rows.callWith_type1 (args_cons (thn (pe pins s σ H _ I h) fun x s1 ⟨r, a, b, c, t, u, v, H1, ex, hr, I1, ok, q⟩ => args_nil ?_) na) na))
    subst ex
    obtain ⟨o1, o2, o3⟩ := ok
    refine call_list_range (n := (Builtin.Range.rangeSize a b c).toNat) (I1.ok.hd hcm) hr o1 (by omega) (by omega) fun h' tk acc c' hk e' hi => ?_
    have hz : acc.toList.length = (Builtin.Range.rangeSize a b c).toNat := by rw [Array.length_toList]; exact hi.1
    have vr : Vals ((List.range (Builtin.Range.rangeSize a b c).toNat).map fun (k : Nat) => V.int (a + (k : Int) * c)) acc.toList := by
      rw [← hz]
      refine vals_of_get acc.toList _ fun j u hj => ?_
      obtain ⟨t, rfl⟩ := hi.2 j u (by rw [← hj, Array.getElem?_toList])
      exact ⟨t, rfl⟩
    refine ⟨.ref s1.heap.objs.size, upd H1 s1.heap.objs.size (.lst _), I1.laid hk (Nat.le_refl _) (show ObjOk X.prog X.w _ _ _ (.lst _) from ⟨?_, acc.toList, c', vr, ?_⟩), rfl, q _ (I1.hok.fresh (Nat.le_refl _))⟩
    · rw [List.length_map, List.length_range, sizeLine_eq]; omega
    · rw [Array.toArray_toList]; exact e'
  · unfold ranL at q1
    split at q1
    · rename_i ds e
      split at e
      · rename_i hk
        cases e
        exact ⟨hk, fun q hq => DNt.lay R1 hq (g1.grow q hq) True.intro (.lst (reps_ran _ _ _)) q1⟩
      · cases e
    · exact q1.elim
end
end L3
namespace L3
open PySem PySem.Spec PyProof.Rows L2

/-! ### one reading for all contexts of one text -/
section
variable {X : Cx} {Z : WXZ}
def TEof (X : Cx) (Z : WXZ) (f : En → Out Pv) : TE := fun σ H Q => ∃ B as ρ, Rel X.G B as σ H ρ ∧ EO X Z B as σ H (fun p _ H' => ∀ v, PvOk X.G (B.W as) as H' v p → Q v H') (f ρ)
def TTof (X : Cx) (Z : WXZ) (f : En → Out Bool) : TT := fun σ H Q => ∃ B as ρ, Rel X.G B as σ H ρ ∧ EO X Z B as σ H (fun b _ H' => Q b H') (f ρ)
theorem DE.pe {e : Expr} {f : En → Out Pv} (h : DE X Z e f) : PE X e (TEof X Z f) := by
  obtain ⟨t, p, s⟩ := h
  exact ⟨fun pins st σ H Q I ⟨B, as, ρ, R, q⟩ => p.run pins st σ H Q I (s.go R q)⟩
theorem DT.pt {e : Expr} {f : En → Out Bool} (h : DT X Z e f) : PT X e (TTof X Z f) := by
  obtain ⟨t, p, s⟩ := h
  exact ⟨fun pins st σ H Q I ⟨B, as, ρ, R, q⟩ => p.run pins st σ H Q I (s.go R q)⟩
end

/-! ### several slots -/
def setAllF {α : Type} : List Nat → List α → List α → List α
  | [] => fun _ l => l
  | i :: is => fun xs l => match xs with
    | [] => l
    | x :: xs => setAllF is xs (l.set i x)
abbrev setAll {α : Type} (l : List α) (is : List Nat) (xs : List α) : List α := setAllF is xs l
def unAll (ρ : En) : List Nat → En
  | [] => ρ
  | i :: is => (unAll ρ is).set i .un
theorem setAll_len {α : Type} : ∀ (l : List α) (is : List Nat) (xs : List α), (setAll l is xs).length = l.length
  | l, [], _ => rfl
  | l, _ :: _, [] => rfl
  | l, i :: is, x :: xs => by exact (setAll_len (l.set i x) is xs).trans List.length_set
theorem setAll_out {α : Type} : ∀ (l : List α) (is : List Nat) (xs : List α) (j : Nat), j ∉ is → (setAll l is xs)[j]? = l[j]?
  | l, [], _, j, _ => rfl
  | l, _ :: _, [], j, _ => rfl
  | l, i :: is, x :: xs, j, h => by
    exact (setAll_out (l.set i x) is xs j (fun z => h (List.mem_cons_of_mem _ z))).trans (List.getElem?_set_ne (fun z => h (by rw [z]; exact List.mem_cons_self)))
theorem wipe_get (σ : L2.St) : ∀ (is : List Nat) (j : Nat), (wipe σ is)[j]? = if j ∈ is then (σ[j]?).map (fun _ => none) else σ[j]?
  | [], j => by simp [wipe]
  | i :: is, j => by
    rw [wipe]
    by_cases e : j = i
    · subst e
      by_cases hl : j < σ.length
      · rw [List.getElem?_set_self (by rw [wipe_length]; exact hl)]
        simp [List.getElem?_eq_getElem hl]
      · rw [List.getElem?_eq_none (by simp [wipe_length]; omega)]
        simp [List.getElem?_eq_none (show σ.length ≤ j by omega)]
    · rw [List.getElem?_set_ne (Ne.symm e), wipe_get σ is j]
      simp [e]
theorem unAll_len (ρ : En) : ∀ is : List Nat, (unAll ρ is).length = ρ.length
  | [] => rfl
  | i :: is => by rw [unAll, List.length_set, unAll_len ρ is]
theorem unAll_get (ρ : En) : ∀ (is : List Nat) (j : Nat), (unAll ρ is)[j]? = if j ∈ is then (ρ[j]?).map (fun _ => .un) else ρ[j]?
  | [], j => by simp [unAll]
  | i :: is, j => by
    rw [unAll]
    by_cases e : j = i
    · subst e
      by_cases hl : j < ρ.length
      · rw [List.getElem?_set_self (by rw [unAll_len]; exact hl)]
        simp [List.getElem?_eq_getElem hl]
      · rw [List.getElem?_eq_none (by simp [unAll_len]; omega)]
        simp [List.getElem?_eq_none (show ρ.length ≤ j by omega)]
    · rw [List.getElem?_set_ne (Ne.symm e), unAll_get ρ is j]
      simp [e]
theorem wipe_again {σ σ2 : L2.St} {is : List Nat} (hl : σ2.length = σ.length) (h : ∀ j, j ∉ is → σ2[j]? = σ[j]?) : wipe σ2 is = wipe σ is := by
  apply List.ext_getElem?
  intro j
  rw [wipe_get, wipe_get]
  by_cases e : j ∈ is
  · rw [if_pos e, if_pos e]
    by_cases hj : j < σ.length
    · rw [List.getElem?_eq_getElem hj, List.getElem?_eq_getElem (show j < σ2.length by omega)]; rfl
    · rw [List.getElem?_eq_none (by omega), List.getElem?_eq_none (by omega)]
  · rw [if_neg e, if_neg e, h j e]

/-- a target of names: g stores the parts of the data -/
def NTg (K : PySem.W.Frag) (g : TG) (is : List Nat) (h : D → Option (List D)) : Prop := ∀ {mg : Str → Option Value} {W : Addr → Prop} {H : Hp} {v : V} {d : D} {ds : List D} {σ : L2.St} {Q : L2.St → Hp → Prop},
  Rep ⟨K, mg⟩ W H v d → h d = some ds → (∀ vs, Reps ⟨K, mg⟩ W H vs ds → ds.length = is.length → Q (setAll σ is (vs.map some)) H) → g v σ H Q
def hOne : D → Option (List D) := fun d => some [d]
def hTup (n : Nat) : D → Option (List D)
  | .tup ds => if ds.length = n then some ds else none
  | .obj c ks ds => if c = "" ∧ ks = [] ∧ ds ≠ [] ∧ ds.length = n then some ds else none
  | _ => none
theorem ntg_name {K : PySem.W.Frag} (i : Nat) : NTg K (gName i) [i] hOne := fun {mg W H v d ds σ Q} r e q => by
  cases e
  exact q [v] (.cons r .nil) rfl
def gNames : List Nat → TGs
  | [] => gNil
  | i :: is => gCons (gName i) (gNames is)
theorem gNames_ok : ∀ (is : List Nat) {vs : List V} {σ : L2.St} {H : Hp} {Q : L2.St → Hp → Prop}, vs.length = is.length → Q (setAll σ is (vs.map some)) H → gNames is vs σ H Q
  | [], [], σ, H, Q, _, q => ⟨rfl, q⟩
  | i :: is, v :: vs, σ, H, Q, h, q => ⟨v, vs, rfl, gNames_ok is (by simpa using h) q⟩
  | [], _ :: _, _, _, _, h, _ => by simp at h
  | _ :: _, [], _, _, _, h, _ => by simp at h
theorem ntg_tup {K : PySem.W.Frag} (is : List Nat) : NTg K (gTup K is.length (gNames is)) is (hTup is.length) := fun {mg W H v d ds σ Q} r e q => by
  unfold hTup at e
  split at e
  · split at e
    · rename_i hl
      cases e
      obtain ⟨a, vs, rfl, h1, h2⟩ := RepP.tup (.rep r)
      exact ⟨a, vs, rfl, h1, by rw [h2.length]; exact hl, gNames_ok is (by rw [h2.length]; exact hl) (q vs h2 hl)⟩
    · cases e
  · split at e
    · rename_i hl
      obtain ⟨rfl, rfl, hn, hl⟩ := hl
      cases e
      obtain ⟨a, vs, rfl, h1, h2⟩ := RepP.wtp (.rep r) hn
      exact ⟨a, vs, rfl, h1, by rw [h2.length]; exact hl, gNames_ok is (by rw [h2.length]; exact hl) (q vs h2 hl)⟩
    · cases e
  · cases e

/-! ### [e for target in iter if c] -/
def lcL (is : List Nat) (h : D → Option (List D)) (c : En → Out Bool) (e : En → Out Pv) : List D → List D → En → Out (List D)
  | [], acc, ρ => .ok acc ρ
  | d :: r, acc, ρ => match h d with
    | some ds => match c (setAll ρ is (ds.map .val)) with
      | .ok true ρ2 => match e ρ2 with
        | .ok (.v x) ρ3 => if acc.length < sizeLine then lcL is h c e r (acc ++ [x]) (unAll ρ3 is) else .bad
        | _ => .bad
      | .ok false ρ2 => lcL is h c e r acc (unAll ρ2 is)
      | _ => .bad
    | none => .bad
def noAdr (ρ : En) (is : List Nat) : Bool := is.all fun i => match ρ[i]? with
  | some (.own _) => false
  | some (.bor _) => false
  | _ => true
/-- the slots is of ρ, all else of ρ' -/
def backAll (ρ ρ' : En) : List Nat → En
  | [] => ρ'
  | i :: is => match ρ[i]? with
    | some s => (backAll ρ ρ' is).set i s
    | none => backAll ρ ρ' is
def nLc (it : En → Out (List D)) (is : List Nat) (h : D → Option (List D)) (c : En → Out Bool) (e : En → Out Pv) : En → Out D := fun ρ => (it ρ).bind fun ds ρ1 =>
  if noAdr ρ1 is = true then match lcL is h c e ds [] (unAll ρ1 is) with
    | .ok acc ρ2 => .ok (.lst acc) (backAll ρ1 ρ2 is)
    | _ => .bad
  else .bad
def cYes : En → Out Bool := fun ρ => .ok true ρ
theorem backAll_len (ρ ρ' : En) : ∀ is, (backAll ρ ρ' is).length = ρ'.length
  | [] => rfl
  | i :: is => by
    rw [backAll]
    split
    · rw [List.length_set, backAll_len ρ ρ' is]
    · exact backAll_len ρ ρ' is
theorem backAll_get {ρ ρ' : En} (hl : ρ'.length = ρ.length) : ∀ (is : List Nat) (j : Nat), (backAll ρ ρ' is)[j]? = if j ∈ is then ρ[j]? else ρ'[j]?
  | [], j => by simp [backAll]
  | i :: is, j => by
    rw [backAll]
    by_cases e : j = i
    · subst e
      rw [if_pos List.mem_cons_self]
      cases e : ρ[j]? with
      | some s =>
        dsimp only
        have hj : j < ρ.length := (List.getElem?_eq_some_iff.mp e).1
        rw [List.getElem?_set_self (by rw [backAll_len, hl]; exact hj)]
      | none =>
        dsimp only
        have hj := List.getElem?_eq_none_iff.mp e
        rw [List.getElem?_eq_none (show (backAll ρ ρ' is).length ≤ j by rw [backAll_len]; omega)]
    · have : (backAll ρ ρ' is)[j]? = if j ∈ i :: is then ρ[j]? else ρ'[j]? := by
        rw [backAll_get hl is j]; simp [e]
      split
      · rw [List.getElem?_set_ne (Ne.symm e)]; exact this
      · exact this
section
variable {X : Cx} {Z : WXZ} {B : Bs} {as : List (Option Addr)} {σ : L2.St} {H H' : Hp} {ρ ρ' : En}
theorem noAdr_none (R : Rel X.G B as σ H ρ) {is : List Nat} (h : noAdr ρ is = true) {i : Nat} (hi : i ∈ is) {a : Option Addr} (e : as[i]? = some a) : a = none := by
  cases a with
  | none => rfl
  | some a =>
    obtain ⟨d, _, h2, _⟩ := R.at_a e
    have := List.all_eq_true.mp h i hi
    rcases h2 with h2 | h2 <;> (rw [h2] at this; cases this)
/-- the slots is hold anything; un in ρ -/
theorem Rel.uns (R : Rel X.G B as σ H ρ) {is : List Nat} (hn : ∀ i ∈ is, ∀ a, as[i]? = some a → a = none) {σ2 : L2.St} (hl : σ2.length = σ.length) (h : ∀ j, j ∉ is → σ2[j]? = σ[j]?) : Rel X.G B as σ2 H (unAll ρ is) := by
  refine ⟨by rw [hl, unAll_len]; exact R.l1, by rw [unAll_len]; exact R.l2, fun i v s a h1 h2 h3 => ?_, fun i d h1 => ?_, fun i d a h1 h2 => ?_, R.inj, R.nw, R.dom, R.gr⟩
  · rw [unAll_get] at h2
    split at h2
    · rename_i hi
      simp only [Option.map_eq_some_iff] at h2
      obtain ⟨_, _, rfl⟩ := h2
      rw [hn i hi a h3]
      exact .un _
    · rename_i hi
      exact R.sl i v s a ((h i hi).symm.trans h1) h2 h3
  · rw [unAll_get] at h1
    split at h1
    · simp only [Option.map_eq_some_iff] at h1
      obtain ⟨_, _, z⟩ := h1; cases z
    · exact R.pin i d h1
  · rw [unAll_get] at h1
    split at h1
    · simp only [Option.map_eq_some_iff] at h1
      obtain ⟨_, _, z⟩ := h1; cases z
    · exact R.fr i d a h1 h2
theorem Rel.sets : ∀ {is : List Nat} (_ : ∀ i ∈ is, ∀ a, as[i]? = some a → a = none) {vs : List V} {ds : List D}, Reps X.G (B.W as) H vs ds → ∀ {σ ρ}, Rel X.G B as σ H ρ → Rel X.G B as (setAll σ is (vs.map some)) H (setAll ρ is (ds.map .val))
  | [], _, _, _, _, σ, ρ, R => R
  | _ :: _, _, _, _, .nil, σ, ρ, R => R
  | i :: is, hn, _, _, .cons h t, σ, ρ, R => by
    have e : as.set i none = as := by
      apply List.ext_getElem?
      intro j
      by_cases hj : j = i
      · subst hj
        by_cases hl : j < as.length
        · rw [List.getElem?_set_self hl]
          have := hn j List.mem_cons_self _ (List.getElem?_eq_getElem hl)
          rw [List.getElem?_eq_getElem hl, this]
        · rw [List.getElem?_eq_none (by simpa using hl), List.getElem?_eq_none (by omega)]
      · rw [List.getElem?_set_ne (Ne.symm hj)]
    have R2 := (R.setVal i h).1
    rw [e] at R2
    exact Rel.sets (fun j hj => hn j (List.mem_cons_of_mem _ hj)) t R2
/-- the outer slots again; H: the heap at the outset -/
theorem Rel.backs {B' : Bs} (R0 : Rel X.G B as σ H ρ) {is : List Nat} (hn : ∀ i ∈ is, ∀ a, as[i]? = some a → a = none) {σw : L2.St} (hw : ∀ j, j ∉ is → σw[j]? = σ[j]?) (hpn : B'.pn = B.pn) (R : Rel X.G B' as σw H' ρ')
    (st : Stp (B.W as) H (B'.W as) H') : Rel X.G B' as σ H' (backAll ρ ρ' is) := by
  have hl : ρ'.length = ρ.length := by rw [← R.l2, R0.l2]
  refine ⟨by rw [backAll_len, hl]; exact R0.l1, by rw [backAll_len, hl]; exact R0.l2, fun i v s a h1 h2 h3 => ?_, fun i d h1 => ?_, fun i d a h1 h2 => ?_, R.inj, R.nw, R.dom, R.gr⟩
  · rw [backAll_get hl] at h2
    split at h2
    · rename_i hi
      have := hn i hi a h3
      subst this
      cases R0.sl i v s none h1 h2 h3 with
      | un => exact .un _
      | val x => exact .val (x.stp st)
    · rename_i hi
      exact R.sl i v s a ((hw i hi).trans h1) h2 h3
  · rw [backAll_get hl] at h1
    split at h1
    · rw [hpn]; exact R0.pin i d h1
    · exact R.pin i d h1
  · rw [backAll_get hl] at h1
    split at h1
    · rename_i hi
      have := hn i hi _ h2
      cases this
    · exact R.fr i d a h1 h2
def Z0 : WXZ := fun _ _ _ _ => False
theorem dnt_lc {wi : TI} {g : TG} {tt : TT} {te : TE} {is : List Nat} {it : En → Out (List D)} {h : D → Option (List D)} {c : En → Out Bool} {e : En → Out Pv} (si : DIt X Z wi it) (sg : NTg X.K g is h) (st : DTt X Z0 tt c) (se : DEt X Z0 te e) :
    DNt X Z (tLc wi g tt te is) (nLc it is h c e) := by
  refine ⟨fun {B as σ H ρ Q} R q => si.go R (q.bind.imp fun ds ρ1 H1 R1 g1 q1 J H2 s2 wk Dd hD => ?_)⟩
  split at q1
  rotate_left
  · exact q1.elim
  rename_i hno
  have R2 := R1.same s2
  have g2 : Go (Ad as) H (Ad as) H2 := g1.trans (.of_same s2)
  have hn : ∀ i ∈ is, ∀ a, as[i]? = some a → a = none := fun i hi a ha => noAdr_none R1 hno hi ha
  obtain ⟨R3, g3⟩ := R2.more (o := .lst []) hD
  have nD : ¬ Ad as Dd := fun z => R2.fresh hD (.inr z)
  -- from H2 on, with the new list among the own ones
  let A : Addr → Prop := fun b => Ad as b ∨ b = Dd
  have gA : ∀ {Ha Hb : Hp}, Go (Ad as) Ha (Ad as) Hb → Go A Ha A Hb := fun {Ha Hb} g => ⟨fun b o e n => g.keep b o e fun z => n (.inl z), fun b z => .inl z, g.grow⟩
  have goD : ∀ {Ha : Hp} {o : HO}, (∃ u, Ha Dd = some u) → Go A Ha A (upd Ha Dd o) := fun {Ha o} ⟨u, hu⟩ => ⟨fun b u e n => by rw [upd_ne (fun z => n (.inr z))]; exact e, fun b z => .inl z, fun b e => by
    by_cases z : b = Dd
    · subst z; rw [upd_same] at e; cases e
    · rw [upd_ne z] at e; exact e⟩
  have g0 : Go (Ad as) H2 A (upd H2 Dd (.lst [])) := ⟨g3.keep, fun b z => z.elim .inl fun e => .inr (by rw [e]; exact hD), g3.grow⟩
  have eW : Wu B.W0 A = (B.and Dd).W as := by
    funext b
    exact propext ⟨fun z => z.elim (fun z => .inl (.inl z)) fun z => z.elim .inr fun z => .inl (.inr z), fun z => z.elim (fun z => z.elim .inl fun z => .inr (.inr z)) fun z => .inr (.inl z)⟩
  have hwl : (wipe σ is).length = σ.length := wipe_length σ is
  have hwo : ∀ j, j ∉ is → (wipe σ is)[j]? = σ[j]? := fun j hj => by rw [wipe_get, if_neg hj]
  refine ⟨fun i m Hc => m = ds.length - i ∧ i ≤ ds.length ∧ ∃ ρc acc vs, Rel X.G (B.and Dd) as (wipe σ is) Hc ρc ∧ Go (Ad as) H2 A Hc ∧ Hc Dd = some (.lst vs) ∧ Reps X.G ((B.and Dd).W as) Hc vs acc ∧
      (match lcL is h c e (ds.drop i) acc ρc with
        | .ok acc' ρ2 => ∀ Hf vf, Rel X.G (B.and Dd) as (wipe σ is) Hf ρ2 → Go (Ad as) H2 A Hf → Hf Dd = some (.lst vf) → Reps X.G ((B.and Dd).W as) Hf vf acc' → Q (.ref Dd) Hf
        | _ => False), ⟨_, rfl, Nat.zero_le _, unAll ρ1 is, [], [], R3.uns hn hwl hwo, g0, upd_same, .nil, ?_⟩, ?_⟩
  · rw [List.drop_zero]
    cases el : lcL is h c e ds [] (unAll ρ1 is) with
    | bad => rw [el] at q1; exact q1.elim
    | exc x ρ2 => rw [el] at q1; exact q1.elim
    | ok acc' ρ2 =>
      rw [el] at q1
      intro Hf vf Rf gf hf rf
      have gff : Go (Ad as) H1 (Ad as) Hf := (Go.of_same s2).trans ⟨gf.keep, fun b z => .inl z, gf.grow⟩
      have stf : Stp (B.W as) H1 ((B.and Dd).W as) Hf := by
        have := ((Go.of_same s2 (A := Ad as)).trans gf).stp (W0 := B.W0)
        rw [eW] at this
        exact this
      have Rb : Rel X.G (B.and Dd) as σ Hf (backAll ρ1 ρ2 is) := R1.backs (B' := B.and Dd) hn hwo rfl Rf stf
      exact q1 Hf Rb.less gff Dd Hf Rb .refl (g2.grow _ hD) ⟨_, hf, True.intro, .lst rf⟩
  · rintro i m Hc ⟨rfl, hle, ρc, acc, vs, Rc, gc, hc, rc, qc⟩
    obtain ⟨w1, w2⟩ := wk A Hc (by rw [eW]; exact Rc.domA) gc
    by_cases hlt : i < ds.length
    · have ed : ds.drop i = ds[i] :: ds.drop (i + 1) := List.drop_eq_getElem_cons hlt
      rw [ed] at qc
      unfold lcL at qc
      obtain ⟨w3, w4⟩ := w2 i ds[i] (List.getElem?_eq_getElem hlt)
      refine .inr ⟨w3, fun Hn => i + 1 ≤ ds.length ∧ ∃ ρc acc vs, Rel X.G (B.and Dd) as (wipe σ is) Hn ρc ∧ Go (Ad as) H2 A Hn ∧ Hn Dd = some (.lst vs) ∧ Reps X.G ((B.and Dd).W as) Hn vs acc ∧
        (match lcL is h c e (ds.drop (i + 1)) acc ρc with
          | .ok acc' ρ2 => ∀ Hf vf, Rel X.G (B.and Dd) as (wipe σ is) Hf ρ2 → Go (Ad as) H2 A Hf → Hf Dd = some (.lst vf) → Reps X.G ((B.and Dd).W as) Hf vf acc' → Q (.ref Dd) Hf
          | _ => False), fun Hn hN => ⟨ds.length - (i + 1), by omega, rfl, hN.1, hN.2⟩, fun x H4 y => ?_⟩
      obtain ⟨s4, r4⟩ := w4 x H4 y
      rw [eW] at r4
      have R4 := Rc.same s4
      cases eh : h ds[i] with
      | none => rw [eh] at qc; exact qc.elim
      | some parts =>
        rw [eh] at qc
        dsimp only at qc
        refine sg (mg := X.mg) r4 eh fun vs' rv hlen => ?_
        have hl2 : (setAll (wipe σ is) is (vs'.map some)).length = σ.length := by rw [setAll_len, hwl]
        have ho2 : ∀ j, j ∉ is → (setAll (wipe σ is) is (vs'.map some))[j]? = σ[j]? := fun j hj => by rw [setAll_out _ _ _ _ hj, hwo j hj]
        refine ⟨wipe_again hl2 ho2, ?_⟩
        have R5 := Rel.sets hn rv R4
        have hnw : ∀ j, j ∉ is → (wipe σ is)[j]? = (setAll (wipe σ is) is (vs'.map some))[j]? := fun j hj => by rw [hwo j hj, ho2 j hj]
        refine st.go R5 ?_
        cases ec : c (setAll ρc is (parts.map .val)) with
        | bad => rw [ec] at qc; exact qc.elim
        | exc z ρ6 => rw [ec] at qc; exact qc.elim
        | ok b ρ6 =>
          rw [ec] at qc
          intro H6 R6 g6
          have g46 : Go A Hc A H6 := (Go.of_same s4).trans (gA g6)
          cases b with
          | false =>
            refine iteF ⟨hlt, _, acc, vs, R6.uns hn (by rw [hl2, hwl]) hnw, gc.trans g46, ?_, ?_, qc⟩
            · exact g6.keep _ _ (s4 _ _ hc) nD
            · exact (rc.stp (.same s4)).stp g6.stp
          | true =>
            refine iteT (se.go R6 ?_)
            dsimp only at qc
            cases ee : e ρ6 with
            | bad => rw [ee] at qc; exact qc.elim
            | exc z ρ7 => rw [ee] at qc; exact qc.elim
            | ok p ρ7 =>
              rw [ee] at qc
              intro H7 R7 g7 v kv
              cases kv with
              | b _ => exact qc.elim
              | v kv =>
                dsimp only at qc
                by_cases hz : acc.length < sizeLine
                rotate_left
                · rw [if_neg hz] at qc; exact qc.elim
                rw [if_pos hz] at qc
                have h7 : H7 Dd = some (.lst vs) := g7.keep _ _ (g6.keep _ _ (s4 _ _ hc) nD) nD
                have r7 : Reps X.G ((B.and Dd).W as) H7 vs acc := ((rc.stp (.same s4)).stp g6.stp).stp g7.stp
                have st8 : Stp ((B.and Dd).W as) H7 ((B.and Dd).W as) (upd H7 Dd (.lst (vs ++ [v]))) := fun b u hb n => ⟨by rw [upd_ne (fun z => n (by rw [z]; exact .inl (.inr rfl)))]; exact hb, n⟩
                have R8 : Rel X.G (B.and Dd) as (setAll (wipe σ is) is (vs'.map some)) (upd H7 Dd (.lst (vs ++ [v]))) ρ7 := by
                  refine ⟨R7.l1, R7.l2, fun j v s a h1 h2 h3 => ?_, R7.pin, R7.fr, R7.inj, R7.nw, fun b z => ?_, fun b z => ?_⟩
                  · have ne : ∀ a', a = some a' → a' ≠ Dd := fun a' ea z => by
                      subst ea z
                      exact R7.nw _ (Ad.of h3) (.inr rfl)
                    cases R7.sl j v s a h1 h2 h3 with
                    | un => exact .un _
                    | val x => exact .val (x.stp st8)
                    | own x => exact .own (x.stp st8 (upd_ne (ne _ rfl)))
                    | bor x => exact .bor (x.stp st8 (upd_ne (ne _ rfl)))
                  · by_cases zz : b = Dd
                    · subst zz; exact ⟨_, upd_same⟩
                    · rw [upd_ne zz]; exact R7.dom b z
                  · by_cases zz : b = Dd
                    · subst zz; rw [upd_same] at z; cases z
                    · rw [upd_ne zz] at z; exact R7.gr b z
                refine ⟨vs, h7, by rw [r7.length]; exact hz, hlt, _, acc ++ [_], vs ++ [v], R8.uns hn (by rw [hl2, hwl]) hnw, (gc.trans (g46.trans (gA g7))).trans (goD ⟨_, h7⟩), upd_same, ?_, qc⟩
                exact (r7.append (.cons kv .nil)).stp st8
    · have ei : i = ds.length := by omega
      subst ei
      rw [List.drop_length] at qc
      exact .inl ⟨w1, qc Hc vs Rc gc hc rc⟩
end

section
variable {X : Cx} {Z : WXZ} {elt tg iter : Expr} {ifs : List Expr} {scope : Scope} {own : List (Str × Nat)} {pos : Pos} {it : En → Out (List D)} {g : TG} {is : List Nat} {h : D → Option (List D)} {c : En → Out Bool} {e : En → Out Pv}
/-- the tests of a comprehension -/
def DTs (X : Cx) (ifs : List Expr) (c : En → Out Bool) : Prop := PTs X ifs (TTof X Z0 c)
theorem TTof.t {f : En → Out Bool} : DTt X Z0 (TTof X Z0 f) f := ⟨fun {B as σ H ρ Q} R q => ⟨B, as, ρ, R, q⟩⟩
theorem TEof.t {f : En → Out Pv} : DEt X Z0 (TEof X Z0 f) f := ⟨fun {B as σ H ρ Q} R q => ⟨B, as, ρ, R, q⟩⟩
theorem ts_nil : DTs X [] cYes := ⟨fun pins s σ H Q I ⟨B, as, ρ, R, q⟩ => wpAny_tests_nil ⟨H, I, q H R .refl⟩⟩
theorem ts_one {a : Expr} {f : En → Out Bool} (h : DT X Z0 a f) : DTs X [a] f := pts_one h.pt
abbrev Cx.bk (X : Cx) (scope : Scope) (s : Shared) (H : Hp) (C : Addr) (cl : List (Str × Addr)) (fp : List Addr) : Cx := X.blk s H scope (compEnvC scope cl C X.env) fp
theorem n_lc (hc : X.calm = true) (hN : X.N.Nodup) (own : List (Str × Nat)) (ok : blkC X.N X.env.scope scope own = true) (ho : own.map (·.2) = is) (hi : DI X Z tg iter it) (sg : NTg X.K g is h) (hg : ∀ s H C cl fp, PG (Cx.bk X scope s H C cl fp) tg g)
    (ht : ∀ s H C cl fp, DTs (Cx.bk X scope s H C cl fp) ifs c) (he : ∀ s H C cl fp, DE (Cx.bk X scope s H C cl fp) Z0 elt e) (hs : ∀ x, foldedSetIterable iter X.env x = pure x := by intro _; rfl) :
    DN X Z (.ListComp elt [⟨tg, iter, ifs, 0⟩] scope pos) (nLc it is h c e) := by
  obtain ⟨wi, pi, si⟩ := hi
  refine ⟨tLc wi g (TTof X Z0 c) (TEof X Z0 e) is, ?_, dnt_lc si sg TTof.t TEof.t⟩
  rw [← ho]
  exact pe_lc hc hN pi (blkOk_by ok) hg ht (fun s H C cl fp => (he s H C cl fp).pe) hs
theorem s_setLc {i : Nat} {y : Str} {py spos : Pos} (hc : X.calm = true) (hN : X.N.Nodup) (own : List (Str × Nat)) (ok : blkC X.N X.env.scope scope own = true) (ho : own.map (·.2) = is)
    (hsw : swapsWith (.ListComp elt [⟨tg, iter, ifs, 0⟩] scope pos) (some (.Name y py)) spos.line X.env = pure true) (hi : DI X Z tg iter it) (sg : NTg X.K g is h) (hg : ∀ s H C cl fp, PG (Cx.bk X scope s H C cl fp) tg g)
    (ht : ∀ s H C cl fp, DTs (Cx.bk X scope s H C cl fp) ifs c) (he : ∀ s H C cl fp, DE (Cx.bk X scope s H C cl fp) Z0 elt e) (hy : X.N[i]? = some y := by rfl) (hyl : X.env.scope.names.lookup y = some .local := by rfl) (hs : ∀ x, foldedSetIterable iter X.env x = pure x := by intro _; rfl) :
    DS X Z (.Assign [.Name y py] (.ListComp elt [⟨tg, iter, ifs, 0⟩] scope pos) spos) (sSetN i (nLc it is h c e)) := by
  obtain ⟨wi, pi, si⟩ := hi
  refine ⟨tAsg (tLc wi g (TTof X Z0 c) (TEof X Z0 e) is) (gName i), ?_, (dnt_lc si sg TTof.t TEof.t).set i⟩
  rw [← ho]
  exact ps_setLc hc hN hy hyl hsw pi (blkOk_by ok) hg ht (fun s H C cl fp => (he s H C cl fp).pe) hs
/-- the same, let go of at once -/
theorem s_setLcV {i : Nat} {y : Str} {py spos : Pos} (hc : X.calm = true) (hN : X.N.Nodup) (own : List (Str × Nat)) (ok : blkC X.N X.env.scope scope own = true) (ho : own.map (·.2) = is)
    (hsw : swapsWith (.ListComp elt [⟨tg, iter, ifs, 0⟩] scope pos) (some (.Name y py)) spos.line X.env = pure true) (hi : DI X Z tg iter it) (sg : NTg X.K g is h) (hg : ∀ s H C cl fp, PG (Cx.bk X scope s H C cl fp) tg g)
    (ht : ∀ s H C cl fp, DTs (Cx.bk X scope s H C cl fp) ifs c) (he : ∀ s H C cl fp, DE (Cx.bk X scope s H C cl fp) Z0 elt e) (hy : X.N[i]? = some y := by rfl) (hyl : X.env.scope.names.lookup y = some .local := by rfl) (hs : ∀ x, foldedSetIterable iter X.env x = pure x := by intro _; rfl) :
    DS X Z (.Assign [.Name y py] (.ListComp elt [⟨tg, iter, ifs, 0⟩] scope pos) spos) (sSet i (vN (nLc it is h c e))) := by
  obtain ⟨wi, pi, si⟩ := hi
  refine ⟨tAsg (tLc wi g (TTof X Z0 c) (TEof X Z0 e) is) (gName i), ?_, ⟨fun {B as σ H ρ D'} R q => (dnt_lc si sg TTof.t TEof.t).val.go R ((q.bind R).imp fun p ρ1 H1 R1 g1 q1 v k1 => ?_)⟩⟩
  · rw [← ho]
    exact ps_setLc hc hN hy hyl hsw pi (blkOk_by ok) hg ht (fun s H C cl fp => (he s H C cl fp).pe) hs
  · cases k1 with
    | v k =>
      obtain ⟨R2, g2⟩ := R1.setVal i k
      exact q1 _ _ _ R2 g2
    | b k => exact q1.elim
end
end L3
namespace L3
open PySem PySem.Spec PyProof.Rows L2

/-! ### {k: v, ..} -/
section
variable {X : Cx} {Z : WXZ} {B : Bs} {as : List (Option Addr)} {σ : L2.St} {H H' : Hp} {ρ ρ' : En} {α : Type}
theorem EO.and {K K' : α → En → Hp → Prop} {o : Out α} {a : Addr} (h : EO X Z B as σ H K o) (f : ∀ x ρ' H', Rel X.G (B.and a) as σ H' ρ' → Go (Ad as) H (Ad as) H' → K x ρ' H' → K' x ρ' H') : EO X Z (B.and a) as σ H K' o := by
  cases o with
  | ok x ρ' => exact fun H' R g => f x ρ' H' R g (h H' R.less g)
  | exc e ρ' => exact fun cls dx H' R g ⟨x1, x2⟩ => h cls dx H' R.less g ⟨x1, x2.imp id fun ⟨d, vfs, e1, e2, e3, r⟩ => ⟨d, vfs, e1, e2, e3, r.stp (.less fun b z => .inl (z.imp .inl id))⟩⟩
  | bad => exact h
/-- the object that is under way is written anew -/
theorem Rel.over {a : Addr} {o u : HO} (R : Rel X.G (B.and a) as σ H ρ) (h : H a = some u) : Rel X.G (B.and a) as σ (upd H a o) ρ ∧ Stp ((B.and a).W as) H ((B.and a).W as) (upd H a o) := by
  have st : Stp ((B.and a).W as) H ((B.and a).W as) (upd H a o) := fun b w hb n => ⟨by rw [upd_ne (fun z => n (by rw [z]; exact .inl (.inr rfl)))]; exact hb, n⟩
  refine ⟨⟨R.l1, R.l2, fun j v s b h1 h2 h3 => ?_, R.pin, R.fr, R.inj, R.nw, fun b z => ?_, fun b z => ?_⟩, st⟩
  · have ne : ∀ b', b = some b' → b' ≠ a := fun b' eb z => by
      subst eb z
      exact R.nw _ (Ad.of h3) (.inr rfl)
    cases R.sl j v s b h1 h2 h3 with
    | un => exact .un _
    | val x => exact .val (x.stp st)
    | own x => exact .own (x.stp st (upd_ne (ne _ rfl)))
    | bor x => exact .bor (x.stp st (upd_ne (ne _ rfl)))
  · by_cases e : b = a
    · rw [e]; exact ⟨_, upd_same⟩
    · rw [upd_ne e]; exact R.dom b z
  · by_cases e : b = a
    · rw [e, upd_same] at z; cases z
    · rw [upd_ne e] at z; exact R.gr b z
def pNil : En → Out (List (Key × D)) := fun ρ => .ok [] ρ
def pCons (fk fv : En → Out Pv) (g : En → Out (List (Key × D))) : En → Out (List (Key × D)) := fun ρ => (fk ρ).bind fun p ρ1 => (fv ρ1).bind fun q ρ2 => match (pvD ρ1 p).bind keyD, q with
  | some k, .v d => (g ρ2).bind fun r ρ3 => .ok ((k, d) :: r) ρ3
  | _, _ => .bad
def dics (kds : List (Key × D)) : List (Key × D) := kds.foldl (fun acc kv => dput acc kv.1 kv.2) []
def nDic (g : En → Out (List (Key × D))) : En → Out D := fun ρ => (g ρ).bind fun kds ρ1 => .ok (.dic (dics kds)) ρ1
structure DPt (X : Cx) (Z : WXZ) (n : Nat) (trs : List (TE × TE)) (g : En → Out (List (Key × D))) : Prop where
  go : ∀ {B : Bs} {as : List (Option Addr)} {σ : L2.St} {H : Hp} {ρ : En} {Q : List (V × V) → Hp → Prop}, Rel X.G B as σ H ρ →
    EO X Z B as σ H (fun kds _ H' => ∀ kvs : List (Key × V), kvs.length = n → kvs.map (·.1) = kds.map (·.1) → Reps X.G (B.W as) H' (kvs.map (·.2)) (kds.map (·.2)) → Q (kvs.map fun kv => (kV kv.1, kv.2)) H') (g ρ) → tPairs trs σ H Q
def DP (X : Cx) (Z : WXZ) (pos : Pos) (ks : List (Option Expr)) (vs : List Expr) (g : En → Out (List (Key × D))) : Prop := ∃ trs, PPs X pos ks vs trs ∧ DPt X Z ks.length trs g
theorem dp_nil {pos : Pos} : DP X Z pos [] [] pNil := ⟨_, pps_nil, ⟨fun {B as σ H ρ Q} R q => q H R .refl [] rfl rfl .nil⟩⟩
theorem dp_cons {pos : Pos} {k v : Expr} {ks : List (Option Expr)} {vs : List Expr} {fk fv : En → Out Pv} {g : En → Out (List (Key × D))} (hk : DE X Z k fk) (hv : DE X Z v fv) (h : DP X Z pos ks vs g) : DP X Z pos (some k :: ks) (v :: vs) (pCons fk fv g) := by
  obtain ⟨_, p1, s1⟩ := hk
  obtain ⟨_, p2, s2⟩ := hv
  obtain ⟨_, p3, s3⟩ := h
  refine ⟨_, pps_cons p1 p2 p3, ⟨fun {B as σ H ρ Q} R q => s1.go R (q.bind.imp fun p ρ1 H1 R1 g1 q1 x kx => s2.go R1 (q1.bind.imp fun p' ρ2 H2 R2 g2 q2 y ky => ?_))⟩⟩
  cases ek : (pvD ρ1 p).bind keyD with
  | none => rw [ek] at q2; exact q2.elim
  | some kk =>
    rw [ek] at q2
    cases ky with
    | b _ => exact q2.elim
    | v ky =>
      cases ed : pvD ρ1 p with
      | none => rw [ed] at ek; cases ek
      | some dk =>
        rw [ed] at ek
        have exk := (kx.peek R1 ed).key ek
        subst exk
        exact s3.go R2 (EO.bind q2 |>.imp fun kds ρ3 H3 R3 g3 q3 kvs hl he hr => q3 H3 R3 .refl ((kk, y) :: kvs) (by simp [hl]) (by simp [he]) (.cons (ky.go g3) hr))
theorem merge_ok {W : Addr → Prop} {H : Hp} {G : Pm} : ∀ {more : List (Key × V)} {mds : List (Key × D)} {kvs : List (Key × V)} {kds : List (Key × D)}, more.map (·.1) = mds.map (·.1) → Reps G W H (more.map (·.2)) (mds.map (·.2)) →
    kvs.map (·.1) = kds.map (·.1) → Reps G W H (kvs.map (·.2)) (kds.map (·.2)) →
    (mergeK kvs more).map (·.1) = (mds.foldl (fun acc kv => dput acc kv.1 kv.2) kds).map (·.1) ∧ Reps G W H ((mergeK kvs more).map (·.2)) ((mds.foldl (fun acc kv => dput acc kv.1 kv.2) kds).map (·.2))
  | [], [], kvs, kds, _, _, h, r => ⟨h, r⟩
  | [], _ :: _, _, _, h, _, _, _ => by simp at h
  | _ :: _, [], _, _, h, _, _, _ => by simp at h
  | p :: more, q :: mds, kvs, kds, h, c, hk, r => by
    simp only [List.map_cons, List.cons.injEq] at h
    simp only [List.map_cons] at c
    cases c with
    | cons c1 c2 =>
      have e := dput_ok (k := q.1) hk r c1
      have := merge_ok (kvs := putK kvs q.1 p.2) (kds := dput kds q.1 q.2) h.2 c2 e.1 e.2
      have e3 : mergeK kvs (p :: more) = mergeK (putK kvs q.1 p.2) more := by
        show mergeK (putK kvs p.1 p.2) more = _
        rw [h.1]
      rw [e3]
      exact this
theorem n_dic {pos : Pos} {ks : List (Option Expr)} {vs : List Expr} {g : En → Out (List (Key × D))} (h : DP X Z pos ks vs g) (hall : ks.all (·.isSome) = true := by rfl) (hl : ks.length = vs.length := by rfl) (h0 : ks ≠ [] := by intro z; cases z) (h15 : ks.length ≤ 15 := by decide) :
    DN X Z (.Dict ks vs pos) (nDic g) := by
  obtain ⟨trs, p, s⟩ := h
  refine ⟨_, pe_disp p hall hl h0 h15, ⟨fun {B as σ H ρ Q} R q a ha => ?_⟩⟩
  obtain ⟨R1, g1⟩ := R.more (o := .dK []) ha
  have na : ¬ Ad as a := fun z => R.fresh ha (.inr z)
  unfold nDic at q
  refine s.go R1 ?_
  cases eg : g ρ with
  | bad => rw [eg] at q; exact q.elim
  | exc x ρ2 =>
    rw [eg] at q
    exact EO.and (a := a) (B := B) (K := fun _ _ _ => False) (o := .exc x ρ2) (fun cls dx H' R' g' y => q cls dx H' R' (g1.trans g') y) fun _ _ _ _ _ z => z.elim
  | ok kds ρ2 =>
    rw [eg] at q
    intro H2 R2 g2 kvs hn he hr
    have e2 : H2 a = some (.dK []) := g2.keep _ _ upd_same na
    refine ⟨e2, kvs, rfl, by omega, ?_⟩
    obtain ⟨R3, st⟩ := R2.over (o := .dK (mergeK [] kvs)) e2
    obtain ⟨m1, m2⟩ := merge_ok he hr (kvs := []) (kds := []) rfl .nil
    have gg : Go (Ad as) H (Ad as) (upd H2 a (.dK (mergeK [] kvs))) := by
      have g3 := g1.trans g2
      refine ⟨fun b u e n => ?_, g3.sub, fun b e => ?_⟩
      · rw [upd_ne (ne_of_none e ha)]; exact g3.keep b u e n
      · by_cases z : b = a
        · rw [z]; exact ha
        · rw [upd_ne z] at e; exact g3.grow b e
    exact q _ R3.less gg a _ R3 .refl ha ⟨_, upd_same, True.intro, .dic m1 (m2.stp st)⟩
end
end L3
namespace L3
open PySem PySem.Spec PyProof.Rows L2

/-! ### the law's own end -/
def isLst (o : Obj) : Bool := match o.cls with
  | .type n => n == "list"
  | _ => false
/-- no list of the module's own stands there when the law is called -/
def noLst (K : PySem.W.Frag) : Bool := K.all fun q => !isLst q.2
theorem noLst_at {K : PySem.W.Frag} (h : noLst K = true) {a : Addr} {o : Obj} (hl : K.lookup a = some o) (hc : o.cls = .type "list") : False := by
  unfold noLst at h
  induction K with
  | nil => cases hl
  | cons p r ih =>
    obtain ⟨b, u⟩ := p
    rw [List.all_cons, Bool.and_eq_true] at h
    rw [List.lookup_cons] at hl
    split at hl
    · cases hl
      have h1 := h.1
      simp [isLst, hc] at h1
    · exact ih h.2 hl
theorem rep_ints {G : Pm} {W : Addr → Prop} {H : Hp} : ∀ ns : List Int, Reps G W H (ns.map V.int) (ns.map D.int)
  | [] => .nil
  | n :: ns => .cons (.int n) (rep_ints ns)
/-- the law, from its def's promise: m answers true -/
theorem law_go {P : Program} {w : World} {K : PySem.W.Frag} {mg mb : Str → Option Value} {k : Nat} {fa a : Addr} {fd : FuncData} {x : Str} {m : Mf} {s₁ : Shared} {vs : List Value} {ns : List Int}
    (KX : K.In s₁.heap) (hK : noLst K = true) (hns : s₁.heap.Ns mainGlobals mg) (hb : s₁.heap.Ns builtinsNs mb) (hbb : ∀ x : Str, x ≠ "__name__" → mb x = bootBuiltins x) (hlim : s₁.heap.NoLimit) (hg : s₁.gens = #[])
    (ha : s₁.heap.get? a = some { cls := .type "list", data := .seq vs.toArray }) (hi : IntsAre vs ns) (hl : ns.length ≤ sizeLine) (hr : RoomG k callerA)
    (F : ∀ base : Heap, K.In base → base.Ns mainGlobals mg → FnG P w K mg base CX0 k fa fd [x] (spM false ⟨K, mg⟩ 1 m)) (hbind : ∀ (s : Shared) (u : Value), BindsTo s fd ⟨[u], []⟩ [(x, u)])
    (hm : ∃ cs, m [.val (.lst (ns.map .int))] = .ok (.v (.bl true)) cs) :
    codeAny (model P w) callerA (.call (.ref fa) ⟨[.ref a], []⟩) (fun r s' => r = .ok (.ret (.bool true)) ∧ OldK s₁.heap s'.heap ∧ s'.os = s₁.os ∧ AllBare s'.gens) s₁ := by
  have nk : K.lookup a = none := by
    cases e : K.lookup a with
    | none => rfl
    | some o =>
      have := KX a o e
      rw [ha] at this
      cases this
      exact (noLst_at hK e rfl).elim
  -- nothing is tracked but the script
  let ob : Obj := { cls := .type "list", data := .seq vs.toArray }
  let H : Hp := fun b => if b = a then some (.frz ob (.lst (ns.map V.int))) else none
  have Ha : H a = some (.frz ob (.lst (ns.map V.int))) := if_pos rfl
  have Hn : ∀ b, b ≠ a → H b = none := fun b n => if_neg n
  have hok : HOk P w H s₁.heap := fun b u e => by
    by_cases n : b = a
    · subst n
      rw [Ha] at e; cases e
      exact ⟨ha, by rw [List.length_map]; exact hl, vs, _, vals_ints hi, ha⟩
    · rw [Hn b n] at e; cases e
  have free : ∀ {b : Addr} {o : Obj} {es : Array DictEntry} {n : Nat}, s₁.heap.get? b = some o → o.data = .dict es n → H b = none := fun {b o es n} e ed => by
    refine Hn b fun z => ?_
    subst z
    rw [ha] at e; cases e
    cases ed
  have nsH : ∀ {b : Addr} {f : Str → Option Value}, s₁.heap.Ns b f → (hidT s₁.heap H).Ns b f := fun ⟨o, es, n, e, ed, q⟩ => ⟨o, es, n, hidT_get e (free e ed), ed, q⟩
  have KB : K.In (hidT s₁.heap H) := fun b o e => hidT_get (KX b o e) (Hn b fun z => by
    subst z
    rw [nk] at e; cases e)
  have md : Mod K mg (hidT s₁.heap H) := ⟨KB, nsH hns, ⟨mb, nsH hb, hbb⟩, hlim.imp fun mc q => ⟨nsH q.1, q.2⟩⟩
  have env : Env0 P w K mg (hidT s₁.heap H) callerA [] s₁ H :=
    { frames := rfl, mod := md, bs := (fun b o e => of_hidT e), bsz := Nat.le_of_eq (hidT_size _ _), funs := trivial, frf := (fun b hb => absurd (show b ∈ ([] : List Addr) from hb) (by simp)), hok := hok, bare := .of_eq hg }
  have rS : Rel ⟨K, mg⟩ ⟨fun _ => False, [none], H⟩ [none] [some (.ref a)] H [.val (.lst (ns.map .int))] := by
    refine ⟨rfl, rfl, fun i v s b h1 h2 h3 => ?_, fun i d h => ?_, fun i d b h => ?_, fun i j b h => ?_, fun b _ z => z, fun b z => z.elim, fun b z => z⟩
    · match i, h1, h2, h3 with
      | 0, h1, h2, h3 =>
        cases h1; cases h2; cases h3
        exact .val (.ref (.inr ⟨ob, Ha⟩) (fun z => z.elim id fun z => by cases z with | tail _ z => cases z) (.lst (rep_ints ns)) trivial)
    · match i, h with
      | 0, h => cases h
    · match i, h with
      | 0, h => cases h
    · match i, h with
      | 0, h => cases h
  obtain ⟨cs, em⟩ := hm
  have sp : spM false ⟨K, mg⟩ 1 m [.ref a] H (fun v _ => v = .bl true) fun _ _ _ => False := by
    refine ⟨rfl, _, _, _, rS, fun i d h => ?_, ?_⟩
    · match i, h with
      | 0, h => cases h
    · rw [em]
      intro v H' g c r
      cases r with
      | bl => rfl
      | ref _ _ c => cases c
  refine codeAny_mono ((F _ KB (nsH hns)).run callerA [] s₁ H ⟨[.ref a], []⟩ [.ref a] [.ref a] _ _ hr env (hbind s₁ (.ref a)) (.cons rfl .nil) sp) fun r s' q => ?_
  match r, q with
  | .error e, q => exact (show False from q).elim
  | .ok .next, q => exact False.elim q
  | .ok .brk, q => exact False.elim q
  | .ok .cont, q => exact False.elim q
  | .ok (.ret u), q =>
    obtain ⟨v, H', os, bare, un, hok', ru, ev⟩ := q
    have ev' : v = .bl true := ev
    subst ev'
    have eu : u = Value.bool true := ru
    subst eu
    refine ⟨rfl, OldK.of_keep fun b o e => ?_, os, bare⟩
    by_cases n : b = a
    · subst n
      rw [ha] at e; cases e
      exact (hok' b _ (un.frzs b _ _ Ha)).1
    · exact un.keep b o e (Hn b n) (fun z => nomatch (show b ∈ ([] : List Addr) from z)) (fun z => nomatch z)
/-- what k_head leaves (case hc) -/
theorem law_end {l : PySem.W.OpenLaw} {n k : Nat} {q : Program} {loose : List Str} {XP : (Str → Option Value) → Heap → Prop} {YP : World → Heap → Prop} {d : DefRec} {K : Params → PySem.W.Frag} {x : Str} {m : Mf}
    (hn : l.most = some n) (hn2 : n ≤ sizeLine) (hdf : d.params.defaults = []) (hr : RoomG k callerA) (hY : ∀ (w : World) (h : Heap), YP w h → (K w.params).In h) (hK : ∀ p, noLst (K p) = true)
    (F : ∀ (w : World) (mg : Str → Option Value) (fa : Addr) (h : Heap), (K w.params).In h → h.Ns mainGlobals mg → mg d.name = some (.ref fa) →
      ∃ fd : FuncData, (∀ (s : Shared) (u : Value), BindsTo s fd ⟨[u], []⟩ [(x, u)]) ∧ ∀ base : Heap, (K w.params).In base → base.Ns mainGlobals mg → FnG l.prog w (K w.params) mg base CX0 k fa fd [x] (spM false ⟨K w.params, mg⟩ 1 m))
    (hm : ∀ ns : List Int, ns.length ≤ n → ∃ cs, m [.val (.lst (ns.map .int))] = .ok (.v (.bl true)) cs) : PySem.W.WalkO q loose XP YP l.row.toRowW d [] (fun f vs => PySem.call f vs) := by
  refine Att.attach_call hn hdf fun w s₀ s₁ mg mb fa o pm cd doc a vs ns G Y ho hd hcd hmg hobj hints hlen hg => ?_
  have KX := hY w _ Y
  obtain ⟨fd, hb, hF⟩ := F w mg fa _ KX G.T.g hmg
  exact law_go KX (hK _) G.T.g G.T.b G.T.builtins G.T.nolimit hg hobj hints (Nat.le_trans hlen hn2) hr hF hb (hm ns hlen)
end L3
namespace L3
open PySem PySem.Spec PyProof.Rows L2

/-! ### reckoning with mirrors -/
/-- it ends well, and so -/
def W {α : Type} (o : Out α) (P : α → En → Prop) : Prop := match o with
  | .ok a ρ => P a ρ
  | _ => False
section
variable {α β : Type}
theorem W_ok {a : α} {ρ : En} {P : α → En → Prop} : W (.ok a ρ) P = P a ρ := rfl
theorem W.imp {o : Out α} {P Q : α → En → Prop} (h : W o P) (f : ∀ a ρ, P a ρ → Q a ρ) : W o Q := by
  cases o with
  | ok a ρ => exact f a ρ h
  | exc e ρ => exact h
  | bad => exact h
theorem W.ok {o : Out α} {P : α → En → Prop} (h : W o P) : ∃ a ρ, o = .ok a ρ ∧ P a ρ := by
  cases o with
  | ok a ρ => exact ⟨a, ρ, rfl, h⟩
  | exc e ρ => exact h.elim
  | bad => exact h.elim
theorem W_congr {o o' : Out α} {P : α → En → Prop} (h : o = o') : W o P = W o' P := by rw [h]
theorem bind_congr {o o' : Out α} {k : α → En → Out β} (h : o = o') : o.bind k = o'.bind k := by rw [h]
theorem thn_congr {o o' : Out Fl} {k : En → Out Fl} (h : o = o') : o.thn k = o'.thn k := by rw [h]
theorem bind_ok {a : α} {ρ : En} {k : α → En → Out β} : (Out.ok a ρ).bind k = k a ρ := rfl
theorem thn_nx {ρ : En} {k : En → Out Fl} : (Out.ok Fl.nx ρ).thn k = k ρ := rfl
theorem thn_rt {d : D} {ρ : En} {k : En → Out Fl} : (Out.ok (Fl.rt d) ρ).thn k = .ok (.rt d) ρ := rfl
theorem thn_rn {d : D} {ρ : En} {k : En → Out Fl} : (Out.ok (Fl.rn d) ρ).thn k = .ok (.rn d) ρ := rfl
theorem thn_bk {ρ : En} {k : En → Out Fl} : (Out.ok Fl.bk ρ).thn k = .ok .bk ρ := rfl
theorem thn_ct {ρ : En} {k : En → Out Fl} : (Out.ok Fl.ct ρ).thn k = .ok .ct ρ := rfl
/-- a call, as far as what is told of the callee goes -/
theorem callM_ok {np : Nat} {m : Mf} {ps : List Pv} {ρ ρ0 cs : En} {r : Rt} (h1 : (lents ps).Nodup) (h2 : ps.length = np) (h3 : sls ρ ps = some ρ0) (h4 : m ρ0 = .ok r cs) : callM np m ps ρ = .ok r (wbk ps cs 0 ρ) := by
  rw [callM, if_pos ⟨h1, h2⟩, h3]
  dsimp only
  rw [h4]
end

section
variable {a b i j v : Int} {xs ys ds : List D} {d : D}
theorem add_i : gAdd (.int a) (.int b) = some (.int (a + b)) := rfl
theorem mns_i : gMns (.int a) (.int b) = some (.int (a - b)) := rfl
theorem mul_i (h : (b64 a || b64 b) = true) : gMul (.int a) (.int b) = some (.int (a * b)) := if_pos h
theorem mul_r (h : b64 b = true) : gMul (.int a) (.int b) = some (.int (a * b)) := mul_i (by rw [h, Bool.or_true])
theorem mul_l (h : b64 a = true) : gMul (.int a) (.int b) = some (.int (a * b)) := mul_i (by rw [h, Bool.true_or])
theorem div_i (h : 0 < b) (h2 : b < 1073741824) : gDiv (.int a) (.int b) = some (.int (a / b)) := if_pos (decide_eq_true ⟨h, by omega⟩)
theorem mod_i (h : 0 < b) : gMod (.int a) (.int b) = some (.int (a % b)) := if_pos (decide_eq_true h)
theorem neg_i : gNeg (.int a) = some (.int (-a)) := rfl
theorem lt_i : gLt (.int a) (.int b) = some (.bl (decide (a < b))) := rfl
theorem le_i : gLe (.int a) (.int b) = some (.bl (decide (a ≤ b))) := rfl
theorem gt_i : gGt (.int a) (.int b) = some (.bl (decide (b < a))) := rfl
theorem ge_i : gGe (.int a) (.int b) = some (.bl (decide (b ≤ a))) := rfl
theorem int_i : gInt [.int a] = some (.int a) := rfl
theorem abs_i : gAbs [.int a] = some (.int a.natAbs) := by
  have e : (if a < 0 then -a else a) = (a.natAbs : Int) := by split <;> omega
  show some (D.int (if a < 0 then -a else a)) = _
  rw [e]
theorem len_l : gLen [.lst xs] = some (.int xs.length) := rfl
theorem len_t : gLen [.tup xs] = some (.int xs.length) := rfl
theorem get_l : gGet (.lst xs) (.int i) = L2.atI xs i := rfl
theorem get_t : gGet (.tup xs) (.int i) = L2.atI xs i := rfl
theorem toT_l : gToT [.lst xs] = some (.tup xs) := rfl
theorem toT_t : gToT [.tup xs] = some (.tup xs) := rfl
theorem eqv_int : PyData.eqv (.int a) (.int b) = decide (a = b) := by first | rfl | (simp [PyData.eqv]; done)
theorem eq_i : gEq (.int a) (.int b) = some (.bl (decide (a = b))) := by
  show some (D.bl (PyData.eqv (.int a) (.int b))) = _
  rw [eqv_int]
theorem ne_i : gNe (.int a) (.int b) = some (.bl (!decide (a = b))) := by
  show some (D.bl (!PyData.eqv (.int a) (.int b))) = _
  rw [eqv_int]
theorem eq_s {x y : Str} : gEq (.str x) (.str y) = some (.bl (decide (x = y))) := rfl
theorem ne_s {x y : Str} : gNe (.str x) (.str y) = some (.bl (!decide (x = y))) := rfl
/-- data that are small and flat enough to be shown -/
theorem log_lt {i : Int} {k : Nat} (h : i.natAbs < 2 ^ k) (hk : 0 < k) : i.natAbs.log2 < k := by
  by_cases e : i.natAbs = 0
  · rw [e]; simpa using hk
  · exact (Nat.log2_lt e).mpr h
theorem show_ok {d : D} (h : repOk d = true) : gRepr [d] = some (.str (showD d)) := if_pos h
mutual
def mk : D → Bool
  | .non => true
  | .bl _ => true
  | .int i => decide (i.natAbs < 2 ^ 90)
  | .tup ds => mkL ds
  | .lst ds => mkL ds
  | _ => false
def mkL : List D → Bool
  | [] => true
  | d :: r => mk d && mkL r
end
mutual
/-- how many parts -/
def cnt : D → Nat
  | .tup ds => 1 + cntL ds
  | .lst ds => 1 + cntL ds
  | _ => 1
def cntL : List D → Nat
  | [] => 0
  | d :: r => cnt d + cntL r
end
mutual
def dep : D → Nat
  | .tup ds => 1 + depL ds
  | .lst ds => 1 + depL ds
  | _ => 0
def depL : List D → Nat
  | [] => 0
  | d :: r => max (dep d) (depL r)
end
mutual
theorem mk_ok : ∀ (d : D) (n : Nat), mk d = true → dep d ≤ n → pyOk n d = true ∧ smallD d = true ∧ wt d + 2 ≤ 100 * cnt d
  | .non, n, _, _ => ⟨by cases n <;> rfl, rfl, by simp [wt, cnt]⟩
  | .bl _, n, _, _ => ⟨by cases n <;> rfl, rfl, by simp [wt, cnt]⟩
  | .int i, n, h, _ => by
    have h := of_decide_eq_true (show decide (i.natAbs < 2 ^ 90) = true from h)
    have := log_lt h (by decide)
    refine ⟨by cases n <;> rfl, decide_eq_true (by omega), ?_⟩
    simp only [wt, cnt]; omega
  | .tup ds, n, h, hd => by
    simp only [dep] at hd
    obtain ⟨n, rfl⟩ : ∃ m, n = m + 1 := ⟨n - 1, by omega⟩
    obtain ⟨h1, h2, h3⟩ := mkL_ok ds n (by simpa [mk] using h) (by omega)
    refine ⟨by simpa [pyOk] using h1, by simpa [smallD] using h2, ?_⟩
    simp only [wt, cnt]; omega
  | .lst ds, n, h, hd => by
    simp only [dep] at hd
    obtain ⟨n, rfl⟩ : ∃ m, n = m + 1 := ⟨n - 1, by omega⟩
    obtain ⟨h1, h2, h3⟩ := mkL_ok ds n (by simpa [mk] using h) (by omega)
    refine ⟨by simpa [pyOk] using h1, by simpa [smallD] using h2, ?_⟩
    simp only [wt, cnt]; omega
  | .str _, _, h, _ => by simp [mk] at h
  | .dic _, _, h, _ => by simp [mk] at h
  | .dit _, _, h, _ => by simp [mk] at h
  | .obj _ _ _, _, h, _ => by simp [mk] at h
  | .ty _, _, h, _ => by simp [mk] at h
theorem mkL_ok : ∀ (ds : List D) (n : Nat), mkL ds = true → depL ds ≤ n → pyOkL n ds = true ∧ smallL ds = true ∧ wtL ds ≤ 100 * cntL ds
  | [], n, _, _ => ⟨by cases n <;> rfl, rfl, by simp [wtL, cntL]⟩
  | d :: r, n, h, hd => by
    have h : mk d = true ∧ mkL r = true := by simpa [mkL] using h
    simp only [depL] at hd
    obtain ⟨h1, h2, h3⟩ := mk_ok d n h.1 (by omega)
    obtain ⟨h4, h5, h6⟩ := mkL_ok r n h.2 (by omega)
    refine ⟨by cases n <;> simp [pyOkL, h1, h4], by simp [smallL, h2, h5], ?_⟩
    simp only [wtL, cntL]; omega
end
theorem mk_show {d : D} (h : mk d = true) (h1 : dep d ≤ 60) (h2 : cnt d ≤ 160000) : gRepr [d] = some (.str (showD d)) := by
  obtain ⟨a1, a2, a3⟩ := mk_ok d 60 h h1
  refine show_ok ?_
  unfold repOk
  rw [a1, a2, Bool.true_and, Bool.true_and]
  exact decide_eq_true (by omega)
theorem mk_int {i : Int} (h : -(2 ^ 90) < i) (h2 : i < 2 ^ 90) : mk (.int i) = true := decide_eq_true (by omega)
theorem pow18 : gPow (.int 10) (.int 18) = some (.int 1000000000000000000) := rfl
theorem app_l (h : xs.length < sizeLine) : gAppend (.lst xs) [d] = some (.non, .lst (xs ++ [d])) := if_pos h
end

/-! what follows, by names (a reckoning does not look into it ahead of time) -/
section
variable {α : Type} {ρ : En}
def c1_k (g : D → Option D) (p : Pv) (ρ1 : En) : Out Pv := ofO ((pvD ρ1 p).bind g) ρ1
theorem c1_e {g : D → Option D} {fa : En → Out Pv} : c1 g fa ρ = (fa ρ).bind (c1_k g) := rfl
def c2_k2 (g : D → D → Option D) (p q : Pv) (ρ2 : En) : Out Pv := ofO ((pvD ρ2 p).bind fun a => (pvD ρ2 q).bind fun b => g a b) ρ2
def c2_k (g : D → D → Option D) (fb : En → Out Pv) (p : Pv) (ρ1 : En) : Out Pv := (fb ρ1).bind (c2_k2 g p)
theorem c2_e {g : D → D → Option D} {fa fb : En → Out Pv} : c2 g fa fb ρ = (fa ρ).bind (c2_k g fb) := rfl
def cB_k (p : Pv) (ρ1 : En) : Out Bool := match p with
  | .v (.bl b) => .ok b ρ1
  | _ => .bad
theorem cB_e {f : En → Out Pv} : cB f ρ = (f ρ).bind cB_k := rfl
def iteK (f g : En → Out α) (b : Bool) (ρ1 : En) : Out α := if b = true then f ρ1 else g ρ1
theorem iteK_t {f g : En → Out α} : iteK f g true ρ = f ρ := rfl
theorem iteK_f {f g : En → Out α} : iteK f g false ρ = g ρ := rfl
def okB (b : Bool) (ρ : En) : Out Bool := .ok b ρ
def okV (b : Bool) (ρ : En) : Out Pv := .ok (.v (.bl b)) ρ
theorem cAnd_e {f g : En → Out Bool} : cAnd f g ρ = (f ρ).bind (iteK g (okB false)) := rfl
theorem cOr_e {f g : En → Out Bool} : cOr f g ρ = (f ρ).bind (iteK (okB true) g) := rfl
def cNot_k (b : Bool) (ρ : En) : Out Bool := .ok (!b) ρ
theorem cNot_e {f : En → Out Bool} : cNot f ρ = (f ρ).bind cNot_k := rfl
theorem cIte_e {c : En → Out Bool} {f g : En → Out Pv} : cIte c f g ρ = (c ρ).bind (iteK f g) := rfl
theorem cAndV_e {f g : En → Out Pv} : cAndV f g ρ = (cB f ρ).bind (iteK g (okV false)) := rfl
theorem cOrV_e {f g : En → Out Pv} : cOrV f g ρ = (cB f ρ).bind (iteK (okV true) g) := rfl
def cNotV_k (b : Bool) (ρ : En) : Out Pv := .ok (.v (.bl (!b))) ρ
theorem cNotV_e {f : En → Out Pv} : cNotV f ρ = (cB f ρ).bind cNotV_k := rfl
theorem cBv_e {f : En → Out Bool} : cBv f ρ = (f ρ).bind okV := rfl
def aCons_k2 (p : Pv) (ps : List Pv) (ρ2 : En) : Out (List Pv) := .ok (p :: ps) ρ2
def aCons_k (g : En → Out (List Pv)) (p : Pv) (ρ1 : En) : Out (List Pv) := (g ρ1).bind (aCons_k2 p)
theorem aCons_e {f : En → Out Pv} {g : En → Out (List Pv)} : aCons f g ρ = (f ρ).bind (aCons_k g) := rfl
def cTup_k (ps : List Pv) (ρ1 : En) : Out Pv := ofO ((pvs ps).bind fun ds => if ds.length ≤ sizeLine then some (.tup ds) else none) ρ1
theorem cTup_e {f : En → Out (List Pv)} : cTup f ρ = (f ρ).bind cTup_k := rfl
def nLst_k (ps : List Pv) (ρ1 : En) : Out D := match pvs ps with
  | some ds => if ds.length ≤ sizeLine then .ok (.lst ds) ρ1 else .bad
  | none => .bad
theorem nLst_e {f : En → Out (List Pv)} : nLst f ρ = (f ρ).bind nLst_k := rfl
def vN_k (d : D) (ρ1 : En) : Out Pv := .ok (.v d) ρ1
theorem vN_e {f : En → Out D} : vN f ρ = (f ρ).bind vN_k := rfl
def cN_k (g : List D → Option D) (ps : List Pv) (ρ1 : En) : Out Pv := ofO ((pvDs ρ1 ps).bind g) ρ1
theorem cN_e {g : List D → Option D} {f : En → Out (List Pv)} : cN g f ρ = (f ρ).bind (cN_k g) := rfl
def nN_k (g : List D → Option D) (ps : List Pv) (ρ1 : En) : Out D := match (pvDs ρ1 ps).bind g with
  | some d => .ok d ρ1
  | none => .bad
theorem nN_e {g : List D → Option D} {f : En → Out (List Pv)} : nN g f ρ = (f ρ).bind (nN_k g) := rfl
def oSome_k (p : Pv) (ρ1 : En) : Out (Option Int) := match p with
  | .v (.int i) => .ok (some i) ρ1
  | _ => .bad
theorem oSome_e {f : En → Out Pv} : oSome f ρ = (f ρ).bind oSome_k := rfl
def cSl_k3 (p : Pv) (lo hi : Option Int) (ρ3 : En) : Out Pv := ofO ((pvD ρ3 p).bind fun d => gSl d lo hi) ρ3
def cSl_k2 (h : En → Out (Option Int)) (p : Pv) (lo : Option Int) (ρ2 : En) : Out Pv := (h ρ2).bind (cSl_k3 p lo)
def cSl_k (l h : En → Out (Option Int)) (p : Pv) (ρ1 : En) : Out Pv := (l ρ1).bind (cSl_k2 h p)
theorem cSl_e {f : En → Out Pv} {l h : En → Out (Option Int)} : cSl f l h ρ = (f ρ).bind (cSl_k l h) := rfl
def nSl_k3 (p : Pv) (lo hi : Option Int) (ρ3 : En) : Out D := match pvD ρ3 p with
  | some (.lst ds) => .ok (.lst (cutD ds lo hi)) ρ3
  | _ => .bad
def nSl_k2 (h : En → Out (Option Int)) (p : Pv) (lo : Option Int) (ρ2 : En) : Out D := (h ρ2).bind (nSl_k3 p lo)
def nSl_k (l h : En → Out (Option Int)) (p : Pv) (ρ1 : En) : Out D := (l ρ1).bind (nSl_k2 h p)
theorem nSl_e {f : En → Out Pv} {l h : En → Out (Option Int)} : nSl f l h ρ = (f ρ).bind (nSl_k l h) := rfl
def nCat_k2 (p q : Pv) (ρ2 : En) : Out D := match pvD ρ2 p, pvD ρ2 q with
  | some (.lst a), some (.lst b) => if a.length + b.length ≤ sizeLine then .ok (.lst (a ++ b)) ρ2 else .bad
  | _, _ => .bad
def nCat_k (fb : En → Out Pv) (p : Pv) (ρ1 : En) : Out D := (fb ρ1).bind (nCat_k2 p)
theorem nCat_e {fa fb : En → Out Pv} : nCat fa fb ρ = (fa ρ).bind (nCat_k fb) := rfl
def sExp_k (_ : Pv) (ρ1 : En) : Out Fl := .ok .nx ρ1
theorem sExp_e {f : En → Out Pv} : sExp f ρ = (f ρ).bind sExp_k := rfl
def sRet_k (p : Pv) (ρ1 : En) : Out Fl := match p with
  | .v d => .ok (.rt d) ρ1
  | .b i => match ρ1[i]? with
    | some (.own d) => .ok (.rn d) (ρ1.set i .un)
    | _ => .bad
theorem sRet_e {f : En → Out Pv} : sRet f ρ = (f ρ).bind sRet_k := rfl
def sRetN_k (d : D) (ρ1 : En) : Out Fl := .ok (.rn d) ρ1
theorem sRetN_e {f : En → Out D} : sRetN f ρ = (f ρ).bind sRetN_k := rfl
theorem sIf_e {c : En → Out Bool} {f g : En → Out Fl} : sIf c f g ρ = (c ρ).bind (iteK f g) := rfl
def sSet_k (i : Nat) (p : Pv) (ρ1 : En) : Out Fl := match p with
  | .v d => .ok .nx (ρ1.set i (.val d))
  | .b _ => .bad
theorem sSet_e {i : Nat} {f : En → Out Pv} : sSet i f ρ = (f ρ).bind (sSet_k i) := rfl
def sSetN_k (i : Nat) (d : D) (ρ1 : En) : Out Fl := .ok .nx (ρ1.set i (.own d))
theorem sSetN_e {i : Nat} {f : En → Out D} : sSetN i f ρ = (f ρ).bind (sSetN_k i) := rfl
def gsCons_k (hs : List D → En → Out Unit) (r : List D) (_ : Unit) (ρ1 : En) : Out Unit := hs r ρ1
theorem gsCons_e {h : D → En → Out Unit} {hs : List D → En → Out Unit} {d : D} {r : List D} : gsCons h hs (d :: r) ρ = (h d ρ).bind (gsCons_k hs r) := rfl
def nxK (_ : Unit) (ρ1 : En) : Out Fl := .ok .nx ρ1
def sAsg_k (h : D → En → Out Unit) (p : Pv) (ρ1 : En) : Out Fl := match p with
  | .v d => (h d ρ1).bind nxK
  | .b _ => .bad
theorem sAsg_e {f : En → Out Pv} {h : D → En → Out Unit} : sAsg f h ρ = (f ρ).bind (sAsg_k h) := rfl
def sAug_k (i : Nat) (g : D → D → Option D) (a : D) (q : Pv) (ρ1 : En) : Out Fl := match (pvD ρ1 q).bind fun b => g a b with
  | some d => .ok .nx (ρ1.set i (.val d))
  | none => .bad
theorem sAug_e {i : Nat} {f : En → Out Pv} {g : D → D → Option D} : sAug i f g ρ = match ρ[i]? with
  | some (.val a) => (f ρ).bind (sAug_k i g a)
  | _ => .bad := rfl
def iL_k (p : Pv) (ρ1 : En) : Out (List D) := match p with
  | .v (.lst ds) => .ok ds ρ1
  | _ => .bad
theorem iL_e {f : En → Out Pv} : iL f ρ = (f ρ).bind iL_k := rfl
def iT_k (p : Pv) (ρ1 : En) : Out (List D) := match p with
  | .v (.tup ds) => .ok ds ρ1
  | _ => .bad
theorem iT_e {f : En → Out Pv} : iT f ρ = (f ρ).bind iT_k := rfl
def iR1_k (ps : List Pv) (ρ1 : En) : Out (List D) := match ps with
  | [.v (.int j)] => if inR j = true then .ok (rangeD 0 j) ρ1 else .bad
  | _ => .bad
theorem iR1_e {f : En → Out (List Pv)} : iR1 f ρ = (f ρ).bind iR1_k := rfl
def iR2_k (ps : List Pv) (ρ1 : En) : Out (List D) := match ps with
  | [.v (.int i), .v (.int j)] => if (inR i && inR j) = true then .ok (rangeD i j) ρ1 else .bad
  | _ => .bad
theorem iR2_e {f : En → Out (List Pv)} : iR2 f ρ = (f ρ).bind iR2_k := rfl
theorem sFor_e {it : En → Out (List D)} {g : D → En → Out Unit} {b : En → Out Fl} : sFor it g b ρ = (it ρ).bind (forL g b) := rfl
def cCall_k2 (r : Rt) (ρ2 : En) : Out Pv := .ok (.v r.d) ρ2
def cCall_k (np : Nat) (m : Mf) (ps : List Pv) (ρ1 : En) : Out Pv := (callM np m ps ρ1).bind cCall_k2
theorem cCall_e {np : Nat} {m : Mf} {f : En → Out (List Pv)} : cCall np m f ρ = (f ρ).bind (cCall_k np m) := rfl
def nCall_k2 (r : Rt) (ρ2 : En) : Out D := match r with
  | .n d => .ok d ρ2
  | .v _ => .bad
def nCall_k (np : Nat) (m : Mf) (ps : List Pv) (ρ1 : En) : Out D := (callM np m ps ρ1).bind nCall_k2
theorem nCall_e {np : Nat} {m : Mf} {f : En → Out (List Pv)} : nCall np m f ρ = (f ρ).bind (nCall_k np m) := rfl
def gSubD_k (i : Nat) (d : D) (p : Pv) (ρ1 : En) : Out Unit := match ρ1[i]? with
  | some s => match (Sl.dat s).bind fun x => (pvD ρ1 p).bind fun k => setD x k d with
    | some x' => .ok () (ρ1.set i (s.put x'))
    | none => .bad
  | none => .bad
theorem gSubD_e {i : Nat} {fi : En → Out Pv} {d : D} : gSubD i fi d ρ = if ((ρ[i]?).bind Sl.dat).isSome = false then .bad else (fi ρ).bind (gSubD_k i d) := rfl
def cM_k (i : Nat) (g : D → List D → Option (D × D)) (ps : List Pv) (ρ1 : En) : Out Pv := match ρ1[i]? with
  | some s => match (Sl.dat s).bind fun c => (pvs ps).bind fun ds => g c ds with
    | some (d, c') => .ok (.v d) (ρ1.set i (s.put c'))
    | none => .bad
  | none => .bad
theorem cM_e {i : Nat} {g : D → List D → Option (D × D)} {f : En → Out (List Pv)} : cM i g f ρ = match (ρ[i]?).bind Sl.dat with
  | some (.lst _) => (f ρ).bind (cM_k i g)
  | _ => .bad := rfl
def pCons_k3 (k : Key) (d : D) (r : List (Key × D)) (ρ3 : En) : Out (List (Key × D)) := .ok ((k, d) :: r) ρ3
def pCons_k2 (g : En → Out (List (Key × D))) (p : Pv) (ρ1 : En) (q : Pv) (ρ2 : En) : Out (List (Key × D)) := match (pvD ρ1 p).bind keyD, q with
  | some k, .v d => (g ρ2).bind (pCons_k3 k d)
  | _, _ => .bad
def pCons_k (fv : En → Out Pv) (g : En → Out (List (Key × D))) (p : Pv) (ρ1 : En) : Out (List (Key × D)) := (fv ρ1).bind (pCons_k2 g p ρ1)
theorem pCons_e {fk fv : En → Out Pv} {g : En → Out (List (Key × D))} : pCons fk fv g ρ = (fk ρ).bind (pCons_k fv g) := rfl
def nDic_k (kds : List (Key × D)) (ρ1 : En) : Out D := .ok (.dic (dics kds)) ρ1
theorem nDic_e {g : En → Out (List (Key × D))} : nDic g ρ = (g ρ).bind nDic_k := rfl
def lcB (ρ1 : En) (is : List Nat) (o : Out (List D)) : Out D := match o with
  | .ok acc ρ2 => .ok (.lst acc) (backAll ρ1 ρ2 is)
  | _ => .bad
def nLc_k (is : List Nat) (h : D → Option (List D)) (c : En → Out Bool) (e : En → Out Pv) (ds : List D) (ρ1 : En) : Out D := if noAdr ρ1 is = true then lcB ρ1 is (lcL is h c e ds [] (unAll ρ1 is)) else .bad
theorem nLc_e {it : En → Out (List D)} {is : List Nat} {h : D → Option (List D)} {c : En → Out Bool} {e : En → Out Pv} : nLc it is h c e ρ = (it ρ).bind (nLc_k is h c e) := rfl
theorem lcB_ok {ρ1 ρ2 : En} {is : List Nat} {acc : List D} : lcB ρ1 is (.ok acc ρ2) = .ok (.lst acc) (backAll ρ1 ρ2 is) := rfl
def iZ_k (ps : List Pv) (ρ1 : En) : Out (List D) := match ps with
  | [.v (.lst ds), .v (.lst es)] => .ok (zipD ds es) ρ1
  | [.v (.tup ds), .v (.tup es)] => .ok (zipD ds es) ρ1
  | _ => .bad
theorem iZ_e {f : En → Out (List Pv)} : iZ f ρ = (f ρ).bind iZ_k := rfl
def iR3_k (ps : List Pv) (ρ1 : En) : Out (List D) := match ps with
  | [.v (.int i), .v (.int j), .v (.int c)] => match range3 i j c with
    | some ds => .ok ds ρ1
    | none => .bad
  | _ => .bad
theorem iR3_e {f : En → Out (List Pv)} : iR3 f ρ = (f ρ).bind iR3_k := rfl
def cCh_k3 (g' : D → D → Option D) (q r : Pv) (ρ3 : En) : Out Pv := ofO ((pvD ρ3 q).bind fun y => (pvD ρ3 r).bind fun z => g' y z) ρ3
def cCh_k2 (g g' : D → D → Option D) (fc : En → Out Pv) (p q : Pv) (ρ2 : En) : Out Pv := match (pvD ρ2 p).bind fun x => (pvD ρ2 q).bind fun y => g x y with
  | some (.bl true) => (fc ρ2).bind (cCh_k3 g' q)
  | some (.bl false) => .ok (.v (.bl false)) ρ2
  | _ => .bad
def cCh_k (g g' : D → D → Option D) (fb fc : En → Out Pv) (p : Pv) (ρ1 : En) : Out Pv := (fb ρ1).bind (cCh_k2 g g' fc p)
theorem cCh_e {g g' : D → D → Option D} {fa fb fc : En → Out Pv} : cChain g g' fa fb fc ρ = (fa ρ).bind (cCh_k g g' fb fc) := rfl
def nRan_k (r : Int × Int × Int) (ρ1 : En) : Out D := match ranL r.1 r.2.1 r.2.2 with
  | some ds => .ok (.lst ds) ρ1
  | none => .bad
theorem nRan_e {f : En → Out (Int × Int × Int)} : nRan f ρ = (f ρ).bind nRan_k := rfl
def r1F_k (p : Pv) (ρ1 : En) : Out (Int × Int × Int) := match intP p with
  | some i => .ok (0, i, 1) ρ1
  | none => .bad
theorem r1F_e {fa : En → Out Pv} : r1F fa ρ = (fa ρ).bind r1F_k := rfl
def r2F_k2 (p q : Pv) (ρ2 : En) : Out (Int × Int × Int) := match intP p, intP q with
  | some i, some j => .ok (i, j, 1) ρ2
  | _, _ => .bad
def r2F_k (fb : En → Out Pv) (p : Pv) (ρ1 : En) : Out (Int × Int × Int) := (fb ρ1).bind (r2F_k2 p)
theorem r2F_e {fa fb : En → Out Pv} : r2F fa fb ρ = (fa ρ).bind (r2F_k fb) := rfl
def r3F_k3 (p q r : Pv) (ρ3 : En) : Out (Int × Int × Int) := match intP p, intP q, intP r with
  | some i, some j, some k => if k ≠ 0 ∧ k.natAbs < 1073741824 then .ok (i, j, k) ρ3 else .bad
  | _, _, _ => .bad
def r3F_k2 (fc : En → Out Pv) (p q : Pv) (ρ2 : En) : Out (Int × Int × Int) := (fc ρ2).bind (r3F_k3 p q)
def r3F_k (fb fc : En → Out Pv) (p : Pv) (ρ1 : En) : Out (Int × Int × Int) := (fb ρ1).bind (r3F_k2 fc p)
theorem r3F_e {fa fb fc : En → Out Pv} : r3F fa fb fc ρ = (fa ρ).bind (r3F_k fb fc) := rfl
/-! loops over written lists -/
def Out.lp (o : Out Fl) (k : En → Out Fl) : Out Fl := match o with
  | .ok .nx ρ => k ρ
  | .ok .ct ρ => k ρ
  | .ok .bk ρ => .ok .nx ρ
  | o => o
theorem lp_nx {k : En → Out Fl} : (Out.ok Fl.nx ρ).lp k = k ρ := rfl
theorem lp_ct {k : En → Out Fl} : (Out.ok Fl.ct ρ).lp k = k ρ := rfl
theorem lp_bk {k : En → Out Fl} : (Out.ok Fl.bk ρ).lp k = .ok .nx ρ := rfl
theorem lp_rt {k : En → Out Fl} {d : D} : (Out.ok (Fl.rt d) ρ).lp k = .ok (.rt d) ρ := rfl
theorem lp_rn {k : En → Out Fl} {d : D} : (Out.ok (Fl.rn d) ρ).lp k = .ok (.rn d) ρ := rfl
def forL_k (g : D → En → Out Unit) (b : En → Out Fl) (r : List D) (_ : Unit) (ρ1 : En) : Out Fl := (b ρ1).lp (forL g b r)
theorem forL_nil {g : D → En → Out Unit} {b : En → Out Fl} : forL g b [] ρ = .ok .nx ρ := rfl
theorem forL_cons {g : D → En → Out Unit} {b : En → Out Fl} {d : D} {r : List D} : forL g b (d :: r) ρ = (g d ρ).bind (forL_k g b r) := by
  unfold forL
  cases g d ρ with
  | ok u ρ1 =>
    show _ = (b ρ1).lp (forL g b r)
    dsimp only
    cases b ρ1 with
    | ok fl ρ2 => cases fl <;> rfl
    | exc _ _ => rfl
    | bad => rfl
  | exc _ _ => rfl
  | bad => rfl
def Out.sub {α β : Type} (o : Out α) (k : α → En → Out β) : Out β := match o with
  | .ok a ρ => k a ρ
  | _ => .bad
theorem sub_ok {β : Type} {a : α} {k : α → En → Out β} : (Out.ok a ρ).sub k = k a ρ := rfl
def lcL_k2 (is : List Nat) (h : D → Option (List D)) (c : En → Out Bool) (e : En → Out Pv) (r acc : List D) (p : Pv) (ρ3 : En) : Out (List D) := match p with
  | .v x => if acc.length < sizeLine then lcL is h c e r (acc ++ [x]) (unAll ρ3 is) else .bad
  | .b _ => .bad
def lcL_k (is : List Nat) (h : D → Option (List D)) (c : En → Out Bool) (e : En → Out Pv) (r acc : List D) (b : Bool) (ρ2 : En) : Out (List D) := if b = true then (e ρ2).sub (lcL_k2 is h c e r acc) else lcL is h c e r acc (unAll ρ2 is)
theorem lcL_nil {is : List Nat} {h : D → Option (List D)} {c : En → Out Bool} {e : En → Out Pv} {acc : List D} : lcL is h c e [] acc ρ = .ok acc ρ := rfl
def lcH (is : List Nat) (c : En → Out Bool) (k : Bool → En → Out (List D)) (ρ : En) (o : Option (List D)) : Out (List D) := match o with
  | some ds => (c (setAll ρ is (ds.map .val))).sub k
  | none => .bad
theorem lcH_some {is : List Nat} {c : En → Out Bool} {k : Bool → En → Out (List D)} {ds : List D} : lcH is c k ρ (some ds) = (c (setAll ρ is (ds.map .val))).sub k := rfl
theorem lcL_cons {is : List Nat} {h : D → Option (List D)} {c : En → Out Bool} {e : En → Out Pv} {d : D} {r acc : List D} : lcL is h c e (d :: r) acc ρ = lcH is c (lcL_k is h c e r acc) ρ (h d) := by
  unfold lcL
  cases h d with
  | none => rfl
  | some ds =>
    show _ = (c (setAll ρ is (ds.map .val))).sub (lcL_k is h c e r acc)
    dsimp only
    cases hc : c (setAll ρ is (ds.map .val)) with
    | ok b ρ2 =>
      cases b with
      | true =>
        show _ = (e ρ2).sub (lcL_k2 is h c e r acc)
        dsimp only
        cases e ρ2 with
        | ok p ρ3 => cases p <;> rfl
        | exc _ _ => rfl
        | bad => rfl
      | false => rfl
    | exc _ _ => rfl
    | bad => rfl
/-! a def's end -/
def runK (x : Bool) (ρ0 : En) (o : Out Fl) : Out Rt := match o with
  | .ok (.rt d) ρ' => fin ρ0 (.v d) ρ'
  | .ok (.rn d) ρ' => fin ρ0 (.n d) ρ'
  | .ok .nx ρ' => fin ρ0 (.v .non) ρ'
  | .exc e ρ' => match x, outs ρ0 ρ' with
    | true, some cs => .exc e cs
    | _, _ => .bad
  | _ => .bad
theorem run_e {x : Bool} {n : Nat} {g : En → Out Fl} : run x n g ρ = runK x ρ (g (ρ ++ List.replicate (n - ρ.length) .un)) := rfl
theorem runK_rt {x : Bool} {ρ0 : En} {d : D} : runK x ρ0 (.ok (.rt d) ρ) = fin ρ0 (.v d) ρ := rfl
theorem runK_rn {x : Bool} {ρ0 : En} {d : D} : runK x ρ0 (.ok (.rn d) ρ) = fin ρ0 (.n d) ρ := rfl
theorem runK_nx {x : Bool} {ρ0 : En} : runK x ρ0 (.ok .nx ρ) = fin ρ0 (.v .non) ρ := rfl
end
section
variable {a b : Int} {x y z u : D} {l : List D}
theorem isi_int : gIsi [.int a, .ty "int"] = some (.bl true) := rfl
theorem isi_bool : gIsi [.int a, .ty "bool"] = some (.bl false) := rfl
theorem at0 : L2.atI (x :: l) 0 = some x := atI_nat (j := 0) rfl
theorem at1 : L2.atI (x :: y :: l) 1 = some y := atI_nat (j := 1) rfl
theorem at2 : L2.atI (x :: y :: z :: l) 2 = some z := atI_nat (j := 2) rfl
theorem at3 : L2.atI (x :: y :: z :: u :: l) 3 = some u := atI_nat (j := 3) rfl
theorem setD_at {xs : List D} {i : Int} {j : Nat} {d : D} (h : ixN xs.length i = some j) : setD (.lst xs) (.int i) d = some (.lst (xs.set j d)) := by
  show (ixN xs.length i).map _ = _
  rw [h]; rfl
theorem ixN_nat {n j : Nat} (h : j < n) : ixN n (j : Int) = some j := by
  unfold ixN
  rw [if_pos (by omega), if_pos (by omega)]; rfl
theorem set0 : setD (.lst (x :: l)) (.int 0) u = some (.lst (u :: l)) := setD_at (ixN_nat (j := 0) (by simp))
theorem set1 : setD (.lst (x :: y :: l)) (.int 1) u = some (.lst (x :: u :: l)) := setD_at (ixN_nat (j := 1) (by simp))
theorem set2 : setD (.lst (x :: y :: z :: l)) (.int 2) u = some (.lst (x :: y :: u :: l)) := setD_at (ixN_nat (j := 2) (by simp))
theorem ran0 : rangeD 0 0 = [] := rfl
theorem ran1 : rangeD 0 1 = [.int 0] := rfl
theorem ran2 : rangeD 0 2 = [.int 0, .int 1] := rfl
theorem ran3 : rangeD 0 3 = [.int 0, .int 1, .int 2] := rfl
theorem maxI_one : maxI [a] = a := rfl
theorem max_ii : gMax [.int a, .int b] = some (.int (max a b)) := rfl
theorem max_l : gMax [.lst l] = (asInts l).bind fun ns => if ns = [] then none else some (.int (maxI ns)) := rfl
theorem max_t : gMax [.tup l] = (asInts l).bind fun ns => if ns = [] then none else some (.int (maxI ns)) := rfl
theorem sum_l : gSum [.lst l] = (asInts l).map fun ns => .int ns.sum := rfl
theorem sum_t : gSum [.tup l] = (asInts l).map fun ns => .int ns.sum := rfl
theorem asI_nil : asInts [] = some [] := rfl
theorem asI_cons : asInts (.int a :: l) = (asInts l).map (a :: ·) := rfl
theorem add_l {xs ys : List D} (h : xs.length + ys.length ≤ sizeLine) : gAdd (.lst xs) (.lst ys) = some (.lst (xs ++ ys)) := if_pos h
theorem add_t {xs ys : List D} (h : xs.length + ys.length ≤ sizeLine) : gAdd (.tup xs) (.tup ys) = some (.tup (xs ++ ys)) := if_pos h
theorem toL_l : gToL [.lst l] = some (.lst l) := rfl
theorem toL_t : gToL [.tup l] = some (.lst l) := rfl
theorem sl_l {lo hi : Option Int} : gSl (.lst l) lo hi = some (.lst (cutD l lo hi)) := rfl
theorem sl_t {lo hi : Option Int} : gSl (.tup l) lo hi = some (.tup (cutD l lo hi)) := rfl
theorem int_lit (n : Nat) : ((no_index (OfNat.ofNat n) : Nat) : Int) = (OfNat.ofNat n : Int) := rfl
theorem line_le {n : Nat} (h : n ≤ 1000) : n ≤ sizeLine := by rw [sizeLine_eq]; omega
theorem line_lt {n : Nat} (h : n ≤ 1000) : n < sizeLine := by rw [sizeLine_eq]; omega
end
/-! comprehensions, loops -/
theorem lcL_map {α : Type} {is : List Nat} {h : D → Option (List D)} {c : En → Out Bool} {e : En → Out Pv} {ρ : En} (dIn dOut : α → D) :
    ∀ (xs : List α) (acc : List D), acc.length + xs.length ≤ sizeLine → (∀ x ∈ xs, ∃ ps ρ2 ρ3, h (dIn x) = some ps ∧ c (setAll ρ is (ps.map .val)) = .ok true ρ2 ∧ e ρ2 = .ok (.v (dOut x)) ρ3 ∧ unAll ρ3 is = ρ) →
      lcL is h c e (xs.map dIn) acc ρ = .ok (acc ++ xs.map dOut) ρ
  | [], acc, _, _ => by simp [lcL]
  | x :: xs, acc, hl, H => by
    obtain ⟨ps, ρ2, ρ3, e1, e2, e3, e4⟩ := H x List.mem_cons_self
    have hl' : acc.length < sizeLine := by simp only [List.length_cons] at hl; omega
    simp only [List.map_cons, lcL, e1, e2, e3, e4, if_pos hl']
    rw [lcL_map dIn dOut xs (acc ++ [dOut x]) (by simp only [List.length_append, List.length_cons, List.length_nil] at hl ⊢; omega) fun y hy => H y (List.mem_cons_of_mem _ hy)]
    simp
/-- .. a state goes through -/
theorem lcL_fold {is : List Nat} {h : D → Option (List D)} {c : En → Out Bool} {e : En → Out Pv} (I : Nat → List D → En → Prop) (xs : List D) (hs : xs.length ≤ sizeLine)
    (step : ∀ i acc ρ x, xs[i]? = some x → I i acc ρ → ∃ ps ρ2 d ρ3, h x = some ps ∧ c (setAll ρ is (ps.map .val)) = .ok true ρ2 ∧ e ρ2 = .ok (.v d) ρ3 ∧ I (i + 1) (acc ++ [d]) (unAll ρ3 is)) :
    ∀ (i : Nat) (acc : List D) (ρ : En), i ≤ xs.length → acc.length = i → I i acc ρ → ∃ acc' ρ', lcL is h c e (xs.drop i) acc ρ = .ok acc' ρ' ∧ acc'.length = xs.length ∧ I xs.length acc' ρ' := by
  intro i acc ρ hi ha hI
  generalize hn : xs.length - i = n
  induction n generalizing i acc ρ with
  | zero =>
    have : i = xs.length := by omega
    subst this
    exact ⟨acc, ρ, by rw [List.drop_length]; rfl, ha, hI⟩
  | succ n ih =>
    have hlt : i < xs.length := by omega
    obtain ⟨ps, ρ2, d, ρ3, e1, e2, e3, e4⟩ := step i acc ρ xs[i] (List.getElem?_eq_getElem hlt) hI
    obtain ⟨acc', ρ', f1, f2, f3⟩ := ih (i + 1) (acc ++ [d]) (unAll ρ3 is) hlt (by simp [ha]) e4 (by omega)
    refine ⟨acc', ρ', ?_, f2, f3⟩
    rw [List.drop_eq_getElem_cons hlt]
    simp only [lcL, e1, e2, e3, if_pos (show acc.length < sizeLine by omega)]
    exact f1
/-- a for loop that goes to its end or returns -/
theorem forL_inv {g : D → En → Out Unit} {b : En → Out Fl} (I : Nat → En → Prop) (Q : Fl → En → Prop) (ds : List D) (he : ∀ ρ, I ds.length ρ → Q .nx ρ)
    (step : ∀ i ρ d, ds[i]? = some d → I i ρ → ∃ ρ1, g d ρ = .ok () ρ1 ∧ W (b ρ1) fun fl ρ2 => match fl with
      | .nx => I (i + 1) ρ2
      | .ct => I (i + 1) ρ2
      | .bk => Q .nx ρ2
      | fl => Q fl ρ2) :
    ∀ (i : Nat) (ρ : En), i ≤ ds.length → I i ρ → W (forL g b (ds.drop i) ρ) Q := by
  intro i ρ hi hI
  generalize hn : ds.length - i = n
  induction n generalizing i ρ with
  | zero =>
    have : i = ds.length := by omega
    subst this
    rw [List.drop_length]
    exact he ρ hI
  | succ n ih =>
    have hlt : i < ds.length := by omega
    obtain ⟨ρ1, e1, e2⟩ := step i ρ ds[i] (List.getElem?_eq_getElem hlt) hI
    rw [List.drop_eq_getElem_cons hlt]
    obtain ⟨fl, ρ2, e3, e4⟩ := e2.ok
    simp only [forL, e1, e3]
    cases fl with
    | nx => exact ih (i + 1) ρ2 hlt e4 (by omega)
    | ct => exact ih (i + 1) ρ2 hlt e4 (by omega)
    | bk => exact e4
    | rt d => exact e4
    | rn d => exact e4
theorem forL_all {g : D → En → Out Unit} {b : En → Out Fl} {I : Nat → En → Prop} {Q : Fl → En → Prop} {ds : List D} {ρ : En} (h0 : I 0 ρ) (he : ∀ ρ, I ds.length ρ → Q .nx ρ)
    (step : ∀ i ρ d, ds[i]? = some d → I i ρ → ∃ ρ1, g d ρ = .ok () ρ1 ∧ W (b ρ1) fun fl ρ2 => match fl with
      | .nx => I (i + 1) ρ2
      | .ct => I (i + 1) ρ2
      | .bk => Q .nx ρ2
      | fl => Q fl ρ2) : W (forL g b ds ρ) Q := by
  have := forL_inv I Q ds he step 0 ρ (Nat.zero_le _) h0
  rwa [List.drop_zero] at this

/-! lists by their places -/
def rg (n : Nat) (f : Nat → D) : List D := (List.range n).map f
section
variable {n k : Nat} {f g : Nat → D} {a : Int}
theorem rg_len : (rg n f).length = n := by simp [rg]
theorem rg_get (h : k < n) : (rg n f)[k]? = some (f k) := by
  unfold rg
  rw [List.getElem?_map, List.getElem?_range h]; rfl
theorem rg_at (h : k < n) : L2.atI (rg n f) (k : Int) = some (f k) := atI_nat (rg_get h)
theorem rg_succ : rg n f ++ [f n] = rg (n + 1) f := by
  unfold rg
  rw [List.range_succ, List.map_append]; rfl
theorem rg_congr (h : ∀ i < n, f i = g i) : rg n f = rg n g := List.map_congr_left fun i hi => h i (List.mem_range.mp hi)
theorem rg_ran (n : Nat) : rangeD 0 (n : Int) = rg n fun i => .int (0 + i) := rfl
theorem rg_map {α : Type} {f : Nat → α} {h : α → D} : ((List.range n).map f).map h = rg n fun i => h (f i) := by simp [rg]
theorem cut_rg {s a b : Nat} (h1 : a ≤ b) (h2 : b ≤ s) : cutD (rg s f) (some (a : Int)) (some (b : Int)) = rg (b - a) fun l => f (a + l) := by
  unfold cutD
  rw [rg_len, HT.sIx_nat, HT.sIx_nat, Nat.min_eq_left h2, Nat.min_eq_left (Nat.le_trans h1 h2)]
  apply List.ext_getElem?
  intro k
  rw [List.getElem?_take, List.getElem?_drop]
  by_cases hk : k < b - a
  · rw [if_pos hk, rg_get (show a + k < s by omega), rg_get hk]
  · rw [if_neg hk, List.getElem?_eq_none (by rw [rg_len]; omega)]
theorem cut_to {α : Type} {xs : List α} {k : Nat} : cutD xs none (some (k : Int)) = xs.take k := by
  unfold cutD
  rw [HT.sIx_none, HT.sIx_nat, List.drop_zero, Nat.sub_zero]
  by_cases h : k ≤ xs.length
  · rw [Nat.min_eq_left h]
  · rw [Nat.min_eq_right (by omega), List.take_of_length_le (Nat.le_refl _), List.take_of_length_le (by omega)]
theorem cut_from {α : Type} {xs : List α} {k : Nat} : cutD xs (some (k : Int)) none = xs.drop k := by
  unfold cutD
  rw [HT.sIx_none, HT.sIx_nat]
  by_cases h : k ≤ xs.length
  · rw [Nat.min_eq_left h, List.take_of_length_le (by rw [List.length_drop]; omega)]
  · rw [Nat.min_eq_right (by omega), List.drop_of_length_le (Nat.le_refl _), List.drop_of_length_le (by omega), List.take_nil]
theorem map_at {α : Type} {xs : List α} {h : α → D} {k : Nat} (hk : k < xs.length) : L2.atI (xs.map h) (k : Int) = some (h xs[k]) := by
  refine atI_nat (j := k) ?_
  rw [List.getElem?_map, List.getElem?_eq_getElem hk]; rfl
theorem asI_rg {f : Nat → Int} : asInts (rg n fun i => .int (f i)) = some ((List.range n).map f) := by
  unfold rg
  rw [← asInts_map, List.map_map]; rfl
theorem ran_get {lo hi : Int} {i : Nat} {d : D} (h : (rangeD lo hi)[i]? = some d) : d = .int (lo + i) ∧ i < (hi - lo).toNat := by
  unfold rangeD at h
  rw [List.getElem?_map] at h
  have hl : i < (hi - lo).toNat := by
    by_cases e : i < (hi - lo).toNat
    · exact e
    · rw [List.getElem?_eq_none (by rw [List.length_range]; omega)] at h
      cases h
  rw [List.getElem?_range hl] at h
  cases h
  exact ⟨rfl, hl⟩
theorem ran_nat {i : Nat} {d : D} (h : (rangeD 0 (n : Int))[i]? = some d) : d = .int i ∧ i < n := by
  obtain ⟨h1, h2⟩ := ran_get h
  refine ⟨by rw [h1, Int.zero_add], by omega⟩
theorem ran_len : (rangeD 0 (n : Int)).length = n := by simp [rangeD]
theorem inR_nat (h : n ≤ 1000000000) : inR (n : Int) = true := decide_eq_true (by omega)
theorem isN_non : gIsN .non .non = some (.bl true) := rfl
theorem isN_int : gIsN (.int a) .non = some (.bl false) := rfl
theorem notN_non : gNotN .non .non = some (.bl false) := rfl
theorem notN_int : gNotN (.int a) .non = some (.bl true) := rfl
/-- a comprehension over range(n), its element by the place; nothing else is changed -/
theorem lcL_rg {e : En → Out Pv} {ρ : En} {i0 : Nat} (hn : n ≤ 1000000) (H : ∀ k < n, ∃ ρ3, e (ρ.set i0 (.val (.int k))) = .ok (.v (f k)) ρ3 ∧ unAll ρ3 [i0] = ρ) :
    lcL [i0] hOne cYes e (rangeD 0 (n : Int)) [] ρ = .ok (rg n f) ρ := by
  have := lcL_map (is := [i0]) (h := hOne) (c := cYes) (e := e) (ρ := ρ) (fun k : Nat => D.int ((0 : Int) + k)) (fun k : Nat => f k) (List.range n) [] (by rw [List.length_range, sizeLine_eq]; simp; omega) fun k hk => by
    obtain ⟨ρ3, e1, e2⟩ := H k (List.mem_range.mp hk)
    refine ⟨[.int ((0 : Int) + k)], _, ρ3, rfl, rfl, ?_, e2⟩
    rw [← e1, Int.zero_add]; rfl
  exact this
end

/-! ### the laws' own stock of draws -/
def sD (cs : List Int) (a n j t : Int) : D := .dic [(.inr "cells", .lst (cs.map .int)), (.inr "at", .int a), (.inr "number", .int n), (.inr "jar", .int j), (.inr "turn", .int t)]
section
variable {cs : List Int} {a n j t v : Int}
theorem sg1 : gGet (sD cs a n j t) (.str "cells") = some (.lst (cs.map .int)) := rfl
theorem sg2 : gGet (sD cs a n j t) (.str "at") = some (.int a) := rfl
theorem sg3 : gGet (sD cs a n j t) (.str "number") = some (.int n) := rfl
theorem sg4 : gGet (sD cs a n j t) (.str "jar") = some (.int j) := rfl
theorem sg5 : gGet (sD cs a n j t) (.str "turn") = some (.int t) := rfl
theorem ss2 : setD (sD cs a n j t) (.str "at") (.int v) = some (sD cs v n j t) := rfl
theorem ss3 : setD (sD cs a n j t) (.str "number") (.int v) = some (sD cs a v j t) := rfl
theorem ss4 : setD (sD cs a n j t) (.str "jar") (.int v) = some (sD cs a n v t) := rfl
theorem ss5 : setD (sD cs a n j t) (.str "turn") (.int v) = some (sD cs a n j v) := rfl
end
end L3
namespace L3
open PySem PySem.Spec PyProof.Rows L2
local macro_rules | `(tactic| walk_at "ev") => `(tactic| simp (config := {decide := true}) only [W_ok, bind_ok, thn_nx, thn_rt, thn_rn, thn_bk, thn_ct, cVar, cK, c1_e, c1_k, c2_e, c2_k, c2_k2, cB_e, cB_k, cAnd_e, cOr_e, cNot_e, cNot_k, cIte_e, iteK_t, iteK_f, iteK, okB, okV, cAndV_e, cOrV_e, cNotV_e, cNotV_k, cBv_e, aNil, aCons_e, aCons_k, aCons_k2, cTup_e, cTup_k, nLst_e, nLst_k, vN_e, vN_k, cN_e, cN_k, nN_e, nN_k, oNone, oSome_e, oSome_k, cSl_e, cSl_k, cSl_k2, cSl_k3, nSl_e, nSl_k, nSl_k2, nSl_k3, nCat_e, nCat_k, nCat_k2, sNil, sSeq, sFrz, sBrk, sCnt, sExp_e, sExp_k, sRet_e, sRet_k, sRetN_e, sRetN_k, sRetU, sIf_e, sSet_e, sSet_k, sSetN_e, sSetN_k, gSet, gsNil, gsCons_e, gsCons_k, nxK, gTupD, gLstD, sAsg_e, sAsg_k, sAug_e, sAug_k, iL_e, iL_k, iT_e, iT_k, iR1_e, iR1_k, iR2_e, iR2_k, iZ_e, iZ_k, iR3_e, iR3_k, cCh_e, cCh_k, cCh_k2, cCh_k3, nRan_e, nRan_k, r1F_e, r1F_k, r2F_e, r2F_k, r2F_k2, r3F_e, r3F_k, r3F_k2, r3F_k3, intP, sFor_e, run_e, runK_rt, runK_rn, runK_nx, fin, outs, cCall_e, cCall_k, cCall_k2, nCall_e, nCall_k, nCall_k2, callM, sls, lents, wbk, lk, pvD, pvDs, pvs, Sl.dat, Sl.put, gSubD_e, gSubD_k, cM_e, cM_k, pNil, keyD, pCons_e, pCons_k, pCons_k2, pCons_k3, nDic_e, nDic_k, nLc_e, nLc_k, lcB_ok, unAll, backAll, noAdr, setAll, setAllF, List.map_cons, List.map_nil, hOne, cYes, List.all_cons, List.all_nil, Bool.and_true, Bool.true_and, Bool.and_self, Option.map_none, ofO, Rt.d, add_i, mns_i, mul_r, mul_l, div_i, mod_i, neg_i, lt_i, le_i, gt_i, ge_i, int_i, abs_i, len_l, len_t, get_l, get_t, toT_l, toT_t, eq_i, ne_i, eq_s, ne_s, rg_len, isN_non, isN_int, notN_non, notN_int, pow18, isi_int, isi_bool, max_ii, max_l, max_t, sum_l, sum_t, toL_l, toL_t, sl_l, sl_t, sg1, sg2, sg3, sg4, sg5, ss2, ss3, ss4, ss5, List.getElem?_cons_zero, List.getElem?_cons_succ, List.set_cons_zero, List.set_cons_succ, List.length_cons, List.length_nil, List.length_map, List.length_range, List.replicate, List.cons_append, List.nil_append, Option.bind_some, Option.map_some, Option.isSome_some, Option.bind_none, if_true, if_false, reduceIte, decide_eq_true_eq, Bool.false_eq_true, reduceCtorEq, decide_true, decide_false, Bool.not_true, Bool.not_false, *])
local macro_rules | `(tactic| walk_at "evc") => `(tactic| simp (config := {decide := true}) only [at0, at1, at2, at3, set0, set1, set2, ran0, ran1, ran2, ran3, maxI_one, maxI_cons, asI_nil, asI_cons, add_l, add_t, app_l, line_le, line_lt, forL_nil, forL_cons, forL_k, lp_nx, lp_ct, lp_bk, lp_rt, lp_rn, sub_ok, lcL_nil, lcL_cons, lcH_some, lcL_k, lcL_k2, L3.cutD, HT.sIx, List.take_succ_cons, List.take_zero, List.drop_succ_cons, List.drop_zero, List.sum_cons, List.sum_nil, Nat.reduceAdd, Int.reduceSub, Int.reduceAdd, int_lit, Int.reduceToNat, Nat.reduceSub, Nat.min_def, Nat.reduceLeDiff, Int.reduceLT, W_ok, bind_ok, thn_nx, thn_rt, thn_rn, thn_bk, thn_ct, cVar, cK, c1_e, c1_k, c2_e, c2_k, c2_k2, cB_e, cB_k, cAnd_e, cOr_e, cNot_e, cNot_k, cIte_e, iteK_t, iteK_f, iteK, okB, okV, cAndV_e, cOrV_e, cNotV_e, cNotV_k, cBv_e, aNil, aCons_e, aCons_k, aCons_k2, cTup_e, cTup_k, nLst_e, nLst_k, vN_e, vN_k, cN_e, cN_k, nN_e, nN_k, oNone, oSome_e, oSome_k, cSl_e, cSl_k, cSl_k2, cSl_k3, nSl_e, nSl_k, nSl_k2, nSl_k3, nCat_e, nCat_k, nCat_k2, sNil, sSeq, sFrz, sBrk, sCnt, sExp_e, sExp_k, sRet_e, sRet_k, sRetN_e, sRetN_k, sRetU, sIf_e, sSet_e, sSet_k, sSetN_e, sSetN_k, gSet, gsNil, gsCons_e, gsCons_k, nxK, gTupD, gLstD, sAsg_e, sAsg_k, sAug_e, sAug_k, iL_e, iL_k, iT_e, iT_k, iR1_e, iR1_k, iR2_e, iR2_k, iZ_e, iZ_k, iR3_e, iR3_k, cCh_e, cCh_k, cCh_k2, cCh_k3, nRan_e, nRan_k, r1F_e, r1F_k, r2F_e, r2F_k, r2F_k2, r3F_e, r3F_k, r3F_k2, r3F_k3, intP, sFor_e, run_e, runK_rt, runK_rn, runK_nx, fin, outs, cCall_e, cCall_k, cCall_k2, nCall_e, nCall_k, nCall_k2, callM, sls, lents, wbk, lk, pvD, pvDs, pvs, Sl.dat, Sl.put, gSubD_e, gSubD_k, cM_e, cM_k, pNil, keyD, pCons_e, pCons_k, pCons_k2, pCons_k3, nDic_e, nDic_k, nLc_e, nLc_k, lcB_ok, unAll, backAll, noAdr, setAll, setAllF, List.map_cons, List.map_nil, hOne, cYes, List.all_cons, List.all_nil, Bool.and_true, Bool.true_and, Bool.and_self, Option.map_none, ofO, Rt.d, add_i, mns_i, mul_r, mul_l, div_i, mod_i, neg_i, lt_i, le_i, gt_i, ge_i, int_i, abs_i, len_l, len_t, get_l, get_t, toT_l, toT_t, eq_i, ne_i, eq_s, ne_s, rg_len, isN_non, isN_int, notN_non, notN_int, pow18, isi_int, isi_bool, max_ii, max_l, max_t, sum_l, sum_t, toL_l, toL_t, sl_l, sl_t, sg1, sg2, sg3, sg4, sg5, ss2, ss3, ss4, ss5, List.getElem?_cons_zero, List.getElem?_cons_succ, List.set_cons_zero, List.set_cons_succ, List.length_cons, List.length_nil, List.length_map, List.length_range, List.replicate, List.cons_append, List.nil_append, Option.bind_some, Option.map_some, Option.isSome_some, Option.bind_none, if_true, if_false, reduceIte, decide_eq_true_eq, Bool.false_eq_true, reduceCtorEq, decide_true, decide_false, Bool.not_true, Bool.not_false, *])
def eBegin : En → Out Pv := cN gAbs (aCons (cN gInt (aCons (cVar 2) (aNil))) (aNil))
def gBegin : En → Out Fl := sSeq (sSet 1 (vN (nLc (iL (cSl (cVar 0) (oNone) (oSome (cK (.int 63))))) [2] hOne cYes eBegin))) (sRetN (nDic (pCons (cK (.str "cells")) (cVar 1) (pCons (cK (.str "at")) (cK (.int 0)) (pCons (cK (.str "number")) (cK (.int 0)) (pCons (cK (.str "jar")) (c2 gAdd (cK (.int 1)) (c2 gMod (cN gInt (aCons (cN gSum (aCons (cVar 1) (aNil))) (aNil))) (cK (.int 1000003)))) (pCons (cK (.str "turn")) (cK (.int 0)) (pNil))))))))
def mBegin : Mf := run false 3 gBegin
def gDraw : En → Out Fl := sSeq (sAsg (c2 gAdd (c2 gGet (cVar 0) (cK (.str "turn"))) (cK (.int 1))) (gSubD 0 (cK (.str "turn")))) (sSeq (sIf (cAnd (cB (c2 gLt (c2 gGet (cVar 0) (cK (.str "number"))) (cVar 1))) (cB (c2 gLt (c2 gGet (cVar 0) (cK (.str "at"))) (cN gLen (aCons (c2 gGet (cVar 0) (cK (.str "cells"))) (aNil)))))) (sSeq (sSet 2 (c2 gGet (c2 gGet (cVar 0) (cK (.str "cells"))) (c2 gGet (cVar 0) (cK (.str "at"))))) (sSeq (sAsg (c2 gAdd (c2 gGet (cVar 0) (cK (.str "at"))) (cK (.int 1))) (gSubD 0 (cK (.str "at")))) (sIf (cB (c2 gGe (cVar 2) (c2 gPow (cK (.int 10)) (cK (.int 18))))) (sAsg (cVar 2) (gSubD 0 (cK (.str "number")))) (sAsg (c2 gMod (cN gInt (aCons (c2 gAdd (c2 gAdd (c2 gMul (c2 gGet (cVar 0) (cK (.str "jar"))) (cK (.int 48271))) (c2 gMul (cVar 2) (cK (.int 69621)))) (c2 gMul (c2 gGet (cVar 0) (cK (.str "turn"))) (cK (.int 7)))) (aNil))) (cK (.int 2147483647))) (gSubD 0 (cK (.str "jar"))))))) (sNil)) (sSeq (sIf (cB (c2 gGe (c2 gGet (cVar 0) (cK (.str "number"))) (cVar 1))) (sSeq (sSet 3 (c2 gMod (cN gInt (aCons (c2 gGet (cVar 0) (cK (.str "number"))) (aNil))) (cVar 1))) (sSeq (sAsg (c2 gDiv (c2 gGet (cVar 0) (cK (.str "number"))) (cVar 1)) (gSubD 0 (cK (.str "number")))) (sRet (cVar 3)))) (sNil)) (sSeq (sAsg (c2 gMod (cN gInt (aCons (c2 gAdd (c2 gAdd (c2 gMul (c2 gGet (cVar 0) (cK (.str "jar"))) (cK (.int 16807))) (c2 gMul (c2 gGet (cVar 0) (cK (.str "turn"))) (cK (.int 48271)))) (cK (.int 11))) (aNil))) (cK (.int 2147483647))) (gSubD 0 (cK (.str "jar")))) (sRet (c2 gMod (cN gInt (aCons (c2 gAdd (c2 gDiv (c2 gGet (cVar 0) (cK (.str "jar"))) (cK (.int 65536))) (c2 gMul (c2 gMod (cN gInt (aCons (c2 gGet (cVar 0) (cK (.str "jar"))) (aNil))) (cK (.int 8191))) (cK (.int 3)))) (aNil))) (cVar 1))))))
def mDraw : Mf := run false 4 gDraw
def gRare : En → Out Fl := sRet (c2 gEq (cCall 2 mDraw (aCons (cVar 0) (aCons (cVar 1) (aNil)))) (cK (.int 0)))
def mRare : Mf := run false 2 gRare
def gPick : En → Out Fl := sRet (c2 gGet (cVar 1) (cCall 2 mDraw (aCons (cVar 0) (aCons (cN gLen (aCons (cVar 1) (aNil))) (aNil)))))
def mPick : Mf := run false 2 gPick

/-- a stock that may be drawn from -/
def Wf (d : D) : Prop := ∃ cs a n j t, d = sD cs a n j t ∧ 0 ≤ a ∧ 0 ≤ n
theorem draw_ok {s : D} (h : Wf s) {many : Int} (h0 : 0 < many) (h1 : many < 1073741824) : ∃ x s', mDraw [.bor s, .val (.int many)] = .ok (.v (.int x)) [.bor s', .un] ∧ 0 ≤ x ∧ x < many ∧ Wf s' := by
  suffices hs : W (mDraw [.bor s, .val (.int many)]) (fun r c => ∃ x s', r = .v (.int x) ∧ c = [.bor s', .un] ∧ 0 ≤ x ∧ x < many ∧ Wf s') by
    obtain ⟨r, c, e, x, s', rfl, rfl, h⟩ := hs.ok
    exact ⟨x, s', e, h⟩
  obtain ⟨cs, a, n, j, t, rfl, ha, hn⟩ := h
  have wf : ∀ {a n j t}, 0 ≤ a → 0 ≤ n → Wf (sD cs a n j t) := fun {a n j t} h1 h2 => ⟨cs, a, n, j, t, rfl, h1, h2⟩
  unfold mDraw L3.run gDraw
  have hp : ∀ m : Int, 0 ≤ m % many := fun m => Int.emod_nonneg _ (by omega)
  have hq : ∀ m : Int, m % many < many := fun m => Int.emod_lt_of_pos _ h0
  by_cases k1 : n < many
  · have k1' : ¬ many ≤ n := by omega
    by_cases k2 : a < cs.length
    · obtain ⟨m, rfl⟩ := Int.eq_ofNat_of_zero_le ha
      have hm : m < cs.length := by omega
      have e : atI (cs.map D.int) (m : Int) = some (.int cs[m]) := by
        refine atI_nat (j := m) ?_
        rw [List.getElem?_map, List.getElem?_eq_getElem hm]; rfl
      by_cases k3 : 1000000000000000000 ≤ cs[m]
      · by_cases k4 : many ≤ cs[m]
        · walk_at "ev"
          exact ⟨_, _, rfl, rfl, hp _, hq _, wf (by omega) (Int.ediv_nonneg (by omega) (by omega))⟩
        · walk_at "ev"
          exact ⟨_, _, rfl, rfl, hp _, hq _, wf (by omega) (by omega)⟩
      · walk_at "ev"
        exact ⟨_, _, rfl, rfl, hp _, hq _, wf (by omega) (by omega)⟩
    · walk_at "ev"
      exact ⟨_, _, rfl, rfl, hp _, hq _, wf (by omega) (by omega)⟩
  · have k1' : many ≤ n := by omega
    walk_at "ev"
    exact ⟨_, _, rfl, rfl, hp _, hq _, wf (by omega) (Int.ediv_nonneg (by omega) (by omega))⟩
theorem rare_ok {s : D} (h : Wf s) {many : Int} (h0 : 0 < many) (h1 : many < 1073741824) : ∃ b s', mRare [.bor s, .val (.int many)] = .ok (.v (.bl b)) [.bor s', .un] ∧ Wf s' := by
  obtain ⟨x, s', e, h2, h3, h4⟩ := draw_ok h h0 h1
  refine ⟨decide (x = 0), s', ?_, h4⟩
  unfold mRare L3.run gRare
  walk_at "ev"
theorem pick_ok {s : D} (h : Wf s) {ds : List D} (h0 : ds ≠ []) (h1 : ds.length < 1073741824) : ∃ (x : Nat) (d : D) (s' : D), mPick [.bor s, .val (.tup ds)] = .ok (.v d) [.bor s', .un] ∧ ds[x]? = some d ∧ Wf s' := by
  have hl : 0 < ds.length := List.length_pos_iff.mpr h0
  obtain ⟨x, s', e, h2, h3, h4⟩ := draw_ok h (many := ds.length) (by omega) (by omega)
  obtain ⟨m, rfl⟩ := Int.eq_ofNat_of_zero_le h2
  have hm : m < ds.length := by omega
  have e2 : atI ds (m : Int) = some ds[m] := atI_nat (List.getElem?_eq_getElem hm)
  refine ⟨m, ds[m], s', ?_, List.getElem?_eq_getElem hm, h4⟩
  unfold mPick L3.run gPick
  walk_at "ev"
theorem cut63 {α : Type} {xs : List α} {k : Nat} (h : xs.length ≤ k) : cutD xs none (some (k : Int)) = xs := by
  unfold cutD
  rw [HT.sIx_none, HT.sIx_nat, Nat.min_eq_right h]
  simp
theorem begin_ok {ns : List Int} (h : ns.length ≤ 63) : ∃ s, mBegin [.val (.lst (ns.map .int))] = .ok (.n s) [.un] ∧ Wf s := by
  have e1 : gSl (.lst (ns.map D.int)) none (some 63) = some (.lst (ns.map D.int)) := by
    show some (D.lst (cutD (ns.map D.int) none (some ((63 : Nat) : Int)))) = _
    rw [cut63 (by rw [List.length_map]; exact h)]
  have e2 : lcL [2] hOne cYes eBegin (ns.map D.int) [] [.val (.lst (ns.map .int)), .un, .un] = .ok ((ns.map fun n => (n.natAbs : Int)).map .int) [.val (.lst (ns.map .int)), .un, .un] := by
    have := lcL_map (is := [2]) (h := hOne) (c := cYes) (e := eBegin) (ρ := [.val (.lst (ns.map .int)), .un, .un]) D.int (fun n => .int (n.natAbs : Int)) ns [] (by have := sizeLine_eq; simp; omega) fun n _ => ⟨[.int n], [.val (.lst (ns.map .int)), .un, .val (.int n)], [.val (.lst (ns.map .int)), .un, .val (.int n)], rfl, rfl, by unfold eBegin; walk_at "ev", rfl⟩
    rw [this, List.map_map]
    rfl
  have e3 : gSum [.lst ((ns.map fun n => (n.natAbs : Int)).map .int)] = some (.int (ns.map fun n => (n.natAbs : Int)).sum) := by
    show (asInts _).map _ = _
    rw [asInts_map]; rfl
  refine ⟨sD (ns.map fun n => (n.natAbs : Int)) 0 0 (1 + (ns.map fun n => (n.natAbs : Int)).sum % 1000003) 0, ?_, _, _, _, _, _, rfl, by omega, by omega⟩
  unfold mBegin L3.run gBegin
  walk_at "ev"
  rfl
end L3
namespace L3
open PySem PySem.Spec PyProof.Rows L2
mutual
theorem eqv_self : ∀ (d : D) (n : Nat), pyOk n d = true → PyData.eqv (py d) (py d) = true
  | .non, _, _ => by simp [py, PyData.eqv]
  | .bl _, _, _ => by simp [py, PyData.eqv]
  | .int _, _, _ => by simp [py, PyData.eqv]
  | .str _, _, _ => by simp [py, PyData.eqv]
  | .tup ds, n, h => by
    cases n with
    | zero => simp [pyOk] at h
    | succ n =>
      have := eqvL_self ds n (by simpa [pyOk] using h)
      simpa [py, PyData.eqv] using this
  | .lst ds, n, h => by
    cases n with
    | zero => simp [pyOk] at h
    | succ n =>
      have := eqvL_self ds n (by simpa [pyOk] using h)
      simpa [py, PyData.eqv] using this
  | .dic _, n, h => by cases n <;> simp [pyOk] at h
  | .dit _, n, h => by cases n <;> simp [pyOk] at h
  | .obj _ _ _, n, h => by cases n <;> simp [pyOk] at h
  | .ty _, n, h => by cases n <;> simp [pyOk] at h
theorem eqvL_self : ∀ (ds : List D) (n : Nat), pyOkL n ds = true → PyData.eqvAll (pyL ds) (pyL ds) = true
  | [], _, _ => by simp [pyL, PyData.eqvAll]
  | d :: r, n, h => by
    have h : pyOk n d = true ∧ pyOkL n r = true := by cases n <;> simpa [pyOkL] using h
    have h1 := eqv_self d n h.1
    have h2 := eqvL_self r n h.2
    simp [pyL, PyData.eqvAll, h1, h2]
end
section
variable {n c : Nat} {g : Nat → D}
theorem mkL_all : ∀ (l : List D), (∀ d ∈ l, mk d = true) → mkL l = true
  | [], _ => rfl
  | d :: r, h => by
    show (mk d && mkL r) = true
    rw [h d List.mem_cons_self, mkL_all r fun e he => h e (List.mem_cons_of_mem _ he)]; rfl
theorem depL_all : ∀ (l : List D) (c : Nat), (∀ d ∈ l, dep d ≤ c) → depL l ≤ c
  | [], c, _ => Nat.zero_le _
  | d :: r, c, h => by
    show max (dep d) (depL r) ≤ c
    have h1 := h d List.mem_cons_self
    have h2 := depL_all r c fun e he => h e (List.mem_cons_of_mem _ he)
    omega
theorem cntL_all : ∀ (l : List D) (c : Nat), (∀ d ∈ l, L3.cnt d ≤ c) → L3.cntL l ≤ l.length * c
  | [], c, _ => Nat.zero_le _
  | d :: r, c, h => by
    show L3.cnt d + L3.cntL r ≤ (r.length + 1) * c
    have h1 := h d List.mem_cons_self
    have h2 := cntL_all r c fun e he => h e (List.mem_cons_of_mem _ he)
    rw [Nat.add_mul, Nat.one_mul]; omega
theorem rg_mem {d : D} (h : d ∈ rg n g) : ∃ i, i < n ∧ d = g i := by
  unfold rg at h
  obtain ⟨i, hi, rfl⟩ := List.mem_map.mp h
  exact ⟨i, List.mem_range.mp hi, rfl⟩
/-- data to be shown: so deep, so many parts -/
def Sh (b c : Nat) (d : D) : Prop := mk d = true ∧ dep d ≤ b ∧ L3.cnt d ≤ c
theorem Sh.mono {b c b' c' : Nat} {d : D} (h : Sh b c d) (h1 : b ≤ b') (h2 : c ≤ c') : Sh b' c' d := ⟨h.1, Nat.le_trans h.2.1 h1, Nat.le_trans h.2.2 h2⟩
theorem sh_int {i : Int} (h : -(2 ^ 80) < i) (h2 : i < 2 ^ 80) : Sh 0 1 (.int i) := ⟨mk_int (by omega) (by omega), Nat.le_refl _, Nat.le_refl _⟩
theorem sh_bl {b : Bool} : Sh 0 1 (.bl b) := ⟨rfl, Nat.le_refl _, Nat.le_refl _⟩
theorem sh_non : Sh 0 1 .non := ⟨rfl, Nat.le_refl _, Nat.le_refl _⟩
theorem sh_tup {b c : Nat} {l : List D} (h : ∀ d ∈ l, Sh b c d) : Sh (b + 1) (l.length * c + 1) (.tup l) := by
  refine ⟨mkL_all l fun d hd => (h d hd).1, ?_, ?_⟩
  · have := depL_all l b fun d hd => (h d hd).2.1
    simp only [dep]; omega
  · have := cntL_all l c fun d hd => (h d hd).2.2
    simp only [L3.cnt]; omega
theorem sh_lst {b c : Nat} {l : List D} (h : ∀ d ∈ l, Sh b c d) : Sh (b + 1) (l.length * c + 1) (.lst l) := by
  refine ⟨mkL_all l fun d hd => (h d hd).1, ?_, ?_⟩
  · have := depL_all l b fun d hd => (h d hd).2.1
    simp only [dep]; omega
  · have := cntL_all l c fun d hd => (h d hd).2.2
    simp only [L3.cnt]; omega
theorem sh_show {b c : Nat} {d : D} (h : Sh b c d) (h1 : b ≤ 60) (h2 : c ≤ 160000) : gRepr [d] = some (.str (showD d)) :=
  mk_show h.1 (Nat.le_trans h.2.1 h1) (Nat.le_trans h.2.2 h2)
end
theorem ne_self {d : D} (h : pyOk 60 d = true) : gNe d d = some (.bl false) := by
  have e := eqv_self d 60 h
  unfold gNe
  split
  · simp
  · rw [h, Bool.and_self, if_pos rfl, eqD, e]; rfl
theorem eq_self {d : D} (h : pyOk 60 d = true) : gEq d d = some (.bl true) := by
  have e := eqv_self d 60 h
  unfold gEq
  split
  · simp
  · rw [h, Bool.and_self, if_pos rfl, eqD, e]
theorem pyOkL_all : ∀ (ds : List D) (n : Nat), (∀ d ∈ ds, pyOk n d = true) → pyOkL n ds = true
  | [], n, _ => by cases n <;> rfl
  | d :: r, n, h => by
    have h1 := h d List.mem_cons_self
    have h2 := pyOkL_all r n fun x hx => h x (List.mem_cons_of_mem _ hx)
    cases n <;> simp [pyOkL, h1, h2]
theorem pyOk_lst {ds : List D} {n : Nat} (h : ∀ d ∈ ds, pyOk n d = true) : pyOk (n + 1) (.lst ds) = true := by
  simp [pyOk, pyOkL_all ds n h]
theorem pyOk_tup {ds : List D} {n : Nat} (h : ∀ d ∈ ds, pyOk n d = true) : pyOk (n + 1) (.tup ds) = true := by
  simp [pyOk, pyOkL_all ds n h]
theorem pyOk_int {i : Int} {n : Nat} : pyOk n (.int i) = true := by cases n <;> rfl
theorem pyOk_bl {i : Bool} {n : Nat} : pyOk n (.bl i) = true := by cases n <;> rfl
theorem ne_bb {a b : Bool} : gNe (.bl a) (.bl b) = some (.bl (!(a == b))) := by
  unfold gNe
  split
  · rename_i h1 h2; cases h1
  · simp [pyOk, eqD, py, PyData.eqv]
theorem eq_bb {a b : Bool} : gEq (.bl a) (.bl b) = some (.bl (a == b)) := by
  unfold gEq
  split
  · rename_i h1 h2; cases h1
  · simp [pyOk, eqD, py, PyData.eqv]
theorem all_rg {n : Nat} {f : Nat → Bool} : gAll [.lst (rg n fun i => .bl (f i))] = some (.bl ((List.range n).all f)) := by
  have : (rg n fun i => D.bl (f i)) = ((List.range n).map f).map D.bl := by simp [rg]
  show (asBls _).map _ = _
  rw [this, asBls_map]
  simp [List.all_map]
theorem set_rg {n k : Nat} {f : Nat → Int} {v : Int} : (rg n fun i => D.int (f i)).set k (.int v) = rg n fun i => .int (if i = k then v else f i) := by
  apply List.ext_getElem?
  intro i
  by_cases hi : i < n
  · rw [rg_get hi]
    by_cases e : i = k
    · subst e
      rw [List.getElem?_set_self (by rw [rg_len]; exact hi), if_pos rfl]
    · rw [List.getElem?_set_ne (Ne.symm e), rg_get hi, if_neg e]
  · rw [List.getElem?_eq_none (by rw [List.length_set, rg_len]; omega), List.getElem?_eq_none (by rw [rg_len]; omega)]
theorem rg_lt {n k : Nat} {f : Nat → D} {d : D} (h : (rg n f)[k]? = some d) : k < n ∧ d = f k := by
  by_cases e : k < n
  · rw [rg_get e] at h; cases h; exact ⟨e, rfl⟩
  · rw [List.getElem?_eq_none (by rw [rg_len]; omega)] at h; cases h
theorem zip_rg {s n : Nat} {a b : Nat → D} : zipD (rg s a) (rg n b) = rg (min s n) fun i => .obj "" [] [a i, b i] := by
  apply List.ext_getElem?
  intro k
  by_cases hk : k < min s n
  · rw [rg_get hk]
    unfold zipD
    rw [List.getElem?_map]
    have : (List.zip (rg s a) (rg n b))[k]? = some (a k, b k) := List.getElem?_zip_eq_some.mpr ⟨rg_get (by omega), rg_get (by omega)⟩
    rw [this]; rfl
  · rw [List.getElem?_eq_none (by rw [zipD_len, rg_len, rg_len]; omega), List.getElem?_eq_none (by rw [rg_len]; omega)]
/-- a comprehension over a list told by places -/
theorem lcL_en {e : En → Out Pv} {ρ : En} {i0 n : Nat} {f g : Nat → D} (hn : n ≤ 1000000) (H : ∀ k < n, ∃ ρ3, e (ρ.set i0 (.val (f k))) = .ok (.v (g k)) ρ3 ∧ unAll ρ3 [i0] = ρ) :
    lcL [i0] hOne cYes e (rg n f) [] ρ = .ok (rg n g) ρ :=
  lcL_map (is := [i0]) (h := hOne) (c := cYes) (e := e) (ρ := ρ) f g (List.range n) [] (by rw [List.length_range, sizeLine_eq]; simp; omega) fun k hk => by
    obtain ⟨ρ3, e1, e2⟩ := H k (List.mem_range.mp hk)
    exact ⟨[f k], _, ρ3, rfl, rfl, e1, e2⟩
theorem min_rg {n : Nat} {f : Nat → Int} (h : 0 < n) : gMin [.lst (rg n fun i => .int (f i))] = some (.int (minI ((List.range n).map f))) := by
  show (asInts _).bind _ = _
  rw [asI_rg]
  show (if (List.range n).map f = [] then none else _) = _
  rw [if_neg fun e => by have := congrArg List.length e; rw [List.length_map, List.length_range, List.length_nil] at this; omega]
theorem max_rg {n : Nat} {f : Nat → Int} (h : 0 < n) : gMax [.lst (rg n fun i => .int (f i))] = some (.int (maxI ((List.range n).map f))) := by
  show (asInts _).bind _ = _
  rw [asI_rg]
  show (if (List.range n).map f = [] then none else _) = _
  rw [if_neg fun e => by have := congrArg List.length e; rw [List.length_map, List.length_range, List.length_nil] at this; omega]
theorem tup_rg {n : Nat} {f g : Nat → D} (h : ∀ i < n, f i = g i) : D.tup (rg n f) = D.tup (rg n g) := by rw [rg_congr h]
end L3
namespace L3
open PySem PySem.Spec PyProof.Rows L2
theorem fits_ok {i : Int} (h : -1000000000000 ≤ i) (h2 : i ≤ 1000000000000) : Builtin.Range.rangeFitsLong i = true := by
  unfold Builtin.Range.rangeFitsLong
  rw [Bool.and_eq_true]
  exact ⟨decide_eq_true (by omega), decide_eq_true (by omega)⟩
theorem size_nat {a n s : Nat} (hs : 0 < s) (hn : n ≤ 1000000) : ∃ q : Nat, Builtin.Range.rangeSize a n s = q ∧ q ≤ n ∧ ∀ k : Nat, k < q ↔ a + k * s < n := by
  unfold Builtin.Range.rangeSize
  have hs' : (s : Int) > 0 := by omega
  rw [if_pos hs']
  by_cases h : (a : Int) < n
  · rw [if_pos h]
    have h0 : 0 ≤ ((n : Int) - a - 1) / s := Int.ediv_nonneg (by omega) (by omega)
    have h1 : ((n : Int) - a - 1) / s ≤ n - a - 1 := Int.ediv_le_self _ (by omega)
    refine ⟨(((n : Int) - a - 1) / s + 1).toNat, by omega, by omega, fun k => ?_⟩
    have : (k : Int) ≤ ((n : Int) - a - 1) / s ↔ (k : Int) * s ≤ (n : Int) - a - 1 := Int.le_ediv_iff_mul_le hs'
    have e : ((k * s : Nat) : Int) = (k : Int) * s := by push_cast; rfl
    omega
  · rw [if_neg h]
    refine ⟨0, rfl, Nat.zero_le _, fun k => ?_⟩
    have := Nat.zero_le (k * s)
    omega
theorem small_nat {a n s : Nat} (hs : 0 < s) (ha : a ≤ 1000000) (hn : n ≤ 1000000) (hs2 : s ≤ 1000000) : Builtin.Range.small a n s = true := by
  obtain ⟨q, h1, h2, _⟩ := size_nat (a := a) (n := n) (s := s) hs hn
  unfold Builtin.Range.small
  have hs' : (s : Int) > 0 := by omega
  rw [h1, if_pos hs', fits_ok (by omega) (by omega), fits_ok (by omega) (by omega), fits_ok (by omega) (by omega), fits_ok (by omega) (by omega), fits_ok (by omega) (by omega), Bool.or_true]
  rfl
theorem ranL_nat {a n s : Nat} (hs : 0 < s) (ha : a ≤ 1000000) (hn : n ≤ 1000000) (hs2 : s ≤ 1000000) :
    ∃ q : Nat, ranL a n s = some (rg q fun k => .int ((a + k * s : Nat) : Int)) ∧ q ≤ n ∧ ∀ k : Nat, k < q ↔ a + k * s < n := by
  obtain ⟨q, h1, h2, h3⟩ := size_nat (a := a) (n := n) (s := s) hs hn
  refine ⟨q, ?_, h2, h3⟩
  unfold ranL
  rw [small_nat hs ha hn hs2, h1, if_pos ⟨rfl, by omega, by omega⟩]
  show some ((List.range q).map _) = some ((List.range q).map _)
  congr 1
theorem range3_nat {a n s : Nat} (hs : 0 < s) (ha : a ≤ 1000000) (hn : n ≤ 1000000) (hs2 : s ≤ 1000000) :
    ∃ q : Nat, range3 a n s = some (rg q fun k => .int ((a + k * s : Nat) : Int)) ∧ q ≤ n ∧ ∀ k : Nat, k < q ↔ a + k * s < n := by
  obtain ⟨q, h1, h2, h3⟩ := size_nat (a := a) (n := n) (s := s) hs hn
  refine ⟨q, ?_, h2, h3⟩
  unfold range3
  rw [small_nat hs ha hn hs2, h1, if_pos ⟨by omega, by omega, rfl, by omega⟩]
  show some ((List.range q).map _) = some ((List.range q).map _)
  congr 1
theorem er_map : ∀ (L : List Int) (k : Nat), (L.map D.int).eraseIdx k = (L.eraseIdx k).map D.int
  | [], _ => rfl
  | _ :: _, 0 => rfl
  | x :: r, k + 1 => by
    show D.int x :: (r.map D.int).eraseIdx k = D.int x :: (r.eraseIdx k).map D.int
    rw [er_map r k]
theorem pop_at {L : List Int} {k : Nat} (hk : k < L.length) (h : L.length ≤ 1000000) : gPopAt (.lst (L.map D.int)) [.int (k : Int)] = some (.int L[k], .lst ((L.eraseIdx k).map D.int)) := by
  unfold gPopAt
  dsimp only
  rw [if_pos (inR_nat (n := k) (by omega)), ixN_nat (by rw [List.length_map]; exact hk)]
  show ((L.map D.int)[k]?).map _ = _
  rw [List.getElem?_map, List.getElem?_eq_getElem hk]
  show some (D.int L[k], D.lst ((L.map D.int).eraseIdx k)) = _
  rw [er_map]
theorem nran3 {fa fb fc : En → Out Pv} {ρ : En} {a b c : Int} {l : List D} (ha : fa ρ = .ok (.v (.int a)) ρ) (hb : fb ρ = .ok (.v (.int b)) ρ) (hc : fc ρ = .ok (.v (.int c)) ρ) (h : c ≠ 0) (h2 : c.natAbs < 1073741824) (hr : ranL a b c = some l) :
    nRan (r3F fa fb fc) ρ = .ok (.lst l) ρ := by
  have e : r3F fa fb fc ρ = .ok (a, b, c) ρ := by
    unfold r3F
    rw [ha]
    dsimp only [Out.bind]
    rw [hb]
    dsimp only [Out.bind]
    rw [hc]
    dsimp only [Out.bind, intP]
    rw [if_pos ⟨h, h2⟩]
  unfold nRan
  rw [e]
  dsimp only [Out.bind]
  rw [hr]
end L3
namespace L3
open PySem PySem.Spec PyProof.Rows L2

/-! ### own exception classes: their making -/
/-- what the text says of the class c (at C), whose __init__ (at fI) stores its arguments as fs -/
structure ExT (K : PySem.W.Frag) (mg : Str → Option Value) (c : Str) (C fI : Addr) (fs : List Str) : Prop where
  gC : mg c = some (.ref C)
  ox : OexC K C
  xf : XfC K C
  iC : PySem.W.findIn K (.ref C) "__init__" = some (some (.ref fI))
  tI : PySem.W.typeIn K (.ref fI) = some (.type "function")
  no : ∀ f ∈ fs, PySem.W.findIn K (.ref C) f = some none
/-- the promise of __init__ -/
def spInit (C : Addr) (fs : List Str) : Sp := fun vs H Q _ => ∃ (a : Addr) (us : List V), vs = .ref a :: us ∧ us.length = fs.length ∧ H a = some (exo a C none) ∧
  ∀ (dx : Addr) (H2 : Hp), H dx = none → dx ≠ a → H2 a = some (exo a C (some dx)) → H2 dx = some (exd dx (fs.zip us).reverse) → (∀ b, b ≠ a → b ≠ dx → H2 b = H b) → Q .non H2
section
variable {K : PySem.W.Frag} {C : Addr} {f1 f2 f3 : Str} {vs : List V} {H : Hp} {Q : VK} {E : XK} {N : List Str}
theorem init_1 (T : OexC K C) (n1 : PySem.W.findIn K (.ref C) f1 = some none) (h : spInit C [f1] vs H Q E) : tOst K f1 (tVar 0) (tVar 1) { nx := fun _ H' => Q .non H', rt := Q } (L2.start N vs) H := by
  obtain ⟨a, us, rfl, hl, ha, q⟩ := h
  match us, hl with
  | [u], _ =>
    refine ⟨u, rfl, .ref a, rfl, a, C, rfl, T, n1, .inl ⟨ha, fun dx e n => ?_⟩⟩
    refine q dx _ e n upd_same ?_ fun b b1 b2 => by rw [upd_ne b1, upd_ne b2]
    rw [upd_ne n, upd_same]; rfl
theorem init_2 (T : OexC K C) (n1 : PySem.W.findIn K (.ref C) f1 = some none) (n2 : PySem.W.findIn K (.ref C) f2 = some none) (h : spInit C [f1, f2] vs H Q E) :
    tSeq (tOst K f1 (tVar 0) (tVar 1)) (tOst K f2 (tVar 0) (tVar 2)) { nx := fun _ H' => Q .non H', rt := Q } (L2.start N vs) H := by
  obtain ⟨a, us, rfl, hl, ha, q⟩ := h
  match us, hl with
  | [u1, u2], _ =>
    refine ⟨u1, rfl, .ref a, rfl, a, C, rfl, T, n1, .inl ⟨ha, fun dx e n => ?_⟩⟩
    refine ⟨u2, rfl, .ref a, rfl, a, C, rfl, T, n2, .inr ⟨dx, _, upd_same, by rw [upd_ne n, upd_same], by simp, ?_⟩⟩
    refine q dx _ e n (by rw [upd_ne (Ne.symm n), upd_same]) ?_ fun b b1 b2 => by rw [upd_ne b2, upd_ne b1, upd_ne b2]
    rw [upd_same]; rfl
theorem init_3 (T : OexC K C) (n1 : PySem.W.findIn K (.ref C) f1 = some none) (n2 : PySem.W.findIn K (.ref C) f2 = some none) (n3 : PySem.W.findIn K (.ref C) f3 = some none) (h : spInit C [f1, f2, f3] vs H Q E) :
    tSeq (tOst K f1 (tVar 0) (tVar 1)) (tSeq (tOst K f2 (tVar 0) (tVar 2)) (tOst K f3 (tVar 0) (tVar 3))) { nx := fun _ H' => Q .non H', rt := Q } (L2.start N vs) H := by
  obtain ⟨a, us, rfl, hl, ha, q⟩ := h
  match us, hl with
  | [u1, u2, u3], _ =>
    refine ⟨u1, rfl, .ref a, rfl, a, C, rfl, T, n1, .inl ⟨ha, fun dx e n => ?_⟩⟩
    refine ⟨u2, rfl, .ref a, rfl, a, C, rfl, T, n2, .inr ⟨dx, _, upd_same, by rw [upd_ne n, upd_same], by simp, ?_⟩⟩
    refine ⟨u3, rfl, .ref a, rfl, a, C, rfl, T, n3, .inr ⟨dx, _, by rw [upd_ne (Ne.symm n), upd_same], upd_same, by simp, ?_⟩⟩
    refine q dx _ e n (by rw [upd_ne (Ne.symm n), upd_ne (Ne.symm n), upd_same]) ?_ fun b b1 b2 => by rw [upd_ne b2, upd_ne b2, upd_ne b1, upd_ne b2]
    rw [upd_same]; rfl
theorem spInit_len {fs ps : List Str} (hp : ps.length = fs.length + 1) : ∀ vs H Q E, spInit C fs vs H Q E → vs.length = ps.length := by
  rintro vs H Q E ⟨a, us, rfl, hl, _⟩
  rw [List.length_cons, hl, hp]
end
/-! ### raise -/
def sRaise (c : Str) (fs : List Str) (f : En → Out (List Pv)) : En → Out Fl := fun ρ => (f ρ).bind fun ps ρ1 => match pvs ps with
  | some ds => if ds.length = fs.length then .exc ⟨c, (fs.zip ds).reverse⟩ ρ1 else .bad
  | none => .bad
section
variable {X : Cx} {Z : WXZ} {B : Bs} {as : List (Option Addr)} {σ : L2.St} {H : Hp} {ρ : En} {G : Pm} {W : Addr → Prop}
theorem zip_fst {α : Type} : ∀ {fs : List Str} {us : List α}, us.length = fs.length → (fs.zip us).map (·.1) = fs
  | [], [], _ => rfl
  | _ :: fs, _ :: us, h => by
    simp only [List.zip_cons_cons, List.map_cons, zip_fst (fs := fs) (us := us) (by simpa using h)]
theorem zip_snd {α : Type} : ∀ {fs : List Str} {us : List α}, us.length = fs.length → (fs.zip us).map (·.2) = us
  | [], [], _ => rfl
  | _ :: fs, _ :: us, h => by
    simp only [List.zip_cons_cons, List.map_cons, zip_snd (fs := fs) (us := us) (by simpa using h)]
theorem s_raise {k : Nat} {c : Str} {C fI : Addr} {fd : FuncData} {ps fs : List Str} {e : Expr} {es : List Expr} {f : En → Out (List Pv)} {p pos pos2 : Pos} (T : ExT X.K X.mg c C fI fs)
    (F1 : FnOk X.prog X.w X.K X.mg X.base CX0 k fI fd ps (spInit C fs)) (hb : Binds X.K fd ps []) (hr : RoomG (k + 1) X.A) (hcm : X.calm = true) (tk : Takes X Z) (ha : DA X Z (e :: es) f) (h5 : fs.length ≤ 900)
    (hg : Gl X c := by rfl) (hdb : (c == ("__debug__" : Str)) = false := by decide) (he : starEach (e :: es) X.env = (false, eval e X.env) :: starEach es X.env := by rfl) (hpl : (backTo pos (starEach es X.env)).any (·.1) = false := by rfl) :
    DS X Z (.Raise (some (.Call (.Name c p) (e :: es) [] pos)) none pos2) (sRaise c fs f) := by
  obtain ⟨_, pa, s⟩ := ha
  refine ⟨_, ps_raise hcm tk (pmk_oex T.ox T.iC T.tI F1 hr.room hb .nil (fun _ _ _ _ _ _ _ h => h.elim) hg T.gC pa hdb he hpl), ⟨fun {B as σ H ρ D'} R q => ?_⟩⟩
  refine s.go R (SO.bind R q |>.imp fun ps' ρ1 H1 R1 g1 q1 vs k1 => ?_)
  cases ep : pvs ps' with
  | none => rw [ep] at q1; exact q1.elim
  | some ds =>
    rw [ep] at q1
    dsimp only at q1
    split at q1
    · rename_i hl
      have rp := k1.reps ep
      have hlv : vs.length = fs.length := by rw [rp.length, hl]
      refine ⟨by omega, fun a ha => ⟨a, vs, by rw [List.append_nil], hlv, upd_same, fun dx H2 e1 n1 e2 e3 e4 => ?_⟩⟩
      have hdx : H1 dx = none := by rw [upd_ne n1] at e1; exact e1
      refine ⟨rfl, dx, _, e2, e3, hdx, ?_⟩
      -- the heap behind it
      have eq : ∀ b, b ≠ a → b ≠ dx → (upd (del H2 a) dx (.xd (fs.zip vs).reverse)) b = H1 b := fun b b1 b2 => by
        rw [upd_ne b2, del_ne b1, e4 b b1 b2, upd_ne b1]
      have kp : ∀ b o, H1 b = some o → (upd (del H2 a) dx (.xd (fs.zip vs).reverse)) b = some o := fun b o eb => by
        rw [eq b (fun z => by rw [z, ha] at eb; cases eb) (fun z => by rw [z, hdx] at eb; cases eb)]; exact eb
      have sm : Same H1 (upd (del H2 a) dx (.xd (fs.zip vs).reverse)) := kp
      refine q1 (.ref C) (some dx) as σ _ (R1.same sm) (.of_same sm) ⟨.inl T.gC, .inr ⟨dx, _, rfl, upd_same, ?_, ?_⟩⟩
      · dsimp only
        rw [List.map_reverse, List.map_reverse, zip_fst hlv, zip_fst hl]
      · dsimp only
        rw [List.map_reverse, List.map_reverse, zip_snd hlv, zip_snd hl]
        exact (rp.stp (.same sm)).reverse
    · exact q1.elim
end
end L3
namespace L3
open PySem PySem.Spec PyProof.Rows L2

/-! ### a suite behind except: what it hands back, by the exception -/
section
variable {X : Cx} {i : Nat} {a : Addr} {cls : Value} {d : Option Addr}
structure DXt (X : Cx) (i : Nat) (a : Addr) (cls : Value) (d : Option Addr) (t : TE) (h : Ex → Option D) : Prop where
  go : ∀ {W : Addr → Prop} {e : Ex} {dv : D} {σ : L2.St} {H : Hp} {Q : VK}, (∀ b, W b → ∃ o, H b = some o) → σ[i]? = some (some (.ref a)) → RepX X.G W H cls d e → h e = some dv → (∀ v H', Same H H' → Rep X.G W H' v dv → Q v H') → t σ H Q
structure DXst (X : Cx) (i : Nat) (a : Addr) (cls : Value) (d : Option Addr) (t : TA) (h : Ex → Option (List D)) : Prop where
  go : ∀ {W : Addr → Prop} {e : Ex} {dv : List D} {σ : L2.St} {H : Hp} {Q : List V → Hp → Prop}, (∀ b, W b → ∃ o, H b = some o) → σ[i]? = some (some (.ref a)) → RepX X.G W H cls d e → h e = some dv → (∀ v H', Same H H' → Reps X.G W H' v dv → Q v H') → t σ H Q
structure DXbt (X : Cx) (i : Nat) (a : Addr) (cls : Value) (d : Option Addr) (t : TT) (h : Ex → Option Bool) : Prop where
  go : ∀ {W : Addr → Prop} {e : Ex} {b : Bool} {σ : L2.St} {H : Hp} {Q : Bool → Hp → Prop}, (∀ b, W b → ∃ o, H b = some o) → σ[i]? = some (some (.ref a)) → RepX X.G W H cls d e → h e = some b → (∀ H', Same H H' → Q b H') → t σ H Q
/-- what the suite promises -/
def tHnd (X : Cx) (h : Ex → Option D) (i : Nat) (a : Addr) (cls : Value) (d : Option Addr) : TS := fun D' σ H => ∃ (W : Addr → Prop) (e : Ex) (dv : D), (∀ b, W b → ∃ o, H b = some o) ∧ σ[i]? = some (some (.ref a)) ∧ RepX X.G W H cls d e ∧ h e = some dv ∧ ∀ v H', Same H H' → Rep X.G W H' v dv → D'.rt v H'
theorem RepX.stp {G : Pm} {W W' : Addr → Prop} {H H' : Hp} {e : Ex} (x : RepX G W H cls d e) (s : Same H H') : RepX G W H' cls d e :=
  ⟨x.1, x.2.imp id fun ⟨dd, vfs, e1, e2, e3, r⟩ => ⟨dd, vfs, e1, s _ _ e2, e3, r.stp (.same s)⟩⟩
theorem same_dom {W : Addr → Prop} {H H' : Hp} (dom : ∀ b, W b → ∃ o, H b = some o) (s : Same H H') : ∀ b, W b → ∃ o, H' b = some o := fun b z => let ⟨o, e⟩ := dom b z; ⟨o, s _ _ e⟩
abbrev DX (X : Cx) (i : Nat) (a : Addr) (oe : Obj) (cls : Value) (d : Option Addr) (pn : List (Addr × Obj)) (e : Expr) (h : Ex → Option D) : Prop := ∃ t, PE (X.suite a ((a, oe) :: pn)) e t ∧ DXt X i a cls d t h
abbrev DXs (X : Cx) (i : Nat) (a : Addr) (oe : Obj) (cls : Value) (d : Option Addr) (pn : List (Addr × Obj)) (e : List Expr) (h : Ex → Option (List D)) : Prop := ∃ t, PA (X.suite a ((a, oe) :: pn)) e t ∧ DXst X i a cls d t h
abbrev DXb (X : Cx) (i : Nat) (a : Addr) (oe : Obj) (cls : Value) (d : Option Addr) (pn : List (Addr × Obj)) (e : Expr) (h : Ex → Option Bool) : Prop := ∃ t, PT (X.suite a ((a, oe) :: pn)) e t ∧ DXbt X i a cls d t h
abbrev DXw (X : Cx) (i : Nat) (a : Addr) (oe : Obj) (cls : Value) (d : Option Addr) (pn : List (Addr × Obj)) (e : Expr) (h : Ex → Option Bool) : Prop := ∃ t, PW (X.suite a ((a, oe) :: pn)) e t ∧ DXbt X i a cls d t h
variable {oe : Obj} {pn : List (Addr × Obj)}
def hK (v : D) : Ex → Option D := fun _ => some v
theorem x_c {v : V} {dv : D} (h : ∀ W H, Rep X.G W H v dv) : DXt X i a cls d (tC v) (hK dv) := ⟨fun {W e dv' σ H Q} dom hs x e1 q => by
  cases e1
  exact q v H (Same.refl _) (h _ _)⟩
theorem x_str {x : Str} {j pos} : DX X i a oe cls d pn (.Constant (.str x) j pos) (hK (.str x)) := ⟨_, pe_str, x_c fun _ _ => .str x⟩
theorem x_int {x : Int} {j pos} : DX X i a oe cls d pn (.Constant (.int x) j pos) (hK (.int x)) := ⟨_, pe_int, x_c fun _ _ => .int x⟩
theorem x_non {j pos} : DX X i a oe cls d pn (.Constant .none j pos) (hK .non) := ⟨_, pe_non, x_c fun _ _ => .non⟩
theorem x_bl {b : Bool} {j pos} : DX X i a oe cls d pn (.Constant (.bool b) j pos) (hK (.bl b)) := ⟨_, pe_bl, x_c fun _ _ => .bl b⟩
/-- e.f -/
def hF (c f : Str) : Ex → Option D := fun e => if e.c = c then e.fs.lookup f else none
theorem look_rep {G : Pm} {W : Addr → Prop} {H : Hp} {f : Str} {dv : D} : ∀ {vfs : List (Str × V)} {fs : List (Str × D)}, vfs.map (·.1) = fs.map (·.1) → Reps G W H (vfs.map (·.2)) (fs.map (·.2)) → fs.lookup f = some dv → ∃ v, vfs.lookup f = some v ∧ Rep G W H v dv
  | [], [], _, _, e => by simp at e
  | [], _ :: _, h, _, _ => by simp at h
  | _ :: _, [], h, _, _ => by simp at h
  | (k, v) :: vfs, (k', d') :: fs, h, r, e => by
    simp only [List.map_cons, List.cons.injEq] at h
    simp only [List.map_cons] at r
    obtain ⟨h1, h2⟩ := h
    subst h1
    cases r with
    | cons r1 r2 =>
      rw [List.lookup_cons] at e ⊢
      cases hk : f == k with
      | true =>
        rw [hk] at e
        cases e
        exact ⟨v, rfl, r1⟩
      | false =>
        rw [hk] at e
        exact look_rep h2 r2 e
theorem x_fld {c f n : Str} {C fI : Addr} {fs : List Str} {np pos : Pos} (T : ExT X.K X.mg c C fI fs) (hf : f ∈ fs) (hz : Zc cls d oe) (hd : ∃ vs, oe.data = .fields vs)
    (hN : X.N[i]? = some n := by rfl) (hv : Vis X.env.scope n := by first | exact Or.inl rfl | exact Or.inr (Or.inl rfl) | exact Or.inr (Or.inr rfl)) (h1 : (n == ("__debug__" : Str)) = false := by decide)
    (h2 : (n == ("__classdict__" : Str)) = false := by decide) (hb : attributeBase (.Name n np) f X.env (eval (.Name n np) X.env) = eval (.Name n np) X.env := by rfl) :
    DX X i a oe cls d pn (.Attribute (.Name n np) f pos) (hF c f) :=
  ⟨_, pe_xf T.xf (T.no f hf) hz hd (pe_var (i := i) hN hv h1 h2) hb, ⟨fun {W e dv σ H Q} dom hs x e1 q => by
    unfold hF at e1
    split at e1
    · rename_i ec
      obtain ⟨x1, x2⟩ := x
      rw [ec] at x1
      have hc : cls = .ref C := by
        rcases x1 with x1 | ⟨x1, _⟩
        · have x1 : X.mg c = some cls := x1
          rw [T.gC] at x1; cases x1; rfl
        · have x1 : X.mg c = none := x1
          rw [T.gC] at x1; cases x1
      rcases x2 with ⟨_, x2⟩ | ⟨dd, vfs, r1, r2, r3, r4⟩
      · rw [x2] at e1; simp at e1
      · obtain ⟨v, l1, l2⟩ := look_rep r3 r4 e1
        exact ⟨_, hs, rfl, hc, dd, vfs, v, r1, r2, l1, q v H (Same.refl _) l2⟩
    · cases e1⟩⟩
def hNil : Ex → Option (List D) := fun _ => some []
def hCons (f : Ex → Option D) (g : Ex → Option (List D)) : Ex → Option (List D) := fun e => (f e).bind fun x => (g e).map (x :: ·)
theorem x_nil : DXs X i a oe cls d pn [] hNil := ⟨_, pa_nil, ⟨fun {W e dv σ H Q} dom hs x e1 q => by cases e1; exact q [] H (Same.refl _) .nil⟩⟩
theorem x_cons {e : Expr} {es : List Expr} {f : Ex → Option D} {g : Ex → Option (List D)} (ha : DX X i a oe cls d pn e f) (hr : DXs X i a oe cls d pn es g) (hs : starEach (e :: es) X.env = (false, eval e X.env) :: starEach es X.env := by rfl) :
    DXs X i a oe cls d pn (e :: es) (hCons f g) :=
  let ⟨_, p, s⟩ := ha; let ⟨_, p2, s2⟩ := hr
  ⟨_, pa_cons p p2 hs, ⟨fun {W e dv σ H Q} dom hs x e1 q => by
    unfold hCons at e1
    simp only [Option.bind_eq_some_iff, Option.map_eq_some_iff] at e1
    obtain ⟨y, e2, ys, e3, rfl⟩ := e1
    refine s.go dom hs x e2 fun v H1 m1 r1 => s2.go (same_dom dom m1) hs (x.stp (W' := W) m1) e3 fun vs H2 m2 r2 => ?_
    exact q _ H2 (m1.trans m2) (.cons (r1.stp (.same m2)) r2)⟩⟩
def hTp (g : Ex → Option (List D)) : Ex → Option D := fun e => (g e).bind fun ds => if ds.length ≤ sizeLine then some (.tup ds) else none
theorem x_tup {es : List Expr} {k : Nat} {pos : Pos} {g : Ex → Option (List D)} (h : DXs X i a oe cls d pn es g) : DX X i a oe cls d pn (.Tuple es k pos) (hTp g) :=
  let ⟨_, p, s⟩ := h
  ⟨_, pe_tupS p, ⟨fun {W e dv σ H Q} dom hs x e1 q => by
    unfold hTp at e1
    simp only [Option.bind_eq_some_iff] at e1
    obtain ⟨ds, e2, e3⟩ := e1
    split at e3
    · rename_i hl
      cases e3
      refine s.go dom hs x e2 fun vs H1 m1 r1 => ⟨by rw [r1.length]; exact hl, fun p ob hp hod => ?_⟩
      have s1 : Same H1 (upd H1 p (.frz ob (.tup vs))) := fun b u e => by rw [upd_ne (ne_of_none e hp)]; exact e
      refine q _ _ (m1.trans s1) (.ref (.inr ⟨ob, upd_same⟩) (fun z => ?_) (.tup (r1.stp (.same s1))) ⟨ob, vs, upd_same, hod⟩)
      obtain ⟨o, eo⟩ := same_dom dom m1 p z
      rw [hp] at eo; cases eo
    · cases e3⟩⟩
/-- tests: isinstance -/
def hI (tbl : List (Str × Bool)) : Ex → Option Bool := fun e => match e.fs with
  | [] => none
  | _ => tbl.lookup e.c
def hNot (f : Ex → Option Bool) : Ex → Option Bool := fun e => (f e).map (!·)
def hOr (f g : Ex → Option Bool) : Ex → Option Bool := fun e => (f e).bind fun b => if b = true then some true else g e
def hAnd (f g : Ex → Option Bool) : Ex → Option Bool := fun e => (f e).bind fun b => if b = true then g e else some false
theorem xt_not {e : Expr} {pos : Pos} {f : Ex → Option Bool} (h : DXb X i a oe cls d pn e f) : DXb X i a oe cls d pn (.UnaryOp .Not e pos) (hNot f) :=
  let ⟨_, p, s⟩ := h; ⟨_, pt_not p, ⟨fun {W e b σ H Q} dom hs x e1 q => by
    unfold hNot at e1
    simp only [Option.map_eq_some_iff] at e1
    obtain ⟨b', e2, rfl⟩ := e1
    exact s.go dom hs x e2 fun H' m => q H' m⟩⟩
theorem xw_or1 {e : Expr} {pos : Pos} {f : Ex → Option Bool} (h : DXb X i a oe cls d pn e f) : DXw X i a oe cls d pn (.BoolOp .Or [e] pos) f := let ⟨_, p, s⟩ := h; ⟨_, pw_or1 p, s⟩
theorem xw_and1 {e : Expr} {pos : Pos} {f : Ex → Option Bool} (h : DXb X i a oe cls d pn e f) : DXw X i a oe cls d pn (.BoolOp .And [e] pos) f := let ⟨_, p, s⟩ := h; ⟨_, pw_and1 p, s⟩
theorem xw_or {x y : Expr} {rest : List Expr} {pos : Pos} {f g : Ex → Option Bool} (h : DXb X i a oe cls d pn x f) (h2 : DXw X i a oe cls d pn (.BoolOp .Or (y :: rest) pos) g) : DXw X i a oe cls d pn (.BoolOp .Or (x :: y :: rest) pos) (hOr f g) :=
  let ⟨_, p, s⟩ := h; let ⟨_, p2, s2⟩ := h2; ⟨_, pw_or p p2, ⟨fun {W e b σ H Q} dom hs x e1 q => by
    unfold hOr at e1
    simp only [Option.bind_eq_some_iff] at e1
    obtain ⟨b', e2, e3⟩ := e1
    refine s.go dom hs x e2 fun H' m => ?_
    cases b' with
    | true => rw [if_pos rfl] at e3; cases e3; exact iteT (q H' m)
    | false => rw [if_neg Bool.false_ne_true] at e3; exact iteF (s2.go (same_dom dom m) hs (x.stp (W' := W) m) e3 fun H2 m2 => q H2 (m.trans m2))⟩⟩
theorem xt_w {e : Expr} {f : Ex → Option Bool} (h : DXw X i a oe cls d pn e f) : DXb X i a oe cls d pn e f := let ⟨_, p, s⟩ := h; ⟨_, p.pt, s⟩
/-- what isinstance asks of the class -/
structure IsC (K : PySem.W.Frag) (C : Addr) : Prop where
  cl : (PySem.W.clsIn K C).isSome = true
  ha : PySem.W.findIn K (.ref C) "__class__" = some (some (.builtin "object.__class__"))
  hn : PySem.W.specialIn K (.builtin "object.__class__") "__get__" = some (some (.builtin "getset_descriptor.__get__"))
  ht : PySem.W.takesIn K (.builtin "object.__class__") = some true
  hm : PySem.W.mroIn K C (.type "object") = some true
def rIsX (K : PySem.W.Frag) (C a : Addr) (d : Option Addr) : List V → Hp → VK → Prop := fun xs H Q => ∃ (c : V) (cv : Value) (b : Bool), xs = [.ref a, c] ∧ (∀ u, RelV c u → u = cv) ∧ PySem.W.kitOne K (.ref C) cv = some b ∧
  (∃ dd fs, d = some dd ∧ H dd = some (.xd fs)) ∧ Q (.bl b) H
theorem call_isX {C : Addr} (F : XfC X.K C) (G : IsC X.K C) (hz : Zc (.ref C) d oe) (hf : ∃ vs, oe.data = .fields vs) : CallR (X.suite a ((a, oe) :: pn)) (.builtin "isinstance") (rIsX X.K C a d) := by
  intro pins s σ H xs us Q I r h
  obtain ⟨c, cv, b, rfl, hcv, e, ⟨dd, fs, rfl, ed⟩, q⟩ := h
  cases r with
  | cons rx rr =>
    cases rr with
    | cons rt rr =>
      cases rr
      cases rx
      have ec := hcv _ rt
      subst ec
      obtain ⟨hget, _⟩ := I.pin (a, oe) (List.mem_append.mpr (.inl List.mem_cons_self))
      obtain ⟨vs, hv⟩ := hf
      have hx : ObjOk X.prog X.w H s.heap dd (.xd fs) := I.hok dd _ ed
      obtain ⟨mA, hns, hr⟩ := hx
      obtain ⟨od, ho, hl⟩ := lookIn_ns hns
      have J : PySem.W.InstAt s.heap a oe C (some od) := ⟨hget, hz.1, by unfold PySem.W.notCls; rw [hv] <;> rfl, by rw [hz.2]; exact ho⟩
      exact PySem.W.kia_one (PySem.W.kitx_exc (od := some od) G.cl F.ga F.gg F.exC G.ha G.hn G.ht G.hm) I.kIn J e (fun z => nomatch z) fun tk => ⟨.bl b, H, I.kept (t' := tk) fun _ _ z => z, rfl, q⟩
/-- isinstance(n, c2): by the classes that it may be of -/
theorem x_isi {c2 n : Str} {C2 : Value} {tbl : List (Str × Bool)} {np np2 p1 pos : Pos} (hz : Zc cls d oe) (hd : ∃ vs, oe.data = .fields vs) (hm : X.mg "isinstance" = none) (h2 : X.mg c2 = some C2) (hC2 : ∃ b, C2 = .ref b)
    (T : ∀ nm b, tbl.lookup nm = some b → ∃ C, X.mg nm = some (.ref C) ∧ XfC X.K C ∧ IsC X.K C ∧ PySem.W.kitOne X.K (.ref C) C2 = some b)
    (hN : X.N[i]? = some n := by rfl) (hv : Vis X.env.scope n := by first | exact Or.inl rfl | exact Or.inr (Or.inl rfl) | exact Or.inr (Or.inr rfl)) (q1 : (n == ("__debug__" : Str)) = false := by decide)
    (q2 : (n == ("__classdict__" : Str)) = false := by decide) (hg : Gl X "isinstance" := by rfl) (hg2 : Gl X c2 := by rfl) (q3 : (c2 == ("__debug__" : Str)) = false := by decide)
    (he : starEach [.Name n np, .Name c2 np2] X.env = (false, eval (.Name n np) X.env) :: starEach [.Name c2 np2] X.env := by rfl)
    (he2 : starEach [.Name c2 np2] X.env = (false, eval (.Name c2 np2) X.env) :: starEach [] X.env := by rfl) (hpl : (backTo pos (starEach [.Name c2 np2] X.env)).any (·.1) = false := by rfl)
    (htr : ∀ whole, isTrue (.Call (.Name "isinstance" p1) [.Name n np, .Name c2 np2] [] pos) X.env whole = (do let v ← whole; standAt (Expr.Call (.Name "isinstance" p1) [.Name n np, .Name c2 np2] [] pos).pos; holding [v] (truthy v)) := by intro _; rfl) :
    DXb X i a oe cls d pn (.Call (.Name "isinstance" p1) [.Name n np, .Name c2 np2] [] pos) (hI tbl) := by
  obtain ⟨b2, rfl⟩ := hC2
  have key : ∀ {W : Addr → Prop} {H : Hp} {e : Ex} {b : Bool}, RepX X.G W H cls d e → hI tbl e = some b → ∃ C dd fs, cls = .ref C ∧ d = some dd ∧ H dd = some (.xd fs) ∧ X.mg e.c = some (.ref C) ∧ XfC X.K C ∧ IsC X.K C ∧ PySem.W.kitOne X.K (.ref C) (.ref b2) = some b := by
    intro W H e b x e1
    obtain ⟨x1, x2⟩ := x
    unfold hI at e1
    split at e1
    · cases e1
    · rename_i hne
      obtain ⟨C', m1, m2, m3, m4⟩ := T e.c b e1
      have ec : cls = .ref C' := by
        rcases x1 with x1 | ⟨x1, _⟩
        · have x1 : X.mg e.c = some cls := x1
          rw [m1] at x1; cases x1; rfl
        · have x1 : X.mg e.c = none := x1
          rw [m1] at x1; cases x1
      rcases x2 with ⟨_, r2⟩ | ⟨dd, vfs, r1, r2, _, _⟩
      · exact (hne r2).elim
      · exact ⟨C', dd, vfs, ec, r1, r2, m1, m2, m3, m4⟩
  by_cases hx : ∃ C, cls = .ref C ∧ XfC X.K C ∧ IsC X.K C
  · obtain ⟨C, rfl, g3, g4⟩ := hx
    refine ⟨_, pt_val (pe_callB (call_isX g3 g4 hz hd) hg hm (by decide +kernel) (pa_cons (pe_var (i := i) hN hv q1 q2) (pa_cons (pe_glob (v := .ref b2) hg2 h2 rfl q3) pa_nil he2) he) (by decide) (by decide) he hpl) htr, ⟨fun {W e b' σ H Q} dom hs x e1 q => ?_⟩⟩
    obtain ⟨C', dd, fs, ec, r1, r2, _, _, _, r3⟩ := key x e1
    cases ec
    exact ⟨.ref a, hs, .ref b2, _, b', rfl, fun u hu => hu, r3, ⟨dd, fs, r1, r2⟩, b', rfl, q H (Same.refl _)⟩
  · refine ⟨fun _ _ _ => False, ⟨fun _ _ _ _ _ _ h => h.elim⟩, ⟨fun {W e b' σ H Q} dom hs x e1 q => ?_⟩⟩
    obtain ⟨C', dd, fs, ec, _, _, _, g3, g4, _⟩ := key x e1
    exact hx ⟨C', ec, g3, g4⟩
/-- suites -/
def DSx (X : Cx) (i : Nat) (a : Addr) (oe : Obj) (cls : Value) (d : Option Addr) (pn : List (Addr × Obj)) (sts : List Stmt) (h : Ex → Option D) : Prop := PSs (X.suite a ((a, oe) :: pn)) sts (tHnd X h i a cls d)
theorem xs_ret {e : Expr} {pos : Pos} {h : Ex → Option D} (hx : DX X i a oe cls d pn e h) : DSx X i a oe cls d pn [.Return (some e) pos] h := by
  obtain ⟨_, p, s⟩ := hx
  exact ⟨fun pins s0 σ H D' I ⟨W, e, dv, dom, hs, x, e1, q⟩ => (pss_one (ps_ret p)).run pins s0 σ H D' I (s.go dom hs x e1 fun v H' m r => q v H' m r)⟩
def hIf (c : Ex → Option Bool) (f g : Ex → Option D) : Ex → Option D := fun e => (c e).bind fun b => if b = true then f e else g e
/-- if c: suite; rest (the suite hands back) -/
theorem xs_if {c : Expr} {body rest : List Stmt} {pos : Pos} {hc : Ex → Option Bool} {f g : Ex → Option D} (h : DXb X i a oe cls d pn c hc) (h1 : DSx X i a oe cls d pn body f) (h2 : DSx X i a oe cls d pn rest g) :
    DSx X i a oe cls d pn (.If c body [] pos :: rest) (hIf hc f g) := by
  obtain ⟨_, p, s⟩ := h
  refine ⟨fun pins s0 σ H D' I ⟨W, e, dv, dom, hs, x, e1, q⟩ => ?_⟩
  unfold hIf at e1
  simp only [Option.bind_eq_some_iff] at e1
  obtain ⟨b, e2, e3⟩ := e1
  refine (pss_cons (ps_if p h1 pss_nil) h2).run pins s0 σ H D' I ?_
  refine s.go dom hs x e2 fun H1 m1 => ?_
  cases b with
  | true => rw [if_pos rfl] at e3; exact iteT ⟨W, e, dv, same_dom dom m1, hs, x.stp (W' := W) m1, e3, fun v H' m r => q v H' (m1.trans m) r⟩
  | false => rw [if_neg Bool.false_ne_true] at e3; exact iteF ⟨W, e, dv, same_dom dom m1, hs, x.stp (W' := W) m1, e3, fun v H' m r => q v H' (m1.trans m) r⟩
end
/-! ### try -/
section
variable {X : Cx} {Z : WXZ}
/-- the mirror's own promise, as a reading -/
def tMir (X : Cx) (W : WXZ) (g : En → Out Fl) : TS := fun D' σ H => ∃ (B : Bs) (as : List (Option Addr)) (ρ : En), Rel X.G B as σ H ρ ∧ SO X W B as H D' (g ρ)
theorem SO.tr {pn : List (Addr × Obj)} {xe : Value → Shared → Prop} {W : WXZ} {B : Bs} {as : List (Option Addr)} {H : Hp} {D' : Ends} {o : Out Fl} (h : SO X W B as H D' o) : SO (X.tr pn xe) W B as H D' o := by
  cases o with
  | ok a ρ' => cases a <;> exact h
  | exc e ρ' => exact h
  | bad => exact h
theorem DSs.mir {pn : List (Addr × Obj)} {xe : Value → Shared → Prop} {W : WXZ} {b : List Stmt} {g : En → Out Fl} (h : DSs (X.tr pn xe) W b g) : PSs (X.tr pn xe) b (tMir X W g) :=
  let ⟨_, p, s⟩ := h
  ⟨fun pins s0 σ H D' I ⟨B, as, ρ, R, q⟩ => p.run pins s0 σ H D' I (s.go R q.tr)⟩
def sTry (g : En → Out Fl) (tbl : List (Str × Bool)) (i : Nat) (h : Ex → Option D) : En → Out Fl := fun ρ => match g ρ with
  | .exc e ρ' => match tbl.lookup e.c with
    | some true => match h e with
      | some d => if i < ρ'.length then .ok (.rt d) (ρ'.set i .un) else .bad
      | none => .bad
    | some false => .exc e ρ'
    | none => .bad
  | o => o
theorem s_try {i : Nat} {n c : Str} {Cv : Value} {body suite : List Stmt} {b₀ : Stmt} {np pos pos' : Pos} {g : En → Out Fl} {tbl : List (Str × Bool)} {h : Ex → Option D} (hs : X.stack = X.env :: X.outer) (hf : X.env.frame = some X.env.locals) (hN : X.N.Nodup)
    (hc : X.mg c = some Cv) (tk : Takes X Z) (hT : ∀ nm b, tbl.lookup nm = some b → ∃ v, X.mg nm = some v ∧ PySem.W.exmOne X.K v Cv = some b)
    (hb : ∀ (W : WXZ) (pn : List (Addr × Obj)) (xe : Value → Shared → Prop), Takes (X.tr pn xe) W → PassesOwn (model X.prog X.w) X.A X.env xe → DSs (X.tr pn xe) W body g)
    (hsu : ∀ (a : Addr) (oe : Obj) (cls : Value) (d : Option Addr) (pn : List (Addr × Obj)), Zc cls d oe → (∃ vs, oe.data = .fields vs) → DSx X i a oe cls d pn (b₀ :: suite) h)
    (hi : X.N[i]? = some n := by rfl) (hln : X.env.kindOf n = some .local := by rfl) (hg : Gl X c := by rfl) (hdb : (c == ("__debug__" : Str)) = false := by decide) :
    DS X Z (.Try body [.ExceptHandler (some (.Name c np)) (some n) (b₀ :: suite) pos'] [] [] pos) (sTry g tbl i h) := by
  refine ⟨_, ps_try_as (i := i) (Wout := Z) (tb := fun W => tMir X W g) (ts := fun a cls d => tHnd X h i a cls d) hs hf hN hi hln ⟨hg, hdb, .inl hc⟩ tk (fun W pn xe tk' po => (hb W pn xe tk' po).mir) (fun a oe cls d pn hz hd => hsu a oe cls d pn hz hd),
    ⟨fun {B as σ H ρ D'} R q => ⟨B, as, ρ, R, ?_⟩⟩⟩
  unfold sTry at q
  cases eg : g ρ with
  | bad => rw [eg] at q; exact q.elim
  | ok fl ρ' => rw [eg] at q; cases fl <;> exact q
  | exc e ρ' =>
    rw [eg] at q
    intro cls dx as' σ' H' R' g' x
    dsimp only at q
    cases et : tbl.lookup e.c with
    | none => rw [et] at q; exact q.elim
    | some b =>
      rw [et] at q
      obtain ⟨v, m1, m2⟩ := hT e.c b et
      have ec : cls = v := by
        rcases x.1 with x1 | ⟨x1, _⟩
        · have x1 : X.mg e.c = some cls := x1
          rw [m1] at x1; cases x1; rfl
        · have x1 : X.mg e.c = none := x1
          rw [m1] at x1; cases x1
      subst ec
      refine ⟨b, m2, fun hbt a ha => ?_, fun hbf => ?_⟩
      · subst hbt
        dsimp only at q
        cases eh : h e with
        | none => rw [eh] at q; exact q.elim
        | some dv =>
          rw [eh] at q
          dsimp only at q
          split at q
          · rename_i hl
            refine ⟨B.W as', e, dv, R'.domA, ?_, x, eh, fun v H2 m r => ?_⟩
            · rw [List.getElem?_set_self (by rw [R'.l1]; exact hl)]
            · have R2 := R'.setUn hl none
              have gl : Go (Ad as') H' (Ad (as'.set i none)) H' := .less fun b => Ad.set_none
              exact q v _ _ H2 (R2.same m) (g'.trans (gl.trans (.of_same m))) (r.stp (.less fun b z => .inl (z.imp id Ad.set_none)))
          · exact q.elim
      · subst hbf
        exact q cls dx as' σ' H' R' g' x
end
end L3
namespace L3
open PySem PySem.Spec PyProof.Rows L2
/-! ### xs.extend(ys) -/
def rExtS (K : PySem.W.Frag) : V → List V → Hp → VK → Prop := fun x vs H Q => ∃ l b xs zs, x = .ref l ∧ vs = [.ref b] ∧ H l = some (.lst xs) ∧ Rd H b (.lst zs) ∧ xs.length + zs.length ≤ sizeLine ∧ Q .non (upd H l (.lst (xs ++ zs)))
section
variable {X : Cx} {Z : WXZ} {G : Pm} {W : Addr → Prop} {H : Hp} {i : Nat} {x : Str} {px apos cpos : Pos} {e o : Expr} {f : En → Out (List Pv)} {fo : En → Out Pv}
theorem mt_extS : MtR X "list.extend" (rExtS X.K) := by
  intro pins s σ H x vs v us Q I rx rv h
  obtain ⟨l, b, xs, zs, rfl, rfl, hH, hB, hz, q⟩ := h
  cases rx
  obtain ⟨u, rfl, ru⟩ := rv.one
  cases ru
  obtain ⟨z, its, n, r, hl, e⟩ := I.lstM hH
  obtain ⟨hz2, its2, n2, r2, e2⟩ := hB.ok I.hok
  have hl2 := r2.length
  have hsz : its.toArray.size + its2.toArray.size ≤ sizeLine := by rw [List.size_toArray, List.size_toArray]; omega
  have hlong : ¬ (!its.toArray.isEmpty && Builtin.List.listTooLong (its.toArray.size + its2.toArray.size)) = true := by
    rw [notLongL hsz, Bool.and_false]
    exact Bool.false_ne_true
  refine call_meets F.slot_list_extend ⟨_, e, rfl⟩ F.entry_list_extend (F.args_list_extend_2 _ _)
    (AutoSeq1.list_extend_list_list_0 l its.toArray n b its2.toArray n2 hlong (by rw [List.size_toArray]; omega) (by omega)) ⟨e, e2, ?_⟩
  refine ⟨.non, _, I.lset (its' := its ++ its2) hH e (by simp) (r.append r2) ?_, rfl, q⟩
  rw [List.length_append]
  omega
def gExtend : D → List D → Option (D × D)
  | .lst xs, [.lst ys] => if xs.length + ys.length ≤ sizeLine then some (.non, .lst (xs ++ ys)) else none
  | _, _ => none
theorem o_extend : OpM X (rExtS X.K) gExtend := fun {W H a o c vs ds d c' Q} h mu w k r e q => by
  unfold gExtend at e
  split at e
  · split at e
    · rename_i hl
      cases e
      cases k with
      | lst rk =>
        cases r with
        | cons r1 rn =>
          cases rn
          obtain ⟨b, zs, rfl, h1, h2, h3⟩ := Rep.lstA r1
          exact ⟨_, b, _, zs, rfl, rfl, h, h1, by rw [rk.length, h3.length]; exact hl, q .non _ True.intro (.lst (rk.append h3)) .non⟩
    · cases e
  · cases e
theorem e_extend (ha : DA X Z [e] f) (hN : X.N[i]? = some x := by rfl) (hv : Vis X.env.scope x := by first | exact Or.inl rfl | exact Or.inr (Or.inl rfl) | exact Or.inr (Or.inr rfl)) (hd : (x == ("__debug__" : Str)) = false := by decide) (hcd : (x == ("__classdict__" : Str)) = false := by decide)
    (hbase : attributeBase (.Name x px) "extend" X.env (eval (.Name x px) X.env) = eval (.Name x px) X.env := by rfl)
    (hfew : ((backTo cpos (starEach [e] X.env)).all (fun x => !x.1) && (backToKw cpos (keywordEach [] X.env)).all (fun x => x.1.isSome) && decide ([e].length + ([] : List Keyword).length + (if ([] : List Keyword).isEmpty then 0 else 1) < 30)) = true := by rfl)
    (hline : (apos.endLine == cpos.line) = true := by rfl) (hs : starEach [e] X.env = (false, eval e X.env) :: starEach [] X.env := by rfl) (hplain : (backTo cpos (starEach [] X.env)).any (·.1) = false := by rfl) :
    DE X Z (.Call (.Attribute (.Name x px) "extend" apos) [e] [] cpos) (cM i gExtend f) := e_bm PySem.F.slot_list_extend PySem.F.type_list_extend mt_extS o_extend ha hN hv hd hcd hbase hfew hline hs hplain
/-! ### index of flat items -/
def ixV (y : V) : List V → Option Nat
  | [] => none
  | z :: r => if eqV z y = true then some 0 else (ixV y r).map (· + 1)
theorem ixV_ok {y : V} : ∀ {ys : List V} {j : Nat}, ixV y ys = some j → ∃ z, ys[j]? = some z ∧ eqV z y = true ∧ ∀ (m : Nat) (z' : V), m < j → ys[m]? = some z' → eqV z' y = false
  | [], j, h => by cases h
  | z :: r, j, h => by
    rw [ixV] at h
    split at h
    · rename_i c
      cases h
      exact ⟨z, rfl, c, fun m z' hm => by omega⟩
    · rename_i c
      simp only [Option.map_eq_some_iff] at h
      obtain ⟨k, hk, rfl⟩ := h
      obtain ⟨z1, h1, h2, h3⟩ := ixV_ok hk
      refine ⟨z1, by simpa using h1, h2, fun m z' hm e => ?_⟩
      cases m with
      | zero =>
        have : z = z' := by simpa using e
        subst this
        simpa using c
      | succ m => exact h3 m z' (by omega) (by simpa using e)
def gIdx (xs : List D) (ys : List D) : Option D := match ys with
  | [y] => (flD y).bind fun v => (flDs xs).bind fun vs => (ixV v vs).map fun j => .int (j : Nat)
  | _ => none
/-- t.index(y), t a tuple -/
def rIdxT (K : PySem.W.Frag) : V → List V → Hp → VK → Prop := fun x xs H Q => ∃ (a : Addr) (ys : List V) (y : V) (j : Nat), x = V.ref a ∧ xs = [y] ∧ SqT K H a ys ∧ flatV y = true ∧ ys.all flatV = true ∧ ixV y ys = some j ∧ Q (.int (j : Nat)) H
theorem mt_idxT : MtR X "tuple.index" (rIdxT X.K) := by
  intro pins s σ H x xs v us Q I rx rxs h
  obtain ⟨a, ys, y, j, rfl, rfl, hs, fy, fys, hj0, q⟩ := h
  obtain ⟨z, hz, hzj, hno⟩ := ixV_ok hj0
  cases rx
  cases rxs with
  | cons ry rt =>
    rename_i uy ut
    cases rt
    obtain ⟨its, rv, ⟨⟨cls, dd, data, sl⟩, ho, hc, n, hd⟩, hlen⟩ := I.tuple hs
    simp only at hc hd
    subst hc hd
    obtain ⟨u, hu, ru⟩ := rv.get hz
    obtain ⟨hjl, hje⟩ := List.getElem?_eq_some_iff.mp hu
    have hvl := rv.length
    have hj : j < its.toArray.size := by simpa using hjl
    refine call_meets PySem.F.slot_tuple_index ⟨_, ho, rfl⟩ PySem.F.entry_tuple_index (PySem.F.args_tuple_index_2 _ _)
      (TI.tuple_indexAt a its.toArray n dd sl uy (eqU y) j hj ?_ ?_) ⟨ho, fun u' hu' => mem_eqAt ry fy rv fys u' (by simpa using hu'), ?_⟩
    · have e1 : its.toArray[j] = u := by simpa using hje
      rw [e1, eqU_of ru (flat_at fys hz)]
      exact hzj
    · intro m hm hmj
      have hml : m < its.length := by simpa using hm
      have hmy : m < ys.length := by omega
      have hy' : ys[m]? = some ys[m] := List.getElem?_eq_getElem hmy
      obtain ⟨u2, hu2, ru2⟩ := rv.get hy'
      obtain ⟨_, hme⟩ := List.getElem?_eq_some_iff.mp hu2
      have e1 : its.toArray[m] = u2 := by simpa using hme
      rw [e1, eqU_of ru2 (flat_at fys hy')]
      exact hno m _ hmj hy'
    · exact ⟨.int (j : Nat), H, I.tok _, ⟨_, rfl⟩, q⟩
/-- a tuple without a dict of its own -/
def TupN (K : PySem.W.Frag) (H : Hp) (a : Addr) : Prop := (∃ (ob : Obj) (vs : List V), H a = some (.frz ob (.tup vs)) ∧ ob.dict = none) ∨ ∃ o, K.lookup a = some o ∧ o.cls = .type "tuple" ∧ o.dict = none
def tTM (K : PySem.W.Frag) (r : V → List V → Hp → VK → Prop) (to : TE) (t : TA) : TE := fun σ H Q => to σ H fun x H1 => (∃ a, x = .ref a ∧ TupN K H1 a) ∧ t σ H1 fun xs H2 => r x xs H2 Q
theorem pe_tm {name : Str} {id : String} {r : V → List V → Hp → VK → Prop} {to : TE} {t : TA} {es : List Expr} (slot : Slot "tuple" name id) (hty : typeOf (.builtin id) = pure (.type "method_descriptor")) (hm : MtR X id r) (ho : PE X o to) (ha : PA X (e :: es) t)
    (hbase : attributeBase o name X.env (eval o X.env) = eval o X.env := by rfl)
    (hfew : ((backTo cpos (starEach (e :: es) X.env)).all (fun x => !x.1) && (backToKw cpos (keywordEach [] X.env)).all (fun x => x.1.isSome)
      && decide ((e :: es).length + ([] : List Keyword).length + (if ([] : List Keyword).isEmpty then 0 else 1) < 30)) = true := by rfl)
    (hline : (apos.endLine == cpos.line) = true := by rfl) (hs : starEach (e :: es) X.env = (false, eval e X.env) :: starEach es X.env := by rfl) (hplain : (backTo cpos (starEach es X.env)).any (·.1) = false := by rfl) :
    PE X (.Call (.Attribute o name apos) (e :: es) [] cpos) (tTM X.K r to t) := by
  refine ⟨fun pins s σ H Q I h => ?_⟩
  refine wpAny_Call_method_late hbase hfew hline rfl (thn (ho.run pins s σ H _ I h) fun v s1 ⟨x, H1, I1, r1, ⟨a, ea, ty⟩, q1⟩ => ?_)
  subst ea
  cases r1
  have hh : s1.TypeIs (.ref a) "tuple" ∧ ∀ b, Value.ref a = .ref b → ∃ ob, s1.heap.get? b = some ob ∧ ob.dict = none := by
    rcases ty with ⟨ob, vs, e, hd⟩ | ⟨ob, e, hc, hd⟩
    · obtain ⟨h1, z, its, r, o', ho', hc', n, hdat⟩ := I1.hok a _ e
      refine ⟨⟨o', ho', hc'⟩, fun b eb => ?_⟩
      cases eb
      exact ⟨ob, h1, hd⟩
    · refine ⟨⟨ob, I1.kIn _ _ e, hc⟩, fun b eb => ?_⟩
      cases eb
      exact ⟨ob, I1.kIn _ _ e, hd⟩
  refine ⟨"tuple", id, PySem.F.plainAttrs_tuple, slot, hty, hh.1, hh.2, ?_⟩
  have hA := ha.run cpos pins s1 σ H1 _ I1 q1
  rw [hs] at hA ⊢
  refine Calls.callWith_builtin (by show (false || (backTo cpos (starEach es X.env)).any (·.1)) = false; rw [hplain] <;> rfl) (Calls.evalArgs_plain ?_)
  exact thn hA fun us s2 ⟨vs, H2, I2, r2, q2⟩ => hm pins s2 σ H2 (.ref a) vs (.ref a) us Q I2 rfl r2 q2
theorem Rep.tupN {K : PySem.W.Frag} {mg : Str → Option Value} {v : V} {ds : List D} (r : Rep ⟨K, mg⟩ W H v (.tup ds)) : ∃ a vs, v = .ref a ∧ TupN K H a ∧ SqT K H a vs ∧ Reps ⟨K, mg⟩ W H vs ds := by
  cases r with
  | ref h w c t =>
    cases c with
    | tup r =>
      obtain ⟨ob, vs, e, hd⟩ := t
      exact ⟨_, _, rfl, .inl ⟨ob, vs, e, hd⟩, .inl h, r⟩
  | tupK h r =>
    obtain ⟨ob, its, n, e1, e2, e3, e4, e5, e6⟩ := id h
    exact ⟨_, _, rfl, .inr ⟨ob, e1, e2, e6⟩, h.sq, r⟩
def cTIx (fo : En → Out Pv) (f : En → Out (List Pv)) : En → Out Pv := fun ρ => (fo ρ).bind fun p ρ1 => match p with
  | .v (.tup xs) => (f ρ1).bind fun ps ρ2 => ofO ((pvDs ρ2 ps).bind (gIdx xs)) ρ2
  | _ => .bad
theorem e_tidx (ho : DE X Z o fo) (ha : DA X Z [e] f) (hbase : attributeBase o "index" X.env (eval o X.env) = eval o X.env := by rfl)
    (hfew : ((backTo cpos (starEach [e] X.env)).all (fun x => !x.1) && (backToKw cpos (keywordEach [] X.env)).all (fun x => x.1.isSome)
      && decide ([e].length + ([] : List Keyword).length + (if ([] : List Keyword).isEmpty then 0 else 1) < 30)) = true := by rfl)
    (hline : (apos.endLine == cpos.line) = true := by rfl) (hs : starEach [e] X.env = (false, eval e X.env) :: starEach [] X.env := by rfl) (hplain : (backTo cpos (starEach [] X.env)).any (·.1) = false := by rfl) :
    DE X Z (.Call (.Attribute o "index" apos) [e] [] cpos) (cTIx fo f) := by
  obtain ⟨_, p1, s1⟩ := ho
  obtain ⟨_, p2, s2⟩ := ha
  refine ⟨_, pe_tm PySem.F.slot_tuple_index PySem.F.type_tuple_index mt_idxT p1 p2 hbase hfew hline hs hplain, ⟨fun {B as σ H ρ Q} R q => s1.go R (q.bind.imp fun p ρ1 H1 R1 g1 q1 v k1 => ?_)⟩⟩
  cases k1 with
  | b _ => exact q1.elim
  | @v v d k =>
    cases d with
    | tup xs =>
      obtain ⟨a, vs, rfl, h1, h2, h3⟩ := Rep.tupN k
      refine ⟨⟨a, rfl, h1⟩, s2.go R1 (EO.bind q1 |>.imp fun ps ρ2 H2 R2 g2 q2 us k2 => ?_)⟩
      obtain ⟨d, e1, q⟩ := q2.ofO R2
      simp only [Option.bind_eq_some_iff] at e1
      obtain ⟨ds, e2, e3⟩ := e1
      have rp := PvsOk.peeks R2 k2 e2
      unfold gIdx at e3
      split at e3
      · simp only [Option.bind_eq_some_iff, Option.map_eq_some_iff] at e3
        obtain ⟨y, f1, ys, f2, j, f3, rfl⟩ := e3
        obtain ⟨u, rfl, hu⟩ := rp.one
        obtain ⟨rfl, z1⟩ := hu.fl f1
        have k' := k.go g2
        obtain ⟨a', vs', ea, t1, t2, t3⟩ := Rep.tupN k'
        cases ea
        obtain ⟨rfl, z2⟩ := t3.fl f2
        exact ⟨a, _, _, j, rfl, rfl, t2, z1, z2, f3, q _ H2 (Same.refl _) (.int _)⟩
      · cases e3
    | _ => exact q1.elim
end
end L3
namespace L3
open PySem PySem.Spec PyProof.Rows L2
/-! ### texts in order -/
def insS (x : Str) : List Str → List Str
  | [] => [x]
  | y :: r => if ltCps y.cps.toList x.cps.toList = true then y :: insS x r else x :: y :: r
def srtS : List Str → List Str
  | [] => []
  | x :: r => insS x (srtS r)
abbrev leS (a b : Str) : Prop := ltCps b.cps.toList a.cps.toList = false
theorem leS_iff {a b : Str} : leS a b ↔ a.cps.toList ≤ b.cps.toList := by
  show ltCps b.cps.toList a.cps.toList = false ↔ _
  rw [ltCps_eq, decide_eq_false_iff_not, List.not_lt]
theorem leS_trans {a b c : Str} (h : leS a b) (h2 : leS b c) : leS a c := leS_iff.mpr (List.le_trans (leS_iff.mp h) (leS_iff.mp h2))
theorem leS_anti {a b : Str} (h : leS a b) (h2 : leS b a) : a = b := by
  have e := List.le_antisymm (leS_iff.mp h) (leS_iff.mp h2)
  cases a; cases b
  simp only [Array.toList_inj] at e
  rw [e]
theorem leS_tot {a b : Str} (h : ltCps b.cps.toList a.cps.toList = true) : leS b a := by
  rw [ltCps_eq, decide_eq_true_iff] at h
  exact leS_iff.mpr (List.le_of_lt h)
theorem insS_perm (x : Str) : ∀ l, (insS x l).Perm (x :: l)
  | [] => List.Perm.refl _
  | y :: r => by
    rw [insS]
    split
    · exact ((insS_perm x r).cons y).trans (List.Perm.swap x y r)
    · exact List.Perm.refl _
theorem srtS_perm : ∀ l, (srtS l).Perm l
  | [] => List.Perm.refl _
  | x :: r => (insS_perm x (srtS r)).trans ((srtS_perm r).cons x)
theorem insS_srt {x : Str} : ∀ {l : List Str}, l.Pairwise leS → (insS x l).Pairwise leS
  | [], _ => List.pairwise_singleton _ _
  | y :: r, h => by
    rw [List.pairwise_cons] at h
    rw [insS]
    split
    · rename_i c
      rw [List.pairwise_cons]
      refine ⟨fun z hz => ?_, insS_srt h.2⟩
      rcases List.mem_cons.mp ((insS_perm x r).mem_iff.mp hz) with rfl | q
      · exact leS_tot c
      · exact h.1 z q
    · rename_i c
      have c : leS x y := (Bool.not_eq_true _).mp c
      rw [List.pairwise_cons, List.pairwise_cons]
      refine ⟨fun z hz => ?_, h⟩
      rcases List.mem_cons.mp hz with rfl | q
      · exact c
      · exact leS_trans c (h.1 z q)
theorem srtS_srt : ∀ l : List Str, (srtS l).Pairwise leS
  | [] => List.Pairwise.nil
  | _ :: r => insS_srt (srtS_srt r)
theorem rise_pw : ∀ {l : List Str} {p : Str}, risingS p l = true → (p :: l).Pairwise leS
  | [], p, _ => List.pairwise_singleton _ _
  | x :: r, p, h => by
    rw [risingS, Bool.and_eq_true, Bool.not_eq_true'] at h
    have ih := rise_pw h.2
    rw [List.pairwise_cons]
    refine ⟨fun z hz => ?_, ih⟩
    rcases List.mem_cons.mp hz with rfl | q
    · exact h.1
    · exact leS_trans h.1 ((List.pairwise_cons.mp ih).1 z q)
theorem srt_uniq : ∀ {l m : List Str}, l.Perm m → l.Pairwise leS → m.Pairwise leS → l = m
  | [], m, p, _, _ => (List.nil_perm.mp p).symm
  | x :: r, [], p, _, _ => absurd p.length_eq (by simp)
  | x :: r, y :: t, p, h1, h2 => by
    rw [List.pairwise_cons] at h1 h2
    have e : x = y := by
      rcases List.mem_cons.mp (p.mem_iff.mp List.mem_cons_self) with q | q
      · exact q
      · rcases List.mem_cons.mp (p.mem_iff.mpr (List.mem_cons_self (a := y))) with q2 | q2
        · exact q2.symm
        · exact leS_anti (h1.1 y q2) (h2.1 x q)
    subst e
    rw [srt_uniq ((List.perm_cons x).mp p) h1.2 h2.2]
theorem srt_is {ys xs : List Str} (p : ys.Perm xs) (h : sortedS ys = true) : ys = srtS xs := by
  refine srt_uniq (p.trans (srtS_perm xs).symm) ?_ (srtS_srt xs)
  cases ys with
  | nil => exact List.Pairwise.nil
  | cons x r => exact rise_pw h
def asStrs : List D → Option (List Str)
  | [] => some []
  | .str x :: r => (asStrs r).map (x :: ·)
  | _ :: _ => none
theorem asStrs_some : ∀ {ds : List D} {ns : List Str}, asStrs ds = some ns → ds = ns.map D.str
  | [], _, h => by cases h; rfl
  | .str i :: r, ns, h => by
    simp only [asStrs, Option.map_eq_some_iff] at h
    obtain ⟨m, h1, rfl⟩ := h
    rw [asStrs_some h1]; rfl
  | .non :: _, _, h | .bl _ :: _, _, h | .int _ :: _, _, h | .tup _ :: _, _, h | .lst _ :: _, _, h | .dic _ :: _, _, h | .dit _ :: _, _, h | .obj _ _ _ :: _, _, h | .ty _ :: _, _, h => by cases h
theorem asStrs_map (ns : List Str) : asStrs (ns.map D.str) = some ns := by
  induction ns with
  | nil => rfl
  | cons n r ih => simp [asStrs, ih]
def keyStrs : List (Key × D) → Option (List Str)
  | [] => some []
  | (.inr x, _) :: r => (keyStrs r).map (x :: ·)
  | (.inl _, _) :: _ => none
theorem keyStrs_some : ∀ {ds : List (Key × D)} {ns : List Str}, keyStrs ds = some ns → ds.map (·.1) = ns.map Sum.inr
  | [], _, h => by cases h; rfl
  | (.inr x, _) :: r, ns, h => by
    simp only [keyStrs, Option.map_eq_some_iff] at h
    obtain ⟨m, h1, rfl⟩ := h
    rw [List.map_cons, keyStrs_some h1]; rfl
  | (.inl _, _) :: _, _, h => by cases h
/-- sorted: of texts, of a dict of texts -/
def gSorted : List D → Option D
  | [.lst ds] => (asStrs ds).bind fun xs => if xs.length < 64 then some (.lst ((srtS xs).map .str)) else none
  | [.dic kvs] => (keyStrs kvs).bind fun xs => if xs.length < 64 then some (.lst ((srtS xs).map .str)) else none
  | _ => none
section
variable {X : Cx} {Z : WXZ} {G : Pm} {W : Addr → Prop} {H : Hp} {a b o e : Expr} {es : List Expr} {pos p1 apos cpos : Pos} {fa fb fo : En → Out Pv} {f : En → Out (List Pv)} {name : Str} {id T : String} {r : V → List V → Hp → VK → Prop} {g : D → List D → Option D}
theorem o_sorted (hc : X.calm = true) : ∃ r, CallR X (.builtin "sorted") r ∧ OpL X r gSorted := ⟨_, cr_sortedS.or (call_sortedD hc), fun {W H xs ds d Q} h e q => by
  unfold gSorted at e
  split at e
  · simp only [Option.bind_eq_some_iff] at e
    obtain ⟨ns, e1, e2⟩ := e
    split at e2
    · rename_i hz
      cases e2
      obtain ⟨v, rfl, hv⟩ := h.one
      obtain ⟨a, vs, rfl, s1, r1⟩ := hv.lst
      rw [asStrs_some e1] at r1
      have := r1.strs
      subst this
      refine .inl ⟨a, ns, rfl, .inl s1, hz, fun ys p h1 h2 hp => ?_⟩
      rw [srt_is h1 h2]
      exact q p _ hp True.intro (.lst (Reps.of_strs _))
    · cases e2
  · simp only [Option.bind_eq_some_iff] at e
    obtain ⟨ns, e1, e2⟩ := e
    split at e2
    · rename_i hz
      cases e2
      obtain ⟨v, rfl, hv⟩ := h.one
      obtain ⟨a, kvs, rfl, s1, hk, r1⟩ := hv.dic
      refine .inr ⟨a, kvs, ns, rfl, s1, hk.trans (keyStrs_some e1), hz, fun ys p h1 h2 hp => ?_⟩
      rw [srt_is h1 h2]
      exact q p _ hp True.intro (.lst (Reps.of_strs _))
    · cases e2
  · cases e⟩
theorem n_sorted (hc : X.calm = true) (hm : X.mg "sorted" = none) (ha : DA X Z [a] f) (hg : Gl X "sorted" := by rfl) (he : starEach [a] X.env = (false, eval a X.env) :: starEach [] X.env := by rfl) (hpl : (backTo pos (starEach [] X.env)).any (·.1) = false := by rfl) : DN X Z (.Call (.Name "sorted" p1) [a] [] pos) (nN gSorted f) :=
  let ⟨_, h1, h2⟩ := o_sorted hc
  n_blt h1 h2 hm (by decide +kernel) ha hg (by decide) (by decide) he hpl
/-! ### methods that only look -/
def OpMr (X : Cx) (T : String) (r : V → List V → Hp → VK → Prop) (g : D → List D → Option D) : Prop := ∀ {W : Addr → Prop} {H : Hp} {x : V} {o : D} {vs : List V} {ds : List D} {d : D} {Q : VK}, (∀ b, W b → ∃ o, H b = some o) →
  RepP X.G W H x o → RepPs X.G W H vs ds → g o ds = some d → (∀ v H', Same H H' → Rep X.G W H' v d → Q v H') → r x vs H Q
def isTy (T : String) : D → Bool
  | .str _ => T == "str"
  | .lst _ => T == "list"
  | _ => false
theorem isTy_ok {W : Addr → Prop} {H : Hp} {x : V} {o : D} (r : RepP X.G W H x o) (h : isTy T o = true) : tyV X.K T x H := by
  cases o with
  | str z =>
    rw [r.str_]
    show T = "str"
    simpa [isTy] using h
  | lst ds =>
    obtain ⟨a, vs, rfl, h1, h2⟩ := r.lst
    exact .inl ⟨by simpa [isTy] using h, vs, .inl h1⟩
  | _ => cases h
def cMr (T : String) (g : D → List D → Option D) (fo : En → Out Pv) (f : En → Out (List Pv)) : En → Out Pv := fun ρ => (fo ρ).bind fun p ρ1 => if (pvD ρ1 p).map (isTy T) = some true then
  (f ρ1).bind fun ps ρ2 => ofO ((pvD ρ2 p).bind fun o => (pvDs ρ2 ps).bind (g o)) ρ2 else .bad
theorem e_mr (pa : PlainAttrs T) (slot : Slot T name id) (hty : typeOf (.builtin id) = pure (.type "method_descriptor")) (hm : MtR X id r) (hr : OpMr X T r g) (ho : DE X Z o fo) (ha : DA X Z (e :: es) f)
    (hbase : attributeBase o name X.env (eval o X.env) = eval o X.env := by rfl)
    (hfew : ((backTo cpos (starEach (e :: es) X.env)).all (fun x => !x.1) && (backToKw cpos (keywordEach [] X.env)).all (fun x => x.1.isSome)
      && decide ((e :: es).length + ([] : List Keyword).length + (if ([] : List Keyword).isEmpty then 0 else 1) < 30)) = true := by rfl)
    (hline : (apos.endLine == cpos.line) = true := by rfl) (hs : starEach (e :: es) X.env = (false, eval e X.env) :: starEach es X.env := by rfl) (hplain : (backTo cpos (starEach es X.env)).any (·.1) = false := by rfl) :
    DE X Z (.Call (.Attribute o name apos) (e :: es) [] cpos) (cMr T g fo f) := by
  obtain ⟨_, p1, s1⟩ := ho
  obtain ⟨_, p2, s2⟩ := ha
  refine ⟨_, pe_bm pa slot hty hm p1 p2 hbase hfew hline hs hplain, ⟨fun {B as σ H ρ Q} R q => s1.go R (q.bind.imp fun p ρ1 H1 R1 g1 q1 v k1 => ?_)⟩⟩
  split at q1
  · rename_i hc
    simp only [Option.map_eq_some_iff] at hc
    obtain ⟨d0, e0, e1⟩ := hc
    refine ⟨isTy_ok (k1.peek R1 e0) e1, s2.go R1 (EO.bind q1 |>.imp fun ps ρ2 H2 R2 g2 q2 us k2 => ?_)⟩
    obtain ⟨d, e1, q⟩ := q2.ofO R2
    simp only [Option.bind_eq_some_iff] at e1
    obtain ⟨o, e2, ds, e3, e4⟩ := e1
    exact hr R2.domA ((k1.go g2).peek R2 e2) (PvsOk.peeks R2 k2 e3) e4 q
  · exact q1.elim
/-- xs.index(y), xs a list -/
def gIdxL : D → List D → Option D
  | .lst xs, ys => gIdx xs ys
  | _, _ => none
theorem o_idxL : OpMr X "list" (rIndex X.K) gIdxL := fun {W H x o vs ds d Q} dom ho h e q => by
  unfold gIdxL at e
  split at e
  · unfold gIdx at e
    split at e
    · simp only [Option.bind_eq_some_iff, Option.map_eq_some_iff] at e
      obtain ⟨y, f1, ys, f2, j, f3, rfl⟩ := e
      obtain ⟨u, rfl, hu⟩ := h.one
      obtain ⟨rfl, z1⟩ := hu.fl f1
      obtain ⟨a, vs', rfl, t1, t3⟩ := ho.lst
      obtain ⟨rfl, z2⟩ := t3.fl f2
      obtain ⟨z, hz, hzj, hno⟩ := ixV_ok f3
      exact ⟨a, _, _, j, z, rfl, rfl, .inl t1, z1, z2, hz, hzj, hno, q _ H (Same.refl _) (.int _)⟩
    · cases e
  · cases e
theorem e_idxL (ho : DE X Z o fo) (ha : DA X Z [e] f) (hbase : attributeBase o "index" X.env (eval o X.env) = eval o X.env := by rfl)
    (hfew : ((backTo cpos (starEach [e] X.env)).all (fun x => !x.1) && (backToKw cpos (keywordEach [] X.env)).all (fun x => x.1.isSome)
      && decide ([e].length + ([] : List Keyword).length + (if ([] : List Keyword).isEmpty then 0 else 1) < 30)) = true := by rfl)
    (hline : (apos.endLine == cpos.line) = true := by rfl) (hs : starEach [e] X.env = (false, eval e X.env) :: starEach [] X.env := by rfl) (hplain : (backTo cpos (starEach [] X.env)).any (·.1) = false := by rfl) :
    DE X Z (.Call (.Attribute o "index" apos) [e] [] cpos) (cMr "list" gIdxL fo f) := e_mr PySem.F.plainAttrs_list PySem.F.slot_list_index PySem.F.type_list_index mt_index o_idxL ho ha hbase hfew hline hs hplain
/-- a.join(xs) -/
def gJoin : D → List D → Option D
  | .str a, [.lst ds] => (asStrs ds).bind fun ys => if (ys.map (·.length)).sum + ys.length * a.length ≤ 16777216 then some (.str (Txt.join a ys)) else none
  | _, _ => none
theorem e_join (ho : DE X Z o fo) (ha : DA X Z [e] f) (hbase : attributeBase o "join" X.env (eval o X.env) = eval o X.env := by rfl)
    (hfew : ((backTo cpos (starEach [e] X.env)).all (fun x => !x.1) && (backToKw cpos (keywordEach [] X.env)).all (fun x => x.1.isSome)
      && decide ([e].length + ([] : List Keyword).length + (if ([] : List Keyword).isEmpty then 0 else 1) < 30)) = true := by rfl)
    (hline : (apos.endLine == cpos.line) = true := by rfl) (hs : starEach [e] X.env = (false, eval e X.env) :: starEach [] X.env := by rfl) (hplain : (backTo cpos (starEach [] X.env)).any (·.1) = false := by rfl) :
    DE X Z (.Call (.Attribute o "join" apos) [e] [] cpos) (cMr "str" gJoin fo f) := e_mr PySem.F.plainAttrs_str PySem.F.slot_str_join PySem.F.type_str_join mt_join (fun {W H x o vs ds d Q} dom ho h e q => by
  unfold gJoin at e
  split at e
  · simp only [Option.bind_eq_some_iff] at e
    obtain ⟨ns, e1, e2⟩ := e
    split at e2
    · rename_i hz
      cases e2
      obtain ⟨v, rfl, hv⟩ := h.one
      obtain ⟨a, vs, rfl, s1, r1⟩ := hv.lst
      rw [asStrs_some e1] at r1
      have := r1.strs
      subst this
      exact ⟨_, a, ns, ho.str_, rfl, .inl (.inl s1), hz, q _ H (Same.refl _) (.str _)⟩
    · cases e2
  · cases e) ho ha hbase hfew hline hs hplain
/-- str(i) -/
def gStr : List D → Option D
  | [.int i] => if i.natAbs.log2 < 1920 then some (.str (toString i : String)) else none
  | _ => none
theorem e_str (hm : X.mg "str" = none) (ha : DA X Z [a] f) (hg : Gl X "str" := by rfl) (he : starEach [a] X.env = (false, eval a X.env) :: starEach [] X.env := by rfl) (hpl : (backTo pos (starEach [] X.env)).any (·.1) = false := by rfl) :
    DE X Z (.Call (.Name "str" p1) [a] [] pos) (cN gStr f) :=
  e_ty call_str_int (fun {W H xs ds d Q} dom h e q => by
    unfold gStr at e
    split at e
    · split at e
      · rename_i hz
        cases e
        obtain ⟨v, rfl, hv⟩ := h.one
        exact ⟨_, by rw [hv.int_], hz, q _ H (Same.refl _) (.str _)⟩
      · cases e
    · cases e) hm (by decide +kernel) ha hg (by decide) (by decide) he hpl
end
end L3
namespace L3
open PySem PySem.Spec PyProof.Rows L2
section
variable {X : Cx} {Z : WXZ} {G : Pm} {W : Addr → Prop} {H : Hp} {a b o e e2 : Expr} {es : List Expr} {pos p1 apos cpos : Pos} {fa fb fo : En → Out Pv} {f : En → Out (List Pv)}
/-! ### is a key in a dict? -/
def gInD (neg : Bool) (y x : D) : Option D := match x with
  | .dic kvs => (keyD y).map fun k => .bl (if neg then !(dlook kvs k).isSome else (dlook kvs k).isSome)
  | _ => none
theorem dget_of {kvs : List (Key × V)} {kds : List (Key × D)} {k : Key} {y : V} {H : Hp} {a : Addr} (h : Rd H a (.dK kvs)) (ey : y = kV k) : DGet H a y (valV kvs k) := .inl ⟨kvs, k, h, ey, rfl⟩
theorem dlook_some {kvs : List (Key × V)} {kds : List (Key × D)} {k : Key} (h : kvs.map (·.1) = kds.map (·.1)) (c : Reps G W H (kvs.map (·.2)) (kds.map (·.2))) : (valV kvs k).isSome = (dlook kds k).isSome := by
  rcases dlook_ok (k := k) h c with ⟨h1, h2⟩ | ⟨d, v, h1, h2, _⟩
  · rw [h1, h2]; rfl
  · rw [h1, h2]; rfl
theorem det_inD {ta tb : TE} (neg : Bool) (ha : DEt X Z ta fa) (hb : DEt X Z tb fb) : DEt X Z (if neg then tDNotIn ta tb else tDIn ta tb) (c2 (gInD neg) fa fb) := by
  have key : ∀ (B : Bs) (as : List (Option Addr)) (σ : L2.St) (H : Hp) (ρ : En) (Q : VK), Rel X.G B as σ H ρ → EO X Z B as σ H (fun p _ H' => ∀ v, PvOk X.G (B.W as) as H' v p → Q v H') (c2 (gInD neg) fa fb ρ) →
      ta σ H fun y H1 => tb σ H1 fun x H2 => ∃ a o, x = .ref a ∧ DGet H2 a y o ∧ Q (.bl (if neg then !o.isSome else o.isSome)) H2 := by
    intro B as σ H ρ Q R q
    refine ha.go R (q.bind.imp fun p ρ1 H1 R1 g1 q1 v k1 => ?_)
    refine hb.go R1 (q1.bind.imp fun p' ρ2 H2 R2 g2 q2 u k2 => ?_)
    obtain ⟨d, e, q⟩ := q2.ofO R2
    cases ep : pvD ρ2 p with
    | none => rw [ep] at e; cases e
    | some a =>
      rw [ep] at e
      cases eq : pvD ρ2 p' with
      | none => rw [eq] at e; cases e
      | some b =>
        rw [eq] at e
        have h1 := (k1.go g2).peek R2 ep
        have h2 := k2.peek R2 eq
        replace e : gInD neg a b = some d := e
        unfold gInD at e
        cases b with
        | dic kds =>
          simp only [Option.map_eq_some_iff] at e
          obtain ⟨k, e1, rfl⟩ := e
          obtain ⟨aa, kvs, rfl, s1, hk, r1⟩ := h2.dic
          refine ⟨aa, _, rfl, dget_of (kds := kds) s1 (h1.key e1), ?_⟩
          rw [dlook_some hk r1]
          exact q _ H2 (Same.refl _) (.bl _)
        | _ => cases e
  cases neg
  · exact ⟨fun {B as σ H ρ Q} R q => key B as σ H ρ Q R q⟩
  · exact ⟨fun {B as σ H ρ Q} R q => key B as σ H ρ Q R q⟩
theorem e_inD (hu : X.A.units + 1 < cLine) (ha : DE X Z a fa) (hb : DE X Z b fb) (hm : behindInMarks .In b = false := by with_unfolding_all rfl) : DE X Z (.Compare a [.In] [b] pos) (c2 (gInD false) fa fb) :=
  let ⟨_, pa, sa⟩ := ha; let ⟨_, pb, sb⟩ := hb; ⟨_, pe_cmp (pc_din hu pa pb) hm, det_inD false sa sb⟩
theorem e_ninD (hu : X.A.units + 1 < cLine) (ha : DE X Z a fa) (hb : DE X Z b fb) (hm : behindInMarks .NotIn b = false := by with_unfolding_all rfl) : DE X Z (.Compare a [.NotIn] [b] pos) (c2 (gInD true) fa fb) :=
  let ⟨_, pa, sa⟩ := ha; let ⟨_, pb, sb⟩ := hb; ⟨_, pe_cmp (pc_dnotin hu pa pb) hm, det_inD true sa sb⟩
theorem t_inD (hu : X.A.units + 1 < cLine) (ha : DE X Z a fa) (hb : DE X Z b fb) (hm : behindInMarks .In b = false := by with_unfolding_all rfl) : DT X Z (.Compare a [.In] [b] pos) (cB (c2 (gInD false) fa fb)) :=
  let ⟨_, pa, sa⟩ := ha; let ⟨_, pb, sb⟩ := hb; ⟨_, pt_cmp (pc_din hu pa pb) hm, dtt_B (det_inD false sa sb)⟩
theorem t_ninD (hu : X.A.units + 1 < cLine) (ha : DE X Z a fa) (hb : DE X Z b fb) (hm : behindInMarks .NotIn b = false := by with_unfolding_all rfl) : DT X Z (.Compare a [.NotIn] [b] pos) (cB (c2 (gInD true) fa fb)) :=
  let ⟨_, pa, sa⟩ := ha; let ⟨_, pb, sb⟩ := hb; ⟨_, pt_cmp (pc_dnotin hu pa pb) hm, dtt_B (det_inD true sa sb)⟩
/-! ### d.get(k, x) -/
def gGet2 (x y z : D) : Option D := match x with
  | .dic kvs => if (flD z).isSome = true then (keyD y).map fun k => (dlook kvs k).getD z else none
  | _ => none
def isDic : D → Bool
  | .dic _ => true
  | _ => false
def cGet2 (fo fa fb : En → Out Pv) : En → Out Pv := fun ρ => (fo ρ).bind fun p ρ1 => if (pvD ρ1 p).map isDic = some true then
  (fa ρ1).bind fun py ρ2 => (fb ρ2).bind fun pz ρ3 => ofO ((pvD ρ3 p).bind fun x => (pvD ρ3 py).bind fun y => (pvD ρ3 pz).bind fun z => gGet2 x y z) ρ3 else .bad
theorem RepP.flat {x : V} {d : D} (r : RepP G W H x d) (h : (flD d).isSome = true) : Rep G W H x d := by
  cases d with
  | non => rw [r.non_]; exact .non
  | bl b => rw [r.bl_]; exact .bl _
  | int i => rw [r.int_]; exact .int _
  | str z => rw [r.str_]; exact .str _
  | _ => cases h
theorem e_get2 (hu : X.A.units + 1 < cLine) (ho : DE X Z o fo) (ha : DE X Z a fa) (hb : DE X Z b fb) (m : M2 X o "get" apos a b cpos := by exact ⟨rfl, rfl, rfl, rfl⟩) : DE X Z (.Call (.Attribute o "get" apos) [a, b] [] cpos) (cGet2 fo fa fb) := by
  obtain ⟨_, p1, s1⟩ := ho
  obtain ⟨_, p2, s2⟩ := ha
  obtain ⟨_, p3, s3⟩ := hb
  refine ⟨_, pe_dget2 hu p1 p2 p3 m, ⟨fun {B as σ H ρ Q} R q => s1.go R (q.bind.imp fun p ρ1 H1 R1 g1 q1 v k1 => ?_)⟩⟩
  split at q1
  · rename_i hc
    simp only [Option.map_eq_some_iff] at hc
    obtain ⟨x0, ep, ex0⟩ := hc
    cases x0 with
    | dic kds0 =>
      obtain ⟨aa, kvs0, rfl, s0, _, _⟩ := (k1.peek R1 ep).dic
      refine ⟨aa, rfl, .inl ⟨_, s0⟩, s2.go R1 (EO.bind q1 |>.imp fun py ρ2 H2 R2 g2 q2 y k2 => ?_)⟩
      refine s3.go R2 (EO.bind q2 |>.imp fun pz ρ3 H3 R3 g3 q3 zz k3 => ?_)
      obtain ⟨d, e, q⟩ := q3.ofO R3
      simp only [Option.bind_eq_some_iff] at e
      obtain ⟨x, e1, y', e2, z, e3, e4⟩ := e
      have h1 := ((k1.go g2).go g3).peek R3 e1
      have h2 := (k2.go g3).peek R3 e2
      have h3 := k3.peek R3 e3
      unfold gGet2 at e4
      cases x with
      | dic kds =>
        dsimp only at e4
        split at e4
        · rename_i hz
          simp only [Option.map_eq_some_iff] at e4
          obtain ⟨k, f1, rfl⟩ := e4
          obtain ⟨a2, kvs, ea, t1, hk, r1⟩ := h1.dic
          cases ea
          refine ⟨_, dget_of (kds := kds) t1 (h2.key f1), ?_⟩
          rcases dlook_ok (k := k) hk r1 with ⟨f2, f3⟩ | ⟨d2, v2, f2, f3, f4⟩
          · rw [f3]
            rw [f2] at q
            exact q _ H3 (Same.refl _) (h3.flat hz)
          · rw [f3]
            rw [f2] at q
            exact q _ H3 (Same.refl _) f4
        · cases e4
      | _ => cases e4
    | _ => cases ex0
  · exact q1.elim
/-! ### new dicts -/
def nDic0 : En → Out D := fun ρ => .ok (.dic []) ρ
theorem n_dic0 : DN X Z (.Dict [] [] pos) nDic0 := ⟨_, pe_dnewK, ⟨fun {B as σ H ρ Q} R q p hp => DNt.lay R hp hp True.intro (.dic (kvs := []) (kds := []) rfl .nil) q⟩⟩
def pairD : D → Option (Key × D)
  | .tup [k, d] => (keyD k).map fun k => (k, d)
  | _ => none
def pairDs : List D → Option (List (Key × D))
  | [] => some []
  | d :: r => (pairD d).bind fun p => (pairDs r).map (p :: ·)
def mergeD (kds more : List (Key × D)) : List (Key × D) := more.foldl (fun acc kv => dput acc kv.1 kv.2) kds
def gDict : List D → Option D
  | [.dic kvs] => some (.dic kvs)
  | [.tup ds] => (pairDs ds).bind fun ps => if ps.length ≤ sizeLine then some (.dic (mergeD [] ps)) else none
  | _ => none
theorem pairs2 {pins : List (Addr × Obj)} {σ : L2.St} {H : Hp} {s : Shared} (I : Inv X pins σ H s) : ∀ {ps : List Addr} {kvs : List (Key × V)}, Paired (fun p kv => SqT X.K H p [kV kv.1, kv.2]) ps kvs →
    ∃ (prs : List (Key × Value)) (us : List (Value × Value)), KV kvs prs ∧ us.length = ps.length ∧ prs.length = ps.length ∧ ∀ (j : Nat) (k v : Value), us[j]? = some (k, v) → ∃ (b : Addr) (key : Key), ps[j]? = some b ∧ IsTup s.heap b #[k, v] ∧ prs[j]? = some (key, v) ∧ keyIs key k = true
  | _, _, .nil => ⟨[], [], .nil, rfl, rfl, fun j k v e => by simp at e⟩
  | _, _, .cons (a := p) (b := kv) h t => by
    obtain ⟨prs, us, r, h1, h2, h3⟩ := pairs2 I t
    obtain ⟨its, rv, ht, _⟩ := I.tuple h
    obtain ⟨u, y, ei, ru, ry⟩ := vals2 rv
    subst ei
    refine ⟨(kv.1, y) :: prs, (u, y) :: us, .cons ⟨rfl, ry⟩ r, by simp [h1], by simp [h2], fun j k v e => ?_⟩
    cases j with
    | zero =>
      have e' : (u, y) = (k, v) := Option.some.inj e
      cases e'
      exact ⟨p, kv.1, rfl, ht, rfl, kV_is (P := X.prog) (w := X.w) ru⟩
    | succ j =>
      obtain ⟨b, key, e1, e2, e3, e4⟩ := h3 j k v (by simpa using e)
      exact ⟨b, key, by simpa using e1, e2, by simpa using e3, e4⟩
/-- dict(t), t a tuple of pairs -/
theorem call_dictT (hcalm : X.calm = true) : CallR X (.type "dict") (fun xs H Q => ∃ (a : Addr) (ps : List Addr) (kvs : List (Key × V)), xs = [.ref a] ∧ TupN X.K H a ∧ SqT X.K H a (ps.map V.ref) ∧ Paired (fun p kv => SqT X.K H p [kV kv.1, kv.2]) ps kvs ∧
    ∀ p, H p = none → Q (.ref p) (upd H p (.dK (mergeK [] kvs)))) := by
  intro pins s σ H xs us Q I r q
  obtain ⟨a, ps, kvs, ex, tn, hq, hp, q⟩ := q
  subst ex
  obtain ⟨u, eu, rx⟩ := vals1 r
  subst eu
  cases rx
  obtain ⟨its, rv, ht, hz⟩ := I.tuple hq
  have ei := refs_at rv
  subst ei
  rw [List.length_map] at hz
  obtain ⟨prs, us, rel, hl1, hl2, hpr⟩ := pairs2 I hp
  obtain ⟨o, ho, hc, n, hdat⟩ := id ht
  have hd : o.dict = none := by
    rcases tn with ⟨ob, vs, e, hd⟩ | ⟨ob, e, hc', hd⟩
    · obtain ⟨h1, _⟩ := I.hok a _ e
      rw [h1] at ho; cases ho
      exact hd
    · have := I.kIn _ _ e
      rw [this] at ho; cases ho
      exact hd
  refine _root_.PySem.call_dict_pairs (knd := mixKind X.prog X.w) (kvs := prs) (PairArg.tuple a (ps.map Value.ref).toArray (fun j => ps.getD j 0) us) (I.ok.hd hcalm) ⟨⟨o, n, ho, hc, hd, hdat⟩, by simp [hl1], fun j k v e => ?_⟩ ⟨by rw [hl2, hl1], fun i k v e => ?_⟩ (by rw [hl1]; exact hz) fun h' tk hd' k => ?_
  · obtain ⟨b, key, e1, e2, _, _⟩ := hpr j k v e
    have e5 : ps.getD j 0 = b := by rw [List.getD_eq_getElem?_getD, e1]; rfl
    refine ⟨by simp [e1, List.getD_eq_getElem?_getD], ?_⟩
    dsimp only
    rw [e5]
    exact .inl e2
  · obtain ⟨b, key, e1, e2, e3, e4⟩ := hpr i k v e
    exact ⟨key, e3, e4⟩
  · have hm : (s.heap.objs.size == sysModules) = false := beq_eq_false_iff_ne.mpr (Nat.ne_of_gt I.big)
    have hlen : (mergeK [] kvs).length ≤ sizeLine := by
      refine Nat.le_trans (length_mergeK kvs []) ?_
      rw [List.length_nil, Nat.zero_add, rel.length, hl2]
      exact hz
    exact ⟨.ref s.heap.objs.size, upd H s.heap.objs.size (.dK (mergeK [] kvs)), I.laid (t' := tk) (fun b o e => k b o (by simp) e) (Nat.le_refl _) (show ObjOk X.prog X.w _ _ _ (.dK (mergeK [] kvs)) from ⟨hlen, hm, merged [] prs, KV.merge rel .nil, hd'⟩), rfl, q _ (I.hok.fresh (Nat.le_refl _))⟩
theorem pairDs_ok {G : Pm} {W : Addr → Prop} {H : Hp} : ∀ {vs : List V} {ds : List D} {pds : List (Key × D)}, Reps G W H vs ds → pairDs ds = some pds → ∃ (ps : List Addr) (kvs : List (Key × V)), vs = ps.map V.ref ∧ Paired (fun p kv => SqT G.K H p [kV kv.1, kv.2]) ps kvs ∧
    kvs.map (·.1) = pds.map (·.1) ∧ Reps G W H (kvs.map (·.2)) (pds.map (·.2))
  | _, _, _, .nil, e => by cases e; exact ⟨[], [], rfl, .nil, rfl, .nil⟩
  | _, _, _, .cons (v := v) (d := d) h t, e => by
    simp only [pairDs, Option.bind_eq_some_iff, Option.map_eq_some_iff] at e
    obtain ⟨p, e1, r, e2, rfl⟩ := e
    obtain ⟨ps, kvs, rfl, h1, h2, h3⟩ := pairDs_ok t e2
    unfold pairD at e1
    split at e1
    · rename_i k d'
      simp only [Option.map_eq_some_iff] at e1
      obtain ⟨key, f1, rfl⟩ := e1
      obtain ⟨a, vs2, rfl, s1, r1⟩ := RepP.tup (.rep h)
      cases r1 with
      | cons c1 c2 =>
        cases c2 with
        | cons c2 c3 =>
          cases c3
          have ek := RepP.key (.rep c1) f1
          subst ek
          exact ⟨a :: ps, (key, _) :: kvs, rfl, .cons s1 h1, by simp [h2], .cons c2 h3⟩
    · cases e1
theorem merge_ok2 {G : Pm} {W : Addr → Prop} {H : Hp} {kvs : List (Key × V)} {pds : List (Key × D)} (h : kvs.map (·.1) = pds.map (·.1)) (c : Reps G W H (kvs.map (·.2)) (pds.map (·.2))) :
    (mergeK [] kvs).map (·.1) = (mergeD [] pds).map (·.1) ∧ Reps G W H ((mergeK [] kvs).map (·.2)) ((mergeD [] pds).map (·.2)) := merge_ok h c rfl .nil
theorem o_dict (hc : X.calm = true) : ∃ r, CallR X (.type "dict") r ∧ OpL X r gDict := ⟨_, call_dictD.or (call_dictT hc), fun {W H xs ds d Q} h e q => by
  unfold gDict at e
  split at e
  · cases e
    obtain ⟨v, rfl, hv⟩ := h.one
    obtain ⟨a, kvs, rfl, s1, hk, r1⟩ := hv.dic
    exact .inl ⟨a, kvs, rfl, s1, fun p hp => q p _ hp True.intro (.dic hk r1)⟩
  · simp only [Option.bind_eq_some_iff] at e
    obtain ⟨ps, e1, e2⟩ := e
    split at e2
    · cases e2
      obtain ⟨v, rfl, hv⟩ := h.one
      obtain ⟨a, vs, rfl, t1, t2, t3⟩ := Rep.tupN hv.tupR
      obtain ⟨qs, kvs, rfl, h1, h2, h3⟩ := pairDs_ok t3 e1
      obtain ⟨m1, m2⟩ := merge_ok2 h2 h3
      exact .inr ⟨a, qs, kvs, rfl, t1, t2, h1, fun p hp => q p _ hp True.intro (.dic m1 m2)⟩
    · cases e2
  · cases e⟩
theorem n_dict (hc : X.calm = true) (hm : X.mg "dict" = none) (ha : DA X Z [a] f) (hg : Gl X "dict" := by rfl) (he : starEach [a] X.env = (false, eval a X.env) :: starEach [] X.env := by rfl) (hpl : (backTo pos (starEach [] X.env)).any (·.1) = false := by rfl) : DN X Z (.Call (.Name "dict" p1) [a] [] pos) (nN gDict f) :=
  let ⟨_, h1, h2⟩ := o_dict hc
  n_ty h1 h2 hm (by decide +kernel) ha hg (by decide) (by decide) he hpl
/-! ### dicts of flat values are compared -/
def flK : List (Key × D) → Option (List (Key × V))
  | [] => some []
  | (k, d) :: r => (flD d).bind fun v => (flK r).map ((k, v) :: ·)
def eqKV (kb : List (Key × V)) : List (Key × V) → Bool
  | [] => true
  | (k, v) :: r => match valV kb k with
    | none => false
    | some y => eqV v y && eqKV kb r
theorem flK_ok {G : Pm} {W : Addr → Prop} {H : Hp} : ∀ {kvs : List (Key × V)} {kds : List (Key × D)} {fs : List (Key × V)}, kvs.map (·.1) = kds.map (·.1) → Reps G W H (kvs.map (·.2)) (kds.map (·.2)) → flK kds = some fs → kvs = fs ∧ ∀ p ∈ kvs, flatV p.2 = true
  | [], [], _, _, _, e => by cases e; exact ⟨rfl, fun p h => by simp at h⟩
  | [], _ :: _, _, h, _, _ => by simp at h
  | _ :: _, [], _, h, _, _ => by simp at h
  | (k, v) :: r, (k', d) :: t, fs, h, c, e => by
    simp only [List.map_cons, List.cons.injEq] at h
    simp only [List.map_cons] at c
    simp only [flK, Option.bind_eq_some_iff, Option.map_eq_some_iff] at e
    obtain ⟨y, e1, m, e2, rfl⟩ := e
    cases c with
    | cons c1 c2 =>
      obtain ⟨rfl, f1⟩ := RepP.fl (.rep c1) e1
      obtain ⟨rfl, f2⟩ := flK_ok h.2 c2 e2
      obtain ⟨rfl, _⟩ := h
      refine ⟨rfl, fun p hp => ?_⟩
      rcases List.mem_cons.mp hp with rfl | hp
      · exact f1
      · exact f2 p hp
theorem valV_mem {kvs : List (Key × V)} {k : Key} {v : V} (h : valV kvs k = some v) : ∃ p ∈ kvs, p.2 = v := by
  unfold valV at h
  simp only [Option.map_eq_some_iff] at h
  obtain ⟨p, h1, rfl⟩ := h
  exact ⟨p, List.mem_of_find?_eq_some h1, rfl⟩
theorem hits_ok {A : Around} {s : Shared} {kb : List (Key × V)} {vb : List (Key × Value)} (rb : KV kb vb) (fb : ∀ p ∈ kb, flatV p.2 = true) : ∀ {ka : List (Key × V)} {va : List (Key × Value)}, KV ka va → (∀ p ∈ ka, flatV p.2 = true) → PySem.W.KeqHits A s vb va (eqKV kb ka)
  | _, _, .nil, _ => .nil
  | _, _, .cons (a := p) (b := q) h t, f => by
    obtain ⟨k, v⟩ := p
    obtain ⟨k', u⟩ := q
    obtain ⟨h1, h2⟩ := h
    simp only at h1 h2
    subst h1
    have ih := hits_ok (A := A) (s := s) rb fb t fun p hp => f p (List.mem_cons_of_mem _ hp)
    rw [eqKV]
    cases e : valV kb k with
    | none => exact .miss (RelO.none_of (by rw [← e]; exact rb.val k))
    | some y =>
      obtain ⟨w', hw, rw'⟩ := RelO.some_of (v := y) (o := valueAt vb k) (by rw [← e]; exact rb.val k)
      obtain ⟨p2, hp2, ep⟩ := valV_mem e
      exact .hit hw (eqAt_V h2 rw' (f _ List.mem_cons_self) (by rw [← ep]; exact fb _ hp2)) ih
def rNeK : R2 := fun x y H Q => ∃ (a b : Addr) (ka kb : List (Key × V)), x = .ref a ∧ y = .ref b ∧ Rd H a (.dK ka) ∧ Rd H b (.dK kb) ∧ (∀ p ∈ ka, flatV p.2 = true) ∧ (∀ p ∈ kb, flatV p.2 = true) ∧ Q (.bl (!(ka.length == kb.length && eqKV kb ka))) H
theorem op_neK (hu : X.A.units < cLine) : OpR X (compareOp .NotEq) rNeK := by
  intro pins s σ H x y v u Q I rx ry h
  obtain ⟨a, b, ka, kb, rfl, rfl, h1, h2, f1, f2, q⟩ := h
  cases rx
  cases ry
  obtain ⟨z1, l1, va, r1, d1⟩ := dk_rd I.hok h1
  obtain ⟨z2, l2, vb, r2, d2⟩ := dk_rd I.hok h2
  refine PySem.W.keq_ne l1 l2 d1 d2 hu (fun _ => hits_ok r2 f2 r1 f1) ?_
  rw [← r1.length, ← r2.length]
  exact ⟨.bl _, H, I, rfl, q⟩
def gNeK (a b : D) : Option D := match a with
  | .dic p => match b with
    | .dic q => (flK p).bind fun x => (flK q).map fun y => .bl (!(x.length == y.length && eqKV y x))
    | _ => none
  | _ => none
theorem o_neK : Op2 X rNeK gNeK := fun {W H x y a b d Q} dom ha hb e q => by
  unfold gNeK at e
  cases a with
  | dic p =>
    cases b with
    | dic p2 =>
      simp only [Option.bind_eq_some_iff, Option.map_eq_some_iff] at e
      obtain ⟨m1, e1, m2, e2, rfl⟩ := e
      obtain ⟨a1, k1, rfl, s1, hk1, r1⟩ := ha.dic
      obtain ⟨a2, k2, rfl, s2, hk2, r2⟩ := hb.dic
      obtain ⟨rfl, f1⟩ := flK_ok hk1 r1 e1
      obtain ⟨rfl, f2⟩ := flK_ok hk2 r2 e2
      exact ⟨_, _, _, _, rfl, rfl, s1, s2, f1, f2, q _ H (Same.refl _) (.bl _)⟩
    | _ => cases e
  | _ => cases e
theorem e_neK (hu : X.A.units < cLine) (ha : DE X Z a fa) (hb : DE X Z b fb) (hm : behindInMarks .NotEq b = false := by with_unfolding_all rfl) : DE X Z (.Compare a [.NotEq] [b] pos) (c2 gNeK fa fb) := d_cmp (op_neK hu) o_neK ha hb hm
theorem t_neK (hu : X.A.units < cLine) (ha : DE X Z a fa) (hb : DE X Z b fb) (hm : behindInMarks .NotEq b = false := by with_unfolding_all rfl) : DT X Z (.Compare a [.NotEq] [b] pos) (cB (c2 gNeK fa fb)) := t_cmp (op_neK hu) o_neK ha hb hm
/-! ### reversed -/
theorem walks_rev {B : Bs} {as : List (Option Addr)} {a : Addr} {vs : List V} {ds : List D} (h : Rd H a (.lst vs)) (w : ¬ B.W as a) (r : Reps X.G (B.W as) H vs ds) : Walks X B as H (Itv X.K a vs.length) ds.reverse := by
  intro A H2 _ g
  have h2 : SqL X.K H2 a vs := .inl (Rd.stp h g.stp w).1
  have r2 := r.go g
  have hl := r2.length
  refine ⟨by show vs.length ≤ _; rw [List.length_reverse, hl]; exact Nat.le_refl _, fun i d e => ?_⟩
  have hi : i < ds.length := by simpa using lt_of_get e
  rw [List.getElem?_reverse hi] at e
  obtain ⟨v, e1, r3⟩ := r2.get e
  refine ⟨⟨by omega, vs, v, h2, by rw [hl]; exact e1⟩, fun x H3 y => ?_⟩
  obtain ⟨rfl, y⟩ := y
  have := y vs h2
  rw [hl, e1] at this; cases this
  exact ⟨Same.refl _, r3⟩
theorem walks_revT {B : Bs} {as : List (Option Addr)} {a : Addr} {vs : List V} {ds : List D} (h : SqT X.K H a vs) (w : (∃ o, H a = some o) → ¬ B.W as a) (r : Reps X.G (B.W as) H vs ds) (kk : (∃ o, Rd H a o ∧ ¬ B.W as a) ∨ ∀ H', SqT X.K H' a vs) : Walks X B as H (RT.ItvT X.K a vs.length) ds.reverse := by
  intro A H2 _ g
  have h2 : SqT X.K H2 a vs := by
    rcases kk with ⟨o, ho, hw⟩ | hk
    · rcases h with h | h
      · exact .inl (Rd.stp h g.stp hw).1
      · exact .inr h
    · exact hk H2
  have r2 := r.go g
  have hl := r2.length
  refine ⟨by show vs.length ≤ _; rw [List.length_reverse, hl]; exact Nat.le_refl _, fun i d e => ?_⟩
  have hi : i < ds.length := by simpa using lt_of_get e
  rw [List.getElem?_reverse hi] at e
  obtain ⟨v, e1, r3⟩ := r2.get e
  refine ⟨⟨by omega, vs, v, h2, by rw [hl]; exact e1⟩, fun x H3 y => ?_⟩
  obtain ⟨rfl, y⟩ := y
  have := y vs h2
  rw [hl, e1] at this; cases this
  exact ⟨Same.refl _, r3⟩
def iRv (f : En → Out Pv) : En → Out (List D) := fun ρ => (f ρ).bind fun p ρ1 => match p with
  | .v (.lst ds) => .ok ds.reverse ρ1
  | .v (.tup ds) => .ok ds.reverse ρ1
  | _ => .bad
theorem i_rev {tg : Expr} (h : DE X Z e fa) (hg : Gl X "reversed") (hm : X.mg "reversed" = none) (hs : starEach [e] X.env = (false, eval e X.env) :: starEach [] X.env := by rfl) : DI X Z tg (.Call (.Name "reversed" p1) [e] [] pos) (iRv fa) := by
  obtain ⟨_, p, s⟩ := h
  refine ⟨_, RT.pi_revA hg hm p hs, ⟨fun {B as σ H ρ R'} R q => s.go R (q.bind.imp fun p ρ1 H1 R1 g1 q1 v k1 => ?_)⟩⟩
  cases k1 with
  | @v v d k =>
    cases d with
    | lst ds =>
      cases k with
      | ref h w c =>
        cases c with
        | lst r => exact ⟨_, _, rfl, .inl ⟨.inl h, q1 H1 R1 .refl _ H1 (Same.refl _) (walks_rev h w r)⟩⟩
    | tup ds =>
      cases k with
      | ref h w c =>
        cases c with
        | tup r => exact ⟨_, _, rfl, .inr ⟨.inl h, q1 H1 R1 .refl _ H1 (Same.refl _) (walks_revT (.inl h) (fun _ => w) r (.inl ⟨_, h, w⟩))⟩⟩
      | @tupK a vs ds h r => exact ⟨_, _, rfl, .inr ⟨h.sq, q1 H1 R1 .refl _ H1 (Same.refl _) (fun A H2 _ g => by
          have r2 := r.go g
          have hl := r2.length
          have h2 : SqT X.K H2 a vs := h.sq
          refine ⟨by show vs.length ≤ _; rw [List.length_reverse, hl]; exact Nat.le_refl _, fun i d e => ?_⟩
          have hi : i < ds.length := by simpa using lt_of_get e
          rw [List.getElem?_reverse hi] at e
          obtain ⟨v, e1, r3⟩ := r2.get e
          refine ⟨⟨by omega, vs, v, h2, by rw [hl]; exact e1⟩, fun x H3 y => ?_⟩
          obtain ⟨rfl, y⟩ := y
          have := y vs h2
          rw [hl, e1] at this; cases this
          exact ⟨Same.refl _, r3⟩)⟩⟩
    | _ => exact q1.elim
  | b => exact q1.elim
end
end L3
namespace L3
open PySem PySem.Spec PyProof.Rows L2
/-! ### dict(zip(a list, a tuple)) -/
section
variable {prog : Program} {w : World} {A : Around} {E : Value → Shared → Prop} {s : Shared} {z TI TO T i1 i2 : Addr} {fp1 fp2 : List Addr} {n1 n2 i : Nat} {P1 P2 : Nat → Value → Prop} {St1 St2 : Nat → Heap → Prop} {f : Bool} {oT : Obj}
theorem zipG_item_held {Q : Value → Shared → Prop} (S : ZipSep2 z TI TO i1 i2 fp1 fp2) (D1 : Draws prog w A i1 fp1 n1 P1 St1) (D2 : Draws prog w A i2 fp2 n2 P2 St2)
    (hz : IsZipHeld s.heap z TI TO T f) (hT : s.heap.get? T = some oT) (hTI : IsPair s.heap TI (.ref i1) (.ref i2)) (st1 : St1 i s.heap) (st2 : St2 i s.heap) (hlt1 : i < n1) (hlt2 : i < n2)
    (hQ : ∀ x y h' tk, P1 i x → P2 i y → IsZipHeld h' z TI TO T true → St1 (i + 1) h' → St2 (i + 1) h' → IsPair h' s.heap.objs.size x y →
      (∀ c o, c ≠ z → c ≠ i1 → c ≠ i2 → s.heap.get? c = some o → h'.get? c = some o) → Q (.ref s.heap.objs.size) { s with heap := h', toks := tk }) :
    wpAny (model prog w) A (Builtin.«zip.__next__» ⟨[.ref z], []⟩) (fun fin s' => ∃ v, fin = .done (.ret v) ∧ Q v s') E s := by
  obtain ⟨hp, g, d, tk0, os⟩ := s
  show wpAny _ _ (field (.ref z) 2 >>= _) _ _ _
  refine wpAny_bind (wpAny_field hz rfl (x := .bool false) rfl ?_)
  show wpAny _ _ (field (.ref z) 3 >>= _) _ _ _
  refine wpAny_bind (wpAny_field hz rfl (x := .ref TI) rfl ?_)
  refine wpAny_bind (wpAny_seqItems hTI rfl ?_)
  show wpAny _ _ (Builtin.SmallTypes.ownedTupleIsFree (.ref z) >>= _) _ _ _
  refine wpAny_bind (wpAny_tupleHeld_zip hz hT fun h₁ hz₁ hs₁ => ?_)
  replace hs₁ : Heap.SameBut z hp h₁ := hs₁
  simp only [Bool.false_eq_true, if_false]
  refine wpAny_bind ?_
  rw [← Array.forIn_toList]
  simp only [List.forIn_cons, List.forIn_nil]
  refine wpAny_bind (wpAny_bind (wpAny_holding ?_))
  show wpAny _ _ (Builtin.SmallTypes.nextOf (.ref i1) >>= _) _ _ ⟨h₁, g, d, tk0, os⟩
  refine wpAny_bind (D1.item i _ _ _ hlt1 (D1.over st1 hs₁ S.zf1) fun x h₂ tk1 hx sn1 hs₂ => wpAny_pure ?_)
  replace hs₂ : Heap.SameBut i1 h₁ h₂ := hs₂
  refine wpAny_pure ?_
  refine wpAny_bind (wpAny_bind (wpAny_holding ?_))
  show wpAny _ _ (Builtin.SmallTypes.nextOf (.ref i2) >>= _) _ _ ⟨h₂, g, d, tk1, os⟩
  refine wpAny_bind (D2.item i _ _ _ hlt2 (D2.over (D2.over st2 hs₁ S.zf2) hs₂ S.sep1_2) fun y h₃ tk2 hy sn2 hs₃ => wpAny_pure ?_)
  replace hs₃ : Heap.SameBut i2 h₂ h₃ := hs₃
  refine wpAny_pure (wpAny_pure ?_)
  show wpAny _ _ (newTuple [x, y] >>= _) _ _ _
  refine wpAny_bind (wpAny_newTuple ?_)
  have hsz : h₃.objs.size = hp.objs.size := by rw [hs₃.1, hs₂.1, hs₁.1]
  have hz₃ : IsZipHeld h₃ z TI TO T true := hs₃.extBut _ _ S.zi2 (hs₂.extBut _ _ S.zi1 hz₁)
  have hk : ∀ c o, c ≠ z → c ≠ i1 → c ≠ i2 → hp.get? c = some o → h₃.get? c = some o := fun c o c1 c2 c3 e => hs₃.extBut _ _ c3 (hs₂.extBut _ _ c2 (hs₁.extBut _ _ c1 e))
  have j1 : St1 (i + 1) h₃ := D1.over sn1 hs₃ S.sep2_1
  refine wpAny_pure ⟨_, rfl, ?_⟩
  show Q (.ref h₃.objs.size) _
  have hp' : IsPair (h₃.push { cls := .type "tuple", data := .seq #[x, y] }) h₃.objs.size x y := Heap.get?_push_size _ rfl
  rw [hsz] at hp' ⊢
  have pk : ∀ {h : Heap} (o : Obj), ∀ b ∈ fp1 ++ fp2, ∀ o', h.get? b = some o' → (h.push o).get? b = some o' := fun o b _ o' e => Heap.get?_push_of_some _ e
  exact hQ x y _ tk2 hx hy (Heap.get?_push_of_some _ hz₃) (D1.frame _ _ _ j1 fun b _ o e => Heap.get?_push_of_some _ e) (D2.frame _ _ _ sn2 fun b _ o e => Heap.get?_push_of_some _ e) hp' fun c o c1 c2 c3 e => Heap.get?_push_of_some _ (hk c o c1 c2 c3 e)
theorem zipG_end_held {Q : Fin → Shared → Prop} (S : ZipSep2 z TI TO i1 i2 fp1 fp2) (D1 : Draws prog w A i1 fp1 n1 P1 St1) (D2 : Draws prog w A i2 fp2 n2 P2 St2)
    (hz : IsZipHeld s.heap z TI TO T f) (hT : s.heap.get? T = some oT) (hTI : IsPair s.heap TI (.ref i1) (.ref i2)) (st1 : St1 i s.heap) (st2 : St2 i s.heap) (hle1 : i ≤ n1) (hle2 : i ≤ n2) (hend : i = n1 ∨ i = n2)
    (hE : ∀ h' tk e, (∀ c o, c ≠ z → c ≠ i1 → c ≠ i2 → s.heap.get? c = some o → h'.get? c = some o) → (∃ o, h'.get? e = some o ∧ o.cls = .type "StopIteration") → E (.ref e) { s with heap := h', toks := tk }) :
    wpAny (model prog w) A (Builtin.«zip.__next__» ⟨[.ref z], []⟩) Q E s := by
  obtain ⟨hp, g, d, tk0, os⟩ := s
  show wpAny _ _ (field (.ref z) 2 >>= _) _ _ _
  refine wpAny_bind (wpAny_field hz rfl (x := .bool false) rfl ?_)
  show wpAny _ _ (field (.ref z) 3 >>= _) _ _ _
  refine wpAny_bind (wpAny_field hz rfl (x := .ref TI) rfl ?_)
  refine wpAny_bind (wpAny_seqItems hTI rfl ?_)
  show wpAny _ _ (Builtin.SmallTypes.ownedTupleIsFree (.ref z) >>= _) _ _ _
  refine wpAny_bind (wpAny_tupleHeld_zip hz hT fun h₁ hz₁ hs₁ => ?_)
  replace hs₁ : Heap.SameBut z hp h₁ := hs₁
  simp only [Bool.false_eq_true, if_false]
  refine wpAny_bind ?_
  rw [← Array.forIn_toList]
  simp only [List.forIn_cons, List.forIn_nil]
  refine wpAny_bind (wpAny_bind (wpAny_holding ?_))
  show wpAny _ _ (Builtin.SmallTypes.nextOf (.ref i1) >>= _) _ _ ⟨h₁, g, d, tk0, os⟩
  by_cases h1 : i = n1
  · subst h1
    refine wpAny_bind (D1.done ⟨h₁, g, d, tk0, os⟩ _ _ (D1.over st1 hs₁ S.zf1) fun h₂ e hs₂ he => ?_)
    replace hs₂ : Heap.ExtBut i1 h₁ h₂ := hs₂
    exact hE h₂ tk0 e (fun c o c1 c2 _ x => hs₂ _ _ c2 (hs₁.extBut _ _ c1 x)) he
  · have h2 : i = n2 := hend.resolve_left h1
    subst h2
    refine wpAny_bind (D1.item i _ _ _ (by omega) (D1.over st1 hs₁ S.zf1) fun x h₂ tk1 hx sn1 hs₂ => wpAny_pure ?_)
    replace hs₂ : Heap.SameBut i1 h₁ h₂ := hs₂
    refine wpAny_pure ?_
    refine wpAny_bind (wpAny_bind (wpAny_holding ?_))
    show wpAny _ _ (Builtin.SmallTypes.nextOf (.ref i2) >>= _) _ _ ⟨h₂, g, d, tk1, os⟩
    refine wpAny_bind (D2.done ⟨h₂, g, d, tk1, os⟩ _ _ (D2.over (D2.over st2 hs₁ S.zf2) hs₂ S.sep1_2) fun h₃ e hs₃ he => ?_)
    replace hs₃ : Heap.ExtBut i2 h₂ h₃ := hs₃
    exact hE h₃ tk1 e (fun c o c1 c2 c3 x => hs₃ _ _ c3 (hs₂.extBut _ _ c2 (hs₁.extBut _ _ c1 x))) he
theorem pyNext_zipG_item {Q : Option Value → Shared → Prop} (S : ZipSep2 z TI TO i1 i2 fp1 fp2) (D1 : Draws prog w A.in1 i1 fp1 n1 P1 St1) (D2 : Draws prog w A.in1 i2 fp2 n2 P2 St2)
    (hz : IsZipHeld s.heap z TI TO T f) (hT : s.heap.get? T = some oT) (hTI : IsPair s.heap TI (.ref i1) (.ref i2)) (st1 : St1 i s.heap) (st2 : St2 i s.heap) (hlt1 : i < n1) (hlt2 : i < n2)
    (hQ : ∀ x y h' tk, P1 i x → P2 i y → IsZipHeld h' z TI TO T true → St1 (i + 1) h' → St2 (i + 1) h' → IsPair h' s.heap.objs.size x y →
      (∀ c o, c ≠ z → c ≠ i1 → c ≠ i2 → s.heap.get? c = some o → h'.get? c = some o) → Q (some (.ref s.heap.objs.size)) { s with heap := h', toks := tk }) :
    wpAny (model prog w) A (pyNext (.ref z)) Q E s := by
  have hTy : s.TypeIs (.ref z) "zip" := ⟨_, hz, rfl⟩
  unfold pyNext
  exact wpAny_bind (wpAny_attempt (wpAny_callSpecial?_slot (name := Str.ofString "__next__") hTy PySem.F.slot_zip_next
    (wpAny_call_entry PySem.F.slot_zip_next hTy PySem.F.entry_zip_next
      (zipG_item_held S D1 D2 hz hT hTI st1 st2 hlt1 hlt2 fun x y h' tk b1 b2 b3 b4 b5 b6 b7 => wpAny_pure (hQ x y h' tk b1 b2 b3 b4 b5 b6 b7)) (PySem.F.args_zip_next_1 _))))
theorem pyNext_zipG_end {Q : Option Value → Shared → Prop} (S : ZipSep2 z TI TO i1 i2 fp1 fp2) (D1 : Draws prog w A.in1 i1 fp1 n1 P1 St1) (D2 : Draws prog w A.in1 i2 fp2 n2 P2 St2)
    (hz : IsZipHeld s.heap z TI TO T f) (hT : s.heap.get? T = some oT) (hTI : IsPair s.heap TI (.ref i1) (.ref i2)) (st1 : St1 i s.heap) (st2 : St2 i s.heap) (hle1 : i ≤ n1) (hle2 : i ≤ n2) (hend : i = n1 ∨ i = n2)
    (hQ : ∀ h' tk, (∀ c o, c ≠ z → c ≠ i1 → c ≠ i2 → s.heap.get? c = some o → h'.get? c = some o) → Q none { s with heap := h', toks := tk }) : wpAny (model prog w) A (pyNext (.ref z)) Q E s := by
  have hTy : s.TypeIs (.ref z) "zip" := ⟨_, hz, rfl⟩
  unfold pyNext
  refine wpAny_bind (wpAny_attempt (wpAny_callSpecial?_slot (name := Str.ofString "__next__") hTy PySem.F.slot_zip_next
    (wpAny_call_entry PySem.F.slot_zip_next hTy PySem.F.entry_zip_next (zipG_end_held S D1 D2 hz hT hTI st1 st2 hle1 hle2 hend fun h' tk e hk he => ?_) (PySem.F.args_zip_next_1 _))))
  obtain ⟨o, ho, hc⟩ := he
  refine wpAny_bind (wpAny_isInstance (T := "StopIteration") (b := true) ⟨o, ho, hc⟩ isSubtype_stop ?_)
  exact wpAny_pure (hQ _ _ hk)
end
theorem sep_of {z TI TO i1 i2 l1 l2 : Addr} (D : ZipApart z TI TO i1 i2 l1 l2) : ZipSep2 z TI TO i1 i2 [i1, l1] [i2, l2] where
  TIz := D.TIz
  TOz := D.TOz
  TITO := D.TITO
  TIi1 := D.TIi1
  mem1 := by simp
  zf1 := by
    simp only [List.mem_cons, List.not_mem_nil, or_false, not_or]
    exact ⟨D.i1z.symm, D.l1z.symm⟩
  Tf1 := by
    simp only [List.mem_cons, List.not_mem_nil, or_false, not_or]
    exact ⟨D.TOi1, D.l1TO.symm⟩
  TIi2 := D.TIi2
  mem2 := by simp
  zf2 := by
    simp only [List.mem_cons, List.not_mem_nil, or_false, not_or]
    exact ⟨D.i2z.symm, D.l2z.symm⟩
  Tf2 := by
    simp only [List.mem_cons, List.not_mem_nil, or_false, not_or]
    exact ⟨D.TOi2, D.l2TO.symm⟩
  sep1_2 := by
    simp only [List.mem_cons, List.not_mem_nil, or_false, not_or]
    exact ⟨D.i12, D.l2i1.symm⟩
  sep2_1 := by
    simp only [List.mem_cons, List.not_mem_nil, or_false, not_or]
    exact ⟨D.i12.symm, D.l1i2.symm⟩
theorem argZ {prog : Program} {w : World} (z TI TO i1 i2 l1 l2 : Addr) (D : ZipApart z TI TO i1 i2 l1 l2) (xs ys : Array Value) :
    PairArg prog w "zip" z [z, TI, TO, i1, i2, l1, l2] [z, TO, i1, i2] (min xs.size ys.size) (fun i k v => xs[i]? = some k ∧ ys[i]? = some v)
      (fun h => IsZip h z TI TO .none ∧ IsPair h TI (.ref i1) (.ref i2) ∧ (∃ a b, IsPair h TO a b) ∧ h.IsListIter i1 l1 0 ∧ h.IsTupleIter i2 l2 0 ∧ h.IsList l1 xs ∧ h.IsTuple l2 ys) where
  type := fun s ok => ⟨_, ok.1, rfl⟩
  notDict := by decide
  keep := fun h h' ok hk => by
    obtain ⟨hz, hTI, ⟨a, b, hTO⟩, h1, h2, hl1, hl2⟩ := ok
    exact ⟨hk _ _ hz, hk _ _ hTI, ⟨a, b, hk _ _ hTO⟩, h1.at fun o e => hk _ o e, h2.at fun o e => hk _ o e, hl1.at fun o e => hk _ o e, hl2.at fun o e => hk _ o e⟩
  there := fun h ok b hb => by
    obtain ⟨hz, hTI, ⟨a, c, hTO⟩, ⟨o1, h1, _⟩, ⟨o2, h2, _⟩, ⟨o3, hl1, _⟩, ⟨o4, hl2, _⟩⟩ := ok
    simp only [List.mem_cons, List.not_mem_nil, or_false] at hb
    rcases hb with rfl | rfl | rfl | rfl | rfl | rfl | rfl
    all_goals first | exact ⟨_, hz⟩ | exact ⟨_, hTI⟩ | exact ⟨_, hTO⟩ | exact ⟨_, h1⟩ | exact ⟨_, h2⟩ | exact ⟨_, hl1⟩ | exact ⟨_, hl2⟩
  sub := fun b hb => by simp at hb ⊢; rcases hb with rfl | rfl | rfl | rfl <;> simp
  noKeys := fun A s Q E hA ok h => getAttrOr_miss_zip ok.1 rfl rfl rfl zip_no_keys (by decide +kernel) hA h
  iter := fun A s d Q E hA ok hd hdf h => by
    obtain ⟨hz, hTI, ⟨a, b, hTO⟩, h1, h2, hl1, hl2⟩ := ok
    simp only [List.mem_cons, List.not_mem_nil, or_false, not_or] at hdf
    obtain ⟨dz, dTI, dTO, di1, di2, dl1, dl2⟩ := hdf
    have D1 : ∀ {A : Around}, A.handled = none → Draws prog w A i1 [i1, l1] xs.size (fun i v => xs[i]? = some v) (fun i h => h.IsListIter i1 l1 i ∧ h.IsList l1 xs) := fun hA => Draws.list hA i1 l1 D.l1i1 xs
    have D2 : ∀ {A : Around}, A.handled = none → Draws prog w A i2 [i2, l2] ys.size (fun i v => ys[i]? = some v) (fun i h => h.IsTupleIter i2 l2 i ∧ h.IsTuple l2 ys) := fun hA => Draws.tuple hA i2 l2 D.l2i2 ys
    have S := sep_of D
    refine wpAny_pyIter_zip hz (h z [z, TO, i1, i2] (fun i h => IsPair h TI (.ref i1) (.ref i2) ∧ (h.IsListIter i1 l1 i ∧ h.IsList l1 xs) ∧ (h.IsTupleIter i2 l2 i ∧ h.IsTuple l2 ys) ∧
      ((IsZip h z TI TO .none ∧ ∃ a b, IsPair h TO a b) ∨ ∃ T f oT, IsZipHeld h z TI TO T f ∧ h.get? T = some oT ∧ T ≠ z ∧ T ≠ i1 ∧ T ≠ i2 ∧ T ≠ d)) s.heap s.toks ?_
      ⟨hTI, ⟨h1, hl1⟩, ⟨h2, hl2⟩, .inl ⟨hz, a, b, hTO⟩⟩ (fun _ _ e => e) fun b hb => .inl hb)
    exact {
      off := fun hm => by
        simp only [List.mem_cons, List.not_mem_nil, or_false] at hm
        rcases hm with e | e | e | e
        · exact dz e
        · exact dTO e
        · exact di1 e
        · exact di2 e
      frame := fun i h₁ h₂ st hk => by
        obtain ⟨hTI, ⟨h1, hl1⟩, ⟨h2, hl2⟩, hz⟩ := st
        refine ⟨hk _ _ (Ne.symm dTI) hTI, ⟨h1.at fun o e => hk _ o (Ne.symm di1) e, hl1.at fun o e => hk _ o (Ne.symm dl1) e⟩, ⟨h2.at fun o e => hk _ o (Ne.symm di2) e, hl2.at fun o e => hk _ o (Ne.symm dl2) e⟩, ?_⟩
        rcases hz with ⟨hz, a, b, hTO⟩ | ⟨T, f, oT, hz, hT, r1, r2, r3, r4⟩
        · exact .inl ⟨hk _ _ (Ne.symm dz) hz, a, b, hk _ _ (Ne.symm dTO) hTO⟩
        · exact .inr ⟨T, f, oT, hk _ _ (Ne.symm dz) hz, hk _ _ r4 hT, r1, r2, r3, r4⟩
      item := fun i s₁ Q₁ E₁ hi st hds hQ => by
        obtain ⟨hTI, h1, h2, hz⟩ := st
        have hix : i < xs.size := Nat.lt_of_lt_of_le hi (Nat.min_le_left ..)
        have hiy : i < ys.size := Nat.lt_of_lt_of_le hi (Nat.min_le_right ..)
        have lt : ∀ {c o}, s₁.heap.get? c = some o → s₁.heap.objs.size ≠ c := fun e => Nat.ne_of_gt (Heap.lt_size e)
        have n1 : s₁.heap.objs.size ≠ i1 := let ⟨⟨_, e, _⟩, _⟩ := h1; lt e
        have n2 : s₁.heap.objs.size ≠ i2 := let ⟨⟨_, e, _⟩, _⟩ := h2; lt e
        rcases hz with ⟨hz, a, b, hTO⟩ | ⟨T, f, oT, hz, hT, r1, r2, r3, r4⟩
        · refine wpAny_pyNext_zipD2_item S (D1 (A := A.in1) hA) (D2 (A := A.in1) hA) hz hTI hTO h1 h2 hix hiy fun x1 x2 h' tk y1 y2 a1 a2 a3 a4 a5 a6 hk => ?_
          exact hQ s₁.heap.objs.size _ _ h' tk ⟨y1, y2⟩ (.inl ⟨_, a5, rfl, _, rfl⟩)
            ⟨hk _ _ D.TIz D.TITO D.TIi1 D.TIi2 hTI, a3, a4, .inr ⟨s₁.heap.objs.size, false, _, a1, a5, lt hz, n1, n2, Nat.ne_of_gt hds⟩⟩
            fun c o hc e => hk c o (fun x => hc (by simp [x])) (fun x => hc (by simp [x])) (fun x => hc (by simp [x])) (fun x => hc (by simp [x])) e
        · refine pyNext_zipG_item S (D1 (A := A.in1) hA) (D2 (A := A.in1) hA) hz hT hTI h1 h2 hix hiy fun x1 x2 h' tk y1 y2 a1 a3 a4 a5 hk => ?_
          exact hQ s₁.heap.objs.size _ _ h' tk ⟨y1, y2⟩ (.inl ⟨_, a5, rfl, _, rfl⟩)
            ⟨hk _ _ D.TIz D.TIi1 D.TIi2 hTI, a3, a4, .inr ⟨T, true, oT, a1, hk _ _ r1 r2 r3 hT, r1, r2, r3, r4⟩⟩
            fun c o hc e => hk c o (fun x => hc (by simp [x])) (fun x => hc (by simp [x])) (fun x => hc (by simp [x])) e
      done := fun s₁ Q₁ E₁ st hQ => by
        obtain ⟨hTI, h1, h2, hz⟩ := st
        have hend : min xs.size ys.size = xs.size ∨ min xs.size ys.size = ys.size := by omega
        rcases hz with ⟨hz, a, b, hTO⟩ | ⟨T, f, oT, hz, hT, r1, r2, r3, r4⟩
        · exact wpAny_pyNext_zipD2_end S (D1 (A := A.in1) hA) (D2 (A := A.in1) hA) hz hTI hTO h1 h2 (Nat.min_le_left ..) (Nat.min_le_right ..) hend fun h' tk hk => hQ h' tk fun c o hc e => hk c o (fun x => hc (by simp [x])) (fun x => hc (by simp [x])) (fun x => hc (by simp [x])) (fun x => hc (by simp [x])) e
        · exact pyNext_zipG_end S (D1 (A := A.in1) hA) (D2 (A := A.in1) hA) hz hT hTI h1 h2 (Nat.min_le_left ..) (Nat.min_le_right ..) hend fun h' tk hk => hQ h' tk fun c o hc e => hk c o (fun x => hc (by simp [x])) (fun x => hc (by simp [x])) (fun x => hc (by simp [x])) e }
abbrev zM1 (h : Heap) (l1 : Addr) : Heap := h.push { cls := .type "list_iterator", data := .fields #[.ref l1, .int 0 0] }
abbrev zM2 (h : Heap) (l1 l2 : Addr) : Heap := (zM1 h l1).push { cls := .type "tuple_iterator", data := .fields #[.ref l2, .int 0 0] }
abbrev zM3 (h : Heap) (l1 l2 : Addr) : Heap := (zM2 h l1 l2).push { cls := .type "tuple", data := .seq #[.ref h.objs.size, .ref (zM1 h l1).objs.size] }
abbrev zM4 (h : Heap) (l1 l2 : Addr) : Heap := (zM3 h l1 l2).push { cls := .type "tuple", data := .seq #[.none, .none] }
abbrev zM5 (h : Heap) (l1 l2 : Addr) : Heap := (zM4 h l1 l2).push { cls := .type "zip", data := .fields #[.none, .bool false, .bool false, .ref (zM2 h l1 l2).objs.size, .ref (zM3 h l1 l2).objs.size] }
theorem meets_zM (l1 l2 : Addr) (xs ys : Array Value) :
    Meets (Builtin.«zip.__new__» ⟨[.type "zip", .ref l1, .ref l2], []⟩) (fun _ R s => s.heap.IsList l1 xs ∧ s.heap.IsTuple l2 ys ∧
      R (.ok (.ret (.ref (zM4 s.heap l1 l2).objs.size))) { s with heap := zM5 s.heap l1 l2 }) :=
  .of_wp fun prog w A R s h => by
    obtain ⟨hp, g, d, tk, os⟩ := s; obtain ⟨hl1, hl2, h⟩ := h
    have hsub := sub_zip
    have hL1 : Heap.IsList (Shared.heap ⟨hp, g, d, tk, os⟩) l1 xs := hl1
    have hL2 : Heap.IsTuple (Shared.heap ⟨hp.push { cls := .type "list_iterator", data := .fields #[.ref l1, .int 0 0] }, g, d, tk, os⟩) l2 ys := Heap.IsTuple.push hl2 _
    wp_walk using wpAny_pyIter_list hL1, wpAny_pyIter_tuple hL2
    exact ⟨_, rfl, h⟩
theorem call_zM {prog : Program} {w : World} {A : Around} {E : Value → Shared → Prop} {s : Shared} {l1 l2 : Addr} {xs ys : Array Value} {Q : Value → Shared → Prop} (hl1 : s.heap.IsList l1 xs) (hl2 : s.heap.IsTuple l2 ys)
    (h : ∀ h', IsZip h' (s.heap.objs.size + 4) (s.heap.objs.size + 2) (s.heap.objs.size + 3) .none → IsPair h' (s.heap.objs.size + 2) (.ref s.heap.objs.size) (.ref (s.heap.objs.size + 1)) →
      IsPair h' (s.heap.objs.size + 3) .none .none → h'.IsListIter s.heap.objs.size l1 0 → h'.IsTupleIter (s.heap.objs.size + 1) l2 0 → h'.objs.size = s.heap.objs.size + 5 →
      (∀ c o, s.heap.get? c = some o → h'.get? c = some o) → Q (.ref (s.heap.objs.size + 4)) { s with heap := h' }) :
    wpAny (model prog w) A (call (.type "zip") [.ref l1, .ref l2]) Q E s := by
  refine callType_new PySem.F.called_zip (by decide) (PySem.F.typeCall_zip_2 _ _) (PySem.F.newCall_zip_2 _ _) (fun obj => PySem.F.args_object_init_3 obj _ _) PySem.F.entry_zip_new
    (meets_zM l1 l2 xs ys) ⟨hl1, hl2, ?_⟩
  have z1 : (zM1 s.heap l1).objs.size = s.heap.objs.size + 1 := Heap.size_push ..
  have z2 : (zM2 s.heap l1 l2).objs.size = s.heap.objs.size + 2 := by rw [Heap.size_push, z1]
  have z3 : (zM3 s.heap l1 l2).objs.size = s.heap.objs.size + 3 := by rw [Heap.size_push, z2]
  have z4 : (zM4 s.heap l1 l2).objs.size = s.heap.objs.size + 4 := by rw [Heap.size_push, z3]
  have z5 : (zM5 s.heap l1 l2).objs.size = s.heap.objs.size + 5 := by rw [Heap.size_push, z4]
  have g5 : (zM5 s.heap l1 l2).get? (zM4 s.heap l1 l2).objs.size = some _ := Heap.get?_push_size _ rfl
  have g4 : (zM5 s.heap l1 l2).get? (zM3 s.heap l1 l2).objs.size = some _ := Heap.get?_push_of_some _ (Heap.get?_push_size _ rfl)
  have g3 : (zM5 s.heap l1 l2).get? (zM2 s.heap l1 l2).objs.size = some _ := Heap.get?_push_of_some _ (Heap.get?_push_of_some _ (Heap.get?_push_size _ rfl))
  have g2 : (zM5 s.heap l1 l2).get? (zM1 s.heap l1).objs.size = some _ := Heap.get?_push_of_some _ (Heap.get?_push_of_some _ (Heap.get?_push_of_some _ (Heap.get?_push_size _ rfl)))
  have g1 : (zM5 s.heap l1 l2).get? s.heap.objs.size = some _ := Heap.get?_push_of_some _ (Heap.get?_push_of_some _ (Heap.get?_push_of_some _ (Heap.get?_push_of_some _ (Heap.get?_push_size _ rfl))))
  show _ ∧ _
  rw [z2, z3, z4] at g5
  rw [z1, z2] at g3
  rw [z3] at g4
  rw [z1] at g2
  rw [z4]
  exact ⟨⟨_, g5, rfl⟩, h _ g5 g3 g4 ⟨_, g1, rfl, rfl⟩ ⟨_, g2, rfl, rfl⟩ z5 fun c o x =>
    Heap.get?_push_of_some _ (Heap.get?_push_of_some _ (Heap.get?_push_of_some _ (Heap.get?_push_of_some _ (Heap.get?_push_of_some _ x))))⟩
def rDZ (K : PySem.W.Frag) : List V → Hp → VK → Prop := fun vs H Q => ∃ (a b : Addr) (xs : List Str) (ys : List V), vs = [.ref a, .ref b] ∧ SqL K H a (xs.map V.str) ∧ SqT K H b ys ∧ ∀ p, H p = none → Q (.ref p) (upd H p (.dK (mergeK [] ((xs.map Sum.inr).zip ys))))
section
variable {X : Cx} {Z : WXZ} {e e2 : Expr} {p p2 pos pos2 : Pos} {ta : TA} {f : En → Out (List Pv)}
theorem pe_dz (hc : X.calm = true) (hg : Gl X "dict") (hm : X.mg "dict" = none) (hg2 : Gl X "zip") (hm2 : X.mg "zip" = none) (ha : PA X [e, e2] ta)
    (hs : starEach [e, e2] X.env = (false, eval e X.env) :: starEach [e2] X.env := by rfl) (hpl : (backTo pos2 (starEach [e2] X.env)).any (·.1) = false := by rfl)
    (hs2 : starEach [.Call (.Name "zip" p2) [e, e2] [] pos2] X.env = (false, eval (.Call (.Name "zip" p2) [e, e2] [] pos2) X.env) :: starEach [] X.env := by rfl) :
    PE X (.Call (.Name "dict" p) [.Call (.Name "zip" p2) [e, e2] [] pos2] [] pos) (tCB (rDZ X.K) ta) := by
  refine ⟨fun pins s σ H Q I h => ?_⟩
  refine Call_ (ld_blt I hg hm (show bootBuiltins "dict" = some (.type "dict") by decide +kernel) (PyProof.Rows.callWith_type1 (args_cons (Call_ (ld_blt I hg2 hm2 PyProof.Rows.boot_zip (PyProof.Rows.callWith_type1 (thn (ha.run pos2 pins s σ H _ I h) fun us s1 ⟨vs, H1, I1, r1, q1⟩ => ?_) hs hpl))) hs2) hs2 rfl))
  obtain ⟨a, b, xs, ys, ex, hqx, hqy, q⟩ := q1
  subst ex
  cases r1 with
  | cons r rr =>
    cases rr with
    | cons r' rr =>
      cases rr
      cases r
      cases r'
      obtain ⟨its, rv, p1, z1⟩ := I1.list hqx
      obtain ⟨its2, rv2, p2, z2⟩ := I1.tuple hqy
      obtain ⟨o2, ho2, _⟩ := id p2
      refine call_zM p1.isList (show s1.heap.IsTuple b its2.toArray from p2) fun h' hz hTI hTO h1 h2 hsz hk => args_nil ?_
      have ap := PySem.W.ktu_apart s1.heap.objs.size a b p1.lt (Heap.lt_size ho2)
      have hl := rv.length
      have hl2 := rv2.length
      rw [List.length_map] at hl z1
      have kvr : ∀ (xs : List Str) (its : List Value) (ys : List V) (its2 : List Value), Vals (xs.map V.str) its → Vals ys its2 → KV ((xs.map Sum.inr : List Key).zip ys) ((xs.map Sum.inr : List Key).zip its2) := by
        intro xs
        induction xs with
        | nil => intro its ys its2 _ _; exact .nil
        | cons x r ih =>
          intro its ys its2 h1 h2
          cases h1 with
          | cons c1 c2 =>
            cases h2 with
            | nil => exact .nil
            | cons d1 d2 => exact .cons ⟨rfl, d1⟩ (ih _ _ _ c2 d2)
      refine _root_.PySem.call_dict_pairs (knd := mixKind X.prog X.w) (kvs := (xs.map Sum.inr : List Key).zip its2) (argZ _ _ _ _ _ _ _ ap its.toArray its2.toArray) (I1.ok.hd hc) ⟨hz, hTI, ⟨_, _, hTO⟩, h1, h2, p1.isList.at fun o e => hk _ o e, (show s1.heap.IsTuple b its2.toArray from p2).at fun o e => hk _ o e⟩ ⟨?_, fun i key v hkv => ?_⟩ ?_ fun h2' tk hd' k => ?_
      · rw [List.length_zip, List.length_map, List.size_toArray, List.size_toArray, hl]
      · obtain ⟨e1, e2⟩ := hkv
        have e1 : its[i]? = some key := by simpa using e1
        have e2 : its2[i]? = some v := by simpa using e2
        have hi : i < xs.length := by rw [hl]; exact (List.getElem?_eq_some_iff.mp e1).1
        obtain ⟨u, hu, ru⟩ := rv.get (i := i) (x := V.str xs[i]) (by rw [List.getElem?_map, List.getElem?_eq_getElem hi]; rfl)
        rw [e1] at hu
        cases hu
        refine ⟨.inr xs[i], ?_, kV_is (P := X.prog) (w := X.w) (k := .inr xs[i]) ru⟩
        rw [List.getElem?_zip_eq_some]
        exact ⟨by rw [List.getElem?_map, List.getElem?_eq_getElem hi]; rfl, e2⟩
      · rw [List.size_toArray, List.size_toArray]
        exact Nat.le_trans (Nat.min_le_left ..) (by rw [← hl]; exact z1)
      · have hb := I1.big
        have hm : (h'.objs.size == sysModules) = false := beq_eq_false_iff_ne.mpr (Nat.ne_of_gt (show sysModules < h'.objs.size by rw [hsz]; exact Nat.lt_of_lt_of_le hb (Nat.le_add_right _ _)))
        have rel := kvr xs its ys its2 rv rv2
        have hlen : (mergeK [] ((xs.map Sum.inr : List Key).zip ys)).length ≤ sizeLine := by
          refine Nat.le_trans (length_mergeK _ []) ?_
          rw [List.length_nil, Nat.zero_add, List.length_zip, List.length_map]
          exact Nat.le_trans (Nat.min_le_left ..) z1
        have keep : ∀ c o, s1.heap.get? c = some o → h2'.get? c = some o := fun c o ec => k c o (by
          have lc := Heap.lt_size ec
          simp only [List.mem_cons, List.not_mem_nil, or_false, not_or]
          exact ⟨Nat.ne_of_lt (Nat.lt_of_lt_of_le lc (Nat.le_add_right _ _)), Nat.ne_of_lt (Nat.lt_of_lt_of_le lc (Nat.le_add_right _ _)), Nat.ne_of_lt lc, Nat.ne_of_lt (Nat.lt_of_lt_of_le lc (Nat.le_add_right _ _))⟩) (hk c o ec)
        exact ⟨.ref h'.objs.size, upd H1 h'.objs.size (.dK (mergeK [] ((xs.map Sum.inr : List Key).zip ys))), I1.laid (t' := tk) keep (by omega) (show ObjOk X.prog X.w _ _ _ (.dK (mergeK [] ((xs.map Sum.inr : List Key).zip ys))) from ⟨hlen, hm, merged [] ((xs.map Sum.inr : List Key).zip its2), KV.merge rel .nil, hd'⟩), rfl, q _ (I1.hok.fresh (by omega))⟩
def gDZip : List D → Option D
  | [.lst ks, .tup ys] => (asStrs ks).map fun xs => .dic (mergeD [] ((xs.map Sum.inr : List Key).zip ys))
  | _ => none
theorem n_dzip (hc : X.calm = true) (hm : X.mg "dict" = none) (hm2 : X.mg "zip" = none) (ha : DA X Z [e, e2] f) (hg : Gl X "dict" := by rfl) (hg2 : Gl X "zip" := by rfl)
    (hs : starEach [e, e2] X.env = (false, eval e X.env) :: starEach [e2] X.env := by rfl) (hpl : (backTo pos2 (starEach [e2] X.env)).any (·.1) = false := by rfl)
    (hs2 : starEach [.Call (.Name "zip" p2) [e, e2] [] pos2] X.env = (false, eval (.Call (.Name "zip" p2) [e, e2] [] pos2) X.env) :: starEach [] X.env := by rfl) :
    DN X Z (.Call (.Name "dict" p) [.Call (.Name "zip" p2) [e, e2] [] pos2] [] pos) (nN gDZip f) := by
  obtain ⟨_, pa, sa⟩ := ha
  refine ⟨_, pe_dz hc hg hm hg2 hm2 pa hs hpl hs2, dnt_N (fun {W H xs ds d Q} h e q => ?_) sa⟩
  unfold gDZip at e
  split at e
  · simp only [Option.map_eq_some_iff] at e
    obtain ⟨ns, e1, rfl⟩ := e
    obtain ⟨v, v2, rfl, hv, hv2⟩ := h.two
    obtain ⟨a, vs, rfl, s1, r1⟩ := hv.lst
    obtain ⟨b, ys, rfl, s2, r2⟩ := hv2.tup
    rw [asStrs_some e1] at r1
    have := r1.strs
    subst this
    refine ⟨a, b, ns, ys, rfl, .inl s1, s2, fun p hp => q p _ hp True.intro ?_⟩
    have zz : ∀ (ns : List Key) (ys : List V) (es : List D), Reps X.G W H ys es → (ns.zip ys).map (·.1) = (ns.zip es).map (·.1) ∧ Reps X.G W H ((ns.zip ys).map (·.2)) ((ns.zip es).map (·.2)) := by
      intro ns
      induction ns with
      | nil => intro ys es _; exact ⟨rfl, .nil⟩
      | cons n r ih =>
        intro ys es h
        cases h with
        | nil => exact ⟨rfl, .nil⟩
        | cons c1 c2 =>
          obtain ⟨i1, i2⟩ := ih _ _ c2
          refine ⟨?_, .cons c1 i2⟩
          simp only [List.zip_cons_cons, List.map_cons, i1]
    obtain ⟨z1, z2⟩ := zz (ns.map Sum.inr) ys _ r2
    obtain ⟨m1, m2⟩ := merge_ok2 z1 z2
    exact .dic m1 m2
  · cases e
end
end L3
namespace L3
open PySem PySem.Spec PyProof.Rows L2
/-! ### what a caller knows of a class of errors -/
structure RzT (P : Program) (w : World) (K : PySem.W.Frag) (mg : Str → Option Value) (base : Heap) (k : Nat) (c : Str) (fs : List Str) : Prop where
  ex : ∃ C fI fd ps, ExT K mg c C fI fs ∧ FnOk P w K mg base CX0 k fI fd ps (spInit C fs) ∧ Binds K fd ps []
/-- what `except c` catches -/
structure TyT (K : PySem.W.Frag) (mg : Str → Option Value) (c : Str) (tbl : List (Str × Bool)) : Prop where
  ex : ∃ Cv, mg c = some Cv ∧ ∀ nm b, tbl.lookup nm = some b → ∃ v, mg nm = some v ∧ PySem.W.exmOne K v Cv = some b
/-- what isinstance(.., c2) tells -/
structure IsT (K : PySem.W.Frag) (mg : Str → Option Value) (c2 : Str) (tbl : List (Str × Bool)) : Prop where
  ex : ∃ C2 : Addr, mg c2 = some (.ref C2) ∧ ∀ nm b, tbl.lookup nm = some b → ∃ C, mg nm = some (.ref C) ∧ XfC K C ∧ IsC K C ∧ PySem.W.kitOne K (.ref C) (.ref C2) = some b
section
variable {X : Cx} {Z : WXZ}
theorem s_raiseR {k : Nat} {c : Str} {fs : List Str} {e : Expr} {es : List Expr} {f : En → Out (List Pv)} {p pos pos2 : Pos} (T : RzT X.prog X.w X.K X.mg X.base k c fs)
    (hr : RoomG (k + 1) X.A) (hcm : X.calm = true) (tk : Takes X Z) (ha : DA X Z (e :: es) f) (h5 : fs.length ≤ 900 := by decide)
    (hg : Gl X c := by rfl) (hdb : (c == ("__debug__" : Str)) = false := by decide) (he : starEach (e :: es) X.env = (false, eval e X.env) :: starEach es X.env := by rfl) (hpl : (backTo pos (starEach es X.env)).any (·.1) = false := by rfl) :
    DS X Z (.Raise (some (.Call (.Name c p) (e :: es) [] pos)) none pos2) (sRaise c fs f) := by
  obtain ⟨C, fI, fd, ps, T, F1, hb⟩ := T.ex
  exact s_raise T F1 hb hr hcm tk ha h5 hg hdb he hpl
theorem s_tryR {i : Nat} {n c : Str} {body suite : List Stmt} {b₀ : Stmt} {np pos pos' : Pos} {g : En → Out Fl} {tbl : List (Str × Bool)} {h : Ex → Option D} (T : TyT X.K X.mg c tbl) (hs : X.stack = X.env :: X.outer) (hf : X.env.frame = some X.env.locals) (hN : X.N.Nodup)
    (tk : Takes X Z)
    (hb : ∀ (W : WXZ) (pn : List (Addr × Obj)) (xe : Value → Shared → Prop), Takes (X.tr pn xe) W → PassesOwn (model X.prog X.w) X.A X.env xe → DSs (X.tr pn xe) W body g)
    (hsu : ∀ (a : Addr) (oe : Obj) (cls : Value) (d : Option Addr) (pn : List (Addr × Obj)), Zc cls d oe → (∃ vs, oe.data = .fields vs) → DSx X i a oe cls d pn (b₀ :: suite) h)
    (hi : X.N[i]? = some n := by rfl) (hln : X.env.kindOf n = some .local := by rfl) (hg : Gl X c := by rfl) (hdb : (c == ("__debug__" : Str)) = false := by decide) :
    DS X Z (.Try body [.ExceptHandler (some (.Name c np)) (some n) (b₀ :: suite) pos'] [] [] pos) (sTry g tbl i h) := by
  obtain ⟨Cv, hc, hT⟩ := T.ex
  exact s_try hs hf hN hc tk hT hb hsu hi hln hg hdb
variable {i : Nat} {a : Addr} {oe : Obj} {cls : Value} {d : Option Addr} {pn : List (Addr × Obj)}
theorem x_fldR {k : Nat} {c f n : Str} {fs : List Str} {np pos : Pos} (T : RzT X.prog X.w X.K X.mg X.base k c fs) (hf : f ∈ fs) (hz : Zc cls d oe) (hd : ∃ vs, oe.data = .fields vs)
    (hN : X.N[i]? = some n := by rfl) (hv : Vis X.env.scope n := by first | exact Or.inl rfl | exact Or.inr (Or.inl rfl) | exact Or.inr (Or.inr rfl)) (h1 : (n == ("__debug__" : Str)) = false := by decide)
    (h2 : (n == ("__classdict__" : Str)) = false := by decide) (hb : attributeBase (.Name n np) f X.env (eval (.Name n np) X.env) = eval (.Name n np) X.env := by rfl) :
    DX X i a oe cls d pn (.Attribute (.Name n np) f pos) (hF c f) := by
  obtain ⟨C, fI, fd, ps, T, F1, _⟩ := T.ex
  exact x_fld T hf hz hd hN hv h1 h2 hb
theorem x_isiR {c2 n : Str} {tbl : List (Str × Bool)} {np np2 p1 pos : Pos} (T : IsT X.K X.mg c2 tbl) (hz : Zc cls d oe) (hd : ∃ vs, oe.data = .fields vs) (hm : X.mg "isinstance" = none)
    (hN : X.N[i]? = some n := by rfl) (hv : Vis X.env.scope n := by first | exact Or.inl rfl | exact Or.inr (Or.inl rfl) | exact Or.inr (Or.inr rfl)) (q1 : (n == ("__debug__" : Str)) = false := by decide)
    (q2 : (n == ("__classdict__" : Str)) = false := by decide) (hg : Gl X "isinstance" := by rfl) (hg2 : Gl X c2 := by rfl) (q3 : (c2 == ("__debug__" : Str)) = false := by decide)
    (he : starEach [.Name n np, .Name c2 np2] X.env = (false, eval (.Name n np) X.env) :: starEach [.Name c2 np2] X.env := by rfl)
    (he2 : starEach [.Name c2 np2] X.env = (false, eval (.Name c2 np2) X.env) :: starEach [] X.env := by rfl) (hpl : (backTo pos (starEach [.Name c2 np2] X.env)).any (·.1) = false := by rfl)
    (htr : ∀ whole, isTrue (.Call (.Name "isinstance" p1) [.Name n np, .Name c2 np2] [] pos) X.env whole = (do let v ← whole; standAt (Expr.Call (.Name "isinstance" p1) [.Name n np, .Name c2 np2] [] pos).pos; holding [v] (truthy v)) := by intro _; rfl) :
    DXb X i a oe cls d pn (.Call (.Name "isinstance" p1) [.Name n np, .Name c2 np2] [] pos) (hI tbl) := by
  obtain ⟨C2, h2, hT⟩ := T.ex
  exact x_isi hz hd hm h2 ⟨C2, rfl⟩ hT hN hv q1 q2 hg hg2 q3 he he2 hpl htr
end
/-! ### the making of these -/
section
variable {P : Program} {w : World} {K : PySem.W.Frag} {mg : Str → Option Value} {base : Heap} {A B : Addr}
theorem exm_is {b : Bool} (h1 : PySem.W.subIn K (.ref B) (.type "BaseException") = some true) (h2 : PySem.W.isClsIn K B = true) (h3 : PySem.W.typeIn K (.ref B) = some (.type "type")) (h4 : PySem.W.subIn K (.ref A) (.ref B) = some b) :
    PySem.W.exmOne K (.ref A) (.ref B) = some b := by
  have e1 : (PySem.W.subIn K (.ref B) (.type "BaseException") == some true) = true := by rw [h1] <;> rfl
  have e2 : ((PySem.W.clsIn K B).isSome && PySem.W.typeIn K (.ref B) == some (.type "type")) = true := by
    have h2' : (PySem.W.clsIn K B).isSome = true := h2
    rw [h2', h3] <;> rfl
  show (if (PySem.W.subIn K (.ref B) (.type "BaseException") == some true) = true then (if ((PySem.W.clsIn K B).isSome && PySem.W.typeIn K (.ref B) == some (.type "type")) = true then PySem.W.subIn K (.ref A) (.ref B) else none) else none) = some b
  rw [if_pos e1, if_pos e2]
  exact h4
theorem kit_t (h2 : PySem.W.isClsIn K B = true) (h3 : PySem.W.typeIn K (.ref B) = some (.type "type")) (h4 : PySem.W.subIn K (.ref A) (.ref B) = some true) : PySem.W.kitOne K (.ref A) (.ref B) = some true := by
  have e2 : ((PySem.W.clsIn K B).isSome && PySem.W.typeIn K (.ref B) == some (.type "type")) = true := by
    have h2' : (PySem.W.clsIn K B).isSome = true := h2
    rw [h2', h3] <;> rfl
  show (if (Value.ref A == Value.ref B) = true then some true else (if ((PySem.W.clsIn K B).isSome && PySem.W.typeIn K (.ref B) == some (.type "type")) = true then PySem.W.subIn K (.ref A) (.ref B) else none)) = some true
  rw [if_pos e2, h4]
  split <;> rfl
theorem kit_f (h2 : PySem.W.isClsIn K B = true) (h3 : PySem.W.typeIn K (.ref B) = some (.type "type")) (h4 : PySem.W.subIn K (.ref A) (.ref B) = some false) (h5 : (Value.ref A == Value.ref B) = false) : PySem.W.kitOne K (.ref A) (.ref B) = some false := by
  have e2 : ((PySem.W.clsIn K B).isSome && PySem.W.typeIn K (.ref B) == some (.type "type")) = true := by
    have h2' : (PySem.W.clsIn K B).isSome = true := h2
    rw [h2', h3] <;> rfl
  show (if (Value.ref A == Value.ref B) = true then some true else (if ((PySem.W.clsIn K B).isSome && PySem.W.typeIn K (.ref B) == some (.type "type")) = true then PySem.W.subIn K (.ref A) (.ref B) else none)) = some false
  rw [if_pos e2, h4, h5]; rfl
theorem tbl1 {α : Type} {n : Str} {b : α} {Q : Str → α → Prop} (h : Q n b) : ∀ nm c, ([(n, b)] : List (Str × α)).lookup nm = some c → Q nm c := fun nm c e => by
  by_cases q : nm = n
  · subst q
    rw [List.lookup_cons_self] at e; cases e
    exact h
  · rw [List.lookup_cons, show (nm == n) = false from by simpa using q] at e
    cases e
end
/-- a statement of a class's body -/
def clsS : Stmt → Nat → Stmt
  | .ClassDef _ _ _ body _ _ _ _ _ _ _, i => body.getD i (.Pass ⟨0, 0, 0, 0⟩)
  | _, _ => .Pass ⟨0, 0, 0, 0⟩
/-- a def that nothing is said of -/
theorem fnG_bad {P : Program} {w : World} {K : PySem.W.Frag} {mg : Str → Option Value} {base : Heap} {cx : CXT} {k : Nat} {f : Addr} {fd : FuncData} {ps : List Str} {G : Pm} {np : Nat} (hp : np = ps.length) : FnG P w K mg base cx k f fd ps (spM false G np fun _ => .bad) :=
  ⟨fun vs H Q E h => by rw [h.1, hp], fun A outer s H args us vs Q E r e b v h => by
    obtain ⟨_, _, _, _, _, _, z⟩ := h
    exact z.elim⟩
theorem nox_bad : NoX (fun _ => .bad) := fun _ _ _ h => by cases h
end L3
namespace L3
open PySem PySem.Spec PyProof.Rows L2
section
variable {ρ : En} {T : String} {g : D → List D → Option D} {fo fa fb : En → Out Pv} {f : En → Out (List Pv)}
def cMr_k2 (g : D → List D → Option D) (p : Pv) (ps : List Pv) (ρ2 : En) : Out Pv := ofO ((pvD ρ2 p).bind fun o => (pvDs ρ2 ps).bind (g o)) ρ2
def cMr_k (T : String) (g : D → List D → Option D) (f : En → Out (List Pv)) (p : Pv) (ρ1 : En) : Out Pv := if (pvD ρ1 p).map (isTy T) = some true then (f ρ1).bind (cMr_k2 g p) else .bad
theorem cMr_e : cMr T g fo f ρ = (fo ρ).bind (cMr_k T g f) := rfl
theorem isTy_str {x : Str} : isTy "str" (.str x) = true := rfl
theorem isTy_lst {x : List D} : isTy "list" (.lst x) = true := rfl
def cGet2_k3 (p py pz : Pv) (ρ3 : En) : Out Pv := ofO ((pvD ρ3 p).bind fun x => (pvD ρ3 py).bind fun y => (pvD ρ3 pz).bind fun z => gGet2 x y z) ρ3
def cGet2_k2 (fb : En → Out Pv) (p py : Pv) (ρ2 : En) : Out Pv := (fb ρ2).bind (cGet2_k3 p py)
def cGet2_k (fa fb : En → Out Pv) (p : Pv) (ρ1 : En) : Out Pv := if (pvD ρ1 p).map isDic = some true then (fa ρ1).bind (cGet2_k2 fb p) else .bad
theorem cGet2_e : cGet2 fo fa fb ρ = (fo ρ).bind (cGet2_k fa fb) := rfl
theorem isDic_d {x : List (Key × D)} : isDic (.dic x) = true := rfl
def iRv_k (p : Pv) (ρ1 : En) : Out (List D) := match p with
  | .v (.lst ds) => .ok ds.reverse ρ1
  | .v (.tup ds) => .ok ds.reverse ρ1
  | _ => .bad
theorem iRv_e : iRv fo ρ = (fo ρ).bind iRv_k := rfl
theorem get2_d {kvs : List (Key × D)} {x : Str} {i : Int} : gGet2 (.dic kvs) (.str x) (.int i) = some ((dlook kvs (.inr x)).getD (.int i)) := rfl
theorem set_d {kvs : List (Key × D)} {x : Str} {d : D} (h : kvs.length < sizeLine) : setD (.dic kvs) (.str x) d = some (.dic (dput kvs (.inr x) d)) := by
  show (if kvs.length < sizeLine then _ else _) = _
  rw [if_pos h]
theorem get_d {kvs : List (Key × D)} {x : Str} : gGet (.dic kvs) (.str x) = dlook kvs (.inr x) := rfl
theorem in_d {neg : Bool} {kvs : List (Key × D)} {x : Str} : gInD neg (.str x) (.dic kvs) = some (.bl (if neg then !(dlook kvs (.inr x)).isSome else (dlook kvs (.inr x)).isSome)) := rfl
end
end L3
namespace K11
open PySem PySem.Spec PyProof.Rows L2 L3
/-! ### the text -/
def topS (i : Nat) : Stmt := PySem.Challenge.pw_ticksurety_k11_whole_forms_equal_exactly.main.body.getD i (.Pass ⟨0, 0, 0, 0⟩)
abbrev t__law_begin : Stmt := topS 14
theorem sc__law_begin : FnScope ["script", "cells", "cell"] ["script"] (defScope t__law_begin) := ⟨rfl, rfl, rfl, by decide +kernel, rfl, by decide +kernel, by decide +kernel⟩
abbrev t__law_draw : Stmt := topS 15
theorem sc__law_draw : FnScope ["d", "many", "cell", "digit"] ["d", "many"] (defScope t__law_draw) := ⟨rfl, rfl, rfl, by decide +kernel, rfl, by decide +kernel, by decide +kernel⟩
abbrev t__law_rare : Stmt := topS 17
theorem sc__law_rare : FnScope ["d", "many"] ["d", "many"] (defScope t__law_rare) := ⟨rfl, rfl, rfl, by decide +kernel, rfl, by decide +kernel, by decide +kernel⟩
abbrev t__law_channels : Stmt := topS 20
theorem sc__law_channels : FnScope ["d", "many", "letters", "found", "at", "signs", "k"] ["d", "many"] (defScope t__law_channels) := ⟨rfl, rfl, rfl, by decide +kernel, rfl, by decide +kernel, by decide +kernel⟩
abbrev t__law_rows_of_words : Stmt := topS 21
theorem sc__law_rows_of_words : FnScope ["d", "many", "word", "found", "at", "whole", "turn", "number", "row", "left", "k"] ["d", "many", "word"] (defScope t__law_rows_of_words) := ⟨rfl, rfl, rfl, by decide +kernel, rfl, by decide +kernel, by decide +kernel⟩
abbrev t__law_pick : Stmt := topS 16
theorem sc__law_pick : FnScope ["d", "row"] ["d", "row"] (defScope t__law_pick) := ⟨rfl, rfl, rfl, by decide +kernel, rfl, by decide +kernel, by decide +kernel⟩
abbrev t__law_twin : Stmt := topS 22
theorem sc__law_twin : FnScope ["steps", "at", "word", "step"] ["steps", "at", "word"] (defScope t__law_twin) := ⟨rfl, rfl, rfl, by decide +kernel, rfl, by decide +kernel, by decide +kernel⟩
abbrev t__law_steps : Stmt := topS 23
theorem sc__law_steps : FnScope ["d", "many", "word", "steps", "turn", "kind", "one", "other"] ["d", "many", "word"] (defScope t__law_steps) := ⟨rfl, rfl, rfl, by decide +kernel, rfl, by decide +kernel, by decide +kernel⟩
abbrev t__law_table : Stmt := topS 24
theorem sc__law_table : FnScope ["steps", "points", "word", "rows", "step", "point", "k"] ["steps", "points", "word"] (defScope t__law_table) := ⟨rfl, rfl, rfl, by decide +kernel, rfl, by decide +kernel, by decide +kernel⟩
abbrev t__law_due_form : Stmt := topS 25
theorem sc__law_due_form : FnScope ["values", "names", "word", "parts", "name", "factor"] ["values", "names", "word"] (defScope t__law_due_form) := ⟨rfl, rfl, rfl, by decide +kernel, rfl, by decide +kernel, by decide +kernel⟩
abbrev t_plain_form : Stmt := topS 5
theorem sc_plain_form : FnScope ["number", "word"] ["number", "word"] (defScope t_plain_form) := ⟨rfl, rfl, rfl, by decide +kernel, rfl, by decide +kernel, by decide +kernel⟩
abbrev t_channel_form : Stmt := topS 6
theorem sc_channel_form : FnScope ["channel"] ["channel"] (defScope t_channel_form) := ⟨rfl, rfl, rfl, by decide +kernel, rfl, by decide +kernel, by decide +kernel⟩
abbrev t_joined_form : Stmt := topS 8
theorem sc_joined_form : FnScope ["left", "right", "by", "word", "factors", "channel", "factor", "parts"] ["left", "right", "by", "word"] (defScope t_joined_form) := ⟨rfl, rfl, rfl, by decide +kernel, rfl, by decide +kernel, by decide +kernel⟩
abbrev t_form_sum : Stmt := topS 9
theorem sc_form_sum : FnScope ["left", "right", "word"] ["left", "right", "word"] (defScope t_form_sum) := ⟨rfl, rfl, rfl, by decide +kernel, rfl, by decide +kernel, by decide +kernel⟩
abbrev t_form_minus : Stmt := topS 10
theorem sc_form_minus : FnScope ["left", "right", "word"] ["left", "right", "word"] (defScope t_form_minus) := ⟨rfl, rfl, rfl, by decide +kernel, rfl, by decide +kernel, by decide +kernel⟩
abbrev t_form_times : Stmt := topS 11
theorem sc_form_times : FnScope ["form", "number", "word"] ["form", "number", "word"] (defScope t_form_times) := ⟨rfl, rfl, rfl, by decide +kernel, rfl, by decide +kernel, by decide +kernel⟩
abbrev t__law_made : Stmt := topS 26
theorem sc__law_made : FnScope ["step", "forms", "names", "word"] ["step", "forms", "names", "word"] (defScope t__law_made) := ⟨rfl, rfl, rfl, by decide +kernel, rfl, by decide +kernel, by decide +kernel⟩
abbrev t__law_is_int : Stmt := topS 18
theorem sc__law_is_int : FnScope ["thing"] ["thing"] (defScope t__law_is_int) := ⟨rfl, rfl, rfl, by decide +kernel, rfl, by decide +kernel, by decide +kernel⟩
abbrev t__law_same : Stmt := topS 19
theorem sc__law_same : FnScope ["told", "due", "at"] ["told", "due"] (defScope t__law_same) := ⟨rfl, rfl, rfl, by decide +kernel, rfl, by decide +kernel, by decide +kernel⟩
abbrev t_is_plain_form : Stmt := topS 7
theorem sc_is_plain_form : FnScope ["form"] ["form"] (defScope t_is_plain_form) := ⟨rfl, rfl, rfl, by decide +kernel, rfl, by decide +kernel, by decide +kernel⟩
abbrev t_form_value : Stmt := topS 12
theorem sc_form_value : FnScope ["form", "words", "word", "found", "channel", "factor"] ["form", "words", "word"] (defScope t_form_value) := ⟨rfl, rfl, rfl, by decide +kernel, rfl, by decide +kernel, by decide +kernel⟩
abbrev t__law_asked : Stmt := topS 27
theorem sc__law_asked : FnScope ["form", "words", "word", "e"] ["form", "words", "word"] (defScope t__law_asked) := ⟨rfl, rfl, rfl, by decide +kernel, rfl, by decide +kernel, by decide +kernel⟩
abbrev t_law : Stmt := topS 28
theorem sc_law : FnScope ["script", "d", "many", "word", "names", "points", "steps", "table", "dues", "forms", "at", "told", "one", "other", "words", "k", "given", "channel", "due", "part", "values"] ["script"] (defScope t_law) := ⟨rfl, rfl, rfl, by decide +kernel, rfl, by decide +kernel, by decide +kernel⟩
/-! ### the mirrors -/
def e__law_channels_1 : En → Out Pv := c2 gGet (cVar 2) (cCall 2 mDraw (aCons (cVar 0) (aCons (cK (.int 26)) (aNil))))
def s__law_channels_2 : En → Out Fl := sSeq (sSet 5 (vN (nLc (iR1 (aCons (c2 gAdd (cK (.int 1)) (cCall 2 mDraw (aCons (cVar 0) (aCons (cK (.int 8)) (aNil))))) (aNil))) [6] hOne cYes e__law_channels_1))) (sExp (cM 3 gAppend (aCons (c2 gAdd (cMr "str" gJoin (cK (.str "")) (aCons (cVar 5) (aNil))) (cN gStr (aCons (cVar 4) (aNil)))) (aNil))))
def g__law_channels : En → Out Fl := sSeq (sSet 2 (cK (.str "abcdefghijklmnopqrstuvwxyz"))) (sSeq (sSetN 3 (nLst (aNil))) (sSeq (sFor (iR1 (aCons (cVar 1) (aNil))) (gSet 4) s__law_channels_2) (sRet (cVar 3))))
def m__law_channels : Mf := run false 7 g__law_channels
def e__law_rows_of_words_1 : En → Out Pv := cK (.int 0)
def e__law_rows_of_words_2 : En → Out Pv := cN gInt (aCons (c2 gEq (cVar 10) (cVar 4)) (aNil))
def s__law_rows_of_words_3 : En → Out Fl := sExp (cM 3 gAppend (aCons (cN gToT (aCons (vN (nLc (iR1 (aCons (cVar 1) (aNil))) [10] hOne cYes e__law_rows_of_words_2)) (aNil))) (aNil)))
def s__law_rows_of_words_4 : En → Out Fl := sSet 5 (c2 gMul (cVar 5) (cVar 2))
def e__law_rows_of_words_5 : En → Out Pv := cCall 2 mDraw (aCons (cVar 0) (aCons (cVar 2) (aNil)))
def s__law_rows_of_words_6 : En → Out Fl := sExp (cM 3 gAppend (aCons (cN gToT (aCons (vN (nLc (iR1 (aCons (cVar 1) (aNil))) [10] hOne cYes e__law_rows_of_words_5)) (aNil))) (aNil)))
def s__law_rows_of_words_7 : En → Out Fl := sSeq (sExp (cM 8 gAppend (aCons (c2 gMod (cN gInt (aCons (cVar 9) (aNil))) (cVar 2)) (aNil)))) (sSet 9 (c2 gDiv (cVar 9) (cVar 2)))
def s__law_rows_of_words_8 : En → Out Fl := sSeq (sSetN 8 (nLst (aNil))) (sSeq (sSet 9 (cVar 7)) (sSeq (sFor (iR1 (aCons (cVar 1) (aNil))) (gSet 4) s__law_rows_of_words_7) (sExp (cM 3 gAppend (aCons (cN gToT (aCons (cVar 8) (aNil))) (aNil))))))
def g__law_rows_of_words : En → Out Fl := sSeq (sSetN 3 (nLst (aCons (cN gToT (aCons (vN (nLc (iR1 (aCons (cVar 1) (aNil))) [10] hOne cYes e__law_rows_of_words_1)) (aNil))) (aNil)))) (sSeq (sFor (iR1 (aCons (cVar 1) (aNil))) (gSet 4) s__law_rows_of_words_3) (sSeq (sSet 5 (cK (.int 1))) (sSeq (sFor (iR1 (aCons (cVar 1) (aNil))) (gSet 4) s__law_rows_of_words_4) (sSeq (sIf (cB (c2 gGt (cVar 5) (cK (.int 130)))) (sSeq (sFor (iR1 (aCons (cK (.int 6)) (aNil))) (gSet 6) s__law_rows_of_words_6) (sRet (cVar 3))) (sNil)) (sSeq (sFor (iR1 (aCons (cVar 5) (aNil))) (gSet 7) s__law_rows_of_words_8) (sRet (cVar 3)))))))
def m__law_rows_of_words : Mf := run false 11 g__law_rows_of_words
def g__law_twin : En → Out Fl := sSeq (sSet 3 (c2 gGet (cVar 0) (cVar 1))) (sSeq (sIf (cB (c2 gEq (c2 gGet (cVar 3) (cK (.int 0))) (cK (.str "number")))) (sRetN (nLst (aCons (cTup (aCons (cK (.str "number")) (aCons (c2 gMod (cN gInt (aCons (c2 gGet (cVar 3) (cK (.int 1))) (aNil))) (cVar 2)) (aNil)))) (aNil)))) (sNil)) (sSeq (sIf (cB (c2 gEq (c2 gGet (cVar 3) (cK (.int 0))) (cK (.str "channel")))) (sRetN (nLst (aCons (cTup (aCons (cK (.str "times")) (aCons (cVar 1) (aCons (c2 gAdd (cVar 2) (cK (.int 1))) (aNil))))) (aNil)))) (sNil)) (sSeq (sIf (cB (c2 gEq (c2 gGet (cVar 3) (cK (.int 0))) (cK (.str "sum")))) (sRetN (nLst (aCons (cTup (aCons (cK (.str "sum")) (aCons (c2 gGet (cVar 3) (cK (.int 2))) (aCons (c2 gGet (cVar 3) (cK (.int 1))) (aNil))))) (aNil)))) (sNil)) (sSeq (sIf (cB (c2 gEq (c2 gGet (cVar 3) (cK (.int 0))) (cK (.str "minus")))) (sRetN (nLst (aCons (cTup (aCons (cK (.str "times")) (aCons (c2 gGet (cVar 3) (cK (.int 2))) (aCons (c2 gMns (cVar 2) (cK (.int 1))) (aNil))))) (aCons (cTup (aCons (cK (.str "sum")) (aCons (c2 gGet (cVar 3) (cK (.int 1))) (aCons (cN gLen (aCons (cVar 0) (aNil))) (aNil))))) (aNil))))) (sNil)) (sRetN (nLst (aCons (cTup (aCons (cK (.str "times")) (aCons (c2 gGet (cVar 3) (cK (.int 1))) (aCons (c2 gAdd (c2 gGet (cVar 3) (cK (.int 2))) (cVar 2)) (aNil))))) (aNil))))))))
def m__law_twin : Mf := run false 4 g__law_twin
def s__law_steps_1 : En → Out Fl := sSeq (sSet 5 (cCall 2 mDraw (aCons (cVar 0) (aCons (cK (.int 8)) (aNil))))) (sSeq (sSet 6 (cCall 2 mDraw (aCons (cVar 0) (aCons (cN gLen (aCons (cVar 3) (aNil))) (aNil))))) (sSeq (sSet 7 (cCall 2 mDraw (aCons (cVar 0) (aCons (cN gLen (aCons (cVar 3) (aNil))) (aNil))))) (sIf (cB (c2 gEq (cVar 5) (cK (.int 0)))) (sExp (cM 3 gAppend (aCons (cTup (aCons (cK (.str "number")) (aCons (cCall 2 mDraw (aCons (cVar 0) (aCons (c2 gMul (cK (.int 3)) (cVar 2)) (aNil)))) (aNil)))) (aNil)))) (sIf (cB (c2 (gIn false) (cVar 5) (cTup (aCons (cK (.int 1)) (aCons (cK (.int 2)) (aNil)))))) (sExp (cM 3 gAppend (aCons (cTup (aCons (cK (.str "channel")) (aCons (cCall 2 mDraw (aCons (cVar 0) (aCons (cVar 1) (aNil)))) (aNil)))) (aNil)))) (sIf (cB (c2 (gIn false) (cVar 5) (cTup (aCons (cK (.int 3)) (aCons (cK (.int 4)) (aNil)))))) (sExp (cM 3 gAppend (aCons (cTup (aCons (cCall 2 mPick (aCons (cVar 0) (aCons (cTup (aCons (cK (.str "sum")) (aCons (cK (.str "minus")) (aNil)))) (aNil)))) (aCons (cVar 6) (aCons (cVar 7) (aNil))))) (aNil)))) (sIf (cB (c2 gEq (cVar 5) (cK (.int 5)))) (sExp (cM 3 gAppend (aCons (cTup (aCons (cK (.str "minus")) (aCons (cVar 6) (aCons (cVar 7) (aNil))))) (aNil)))) (sIf (cB (c2 gEq (cVar 5) (cK (.int 6)))) (sExp (cM 3 gAppend (aCons (cTup (aCons (cK (.str "times")) (aCons (cVar 6) (aCons (cCall 2 mDraw (aCons (cVar 0) (aCons (cCall 2 mPick (aCons (cVar 0) (aCons (cTup (aCons (cK (.int 2)) (aCons (c2 gAdd (cVar 2) (cK (.int 1))) (aCons (cK (.int 100000)) (aNil))))) (aNil)))) (aNil)))) (aNil))))) (aNil)))) (sExp (cM 3 gExtend (aCons (cCall 3 m__law_twin (aCons (cVar 3) (aCons (cVar 6) (aCons (cVar 2) (aNil))))) (aNil)))))))))))
def g__law_steps : En → Out Fl := sSeq (sSetN 3 (nLst (aCons (cTup (aCons (cK (.str "number")) (aCons (cCall 2 mDraw (aCons (cVar 0) (aCons (cK (.int 100000)) (aNil)))) (aNil)))) (aCons (cTup (aCons (cK (.str "channel")) (aCons (cCall 2 mDraw (aCons (cVar 0) (aCons (cVar 1) (aNil)))) (aNil)))) (aNil))))) (sSeq (sFor (iR1 (aCons (c2 gAdd (cK (.int 4)) (cCall 2 mDraw (aCons (cVar 0) (aCons (cK (.int 9)) (aNil))))) (aNil))) (gSet 4) s__law_steps_1) (sRet (cVar 3)))
def m__law_steps : Mf := run false 8 g__law_steps
def e__law_table_1 : En → Out Pv := c2 gMod (cN gInt (aCons (c2 gGet (cVar 4) (cK (.int 1))) (aNil))) (cVar 2)
def e__law_table_2 : En → Out Pv := c2 gGet (cVar 5) (c2 gGet (cVar 4) (cK (.int 1)))
def e__law_table_3 : En → Out Pv := c2 gMod (cN gInt (aCons (c2 gAdd (c2 gGet (c2 gGet (cVar 3) (c2 gGet (cVar 4) (cK (.int 1)))) (cVar 6)) (c2 gGet (c2 gGet (cVar 3) (c2 gGet (cVar 4) (cK (.int 2)))) (cVar 6))) (aNil))) (cVar 2)
def e__law_table_4 : En → Out Pv := c2 gMod (cN gInt (aCons (c2 gMns (c2 gGet (c2 gGet (cVar 3) (c2 gGet (cVar 4) (cK (.int 1)))) (cVar 6)) (c2 gGet (c2 gGet (cVar 3) (c2 gGet (cVar 4) (cK (.int 2)))) (cVar 6))) (aNil))) (cVar 2)
def e__law_table_5 : En → Out Pv := c2 gMod (cN gInt (aCons (c2 gMul (c2 gGet (c2 gGet (cVar 3) (c2 gGet (cVar 4) (cK (.int 1)))) (cVar 6)) (c2 gGet (cVar 4) (cK (.int 2)))) (aNil))) (cVar 2)
def s__law_table_6 : En → Out Fl := sIf (cB (c2 gEq (c2 gGet (cVar 4) (cK (.int 0))) (cK (.str "number")))) (sExp (cM 3 gAppend (aCons (vN (nLc (iL (cVar 1)) [5] hOne cYes e__law_table_1)) (aNil)))) (sIf (cB (c2 gEq (c2 gGet (cVar 4) (cK (.int 0))) (cK (.str "channel")))) (sExp (cM 3 gAppend (aCons (vN (nLc (iL (cVar 1)) [5] hOne cYes e__law_table_2)) (aNil)))) (sIf (cB (c2 gEq (c2 gGet (cVar 4) (cK (.int 0))) (cK (.str "sum")))) (sExp (cM 3 gAppend (aCons (vN (nLc (iR1 (aCons (cN gLen (aCons (cVar 1) (aNil))) (aNil))) [6] hOne cYes e__law_table_3)) (aNil)))) (sIf (cB (c2 gEq (c2 gGet (cVar 4) (cK (.int 0))) (cK (.str "minus")))) (sExp (cM 3 gAppend (aCons (vN (nLc (iR1 (aCons (cN gLen (aCons (cVar 1) (aNil))) (aNil))) [6] hOne cYes e__law_table_4)) (aNil)))) (sExp (cM 3 gAppend (aCons (vN (nLc (iR1 (aCons (cN gLen (aCons (cVar 1) (aNil))) (aNil))) [6] hOne cYes e__law_table_5)) (aNil)))))))
def g__law_table : En → Out Fl := sSeq (sSetN 3 (nLst (aNil))) (sSeq (sFor (iL (cVar 0)) (gSet 4) s__law_table_6) (sRet (cVar 3)))
def m__law_table : Mf := run false 7 g__law_table
def s__law_due_form_1 : En → Out Fl := sSeq (sSet 5 (c2 gMod (cN gInt (aCons (c2 gMns (c2 gGet (cVar 0) (c2 gAdd (cK (.int 1)) (cMr "list" gIdxL (cVar 1) (aCons (cVar 4) (aNil))))) (c2 gGet (cVar 0) (cK (.int 0)))) (aNil))) (cVar 2))) (sIf (cB (c2 gNe (cVar 5) (cK (.int 0)))) (sExp (cM 3 gAppend (aCons (cTup (aCons (cVar 4) (aCons (cVar 5) (aNil)))) (aNil)))) (sNil))
def g__law_due_form : En → Out Fl := sSeq (sSetN 3 (nLst (aNil))) (sSeq (sFor (iL (vN (nN gSorted (aCons (cVar 1) (aNil))))) (gSet 4) s__law_due_form_1) (sRet (cTup (aCons (c2 gGet (cVar 0) (cK (.int 0))) (aCons (cN gToT (aCons (cVar 3) (aNil))) (aNil))))))
def m__law_due_form : Mf := run false 6 g__law_due_form
def g_plain_form : En → Out Fl := sRet (cTup (aCons (c2 gMod (cVar 0) (cVar 1)) (aCons (cTup (aNil)) (aNil))))
def m_plain_form : Mf := run false 2 g_plain_form
def g_channel_form : En → Out Fl := sRet (cTup (aCons (cK (.int 0)) (aCons (cTup (aCons (cTup (aCons (cVar 0) (aCons (cK (.int 1)) (aNil)))) (aNil))) (aNil))))
def m_channel_form : Mf := run false 1 g_channel_form
def s_joined_form_1 : En → Out Fl := sAsg (c2 gAdd (cGet2 (cVar 4) (cVar 5) (cK (.int 0))) (c2 gMul (cVar 2) (cVar 6))) (gSubD 4 (cVar 5))
def s_joined_form_2 : En → Out Fl := sSeq (sSet 6 (c2 gMod (c2 gGet (cVar 4) (cVar 5)) (cVar 3))) (sIf (cB (c2 gNe (cVar 6) (cK (.int 0)))) (sExp (cM 7 gAppend (aCons (cTup (aCons (cVar 5) (aCons (cVar 6) (aNil)))) (aNil)))) (sNil))
def g_joined_form : En → Out Fl := sSeq (sSetN 4 (nN gDict (aCons (c2 gGet (cVar 0) (cK (.int 1))) (aNil)))) (sSeq (sFor (iT (c2 gGet (cVar 1) (cK (.int 1)))) (gTupD 2 (gsCons (gSet 5) (gsCons (gSet 6) (gsNil)))) s_joined_form_1) (sSeq (sSetN 7 (nLst (aNil))) (sSeq (sFor (iL (vN (nN gSorted (aCons (cVar 4) (aNil))))) (gSet 5) s_joined_form_2) (sRet (cTup (aCons (c2 gMod (c2 gAdd (c2 gGet (cVar 0) (cK (.int 0))) (c2 gMul (cVar 2) (c2 gGet (cVar 1) (cK (.int 0))))) (cVar 3)) (aCons (cN gToT (aCons (cVar 7) (aNil))) (aNil))))))))
def m_joined_form : Mf := run false 8 g_joined_form
def g_form_sum : En → Out Fl := sRet (cCall 4 m_joined_form (aCons (cVar 0) (aCons (cVar 1) (aCons (cK (.int 1)) (aCons (cVar 2) (aNil))))))
def m_form_sum : Mf := run false 3 g_form_sum
def g_form_minus : En → Out Fl := sRet (cCall 4 m_joined_form (aCons (cVar 0) (aCons (cVar 1) (aCons (c1 gNeg (cK (.int 1))) (aCons (cVar 2) (aNil))))))
def m_form_minus : Mf := run false 3 g_form_minus
def g_form_times : En → Out Fl := sRet (cCall 4 m_joined_form (aCons (cTup (aCons (cK (.int 0)) (aCons (cTup (aNil)) (aNil)))) (aCons (cVar 0) (aCons (cVar 1) (aCons (cVar 2) (aNil))))))
def m_form_times : Mf := run false 3 g_form_times
def g__law_made : En → Out Fl := sSeq (sIf (cB (c2 gEq (c2 gGet (cVar 0) (cK (.int 0))) (cK (.str "number")))) (sRet (cCall 2 m_plain_form (aCons (c2 gGet (cVar 0) (cK (.int 1))) (aCons (cVar 3) (aNil))))) (sNil)) (sSeq (sIf (cB (c2 gEq (c2 gGet (cVar 0) (cK (.int 0))) (cK (.str "channel")))) (sRet (cCall 1 m_channel_form (aCons (c2 gGet (cVar 2) (c2 gGet (cVar 0) (cK (.int 1)))) (aNil)))) (sNil)) (sSeq (sIf (cB (c2 gEq (c2 gGet (cVar 0) (cK (.int 0))) (cK (.str "sum")))) (sRet (cCall 3 m_form_sum (aCons (c2 gGet (cVar 1) (c2 gGet (cVar 0) (cK (.int 1)))) (aCons (c2 gGet (cVar 1) (c2 gGet (cVar 0) (cK (.int 2)))) (aCons (cVar 3) (aNil)))))) (sNil)) (sSeq (sIf (cB (c2 gEq (c2 gGet (cVar 0) (cK (.int 0))) (cK (.str "minus")))) (sRet (cCall 3 m_form_minus (aCons (c2 gGet (cVar 1) (c2 gGet (cVar 0) (cK (.int 1)))) (aCons (c2 gGet (cVar 1) (c2 gGet (cVar 0) (cK (.int 2)))) (aCons (cVar 3) (aNil)))))) (sNil)) (sRet (cCall 3 m_form_times (aCons (c2 gGet (cVar 1) (c2 gGet (cVar 0) (cK (.int 1)))) (aCons (c2 gGet (cVar 0) (cK (.int 2))) (aCons (cVar 3) (aNil)))))))))
def m__law_made : Mf := run false 4 g__law_made
def g__law_is_int : En → Out Fl := sRet (cAndV (cN gIsi (aCons (cVar 0) (aCons (cK (.ty "int")) (aNil)))) (cNotV (cN gIsi (aCons (cVar 0) (aCons (cK (.ty "bool")) (aNil))))))
def m__law_is_int : Mf := run false 1 g__law_is_int
def e__law_same_1 (R : Mf) : En → Out Pv := cCall 2 R (aCons (c2 gGet (cVar 0) (cVar 2)) (aCons (c2 gGet (cVar 1) (cVar 2)) (aNil)))
def g__law_same (R : Mf) : En → Out Fl := sSeq (sIf (cB (cN gIsi (aCons (cVar 1) (aCons (cK (.ty "tuple")) (aNil))))) (sSeq (sIf (cOr (cNot (cB (cN gIsi (aCons (cVar 0) (aCons (cK (.ty "tuple")) (aNil)))))) (cB (c2 gNe (cN gLen (aCons (cVar 0) (aNil))) (cN gLen (aCons (cVar 1) (aNil)))))) (sRet (cK (.bl false))) (sNil)) (sRet (cN gAll (aCons (vN (nLc (iR1 (aCons (cN gLen (aCons (cVar 1) (aNil))) (aNil))) [2] hOne cYes (e__law_same_1 R))) (aNil))))) (sNil)) (sSeq (sIf (cB (cN gIsi (aCons (cVar 1) (aCons (cK (.ty "bool")) (aNil))))) (sRet (cAndV (cN gIsi (aCons (cVar 0) (aCons (cK (.ty "bool")) (aNil)))) (c2 gEq (cVar 0) (cVar 1)))) (sNil)) (sSeq (sIf (cB (cN gIsi (aCons (cVar 1) (aCons (cK (.ty "int")) (aNil))))) (sRet (cAndV (cCall 1 m__law_is_int (aCons (cVar 0) (aNil))) (c2 gEq (cVar 0) (cVar 1)))) (sNil)) (sRet (cAndV (cN gIsi (aCons (cVar 0) (aCons (cK (.ty "str")) (aNil)))) (c2 gEq (cVar 0) (cVar 1))))))
def m__law_same : Nat → Mf
  | 0 => fun _ => .bad
  | k + 1 => run false 3 (g__law_same (m__law_same k))
def g_is_plain_form : En → Out Fl := sRet (c2 gEq (cN gLen (aCons (c2 gGet (cVar 0) (cK (.int 1))) (aNil))) (cK (.int 0)))
def m_is_plain_form : Mf := run false 1 g_is_plain_form
def s_form_value_1 : En → Out Fl := sSeq (sIf (cB (c2 (gInD true) (cVar 4) (cVar 1))) (sRaise "NoSuch" ["name"] (aCons (cVar 4) (aNil))) (sNil)) (sAug 3 (c2 gMul (cVar 5) (c2 gGet (cVar 1) (cVar 4))) (gI (· + ·)))
def g_form_value : En → Out Fl := sSeq (sSet 3 (c2 gGet (cVar 0) (cK (.int 0)))) (sSeq (sFor (iT (c2 gGet (cVar 0) (cK (.int 1)))) (gTupD 2 (gsCons (gSet 4) (gsCons (gSet 5) (gsNil)))) s_form_value_1) (sRet (c2 gMod (cVar 3) (cVar 2))))
def m_form_value : Mf := run true 6 g_form_value
def g__law_asked : En → Out Fl := sTry (sRet (cTup (aCons (cK (.str "value")) (aCons (cCall 3 m_form_value (aCons (cVar 0) (aCons (cVar 1) (aCons (cVar 2) (aNil))))) (aNil))))) [("NoSuch", true)] 3 (hIf (hOr (hI [("NoSuch", false)]) (hNot (hI [("NoSuch", true)]))) (hTp (hCons (hK (.str "other")) (hCons (hK (.int 0)) (hNil)))) (hTp (hCons (hK (.str "missing")) (hCons (hF "NoSuch" "name") (hNil)))))
def m__law_asked : Mf := run false 4 g__law_asked
def e_law_1 : En → Out Pv := cCall 3 m__law_due_form (aCons (cVar 20) (aCons (cVar 4) (aCons (cVar 3) (aNil))))
def s_law_2 : En → Out Fl := sSeq (sSet 11 (cCall 4 m__law_made (aCons (c2 gGet (cVar 6) (cVar 10)) (aCons (cVar 9) (aCons (cVar 4) (aCons (cVar 3) (aNil))))))) (sSeq (sIf (cOr (cNot (cB (cCall 2 (m__law_same 6) (aCons (cVar 11) (aCons (c2 gGet (cVar 8) (cVar 10)) (aNil)))))) (cNot (cB (cCall 2 (m__law_same 6) (aCons (cCall 1 m_is_plain_form (aCons (cVar 11) (aNil))) (aCons (c2 gEq (cN gMax (aCons (c2 gGet (cVar 7) (cVar 10)) (aNil))) (cN gMin (aCons (c2 gGet (cVar 7) (cVar 10)) (aNil)))) (aNil))))))) (sRet (cK (.bl false))) (sNil)) (sExp (cM 9 gAppend (aCons (cVar 11) (aNil)))))
def s_law_3 : En → Out Fl := sIf (cB (c2 gNe (c2 gEq (c2 gGet (cVar 9) (cVar 12)) (c2 gGet (cVar 9) (cVar 13))) (c2 gEq (c2 gGet (cVar 7) (cVar 12)) (c2 gGet (cVar 7) (cVar 13))))) (sRet (cK (.bl false))) (sNil)
def s_law_4 : En → Out Fl := sFor (iR1 (aCons (cVar 12) (aNil))) (gSet 13) s_law_3
def s_law_5 : En → Out Fl := sSeq (sSet 16 (vN (nN gDict (aCons (cVar 14) (aNil))))) (sIf (cOr (cNot (cB (cCall 2 (m__law_same 6) (aCons (cCall 3 m_form_value (aCons (c2 gGet (cVar 9) (cVar 15)) (aCons (cVar 16) (aCons (cVar 3) (aNil))))) (aCons (c2 gGet (c2 gGet (cVar 7) (cVar 15)) (cVar 10)) (aNil)))))) (cB (c2 gNeK (cVar 16) (cVar 14)))) (sRet (cK (.bl false))) (sNil))
def s_law_6 : En → Out Fl := sSeq (sSetN 14 (nN gDZip (aCons (cVar 4) (aCons (c2 gGet (cVar 5) (cVar 10)) (aNil))))) (sFor (iT (cTup (aCons (c2 gMns (cN gLen (aCons (cVar 6) (aNil))) (cK (.int 1))) (aCons (cCall 2 mDraw (aCons (cVar 1) (aCons (cN gLen (aCons (cVar 6) (aNil))) (aNil)))) (aNil))))) (gSet 15) s_law_5)
def s_law_7 : En → Out Fl := sIf (cB (c2 gGt (cCall 2 mDraw (aCons (cVar 1) (aCons (cK (.int 4)) (aNil)))) (cK (.int 0)))) (sAsg (c2 gGet (c2 gGet (cVar 5) (cVar 10)) (cVar 17)) (gSubD 14 (c2 gGet (cVar 4) (cVar 17)))) (sNil)
def s_law_8 : En → Out Fl := sIf (cB (c2 (gInD true) (c2 gGet (cVar 19) (cK (.int 0))) (cVar 14))) (sSet 18 (cTup (aCons (cK (.str "missing")) (aCons (c2 gGet (cVar 19) (cK (.int 0))) (aNil))))) (sNil)
def s_law_9 : En → Out Fl := sSeq (sSet 10 (cCall 2 mDraw (aCons (cVar 1) (aCons (cN gLen (aCons (cVar 5) (aNil))) (aNil))))) (sSeq (sSetN 14 (nDic0)) (sSeq (sFor (iR1 (aCons (cVar 2) (aNil))) (gSet 17) s_law_7) (sSeq (sSet 18 (cTup (aCons (cK (.str "value")) (aCons (c2 gGet (c2 gGet (cVar 7) (cVar 15)) (cVar 10)) (aNil))))) (sSeq (sFor (iRv (c2 gGet (c2 gGet (cVar 8) (cVar 15)) (cK (.int 1)))) (gSet 19) s_law_8) (sFrz 14 (sIf (cNot (cB (cCall 2 (m__law_same 6) (aCons (cCall 3 m__law_asked (aCons (c2 gGet (cVar 9) (cVar 15)) (aCons (cVar 14) (aCons (cVar 3) (aNil))))) (aCons (cVar 18) (aNil)))))) (sRet (cK (.bl false))) (sNil)))))))
def g_law : En → Out Fl := sSeq (sSetN 1 (nCall 1 mBegin (aCons (cVar 0) (aNil)))) (sSeq (sSet 2 (c2 gAdd (cK (.int 1)) (cCall 2 mDraw (aCons (cVar 1) (aCons (cK (.int 6)) (aNil)))))) (sSeq (sSet 3 (c2 gAdd (cK (.int 2)) (cCall 2 mDraw (aCons (cVar 1) (aCons (c2 gGet (cTup (aCons (cK (.int 15)) (aCons (cK (.int 10)) (aCons (cK (.int 4)) (aCons (cK (.int 2)) (aCons (cK (.int 1)) (aCons (cK (.int 1)) (aNil)))))))) (c2 gMns (cVar 2) (cK (.int 1)))) (aNil)))))) (sSeq (sIf (cB (cCall 2 mRare (aCons (cVar 1) (aCons (cK (.int 4)) (aNil))))) (sSet 3 (c2 gAdd (cK (.int 2)) (cCall 2 mDraw (aCons (cVar 1) (aCons (cK (.int 15)) (aNil)))))) (sNil)) (sSeq (sSet 4 (cCall 2 m__law_channels (aCons (cVar 1) (aCons (cVar 2) (aNil))))) (sSeq (sSet 5 (cCall 3 m__law_rows_of_words (aCons (cVar 1) (aCons (cVar 2) (aCons (cVar 3) (aNil)))))) (sSeq (sSet 6 (cCall 3 m__law_steps (aCons (cVar 1) (aCons (cVar 2) (aCons (cVar 3) (aNil)))))) (sSeq (sSet 7 (cCall 3 m__law_table (aCons (cVar 6) (aCons (cVar 5) (aCons (cVar 3) (aNil)))))) (sSeq (sSet 8 (vN (nLc (iL (cVar 7)) [20] hOne cYes e_law_1))) (sSeq (sSetN 9 (nLst (aNil))) (sSeq (sFor (iR1 (aCons (cN gLen (aCons (cVar 6) (aNil))) (aNil))) (gSet 10) s_law_2) (sSeq (sFor (iR1 (aCons (cN gLen (aCons (cVar 6) (aNil))) (aNil))) (gSet 12) s_law_4) (sSeq (sFor (iR1 (aCons (cN gLen (aCons (cVar 5) (aNil))) (aNil))) (gSet 10) s_law_6) (sSeq (sFor (iR1 (aCons (cN gLen (aCons (cVar 6) (aNil))) (aNil))) (gSet 15) s_law_9) (sRet (cCall 2 (m__law_same 6) (aCons (cN gToT (aCons (cVar 9) (aNil))) (aCons (cN gToT (aCons (cVar 8) (aNil))) (aNil))))))))))))))))))
def m_law : Mf := run false 21 g_law
abbrev ti_NoSuch : Stmt := clsS (topS 3) 0
theorem sci_NoSuch : FnScope ["self", "name"] ["self", "name"] (defScope ti_NoSuch) := ⟨rfl, rfl, rfl, by decide +kernel, rfl, by decide +kernel, by decide +kernel⟩
/-! ### the walks -/
section
variable {P : Program} {w : World} {K : PySem.W.Frag} {mg : Str → Option Value} {base : Heap}
theorem ok__law_begin (z_int : mg "int" = none) (z_abs : mg "abs" = none) (z_sum : mg "sum" = none) {f : Addr} {fd : FuncData} (F : Fun K "_law_begin" "_law_begin" t__law_begin f fd) : FnG P w K mg base CX0 1 f fd ["script"] (spM false ⟨K, mg⟩ 1 mBegin) :=
  fg_ok F sc__law_begin 3 1 rfl rfl (by decide) fun cdv A outer s H E hr =>
    b_cons (s_setLcV (i := 1) rfl sc__law_begin.nd [("cell", 2)] (show blkC ["script", "cells", "cell"] (defScope t__law_begin) _ [("cell", 2)] = true by decide +kernel) rfl (sw_true rfl rfl rfl (by decide +kernel)) (i_lst (e_sl (dv 0) (o_none) (o_some (d_int)))) (ntg_name 2) (fun _ _ _ _ _ => pg_name (i := 2) sc__law_begin.nd rfl (Or.inl rfl)) (fun _ _ _ _ _ => ts_nil) (fun _ _ _ _ _ => e_abs z_abs (a_cons (e_int z_int (a_cons (dv 2) (a_nil))) (a_nil)))) (b_one (s_retN (n_dic (dp_cons (d_str) (dv 1) (dp_cons (d_str) (d_int) (dp_cons (d_str) (d_int) (dp_cons (d_str) (e_add (d_int) (e_mod (e_int z_int (a_cons (e_sum rfl z_sum (a_cons (dv 1) (a_nil))) (a_nil))) (d_int))) (dp_cons (d_str) (d_int) (dp_nil)))))))))
theorem ok__law_draw (z_len : mg "len" = none) (z_int : mg "int" = none) {f : Addr} {fd : FuncData} (F : Fun K "_law_draw" "_law_draw" t__law_draw f fd) : FnG P w K mg base CX0 1 f fd ["d", "many"] (spM false ⟨K, mg⟩ 2 mDraw) :=
  fg_ok F sc__law_draw 4 2 rfl rfl (by decide) fun cdv A outer s H E hr =>
    b_cons (s_asg (e_add (e_get hr (dv 0) (d_str)) (d_int)) (g_sub (i := 0) hr (d_str))) (b_cons (s_if (t_w (w_and (t_lt (e_get hr (dv 0) (d_str)) (dv 1)) (w_and1 (t_lt (e_get hr (dv 0) (d_str)) (e_len z_len (a_cons (e_get hr (dv 0) (d_str)) (a_nil))))))) (b_cons (s_set (i := 2) sc__law_draw.nd (e_get hr (e_get hr (dv 0) (d_str)) (e_get hr (dv 0) (d_str)))) (b_cons (s_asg (e_add (e_get hr (dv 0) (d_str)) (d_int)) (g_sub (i := 0) hr (d_str))) (b_one (s_if (t_ge (dv 2) (e_pow (d_int) (d_int))) (b_one (s_asg (dv 2) (g_sub (i := 0) hr (d_str)))) (b_one (s_asg (e_mod (e_int z_int (a_cons (e_add (e_add (e_mul (e_get hr (dv 0) (d_str)) (d_int)) (e_mul (dv 2) (d_int))) (e_mul (e_get hr (dv 0) (d_str)) (d_int))) (a_nil))) (d_int)) (g_sub (i := 0) hr (d_str)))))))) (b_nil)) (b_cons (s_if (t_ge (e_get hr (dv 0) (d_str)) (dv 1)) (b_cons (s_set (i := 3) sc__law_draw.nd (e_mod (e_int z_int (a_cons (e_get hr (dv 0) (d_str)) (a_nil))) (dv 1))) (b_cons (s_asg (e_div (e_get hr (dv 0) (d_str)) (dv 1)) (g_sub (i := 0) hr (d_str))) (b_one (s_ret (dv 3))))) (b_nil)) (b_cons (s_asg (e_mod (e_int z_int (a_cons (e_add (e_add (e_mul (e_get hr (dv 0) (d_str)) (d_int)) (e_mul (e_get hr (dv 0) (d_str)) (d_int))) (d_int)) (a_nil))) (d_int)) (g_sub (i := 0) hr (d_str))) (b_one (s_ret (e_mod (e_int z_int (a_cons (e_add (e_div (e_get hr (dv 0) (d_str)) (d_int)) (e_mul (e_mod (e_int z_int (a_cons (e_get hr (dv 0) (d_str)) (a_nil))) (d_int)) (d_int))) (a_nil))) (dv 1)))))))
theorem ok__law_rare (G__law_draw : Def0 P w K mg base 1 "_law_draw" 2 mDraw) {f : Addr} {fd : FuncData} (F : Fun K "_law_rare" "_law_rare" t__law_rare f fd) : FnG P w K mg base CX0 2 f fd ["d", "many"] (spM false ⟨K, mg⟩ 2 mRare) :=
  fg_ok F sc__law_rare 2 2 rfl rfl (by decide) fun cdv A outer s H E hr =>
    b_one (s_ret (e_eq hr (e_call G__law_draw (hr.mono (by decide)) (a_cons (dv 0) (a_cons (dv 1) (a_nil)))) (d_int)))
theorem ok__law_channels (G__law_draw : Def0 P w K mg base 1 "_law_draw" 2 mDraw) (z_range : mg "range" = none) (z_str : mg "str" = none) {f : Addr} {fd : FuncData} (F : Fun K "_law_channels" "_law_channels" t__law_channels f fd) : FnG P w K mg base CX0 2 f fd ["d", "many"] (spM false ⟨K, mg⟩ 2 m__law_channels) :=
  fg_ok F sc__law_channels 7 2 rfl rfl (by decide) fun cdv A outer s H E hr =>
    b_cons (s_set (i := 2) sc__law_channels.nd (d_str)) (b_cons (s_setN (i := 3) sc__law_channels.nd (n_lst (a_nil))) (b_cons (s_for PassesOwn.never rfl (i_range1 (a_cons (dv 1) (a_nil)) (by rfl) z_range) (g_name (i := 4) sc__law_channels.nd) (b_cons (s_setLcV (i := 5) rfl sc__law_channels.nd [("k", 6)] (show blkC ["d", "many", "letters", "found", "at", "signs", "k"] (defScope t__law_channels) _ [("k", 6)] = true by decide +kernel) rfl (sw_true rfl rfl rfl (by decide +kernel)) (i_range1 (a_cons (e_add (d_int) (e_call G__law_draw (hr.mono (by decide)) (a_cons (dv 0) (a_cons (d_int) (a_nil))))) (a_nil)) (by rfl) z_range) (ntg_name 6) (fun _ _ _ _ _ => pg_name (i := 6) sc__law_channels.nd rfl (Or.inl rfl)) (fun _ _ _ _ _ => ts_nil) (fun _ _ _ _ _ => e_get hr (dv 2) (e_call G__law_draw (hr.mono (by decide)) (a_cons (dv 0) (a_cons (d_int) (a_nil)))))) (b_one (s_expr (e_append (i := 3) (a_cons (e_add (e_join (d_str) (a_cons (dv 5) (a_nil))) (e_str z_str (a_cons (dv 4) (a_nil)))) (a_nil))))))) (b_one (s_ret (dv 3)))))
theorem ok__law_rows_of_words (G__law_draw : Def0 P w K mg base 1 "_law_draw" 2 mDraw) (z_range : mg "range" = none) (z_tuple : mg "tuple" = none) (z_int : mg "int" = none) {f : Addr} {fd : FuncData} (F : Fun K "_law_rows_of_words" "_law_rows_of_words" t__law_rows_of_words f fd) : FnG P w K mg base CX0 2 f fd ["d", "many", "word"] (spM false ⟨K, mg⟩ 3 m__law_rows_of_words) :=
  fg_ok F sc__law_rows_of_words 11 3 rfl rfl (by decide) fun cdv A outer s H E hr =>
    b_cons (s_setN (i := 3) sc__law_rows_of_words.nd (n_lst (a_cons (e_toT z_tuple (a_cons ((n_lc rfl sc__law_rows_of_words.nd [("k", 10)] (show blkC ["d", "many", "word", "found", "at", "whole", "turn", "number", "row", "left", "k"] (defScope t__law_rows_of_words) _ [("k", 10)] = true by decide +kernel) rfl (i_range1 (a_cons (dv 1) (a_nil)) (by rfl) z_range) (ntg_name 10) (fun _ _ _ _ _ => pg_name (i := 10) sc__law_rows_of_words.nd rfl (Or.inl rfl)) (fun _ _ _ _ _ => ts_nil) (fun _ _ _ _ _ => d_int)).val) (a_nil))) (a_nil)))) (b_cons (s_for PassesOwn.never rfl (i_range1 (a_cons (dv 1) (a_nil)) (by rfl) z_range) (g_name (i := 4) sc__law_rows_of_words.nd) (b_one (s_expr (e_append (i := 3) (a_cons (e_toT z_tuple (a_cons ((n_lc rfl sc__law_rows_of_words.nd [("k", 10)] (show blkC ["d", "many", "word", "found", "at", "whole", "turn", "number", "row", "left", "k"] (defScope t__law_rows_of_words) _ [("k", 10)] = true by decide +kernel) rfl (i_range1 (a_cons (dv 1) (a_nil)) (by rfl) z_range) (ntg_name 10) (fun _ _ _ _ _ => pg_name (i := 10) sc__law_rows_of_words.nd rfl (Or.inl rfl)) (fun _ _ _ _ _ => ts_nil) (fun _ _ _ _ _ => e_int z_int (a_cons (e_eq hr (dv 10) (dv 4)) (a_nil)))).val) (a_nil))) (a_nil)))))) (b_cons (s_set (i := 5) sc__law_rows_of_words.nd (d_int)) (b_cons (s_for PassesOwn.never rfl (i_range1 (a_cons (dv 1) (a_nil)) (by rfl) z_range) (g_name (i := 4) sc__law_rows_of_words.nd) (b_one (s_set (i := 5) sc__law_rows_of_words.nd (e_mul (dv 5) (dv 2))))) (b_cons (s_if (t_gt (dv 5) (d_int)) (b_cons (s_for PassesOwn.never rfl (i_range1 (a_cons (d_int) (a_nil)) (by rfl) z_range) (g_name (i := 6) sc__law_rows_of_words.nd) (b_one (s_expr (e_append (i := 3) (a_cons (e_toT z_tuple (a_cons ((n_lc rfl sc__law_rows_of_words.nd [("k", 10)] (show blkC ["d", "many", "word", "found", "at", "whole", "turn", "number", "row", "left", "k"] (defScope t__law_rows_of_words) _ [("k", 10)] = true by decide +kernel) rfl (i_range1 (a_cons (dv 1) (a_nil)) (by rfl) z_range) (ntg_name 10) (fun _ _ _ _ _ => pg_name (i := 10) sc__law_rows_of_words.nd rfl (Or.inl rfl)) (fun _ _ _ _ _ => ts_nil) (fun _ _ _ _ _ => e_call G__law_draw (hr.mono (by decide)) (a_cons (dv 0) (a_cons (dv 2) (a_nil))))).val) (a_nil))) (a_nil)))))) (b_one (s_ret (dv 3)))) (b_nil)) (b_cons (s_for PassesOwn.never rfl (i_range1 (a_cons (dv 5) (a_nil)) (by rfl) z_range) (g_name (i := 7) sc__law_rows_of_words.nd) (b_cons (s_setN (i := 8) sc__law_rows_of_words.nd (n_lst (a_nil))) (b_cons (s_set (i := 9) sc__law_rows_of_words.nd (dv 7)) (b_cons (s_for PassesOwn.never rfl (i_range1 (a_cons (dv 1) (a_nil)) (by rfl) z_range) (g_name (i := 4) sc__law_rows_of_words.nd) (b_cons (s_expr (e_append (i := 8) (a_cons (e_mod (e_int z_int (a_cons (dv 9) (a_nil))) (dv 2)) (a_nil)))) (b_one (s_set (i := 9) sc__law_rows_of_words.nd (e_div (dv 9) (dv 2)))))) (b_one (s_expr (e_append (i := 3) (a_cons (e_toT z_tuple (a_cons (dv 8) (a_nil))) (a_nil))))))))) (b_one (s_ret (dv 3))))))))
theorem ok__law_pick (G__law_draw : Def0 P w K mg base 1 "_law_draw" 2 mDraw) (z_len : mg "len" = none) {f : Addr} {fd : FuncData} (F : Fun K "_law_pick" "_law_pick" t__law_pick f fd) : FnG P w K mg base CX0 2 f fd ["d", "row"] (spM false ⟨K, mg⟩ 2 mPick) :=
  fg_ok F sc__law_pick 2 2 rfl rfl (by decide) fun cdv A outer s H E hr =>
    b_one (s_ret (e_get hr (dv 1) (e_call G__law_draw (hr.mono (by decide)) (a_cons (dv 0) (a_cons (e_len z_len (a_cons (dv 1) (a_nil))) (a_nil))))))
theorem ok__law_twin (z_int : mg "int" = none) (z_len : mg "len" = none) {f : Addr} {fd : FuncData} (F : Fun K "_law_twin" "_law_twin" t__law_twin f fd) : FnG P w K mg base CX0 1 f fd ["steps", "at", "word"] (spM false ⟨K, mg⟩ 3 m__law_twin) :=
  fg_ok F sc__law_twin 4 3 rfl rfl (by decide) fun cdv A outer s H E hr =>
    b_cons (s_set (i := 3) sc__law_twin.nd (e_get hr (dv 0) (dv 1))) (b_cons (s_if (t_eq hr (e_get hr (dv 3) (d_int)) (d_str)) (b_one (s_retN (n_lst (a_cons (d_tup (a_cons (d_str) (a_cons (e_mod (e_int z_int (a_cons (e_get hr (dv 3) (d_int)) (a_nil))) (dv 2)) (a_nil)))) (a_nil))))) (b_nil)) (b_cons (s_if (t_eq hr (e_get hr (dv 3) (d_int)) (d_str)) (b_one (s_retN (n_lst (a_cons (d_tup (a_cons (d_str) (a_cons (dv 1) (a_cons (e_add (dv 2) (d_int)) (a_nil))))) (a_nil))))) (b_nil)) (b_cons (s_if (t_eq hr (e_get hr (dv 3) (d_int)) (d_str)) (b_one (s_retN (n_lst (a_cons (d_tup (a_cons (d_str) (a_cons (e_get hr (dv 3) (d_int)) (a_cons (e_get hr (dv 3) (d_int)) (a_nil))))) (a_nil))))) (b_nil)) (b_cons (s_if (t_eq hr (e_get hr (dv 3) (d_int)) (d_str)) (b_one (s_retN (n_lst (a_cons (d_tup (a_cons (d_str) (a_cons (e_get hr (dv 3) (d_int)) (a_cons (e_sub (dv 2) (d_int)) (a_nil))))) (a_cons (d_tup (a_cons (d_str) (a_cons (e_get hr (dv 3) (d_int)) (a_cons (e_len z_len (a_cons (dv 0) (a_nil))) (a_nil))))) (a_nil)))))) (b_nil)) (b_one (s_retN (n_lst (a_cons (d_tup (a_cons (d_str) (a_cons (e_get hr (dv 3) (d_int)) (a_cons (e_add (e_get hr (dv 3) (d_int)) (dv 2)) (a_nil))))) (a_nil)))))))))
theorem ok__law_steps (G__law_draw : Def0 P w K mg base 1 "_law_draw" 2 mDraw) (G__law_pick : Def0 P w K mg base 2 "_law_pick" 2 mPick) (G__law_twin : Def0 P w K mg base 1 "_law_twin" 3 m__law_twin) (z_range : mg "range" = none) (z_len : mg "len" = none) {f : Addr} {fd : FuncData} (F : Fun K "_law_steps" "_law_steps" t__law_steps f fd) : FnG P w K mg base CX0 3 f fd ["d", "many", "word"] (spM false ⟨K, mg⟩ 3 m__law_steps) :=
  fg_ok F sc__law_steps 8 3 rfl rfl (by decide) fun cdv A outer s H E hr =>
    b_cons (s_setN (i := 3) sc__law_steps.nd (n_lst (a_cons (d_tup (a_cons (d_str) (a_cons (e_call G__law_draw (hr.mono (by decide)) (a_cons (dv 0) (a_cons (d_int) (a_nil)))) (a_nil)))) (a_cons (d_tup (a_cons (d_str) (a_cons (e_call G__law_draw (hr.mono (by decide)) (a_cons (dv 0) (a_cons (dv 1) (a_nil)))) (a_nil)))) (a_nil))))) (b_cons (s_for PassesOwn.never rfl (i_range1 (a_cons (e_add (d_int) (e_call G__law_draw (hr.mono (by decide)) (a_cons (dv 0) (a_cons (d_int) (a_nil))))) (a_nil)) (by rfl) z_range) (g_name (i := 4) sc__law_steps.nd) (b_cons (s_set (i := 5) sc__law_steps.nd (e_call G__law_draw (hr.mono (by decide)) (a_cons (dv 0) (a_cons (d_int) (a_nil))))) (b_cons (s_set (i := 6) sc__law_steps.nd (e_call G__law_draw (hr.mono (by decide)) (a_cons (dv 0) (a_cons (e_len z_len (a_cons (dv 3) (a_nil))) (a_nil))))) (b_cons (s_set (i := 7) sc__law_steps.nd (e_call G__law_draw (hr.mono (by decide)) (a_cons (dv 0) (a_cons (e_len z_len (a_cons (dv 3) (a_nil))) (a_nil))))) (b_one (s_if (t_eq hr (dv 5) (d_int)) (b_one (s_expr (e_append (i := 3) (a_cons (d_tup (a_cons (d_str) (a_cons (e_call G__law_draw (hr.mono (by decide)) (a_cons (dv 0) (a_cons (e_mul (d_int) (dv 2)) (a_nil)))) (a_nil)))) (a_nil))))) (b_one (s_if (t_in (dv 5) (d_tup (a_cons (d_int) (a_cons (d_int) (a_nil))))) (b_one (s_expr (e_append (i := 3) (a_cons (d_tup (a_cons (d_str) (a_cons (e_call G__law_draw (hr.mono (by decide)) (a_cons (dv 0) (a_cons (dv 1) (a_nil)))) (a_nil)))) (a_nil))))) (b_one (s_if (t_in (dv 5) (d_tup (a_cons (d_int) (a_cons (d_int) (a_nil))))) (b_one (s_expr (e_append (i := 3) (a_cons (d_tup (a_cons (e_call G__law_pick (hr.mono (by decide)) (a_cons (dv 0) (a_cons (d_tup (a_cons (d_str) (a_cons (d_str) (a_nil)))) (a_nil)))) (a_cons (dv 6) (a_cons (dv 7) (a_nil))))) (a_nil))))) (b_one (s_if (t_eq hr (dv 5) (d_int)) (b_one (s_expr (e_append (i := 3) (a_cons (d_tup (a_cons (d_str) (a_cons (dv 6) (a_cons (dv 7) (a_nil))))) (a_nil))))) (b_one (s_if (t_eq hr (dv 5) (d_int)) (b_one (s_expr (e_append (i := 3) (a_cons (d_tup (a_cons (d_str) (a_cons (dv 6) (a_cons (e_call G__law_draw (hr.mono (by decide)) (a_cons (dv 0) (a_cons (e_call G__law_pick (hr.mono (by decide)) (a_cons (dv 0) (a_cons (d_tup (a_cons (d_int) (a_cons (e_add (dv 2) (d_int)) (a_cons (d_int) (a_nil))))) (a_nil)))) (a_nil)))) (a_nil))))) (a_nil))))) (b_one (s_expr (e_extend (i := 3) (a_cons (e_call G__law_twin (hr.mono (by decide)) (a_cons (dv 3) (a_cons (dv 6) (a_cons (dv 2) (a_nil))))) (a_nil))))))))))))))))))) (b_one (s_ret (dv 3))))
theorem ok__law_table (z_int : mg "int" = none) (z_len : mg "len" = none) (z_range : mg "range" = none) {f : Addr} {fd : FuncData} (F : Fun K "_law_table" "_law_table" t__law_table f fd) : FnG P w K mg base CX0 1 f fd ["steps", "points", "word"] (spM false ⟨K, mg⟩ 3 m__law_table) :=
  fg_ok F sc__law_table 7 3 rfl rfl (by decide) fun cdv A outer s H E hr =>
    b_cons (s_setN (i := 3) sc__law_table.nd (n_lst (a_nil))) (b_cons (s_for PassesOwn.never rfl (i_lst (dv 0)) (g_name (i := 4) sc__law_table.nd) (b_one (s_if (t_eq hr (e_get hr (dv 4) (d_int)) (d_str)) (b_one (s_expr (e_append (i := 3) (a_cons ((n_lc rfl sc__law_table.nd [("point", 5)] (show blkC ["steps", "points", "word", "rows", "step", "point", "k"] (defScope t__law_table) _ [("point", 5)] = true by decide +kernel) rfl (i_lst (dv 1)) (ntg_name 5) (fun _ _ _ _ _ => pg_name (i := 5) sc__law_table.nd rfl (Or.inl rfl)) (fun _ _ _ _ _ => ts_nil) (fun _ _ _ _ _ => e_mod (e_int z_int (a_cons (e_get hr (dv 4) (d_int)) (a_nil))) (dv 2))).val) (a_nil))))) (b_one (s_if (t_eq hr (e_get hr (dv 4) (d_int)) (d_str)) (b_one (s_expr (e_append (i := 3) (a_cons ((n_lc rfl sc__law_table.nd [("point", 5)] (show blkC ["steps", "points", "word", "rows", "step", "point", "k"] (defScope t__law_table) _ [("point", 5)] = true by decide +kernel) rfl (i_lst (dv 1)) (ntg_name 5) (fun _ _ _ _ _ => pg_name (i := 5) sc__law_table.nd rfl (Or.inl rfl)) (fun _ _ _ _ _ => ts_nil) (fun _ _ _ _ _ => e_get hr (dv 5) (e_get hr (dv 4) (d_int)))).val) (a_nil))))) (b_one (s_if (t_eq hr (e_get hr (dv 4) (d_int)) (d_str)) (b_one (s_expr (e_append (i := 3) (a_cons ((n_lc rfl sc__law_table.nd [("k", 6)] (show blkC ["steps", "points", "word", "rows", "step", "point", "k"] (defScope t__law_table) _ [("k", 6)] = true by decide +kernel) rfl (i_range1 (a_cons (e_len z_len (a_cons (dv 1) (a_nil))) (a_nil)) (by rfl) z_range) (ntg_name 6) (fun _ _ _ _ _ => pg_name (i := 6) sc__law_table.nd rfl (Or.inl rfl)) (fun _ _ _ _ _ => ts_nil) (fun _ _ _ _ _ => e_mod (e_int z_int (a_cons (e_add (e_get hr (e_get hr (dv 3) (e_get hr (dv 4) (d_int))) (dv 6)) (e_get hr (e_get hr (dv 3) (e_get hr (dv 4) (d_int))) (dv 6))) (a_nil))) (dv 2))).val) (a_nil))))) (b_one (s_if (t_eq hr (e_get hr (dv 4) (d_int)) (d_str)) (b_one (s_expr (e_append (i := 3) (a_cons ((n_lc rfl sc__law_table.nd [("k", 6)] (show blkC ["steps", "points", "word", "rows", "step", "point", "k"] (defScope t__law_table) _ [("k", 6)] = true by decide +kernel) rfl (i_range1 (a_cons (e_len z_len (a_cons (dv 1) (a_nil))) (a_nil)) (by rfl) z_range) (ntg_name 6) (fun _ _ _ _ _ => pg_name (i := 6) sc__law_table.nd rfl (Or.inl rfl)) (fun _ _ _ _ _ => ts_nil) (fun _ _ _ _ _ => e_mod (e_int z_int (a_cons (e_sub (e_get hr (e_get hr (dv 3) (e_get hr (dv 4) (d_int))) (dv 6)) (e_get hr (e_get hr (dv 3) (e_get hr (dv 4) (d_int))) (dv 6))) (a_nil))) (dv 2))).val) (a_nil))))) (b_one (s_expr (e_append (i := 3) (a_cons ((n_lc rfl sc__law_table.nd [("k", 6)] (show blkC ["steps", "points", "word", "rows", "step", "point", "k"] (defScope t__law_table) _ [("k", 6)] = true by decide +kernel) rfl (i_range1 (a_cons (e_len z_len (a_cons (dv 1) (a_nil))) (a_nil)) (by rfl) z_range) (ntg_name 6) (fun _ _ _ _ _ => pg_name (i := 6) sc__law_table.nd rfl (Or.inl rfl)) (fun _ _ _ _ _ => ts_nil) (fun _ _ _ _ _ => e_mod (e_int z_int (a_cons (e_mul (e_get hr (e_get hr (dv 3) (e_get hr (dv 4) (d_int))) (dv 6)) (e_get hr (dv 4) (d_int))) (a_nil))) (dv 2))).val) (a_nil)))))))))))))) (b_one (s_ret (dv 3))))
theorem ok__law_due_form (z_sorted : mg "sorted" = none) (z_int : mg "int" = none) (z_tuple : mg "tuple" = none) {f : Addr} {fd : FuncData} (F : Fun K "_law_due_form" "_law_due_form" t__law_due_form f fd) : FnG P w K mg base CX0 1 f fd ["values", "names", "word"] (spM false ⟨K, mg⟩ 3 m__law_due_form) :=
  fg_ok F sc__law_due_form 6 3 rfl rfl (by decide) fun cdv A outer s H E hr =>
    b_cons (s_setN (i := 3) sc__law_due_form.nd (n_lst (a_nil))) (b_cons (s_for PassesOwn.never rfl (i_lst ((n_sorted rfl z_sorted (a_cons (dv 1) (a_nil))).val)) (g_name (i := 4) sc__law_due_form.nd) (b_cons (s_set (i := 5) sc__law_due_form.nd (e_mod (e_int z_int (a_cons (e_sub (e_get hr (dv 0) (e_add (d_int) (e_idxL (dv 1) (a_cons (dv 4) (a_nil))))) (e_get hr (dv 0) (d_int))) (a_nil))) (dv 2))) (b_one (s_if (t_ne hr (dv 5) (d_int)) (b_one (s_expr (e_append (i := 3) (a_cons (d_tup (a_cons (dv 4) (a_cons (dv 5) (a_nil)))) (a_nil))))) (b_nil))))) (b_one (s_ret (d_tup (a_cons (e_get hr (dv 0) (d_int)) (a_cons (e_toT z_tuple (a_cons (dv 3) (a_nil))) (a_nil)))))))
theorem ok_plain_form {f : Addr} {fd : FuncData} (F : Fun K "plain_form" "plain_form" t_plain_form f fd) : FnG P w K mg base CX0 1 f fd ["number", "word"] (spM false ⟨K, mg⟩ 2 m_plain_form) :=
  fg_ok F sc_plain_form 2 2 rfl rfl (by decide) fun cdv A outer s H E hr =>
    b_one (s_ret (d_tup (a_cons (e_mod (dv 0) (dv 1)) (a_cons (d_tup (a_nil)) (a_nil)))))
theorem ok_channel_form {f : Addr} {fd : FuncData} (F : Fun K "channel_form" "channel_form" t_channel_form f fd) : FnG P w K mg base CX0 1 f fd ["channel"] (spM false ⟨K, mg⟩ 1 m_channel_form) :=
  fg_ok F sc_channel_form 1 1 rfl rfl (by decide) fun cdv A outer s H E hr =>
    b_one (s_ret (d_tup (a_cons (d_int) (a_cons (d_tup (a_cons (d_tup (a_cons (dv 0) (a_cons (d_int) (a_nil)))) (a_nil))) (a_nil)))))
theorem ok_joined_form (z_dict : mg "dict" = none) (z_sorted : mg "sorted" = none) (z_tuple : mg "tuple" = none) {f : Addr} {fd : FuncData} (F : Fun K "joined_form" "joined_form" t_joined_form f fd) : FnG P w K mg base CX0 1 f fd ["left", "right", "by", "word"] (spM false ⟨K, mg⟩ 4 m_joined_form) :=
  fg_ok F sc_joined_form 8 4 rfl rfl (by decide) fun cdv A outer s H E hr =>
    b_cons (s_setN (i := 4) sc_joined_form.nd (n_dict rfl z_dict (a_cons (e_get hr (dv 0) (d_int)) (a_nil)))) (b_cons (s_for PassesOwn.never rfl (i_tup (e_get hr (dv 1) (d_int))) (g_tup 2 rfl (gs_cons (g_name (i := 5) sc_joined_form.nd) (gs_cons (g_name (i := 6) sc_joined_form.nd) (gs_nil)))) (b_one (s_asg (e_add (e_get2 (hu_of hr.room) (dv 4) (dv 5) (d_int)) (e_mul (dv 2) (dv 6))) (g_sub (i := 4) hr (dv 5))))) (b_cons (s_setN (i := 7) sc_joined_form.nd (n_lst (a_nil))) (b_cons (s_for PassesOwn.never rfl (i_lst ((n_sorted rfl z_sorted (a_cons (dv 4) (a_nil))).val)) (g_name (i := 5) sc_joined_form.nd) (b_cons (s_set (i := 6) sc_joined_form.nd (e_mod (e_get hr (dv 4) (dv 5)) (dv 3))) (b_one (s_if (t_ne hr (dv 6) (d_int)) (b_one (s_expr (e_append (i := 7) (a_cons (d_tup (a_cons (dv 5) (a_cons (dv 6) (a_nil)))) (a_nil))))) (b_nil))))) (b_one (s_ret (d_tup (a_cons (e_mod (e_add (e_get hr (dv 0) (d_int)) (e_mul (dv 2) (e_get hr (dv 1) (d_int)))) (dv 3)) (a_cons (e_toT z_tuple (a_cons (dv 7) (a_nil))) (a_nil)))))))))
theorem ok_form_sum (G_joined_form : Def0 P w K mg base 1 "joined_form" 4 m_joined_form) {f : Addr} {fd : FuncData} (F : Fun K "form_sum" "form_sum" t_form_sum f fd) : FnG P w K mg base CX0 2 f fd ["left", "right", "word"] (spM false ⟨K, mg⟩ 3 m_form_sum) :=
  fg_ok F sc_form_sum 3 3 rfl rfl (by decide) fun cdv A outer s H E hr =>
    b_one (s_ret (e_call G_joined_form (hr.mono (by decide)) (a_cons (dv 0) (a_cons (dv 1) (a_cons (d_int) (a_cons (dv 2) (a_nil)))))))
theorem ok_form_minus (G_joined_form : Def0 P w K mg base 1 "joined_form" 4 m_joined_form) {f : Addr} {fd : FuncData} (F : Fun K "form_minus" "form_minus" t_form_minus f fd) : FnG P w K mg base CX0 2 f fd ["left", "right", "word"] (spM false ⟨K, mg⟩ 3 m_form_minus) :=
  fg_ok F sc_form_minus 3 3 rfl rfl (by decide) fun cdv A outer s H E hr =>
    b_one (s_ret (e_call G_joined_form (hr.mono (by decide)) (a_cons (dv 0) (a_cons (dv 1) (a_cons (e_neg (d_int)) (a_cons (dv 2) (a_nil)))))))
theorem ok_form_times (G_joined_form : Def0 P w K mg base 1 "joined_form" 4 m_joined_form) {f : Addr} {fd : FuncData} (F : Fun K "form_times" "form_times" t_form_times f fd) : FnG P w K mg base CX0 2 f fd ["form", "number", "word"] (spM false ⟨K, mg⟩ 3 m_form_times) :=
  fg_ok F sc_form_times 3 3 rfl rfl (by decide) fun cdv A outer s H E hr =>
    b_one (s_ret (e_call G_joined_form (hr.mono (by decide)) (a_cons (d_tup (a_cons (d_int) (a_cons (d_tup (a_nil)) (a_nil)))) (a_cons (dv 0) (a_cons (dv 1) (a_cons (dv 2) (a_nil)))))))
theorem ok__law_made (G_plain_form : Def0 P w K mg base 1 "plain_form" 2 m_plain_form) (G_channel_form : Def0 P w K mg base 1 "channel_form" 1 m_channel_form) (G_form_sum : Def0 P w K mg base 2 "form_sum" 3 m_form_sum) (G_form_minus : Def0 P w K mg base 2 "form_minus" 3 m_form_minus) (G_form_times : Def0 P w K mg base 2 "form_times" 3 m_form_times) {f : Addr} {fd : FuncData} (F : Fun K "_law_made" "_law_made" t__law_made f fd) : FnG P w K mg base CX0 3 f fd ["step", "forms", "names", "word"] (spM false ⟨K, mg⟩ 4 m__law_made) :=
  fg_ok F sc__law_made 4 4 rfl rfl (by decide) fun cdv A outer s H E hr =>
    b_cons (s_if (t_eq hr (e_get hr (dv 0) (d_int)) (d_str)) (b_one (s_ret (e_call G_plain_form (hr.mono (by decide)) (a_cons (e_get hr (dv 0) (d_int)) (a_cons (dv 3) (a_nil)))))) (b_nil)) (b_cons (s_if (t_eq hr (e_get hr (dv 0) (d_int)) (d_str)) (b_one (s_ret (e_call G_channel_form (hr.mono (by decide)) (a_cons (e_get hr (dv 2) (e_get hr (dv 0) (d_int))) (a_nil))))) (b_nil)) (b_cons (s_if (t_eq hr (e_get hr (dv 0) (d_int)) (d_str)) (b_one (s_ret (e_call G_form_sum (hr.mono (by decide)) (a_cons (e_get hr (dv 1) (e_get hr (dv 0) (d_int))) (a_cons (e_get hr (dv 1) (e_get hr (dv 0) (d_int))) (a_cons (dv 3) (a_nil))))))) (b_nil)) (b_cons (s_if (t_eq hr (e_get hr (dv 0) (d_int)) (d_str)) (b_one (s_ret (e_call G_form_minus (hr.mono (by decide)) (a_cons (e_get hr (dv 1) (e_get hr (dv 0) (d_int))) (a_cons (e_get hr (dv 1) (e_get hr (dv 0) (d_int))) (a_cons (dv 3) (a_nil))))))) (b_nil)) (b_one (s_ret (e_call G_form_times (hr.mono (by decide)) (a_cons (e_get hr (dv 1) (e_get hr (dv 0) (d_int))) (a_cons (e_get hr (dv 0) (d_int)) (a_cons (dv 3) (a_nil))))))))))
theorem ok__law_is_int (z_int : mg "int" = none) (z_isinstance : mg "isinstance" = none) (z_bool : mg "bool" = none) {f : Addr} {fd : FuncData} (F : Fun K "_law_is_int" "_law_is_int" t__law_is_int f fd) : FnG P w K mg base CX0 1 f fd ["thing"] (spM false ⟨K, mg⟩ 1 m__law_is_int) :=
  fg_ok F sc__law_is_int 1 1 rfl rfl (by decide) fun cdv A outer s H E hr =>
    b_one (s_ret (d_and (e_isi z_isinstance (a_cons (dv 0) (a_cons (d_bty z_int rfl) (a_nil)))) (d_one (d_not (e_isi z_isinstance (a_cons (dv 0) (a_cons (d_bty z_bool rfl) (a_nil))))))))
theorem ok__law_same {kk : Nat} {R : Mf} (hk : 1 ≤ kk) (G__law_same : Def0 P w K mg base kk "_law_same" 2 R) (G__law_is_int : Def0 P w K mg base 1 "_law_is_int" 1 m__law_is_int) (z_tuple : mg "tuple" = none) (z_isinstance : mg "isinstance" = none) (z_len : mg "len" = none) (z_range : mg "range" = none) (z_all : mg "all" = none) (z_bool : mg "bool" = none) (z_int : mg "int" = none) (z_str : mg "str" = none) {f : Addr} {fd : FuncData} (F : Fun K "_law_same" "_law_same" t__law_same f fd) : FnG P w K mg base CX0 (kk + 1) f fd ["told", "due"] (spM false ⟨K, mg⟩ 2 (run false 3 (g__law_same R))) :=
  fg_ok F sc__law_same 3 2 rfl rfl (by decide) fun cdv A outer s H E hr =>
    b_cons (s_if (t_val (e_isi z_isinstance (a_cons (dv 1) (a_cons (d_bty z_tuple rfl) (a_nil))))) (b_cons (s_if (t_w (w_or (t_not (t_val (e_isi z_isinstance (a_cons (dv 0) (a_cons (d_bty z_tuple rfl) (a_nil)))))) (w_or1 (t_ne hr (e_len z_len (a_cons (dv 0) (a_nil))) (e_len z_len (a_cons (dv 1) (a_nil))))))) (b_one (s_ret (d_bl))) (b_nil)) (b_one (s_ret (e_all rfl z_all (a_cons ((n_lc rfl sc__law_same.nd [("at", 2)] (show blkC ["told", "due", "at"] (defScope t__law_same) _ [("at", 2)] = true by decide +kernel) rfl (i_range1 (a_cons (e_len z_len (a_cons (dv 1) (a_nil))) (a_nil)) (by rfl) z_range) (ntg_name 2) (fun _ _ _ _ _ => pg_name (i := 2) sc__law_same.nd rfl (Or.inl rfl)) (fun _ _ _ _ _ => ts_nil) (fun _ _ _ _ _ => e_call G__law_same (hr.mono (by omega)) (a_cons (e_get hr (dv 0) (dv 2)) (a_cons (e_get hr (dv 1) (dv 2)) (a_nil))))).val) (a_nil)))))) (b_nil)) (b_cons (s_if (t_val (e_isi z_isinstance (a_cons (dv 1) (a_cons (d_bty z_bool rfl) (a_nil))))) (b_one (s_ret (d_and (e_isi z_isinstance (a_cons (dv 0) (a_cons (d_bty z_bool rfl) (a_nil)))) (d_one (e_eq hr (dv 0) (dv 1)))))) (b_nil)) (b_cons (s_if (t_val (e_isi z_isinstance (a_cons (dv 1) (a_cons (d_bty z_int rfl) (a_nil))))) (b_one (s_ret (d_and (e_call G__law_is_int (hr.mono (by omega)) (a_cons (dv 0) (a_nil))) (d_one (e_eq hr (dv 0) (dv 1)))))) (b_nil)) (b_one (s_ret (d_and (e_isi z_isinstance (a_cons (dv 0) (a_cons (d_bty z_str rfl) (a_nil)))) (d_one (e_eq hr (dv 0) (dv 1))))))))
theorem ok_is_plain_form (z_len : mg "len" = none) {f : Addr} {fd : FuncData} (F : Fun K "is_plain_form" "is_plain_form" t_is_plain_form f fd) : FnG P w K mg base CX0 1 f fd ["form"] (spM false ⟨K, mg⟩ 1 m_is_plain_form) :=
  fg_ok F sc_is_plain_form 1 1 rfl rfl (by decide) fun cdv A outer s H E hr =>
    b_one (s_ret (e_eq hr (e_len z_len (a_cons (e_get hr (dv 0) (d_int)) (a_nil))) (d_int)))
theorem ok_form_value (Z_NoSuch : RzT P w K mg base 1 "NoSuch" ["name"]) {f : Addr} {fd : FuncData} (F : Fun K "form_value" "form_value" t_form_value f fd) : FnG P w K mg base (L2.CX P w) 3 f fd ["form", "words", "word"] (spM true ⟨K, mg⟩ 3 m_form_value) :=
  fg_okX F sc_form_value 6 3 rfl rfl (by decide) fun cdv A outer s H E hr =>
    b_cons (s_set (i := 3) sc_form_value.nd (e_get hr (dv 0) (d_int))) (b_cons (s_for (passes_of rfl) rfl (i_tup (e_get hr (dv 0) (d_int))) (g_tup 2 rfl (gs_cons (g_name (i := 4) sc_form_value.nd) (gs_cons (g_name (i := 5) sc_form_value.nd) (gs_nil)))) (b_cons (s_if (t_ninD (hu_of hr.room) (dv 4) (dv 1)) (b_one (s_raiseR Z_NoSuch (hr.mono (by decide)) rfl (takes_of rfl rfl rfl rfl) (a_cons (dv 4) (a_nil)))) (b_nil)) (b_one (s_aug_add (i := 3) sc_form_value.nd (e_mul (dv 5) (e_get hr (dv 1) (dv 4))))))) (b_one (s_ret (e_mod (dv 3) (dv 2)))))
theorem ok__law_asked (G_form_value : DefX P w K mg base 3 "form_value" 3 m_form_value) (J_NotOfKind : IsT K mg "NotOfKind" [("NoSuch", false)]) (J_SuretyError : IsT K mg "SuretyError" [("NoSuch", true)]) (Z_NoSuch : RzT P w K mg base 1 "NoSuch" ["name"]) (Y_NoSuch : TyT K mg "NoSuch" [("NoSuch", true)]) (z_isinstance : mg "isinstance" = none) {f : Addr} {fd : FuncData} (F : Fun K "_law_asked" "_law_asked" t__law_asked f fd) : FnG P w K mg base CX0 4 f fd ["form", "words", "word"] (spM false ⟨K, mg⟩ 3 m__law_asked) :=
  fg_ok F sc__law_asked 4 3 rfl rfl (by decide) fun cdv A outer s H E hr =>
    b_one (s_tryR (i := 3) Y_NoSuch rfl rfl sc__law_asked.nd (takes0) (fun W pn xe tk' po' => b_one (s_ret (d_tup (a_cons (d_str) (a_cons (e_callX G_form_value (tk') (hr.mono (by decide)) (a_cons (dv 0) (a_cons (dv 1) (a_cons (dv 2) (a_nil))))) (a_nil)))))) (fun a oe cls dd pn hz hd => xs_if (xt_w (xw_or (x_isiR J_NotOfKind hz hd z_isinstance) (xw_or1 (xt_not (x_isiR J_SuretyError hz hd z_isinstance))))) (xs_ret (x_tup (x_cons (x_str) (x_cons (x_int) (x_nil))))) (xs_ret (x_tup (x_cons (x_str) (x_cons (x_fldR Z_NoSuch (by decide) hz hd) (x_nil)))))))
theorem ok_law (G__law_begin : Def0 P w K mg base 1 "_law_begin" 1 mBegin) (G__law_draw : Def0 P w K mg base 1 "_law_draw" 2 mDraw) (G__law_rare : Def0 P w K mg base 2 "_law_rare" 2 mRare) (G__law_channels : Def0 P w K mg base 2 "_law_channels" 2 m__law_channels) (G__law_rows_of_words : Def0 P w K mg base 2 "_law_rows_of_words" 3 m__law_rows_of_words) (G__law_steps : Def0 P w K mg base 3 "_law_steps" 3 m__law_steps) (G__law_table : Def0 P w K mg base 1 "_law_table" 3 m__law_table) (G__law_due_form : Def0 P w K mg base 1 "_law_due_form" 3 m__law_due_form) (G__law_made : Def0 P w K mg base 3 "_law_made" 4 m__law_made) (G__law_same : Def0 P w K mg base 7 "_law_same" 2 (m__law_same 6)) (G_is_plain_form : Def0 P w K mg base 1 "is_plain_form" 1 m_is_plain_form) (G_form_value : DefX P w K mg base 3 "form_value" 3 m_form_value) (G__law_asked : Def0 P w K mg base 4 "_law_asked" 3 m__law_asked) (z_len : mg "len" = none) (z_range : mg "range" = none) (z_max : mg "max" = none) (z_min : mg "min" = none) (z_dict : mg "dict" = none) (z_zip : mg "zip" = none) (z_reversed : mg "reversed" = none) (z_tuple : mg "tuple" = none) {f : Addr} {fd : FuncData} (F : Fun K "law" "law" t_law f fd) : FnG P w K mg base CX0 8 f fd ["script"] (spM false ⟨K, mg⟩ 1 m_law) :=
  fg_ok F sc_law 21 1 rfl rfl (by decide) fun cdv A outer s H E hr =>
    b_cons (s_setN (i := 1) sc_law.nd (e_callN G__law_begin (hr.mono (by decide)) (a_cons (dv 0) (a_nil)))) (b_cons (s_set (i := 2) sc_law.nd (e_add (d_int) (e_call G__law_draw (hr.mono (by decide)) (a_cons (dv 1) (a_cons (d_int) (a_nil)))))) (b_cons (s_set (i := 3) sc_law.nd (e_add (d_int) (e_call G__law_draw (hr.mono (by decide)) (a_cons (dv 1) (a_cons (e_get hr (d_tup (a_cons (d_int) (a_cons (d_int) (a_cons (d_int) (a_cons (d_int) (a_cons (d_int) (a_cons (d_int) (a_nil)))))))) (e_sub (dv 2) (d_int))) (a_nil)))))) (b_cons (s_if (t_val (e_call G__law_rare (hr.mono (by decide)) (a_cons (dv 1) (a_cons (d_int) (a_nil))))) (b_one (s_set (i := 3) sc_law.nd (e_add (d_int) (e_call G__law_draw (hr.mono (by decide)) (a_cons (dv 1) (a_cons (d_int) (a_nil))))))) (b_nil)) (b_cons (s_set (i := 4) sc_law.nd (e_call G__law_channels (hr.mono (by decide)) (a_cons (dv 1) (a_cons (dv 2) (a_nil))))) (b_cons (s_set (i := 5) sc_law.nd (e_call G__law_rows_of_words (hr.mono (by decide)) (a_cons (dv 1) (a_cons (dv 2) (a_cons (dv 3) (a_nil)))))) (b_cons (s_set (i := 6) sc_law.nd (e_call G__law_steps (hr.mono (by decide)) (a_cons (dv 1) (a_cons (dv 2) (a_cons (dv 3) (a_nil)))))) (b_cons (s_set (i := 7) sc_law.nd (e_call G__law_table (hr.mono (by decide)) (a_cons (dv 6) (a_cons (dv 5) (a_cons (dv 3) (a_nil)))))) (b_cons (s_setLcV (i := 8) rfl sc_law.nd [("values", 20)] (show blkC ["script", "d", "many", "word", "names", "points", "steps", "table", "dues", "forms", "at", "told", "one", "other", "words", "k", "given", "channel", "due", "part", "values"] (defScope t_law) _ [("values", 20)] = true by decide +kernel) rfl (sw_true rfl rfl rfl (by decide +kernel)) (i_lst (dv 7)) (ntg_name 20) (fun _ _ _ _ _ => pg_name (i := 20) sc_law.nd rfl (Or.inl rfl)) (fun _ _ _ _ _ => ts_nil) (fun _ _ _ _ _ => e_call G__law_due_form (hr.mono (by decide)) (a_cons (dv 20) (a_cons (dv 4) (a_cons (dv 3) (a_nil)))))) (b_cons (s_setN (i := 9) sc_law.nd (n_lst (a_nil))) (b_cons (s_for PassesOwn.never rfl (i_range1 (a_cons (e_len z_len (a_cons (dv 6) (a_nil))) (a_nil)) (by rfl) z_range) (g_name (i := 10) sc_law.nd) (b_cons (s_set (i := 11) sc_law.nd (e_call G__law_made (hr.mono (by decide)) (a_cons (e_get hr (dv 6) (dv 10)) (a_cons (dv 9) (a_cons (dv 4) (a_cons (dv 3) (a_nil))))))) (b_cons (s_if (t_w (w_or (t_not (t_val (e_call G__law_same (hr.mono (by decide)) (a_cons (dv 11) (a_cons (e_get hr (dv 8) (dv 10)) (a_nil)))))) (w_or1 (t_not (t_val (e_call G__law_same (hr.mono (by decide)) (a_cons (e_call G_is_plain_form (hr.mono (by decide)) (a_cons (dv 11) (a_nil))) (a_cons (e_eq hr (e_max rfl z_max (a_cons (e_get hr (dv 7) (dv 10)) (a_nil))) (e_min rfl z_min (a_cons (e_get hr (dv 7) (dv 10)) (a_nil)))) (a_nil))))))))) (b_one (s_ret (d_bl))) (b_nil)) (b_one (s_expr (e_append (i := 9) (a_cons (dv 11) (a_nil)))))))) (b_cons (s_for PassesOwn.never rfl (i_range1 (a_cons (e_len z_len (a_cons (dv 6) (a_nil))) (a_nil)) (by rfl) z_range) (g_name (i := 12) sc_law.nd) (b_one (s_for PassesOwn.never rfl (i_range1 (a_cons (dv 12) (a_nil)) (by rfl) z_range) (g_name (i := 13) sc_law.nd) (b_one (s_if (t_ne hr (e_eq hr (e_get hr (dv 9) (dv 12)) (e_get hr (dv 9) (dv 13))) (e_eq hr (e_get hr (dv 7) (dv 12)) (e_get hr (dv 7) (dv 13)))) (b_one (s_ret (d_bl))) (b_nil)))))) (b_cons (s_for PassesOwn.never rfl (i_range1 (a_cons (e_len z_len (a_cons (dv 5) (a_nil))) (a_nil)) (by rfl) z_range) (g_name (i := 10) sc_law.nd) (b_cons (s_setN (i := 14) sc_law.nd (n_dzip rfl z_dict z_zip (a_cons (dv 4) (a_cons (e_get hr (dv 5) (dv 10)) (a_nil))))) (b_one (s_for PassesOwn.never rfl (i_tup (d_tup (a_cons (e_sub (e_len z_len (a_cons (dv 6) (a_nil))) (d_int)) (a_cons (e_call G__law_draw (hr.mono (by decide)) (a_cons (dv 1) (a_cons (e_len z_len (a_cons (dv 6) (a_nil))) (a_nil)))) (a_nil))))) (g_name (i := 15) sc_law.nd) (b_cons (s_set (i := 16) sc_law.nd ((n_dict rfl z_dict (a_cons (dv 14) (a_nil))).val)) (b_one (s_if (t_w (w_or (t_not (t_val (e_call G__law_same (hr.mono (by decide)) (a_cons (e_callX G_form_value (takes0) (hr.mono (by decide)) (a_cons (e_get hr (dv 9) (dv 15)) (a_cons (dv 16) (a_cons (dv 3) (a_nil))))) (a_cons (e_get hr (e_get hr (dv 7) (dv 15)) (dv 10)) (a_nil)))))) (w_or1 (t_neK (Nat.lt_of_succ_lt (hu_of hr.room)) (dv 16) (dv 14))))) (b_one (s_ret (d_bl))) (b_nil)))))))) (b_cons (s_for PassesOwn.never rfl (i_range1 (a_cons (e_len z_len (a_cons (dv 6) (a_nil))) (a_nil)) (by rfl) z_range) (g_name (i := 15) sc_law.nd) (b_cons (s_set (i := 10) sc_law.nd (e_call G__law_draw (hr.mono (by decide)) (a_cons (dv 1) (a_cons (e_len z_len (a_cons (dv 5) (a_nil))) (a_nil))))) (b_cons (s_setN (i := 14) sc_law.nd (n_dic0)) (b_cons (s_for PassesOwn.never rfl (i_range1 (a_cons (dv 2) (a_nil)) (by rfl) z_range) (g_name (i := 17) sc_law.nd) (b_one (s_if (t_gt (e_call G__law_draw (hr.mono (by decide)) (a_cons (dv 1) (a_cons (d_int) (a_nil)))) (d_int)) (b_one (s_asg (e_get hr (e_get hr (dv 5) (dv 10)) (dv 17)) (g_sub (i := 14) hr (e_get hr (dv 4) (dv 17))))) (b_nil)))) (b_cons (s_set (i := 18) sc_law.nd (d_tup (a_cons (d_str) (a_cons (e_get hr (e_get hr (dv 7) (dv 15)) (dv 10)) (a_nil))))) (b_cons (s_for PassesOwn.never rfl (i_rev (e_get hr (e_get hr (dv 8) (dv 15)) (d_int)) (by rfl) z_reversed) (g_name (i := 19) sc_law.nd) (b_one (s_if (t_ninD (hu_of hr.room) (e_get hr (dv 19) (d_int)) (dv 14)) (b_one (s_set (i := 18) sc_law.nd (d_tup (a_cons (d_str) (a_cons (e_get hr (dv 19) (d_int)) (a_nil)))))) (b_nil)))) (b_one (s_frz 14 (s_if (t_not (t_val (e_call G__law_same (hr.mono (by decide)) (a_cons (e_call G__law_asked (hr.mono (by decide)) (a_cons (e_get hr (dv 9) (dv 15)) (a_cons (dv 14) (a_cons (dv 3) (a_nil))))) (a_cons (dv 18) (a_nil)))))) (b_one (s_ret (d_bl))) (b_nil)))))))))) (b_one (s_ret (e_call G__law_same (hr.mono (by decide)) (a_cons (e_toT z_tuple (a_cons (dv 9) (a_nil))) (a_cons (e_toT z_tuple (a_cons (dv 8) (a_nil))) (a_nil)))))))))))))))))))
end
/-! ### what the top has written -/
theorem all_mk {l : PySem.W.OpenLaw} {w : World} {K : PySem.W.Frag} {h : Heap} {mg : Str → Option Value} {fa : Addr} (X : K.In h) (G : h.Ns mainGlobals mg) (hfa : mg "law" = some (.ref fa))
    {C_SuretyError : Addr}
    {C_NoSuch : Addr}
    {C_NotOfKind : Addr}
    {nm_NoSuch q_NoSuch : Str} {N_NoSuch : Addr} {bs_NoSuch sub_NoSuch : List Value} {sn_NoSuch : List Str} {ab_NoSuch : Bool} {col_NoSuch : Option Bool} {dd_NoSuch : Option Addr} {m0_NoSuch m1_NoSuch m2_NoSuch m3_NoSuch m5_NoSuch : Option Value} {I_NoSuch : Addr} {odi_NoSuch ani_NoSuch : Option Addr} {sli_NoSuch : Array (Option Value)} {oci_NoSuch kVi_NoSuch dci_NoSuch pmi_NoSuch cdi_NoSuch cti_NoSuch : Value}
    (aC_SuretyError : PySem.W.nsIn K mainGlobals "SuretyError" = some (some (.ref C_SuretyError)))
    (aC_NoSuch : PySem.W.nsIn K mainGlobals "NoSuch" = some (some (.ref C_NoSuch)))
    (aC_NotOfKind : PySem.W.nsIn K mainGlobals "NotOfKind" = some (some (.ref C_NotOfKind)))
    (xL_NoSuch : K.lookup C_NoSuch = some (excClassObj nm_NoSuch q_NoSuch C_NoSuch N_NoSuch bs_NoSuch [.ref C_SuretyError, .type "ValueError", .type "Exception", .type "BaseException", .type "object"] true sn_NoSuch sub_NoSuch ab_NoSuch col_NoSuch dd_NoSuch m0_NoSuch m1_NoSuch m2_NoSuch m3_NoSuch m5_NoSuch "ValueError.__new__"))
    (sa_NoSuch : PySem.W.findIn K (.ref C_NoSuch) "__setattr__" = some (some (.builtin "object.__setattr__")))
    (ga_NoSuch : PySem.W.findIn K (.ref C_NoSuch) "__getattribute__" = some (some (.builtin "BaseException.__getattribute__")))
    (gg_NoSuch : PySem.W.findIn K (.ref C_NoSuch) "__getattr__" = some none)
    (nb0_NoSuch : PySem.W.findIn K (.ref C_NoSuch) "name" = some none)
    (ai_NoSuch : PySem.W.findIn K (.ref C_NoSuch) "__init__" = some (some (.ref I_NoSuch)))
    (ty_NoSuch : PySem.W.typeIn K (.ref I_NoSuch) = some (.type "function"))
    (li_NoSuch : K.lookup I_NoSuch = some ⟨oci_NoSuch, odi_NoSuch, .func (PySem.W.fnOf "__init__" "NoSuch.__init__" (defArgs ti_NoSuch) (defBody ti_NoSuch) (defScope ti_NoSuch) .none kVi_NoSuch dci_NoSuch pmi_NoSuch ani_NoSuch cdi_NoSuch cti_NoSuch), sli_NoSuch⟩)
    (ci_NoSuch : PySem.W.codeIn K cdi_NoSuch "NoSuch.__init__" = true)
    (ki_NoSuch : PySem.W.keepIn K (.ref I_NoSuch) = true)
    (kC_NoSuch : PySem.W.keepIn K (.ref C_NoSuch) = true)
    (hC_NoSuch : PySem.W.hasDictIn K C_NoSuch = true)
    (eC_NoSuch : PySem.W.subIn K (.ref C_NoSuch) (.type "BaseException") = some true)
    (tC_NoSuch : PySem.W.typeIn K (.ref C_NoSuch) = some (.type "type"))
    (iC_NoSuch : PySem.W.isClsIn K C_NoSuch = true)
    (sb_NoSuch_NoSuch : PySem.W.subIn K (.ref C_NoSuch) (.ref C_NoSuch) = some true)
    (hn : PySem.W.specialIn K (.builtin "object.__class__") "__get__" = some (some (.builtin "getset_descriptor.__get__")))
    (ht : PySem.W.takesIn K (.builtin "object.__class__") = some true)
    (ha_NoSuch : PySem.W.findIn K (.ref C_NoSuch) "__class__" = some (some (.builtin "object.__class__")))
    (hm_NoSuch : PySem.W.mroIn K C_NoSuch (.type "object") = some true)
    (iC_NotOfKind : PySem.W.isClsIn K C_NotOfKind = true)
    (tC_NotOfKind : PySem.W.typeIn K (.ref C_NotOfKind) = some (.type "type"))
    (sb_NoSuch_NotOfKind : PySem.W.subIn K (.ref C_NoSuch) (.ref C_NotOfKind) = some false)
    (nq_NoSuch_NotOfKind : (Value.ref C_NoSuch == Value.ref C_NotOfKind) = false)
    (iC_SuretyError : PySem.W.isClsIn K C_SuretyError = true)
    (tC_SuretyError : PySem.W.typeIn K (.ref C_SuretyError) = some (.type "type"))
    (sb_NoSuch_SuretyError : PySem.W.subIn K (.ref C_NoSuch) (.ref C_SuretyError) = some true)
    {f0 : Addr} {od0 an0 : Option Addr} {sl0 : Array (Option Value)} {oc0 kV0 dc0 pm0 cd0 ct0 : Value} (a0 : PySem.W.nsIn K mainGlobals "_law_begin" = some (some (.ref f0)))
    (l0 : K.lookup f0 = some ⟨oc0, od0, .func (PySem.W.fnOf "_law_begin" "_law_begin" (defArgs t__law_begin) (defBody t__law_begin) (defScope t__law_begin) .none kV0 dc0 pm0 an0 cd0 ct0), sl0⟩)
    (c0 : PySem.W.codeIn K cd0 "_law_begin" = true) (k0 : PySem.W.keepIn K (.ref f0) = true)
    {f1 : Addr} {od1 an1 : Option Addr} {sl1 : Array (Option Value)} {oc1 kV1 dc1 pm1 cd1 ct1 : Value} (a1 : PySem.W.nsIn K mainGlobals "_law_draw" = some (some (.ref f1)))
    (l1 : K.lookup f1 = some ⟨oc1, od1, .func (PySem.W.fnOf "_law_draw" "_law_draw" (defArgs t__law_draw) (defBody t__law_draw) (defScope t__law_draw) .none kV1 dc1 pm1 an1 cd1 ct1), sl1⟩)
    (c1 : PySem.W.codeIn K cd1 "_law_draw" = true) (k1 : PySem.W.keepIn K (.ref f1) = true)
    {f2 : Addr} {od2 an2 : Option Addr} {sl2 : Array (Option Value)} {oc2 kV2 dc2 pm2 cd2 ct2 : Value} (a2 : PySem.W.nsIn K mainGlobals "_law_rare" = some (some (.ref f2)))
    (l2 : K.lookup f2 = some ⟨oc2, od2, .func (PySem.W.fnOf "_law_rare" "_law_rare" (defArgs t__law_rare) (defBody t__law_rare) (defScope t__law_rare) .none kV2 dc2 pm2 an2 cd2 ct2), sl2⟩)
    (c2 : PySem.W.codeIn K cd2 "_law_rare" = true) (k2 : PySem.W.keepIn K (.ref f2) = true)
    {f3 : Addr} {od3 an3 : Option Addr} {sl3 : Array (Option Value)} {oc3 kV3 dc3 pm3 cd3 ct3 : Value} (a3 : PySem.W.nsIn K mainGlobals "_law_channels" = some (some (.ref f3)))
    (l3 : K.lookup f3 = some ⟨oc3, od3, .func (PySem.W.fnOf "_law_channels" "_law_channels" (defArgs t__law_channels) (defBody t__law_channels) (defScope t__law_channels) .none kV3 dc3 pm3 an3 cd3 ct3), sl3⟩)
    (c3 : PySem.W.codeIn K cd3 "_law_channels" = true) (k3 : PySem.W.keepIn K (.ref f3) = true)
    {f4 : Addr} {od4 an4 : Option Addr} {sl4 : Array (Option Value)} {oc4 kV4 dc4 pm4 cd4 ct4 : Value} (a4 : PySem.W.nsIn K mainGlobals "_law_rows_of_words" = some (some (.ref f4)))
    (l4 : K.lookup f4 = some ⟨oc4, od4, .func (PySem.W.fnOf "_law_rows_of_words" "_law_rows_of_words" (defArgs t__law_rows_of_words) (defBody t__law_rows_of_words) (defScope t__law_rows_of_words) .none kV4 dc4 pm4 an4 cd4 ct4), sl4⟩)
    (c4 : PySem.W.codeIn K cd4 "_law_rows_of_words" = true) (k4 : PySem.W.keepIn K (.ref f4) = true)
    {f5 : Addr} {od5 an5 : Option Addr} {sl5 : Array (Option Value)} {oc5 kV5 dc5 pm5 cd5 ct5 : Value} (a5 : PySem.W.nsIn K mainGlobals "_law_pick" = some (some (.ref f5)))
    (l5 : K.lookup f5 = some ⟨oc5, od5, .func (PySem.W.fnOf "_law_pick" "_law_pick" (defArgs t__law_pick) (defBody t__law_pick) (defScope t__law_pick) .none kV5 dc5 pm5 an5 cd5 ct5), sl5⟩)
    (c5 : PySem.W.codeIn K cd5 "_law_pick" = true) (k5 : PySem.W.keepIn K (.ref f5) = true)
    {f6 : Addr} {od6 an6 : Option Addr} {sl6 : Array (Option Value)} {oc6 kV6 dc6 pm6 cd6 ct6 : Value} (a6 : PySem.W.nsIn K mainGlobals "_law_twin" = some (some (.ref f6)))
    (l6 : K.lookup f6 = some ⟨oc6, od6, .func (PySem.W.fnOf "_law_twin" "_law_twin" (defArgs t__law_twin) (defBody t__law_twin) (defScope t__law_twin) .none kV6 dc6 pm6 an6 cd6 ct6), sl6⟩)
    (c6 : PySem.W.codeIn K cd6 "_law_twin" = true) (k6 : PySem.W.keepIn K (.ref f6) = true)
    {f7 : Addr} {od7 an7 : Option Addr} {sl7 : Array (Option Value)} {oc7 kV7 dc7 pm7 cd7 ct7 : Value} (a7 : PySem.W.nsIn K mainGlobals "_law_steps" = some (some (.ref f7)))
    (l7 : K.lookup f7 = some ⟨oc7, od7, .func (PySem.W.fnOf "_law_steps" "_law_steps" (defArgs t__law_steps) (defBody t__law_steps) (defScope t__law_steps) .none kV7 dc7 pm7 an7 cd7 ct7), sl7⟩)
    (c7 : PySem.W.codeIn K cd7 "_law_steps" = true) (k7 : PySem.W.keepIn K (.ref f7) = true)
    {f8 : Addr} {od8 an8 : Option Addr} {sl8 : Array (Option Value)} {oc8 kV8 dc8 pm8 cd8 ct8 : Value} (a8 : PySem.W.nsIn K mainGlobals "_law_table" = some (some (.ref f8)))
    (l8 : K.lookup f8 = some ⟨oc8, od8, .func (PySem.W.fnOf "_law_table" "_law_table" (defArgs t__law_table) (defBody t__law_table) (defScope t__law_table) .none kV8 dc8 pm8 an8 cd8 ct8), sl8⟩)
    (c8 : PySem.W.codeIn K cd8 "_law_table" = true) (k8 : PySem.W.keepIn K (.ref f8) = true)
    {f9 : Addr} {od9 an9 : Option Addr} {sl9 : Array (Option Value)} {oc9 kV9 dc9 pm9 cd9 ct9 : Value} (a9 : PySem.W.nsIn K mainGlobals "_law_due_form" = some (some (.ref f9)))
    (l9 : K.lookup f9 = some ⟨oc9, od9, .func (PySem.W.fnOf "_law_due_form" "_law_due_form" (defArgs t__law_due_form) (defBody t__law_due_form) (defScope t__law_due_form) .none kV9 dc9 pm9 an9 cd9 ct9), sl9⟩)
    (c9 : PySem.W.codeIn K cd9 "_law_due_form" = true) (k9 : PySem.W.keepIn K (.ref f9) = true)
    {f10 : Addr} {od10 an10 : Option Addr} {sl10 : Array (Option Value)} {oc10 kV10 dc10 pm10 cd10 ct10 : Value} (a10 : PySem.W.nsIn K mainGlobals "plain_form" = some (some (.ref f10)))
    (l10 : K.lookup f10 = some ⟨oc10, od10, .func (PySem.W.fnOf "plain_form" "plain_form" (defArgs t_plain_form) (defBody t_plain_form) (defScope t_plain_form) .none kV10 dc10 pm10 an10 cd10 ct10), sl10⟩)
    (c10 : PySem.W.codeIn K cd10 "plain_form" = true) (k10 : PySem.W.keepIn K (.ref f10) = true)
    {f11 : Addr} {od11 an11 : Option Addr} {sl11 : Array (Option Value)} {oc11 kV11 dc11 pm11 cd11 ct11 : Value} (a11 : PySem.W.nsIn K mainGlobals "channel_form" = some (some (.ref f11)))
    (l11 : K.lookup f11 = some ⟨oc11, od11, .func (PySem.W.fnOf "channel_form" "channel_form" (defArgs t_channel_form) (defBody t_channel_form) (defScope t_channel_form) .none kV11 dc11 pm11 an11 cd11 ct11), sl11⟩)
    (c11 : PySem.W.codeIn K cd11 "channel_form" = true) (k11 : PySem.W.keepIn K (.ref f11) = true)
    {f12 : Addr} {od12 an12 : Option Addr} {sl12 : Array (Option Value)} {oc12 kV12 dc12 pm12 cd12 ct12 : Value} (a12 : PySem.W.nsIn K mainGlobals "joined_form" = some (some (.ref f12)))
    (l12 : K.lookup f12 = some ⟨oc12, od12, .func (PySem.W.fnOf "joined_form" "joined_form" (defArgs t_joined_form) (defBody t_joined_form) (defScope t_joined_form) .none kV12 dc12 pm12 an12 cd12 ct12), sl12⟩)
    (c12 : PySem.W.codeIn K cd12 "joined_form" = true) (k12 : PySem.W.keepIn K (.ref f12) = true)
    {f13 : Addr} {od13 an13 : Option Addr} {sl13 : Array (Option Value)} {oc13 kV13 dc13 pm13 cd13 ct13 : Value} (a13 : PySem.W.nsIn K mainGlobals "form_sum" = some (some (.ref f13)))
    (l13 : K.lookup f13 = some ⟨oc13, od13, .func (PySem.W.fnOf "form_sum" "form_sum" (defArgs t_form_sum) (defBody t_form_sum) (defScope t_form_sum) .none kV13 dc13 pm13 an13 cd13 ct13), sl13⟩)
    (c13 : PySem.W.codeIn K cd13 "form_sum" = true) (k13 : PySem.W.keepIn K (.ref f13) = true)
    {f14 : Addr} {od14 an14 : Option Addr} {sl14 : Array (Option Value)} {oc14 kV14 dc14 pm14 cd14 ct14 : Value} (a14 : PySem.W.nsIn K mainGlobals "form_minus" = some (some (.ref f14)))
    (l14 : K.lookup f14 = some ⟨oc14, od14, .func (PySem.W.fnOf "form_minus" "form_minus" (defArgs t_form_minus) (defBody t_form_minus) (defScope t_form_minus) .none kV14 dc14 pm14 an14 cd14 ct14), sl14⟩)
    (c14 : PySem.W.codeIn K cd14 "form_minus" = true) (k14 : PySem.W.keepIn K (.ref f14) = true)
    {f15 : Addr} {od15 an15 : Option Addr} {sl15 : Array (Option Value)} {oc15 kV15 dc15 pm15 cd15 ct15 : Value} (a15 : PySem.W.nsIn K mainGlobals "form_times" = some (some (.ref f15)))
    (l15 : K.lookup f15 = some ⟨oc15, od15, .func (PySem.W.fnOf "form_times" "form_times" (defArgs t_form_times) (defBody t_form_times) (defScope t_form_times) .none kV15 dc15 pm15 an15 cd15 ct15), sl15⟩)
    (c15 : PySem.W.codeIn K cd15 "form_times" = true) (k15 : PySem.W.keepIn K (.ref f15) = true)
    {f16 : Addr} {od16 an16 : Option Addr} {sl16 : Array (Option Value)} {oc16 kV16 dc16 pm16 cd16 ct16 : Value} (a16 : PySem.W.nsIn K mainGlobals "_law_made" = some (some (.ref f16)))
    (l16 : K.lookup f16 = some ⟨oc16, od16, .func (PySem.W.fnOf "_law_made" "_law_made" (defArgs t__law_made) (defBody t__law_made) (defScope t__law_made) .none kV16 dc16 pm16 an16 cd16 ct16), sl16⟩)
    (c16 : PySem.W.codeIn K cd16 "_law_made" = true) (k16 : PySem.W.keepIn K (.ref f16) = true)
    {f17 : Addr} {od17 an17 : Option Addr} {sl17 : Array (Option Value)} {oc17 kV17 dc17 pm17 cd17 ct17 : Value} (a17 : PySem.W.nsIn K mainGlobals "_law_is_int" = some (some (.ref f17)))
    (l17 : K.lookup f17 = some ⟨oc17, od17, .func (PySem.W.fnOf "_law_is_int" "_law_is_int" (defArgs t__law_is_int) (defBody t__law_is_int) (defScope t__law_is_int) .none kV17 dc17 pm17 an17 cd17 ct17), sl17⟩)
    (c17 : PySem.W.codeIn K cd17 "_law_is_int" = true) (k17 : PySem.W.keepIn K (.ref f17) = true)
    {f18 : Addr} {od18 an18 : Option Addr} {sl18 : Array (Option Value)} {oc18 kV18 dc18 pm18 cd18 ct18 : Value} (a18 : PySem.W.nsIn K mainGlobals "_law_same" = some (some (.ref f18)))
    (l18 : K.lookup f18 = some ⟨oc18, od18, .func (PySem.W.fnOf "_law_same" "_law_same" (defArgs t__law_same) (defBody t__law_same) (defScope t__law_same) .none kV18 dc18 pm18 an18 cd18 ct18), sl18⟩)
    (c18 : PySem.W.codeIn K cd18 "_law_same" = true) (k18 : PySem.W.keepIn K (.ref f18) = true)
    {f19 : Addr} {od19 an19 : Option Addr} {sl19 : Array (Option Value)} {oc19 kV19 dc19 pm19 cd19 ct19 : Value} (a19 : PySem.W.nsIn K mainGlobals "is_plain_form" = some (some (.ref f19)))
    (l19 : K.lookup f19 = some ⟨oc19, od19, .func (PySem.W.fnOf "is_plain_form" "is_plain_form" (defArgs t_is_plain_form) (defBody t_is_plain_form) (defScope t_is_plain_form) .none kV19 dc19 pm19 an19 cd19 ct19), sl19⟩)
    (c19 : PySem.W.codeIn K cd19 "is_plain_form" = true) (k19 : PySem.W.keepIn K (.ref f19) = true)
    {f20 : Addr} {od20 an20 : Option Addr} {sl20 : Array (Option Value)} {oc20 kV20 dc20 pm20 cd20 ct20 : Value} (a20 : PySem.W.nsIn K mainGlobals "form_value" = some (some (.ref f20)))
    (l20 : K.lookup f20 = some ⟨oc20, od20, .func (PySem.W.fnOf "form_value" "form_value" (defArgs t_form_value) (defBody t_form_value) (defScope t_form_value) .none kV20 dc20 pm20 an20 cd20 ct20), sl20⟩)
    (c20 : PySem.W.codeIn K cd20 "form_value" = true) (k20 : PySem.W.keepIn K (.ref f20) = true)
    {f21 : Addr} {od21 an21 : Option Addr} {sl21 : Array (Option Value)} {oc21 kV21 dc21 pm21 cd21 ct21 : Value} (a21 : PySem.W.nsIn K mainGlobals "_law_asked" = some (some (.ref f21)))
    (l21 : K.lookup f21 = some ⟨oc21, od21, .func (PySem.W.fnOf "_law_asked" "_law_asked" (defArgs t__law_asked) (defBody t__law_asked) (defScope t__law_asked) .none kV21 dc21 pm21 an21 cd21 ct21), sl21⟩)
    (c21 : PySem.W.codeIn K cd21 "_law_asked" = true) (k21 : PySem.W.keepIn K (.ref f21) = true)
    {f22 : Addr} {od22 an22 : Option Addr} {sl22 : Array (Option Value)} {oc22 kV22 dc22 pm22 cd22 ct22 : Value} (a22 : PySem.W.nsIn K mainGlobals "law" = some (some (.ref f22)))
    (l22 : K.lookup f22 = some ⟨oc22, od22, .func (PySem.W.fnOf "law" "law" (defArgs t_law) (defBody t_law) (defScope t_law) .none kV22 dc22 pm22 an22 cd22 ct22), sl22⟩)
    (c22 : PySem.W.codeIn K cd22 "law" = true) (k22 : PySem.W.keepIn K (.ref f22) = true)
    (z0 : PySem.W.nsIn K mainGlobals "int" = some none)
    (z1 : PySem.W.nsIn K mainGlobals "abs" = some none)
    (z2 : PySem.W.nsIn K mainGlobals "sum" = some none)
    (z3 : PySem.W.nsIn K mainGlobals "len" = some none)
    (z4 : PySem.W.nsIn K mainGlobals "range" = some none)
    (z5 : PySem.W.nsIn K mainGlobals "str" = some none)
    (z6 : PySem.W.nsIn K mainGlobals "tuple" = some none)
    (z7 : PySem.W.nsIn K mainGlobals "sorted" = some none)
    (z8 : PySem.W.nsIn K mainGlobals "dict" = some none)
    (z9 : PySem.W.nsIn K mainGlobals "isinstance" = some none)
    (z10 : PySem.W.nsIn K mainGlobals "bool" = some none)
    (z11 : PySem.W.nsIn K mainGlobals "all" = some none)
    (z12 : PySem.W.nsIn K mainGlobals "max" = some none)
    (z13 : PySem.W.nsIn K mainGlobals "min" = some none)
    (z14 : PySem.W.nsIn K mainGlobals "zip" = some none)
    (z15 : PySem.W.nsIn K mainGlobals "reversed" = some none)
    : ∃ fd : FuncData, (∀ (s : Shared) (v : Value), BindsTo s fd ⟨[v], []⟩ [("script", v)]) ∧ ∀ base : Heap, K.In base → base.Ns mainGlobals mg → FnG l.prog w K mg base CX0 8 fa fd ["script"] (spM false ⟨K, mg⟩ 1 m_law) := by
  have e := hfa.symm.trans (PySem.W.mg_of X G a22)
  cases e
  have F0 := fun_mk (st := t__law_begin) l0 c0 k0
  have F1 := fun_mk (st := t__law_draw) l1 c1 k1
  have F2 := fun_mk (st := t__law_rare) l2 c2 k2
  have F3 := fun_mk (st := t__law_channels) l3 c3 k3
  have F4 := fun_mk (st := t__law_rows_of_words) l4 c4 k4
  have F5 := fun_mk (st := t__law_pick) l5 c5 k5
  have F6 := fun_mk (st := t__law_twin) l6 c6 k6
  have F7 := fun_mk (st := t__law_steps) l7 c7 k7
  have F8 := fun_mk (st := t__law_table) l8 c8 k8
  have F9 := fun_mk (st := t__law_due_form) l9 c9 k9
  have F10 := fun_mk (st := t_plain_form) l10 c10 k10
  have F11 := fun_mk (st := t_channel_form) l11 c11 k11
  have F12 := fun_mk (st := t_joined_form) l12 c12 k12
  have F13 := fun_mk (st := t_form_sum) l13 c13 k13
  have F14 := fun_mk (st := t_form_minus) l14 c14 k14
  have F15 := fun_mk (st := t_form_times) l15 c15 k15
  have F16 := fun_mk (st := t__law_made) l16 c16 k16
  have F17 := fun_mk (st := t__law_is_int) l17 c17 k17
  have F18 := fun_mk (st := t__law_same) l18 c18 k18
  have F19 := fun_mk (st := t_is_plain_form) l19 c19 k19
  have F20 := fun_mk (st := t_form_value) l20 c20 k20
  have F21 := fun_mk (st := t__law_asked) l21 c21 k21
  have F22 := fun_mk (st := t_law) l22 c22 k22
  have y_int := PySem.W.mg_none_of X G z0
  have y_abs := PySem.W.mg_none_of X G z1
  have y_sum := PySem.W.mg_none_of X G z2
  have y_len := PySem.W.mg_none_of X G z3
  have y_range := PySem.W.mg_none_of X G z4
  have y_str := PySem.W.mg_none_of X G z5
  have y_tuple := PySem.W.mg_none_of X G z6
  have y_sorted := PySem.W.mg_none_of X G z7
  have y_dict := PySem.W.mg_none_of X G z8
  have y_isinstance := PySem.W.mg_none_of X G z9
  have y_bool := PySem.W.mg_none_of X G z10
  have y_all := PySem.W.mg_none_of X G z11
  have y_max := PySem.W.mg_none_of X G z12
  have y_min := PySem.W.mg_none_of X G z13
  have y_zip := PySem.W.mg_none_of X G z14
  have y_reversed := PySem.W.mg_none_of X G z15
  refine ⟨PySem.W.fnOf "law" "law" (defArgs t_law) (defBody t_law) (defScope t_law) .none kV22 dc22 pm22 an22 cd22 ct22, fun s v => .of_eq rfl, fun base _ _ => ?_⟩
  have FI_NoSuch := fun_mk (st := ti_NoSuch) li_NoSuch ci_NoSuch ki_NoSuch
  have ox_NoSuch : OexC K C_NoSuch := ⟨⟨_, _, _, _, _, _, _, _, _, _, _, _, _, _, _, xL_NoSuch, by first | rfl | decide +kernel⟩, sa_NoSuch, eC_NoSuch, tC_NoSuch, kC_NoSuch⟩
  have ET_NoSuch : ExT K mg "NoSuch" C_NoSuch I_NoSuch ["name"] := ⟨PySem.W.mg_of X G aC_NoSuch, ox_NoSuch, ⟨ga_NoSuch, gg_NoSuch, eC_NoSuch, hC_NoSuch⟩, ai_NoSuch, ty_NoSuch, fun f hf => by
    simp only [List.mem_cons, List.not_mem_nil, or_false] at hf
    rcases hf with rfl <;> assumption⟩
  have Z_NoSuch : RzT l.prog w K mg base 1 "NoSuch" ["name"] := ⟨C_NoSuch, I_NoSuch, _, ["self", "name"], ET_NoSuch, FI_NoSuch.ok sci_NoSuch (spInit_len rfl) fun cdv A outer s H vs Q E hr h => ⟨_, pss_one (ps_ost (pv 0) (pv 1)), init_1 ox_NoSuch nb0_NoSuch h⟩, FI_NoSuch.binds (ps := ["self", "name"]) fun _ _ _ _ _ _ us hl => match us, hl with | [_, _], _ => rfl⟩
  have Y_NoSuch : TyT K mg "NoSuch" [("NoSuch", true)] := ⟨.ref C_NoSuch, PySem.W.mg_of X G aC_NoSuch, tbl1 (Q := fun nm b => ∃ v, mg nm = some v ∧ PySem.W.exmOne K v (.ref C_NoSuch) = some b) ⟨.ref C_NoSuch, PySem.W.mg_of X G aC_NoSuch, exm_is eC_NoSuch iC_NoSuch tC_NoSuch sb_NoSuch_NoSuch⟩⟩
  have J_NotOfKind : IsT K mg "NotOfKind" [("NoSuch", false)] := ⟨C_NotOfKind, PySem.W.mg_of X G aC_NotOfKind, tbl1 (Q := fun nm b => ∃ C, mg nm = some (.ref C) ∧ XfC K C ∧ IsC K C ∧ PySem.W.kitOne K (.ref C) (.ref C_NotOfKind) = some b) ⟨C_NoSuch, PySem.W.mg_of X G aC_NoSuch, ET_NoSuch.xf, ⟨iC_NoSuch, ha_NoSuch, hn, ht, hm_NoSuch⟩, kit_f iC_NotOfKind tC_NotOfKind sb_NoSuch_NotOfKind nq_NoSuch_NotOfKind⟩⟩
  have J_SuretyError : IsT K mg "SuretyError" [("NoSuch", true)] := ⟨C_SuretyError, PySem.W.mg_of X G aC_SuretyError, tbl1 (Q := fun nm b => ∃ C, mg nm = some (.ref C) ∧ XfC K C ∧ IsC K C ∧ PySem.W.kitOne K (.ref C) (.ref C_SuretyError) = some b) ⟨C_NoSuch, PySem.W.mg_of X G aC_NoSuch, ET_NoSuch.xf, ⟨iC_NoSuch, ha_NoSuch, hn, ht, hm_NoSuch⟩, kit_t iC_SuretyError tC_SuretyError sb_NoSuch_SuretyError⟩⟩
  have b0 := F0.binds (ps := ["script"]) fun _ _ _ _ _ _ us hl => match us, hl with | [_], _ => rfl
  have G__law_begin : Def0 l.prog w K mg base 1 "_law_begin" 1 mBegin := ⟨⟨f0, _, _, ok__law_begin y_int y_abs y_sum F0, PySem.W.mg_of X G a0, F0.kp, b0⟩, run_nox⟩
  have b1 := F1.binds (ps := ["d", "many"]) fun _ _ _ _ _ _ us hl => match us, hl with | [_, _], _ => rfl
  have G__law_draw : Def0 l.prog w K mg base 1 "_law_draw" 2 mDraw := ⟨⟨f1, _, _, ok__law_draw y_len y_int F1, PySem.W.mg_of X G a1, F1.kp, b1⟩, run_nox⟩
  have b2 := F2.binds (ps := ["d", "many"]) fun _ _ _ _ _ _ us hl => match us, hl with | [_, _], _ => rfl
  have G__law_rare : Def0 l.prog w K mg base 2 "_law_rare" 2 mRare := ⟨⟨f2, _, _, ok__law_rare G__law_draw F2, PySem.W.mg_of X G a2, F2.kp, b2⟩, run_nox⟩
  have b3 := F3.binds (ps := ["d", "many"]) fun _ _ _ _ _ _ us hl => match us, hl with | [_, _], _ => rfl
  have G__law_channels : Def0 l.prog w K mg base 2 "_law_channels" 2 m__law_channels := ⟨⟨f3, _, _, ok__law_channels G__law_draw y_range y_str F3, PySem.W.mg_of X G a3, F3.kp, b3⟩, run_nox⟩
  have b4 := F4.binds (ps := ["d", "many", "word"]) fun _ _ _ _ _ _ us hl => match us, hl with | [_, _, _], _ => rfl
  have G__law_rows_of_words : Def0 l.prog w K mg base 2 "_law_rows_of_words" 3 m__law_rows_of_words := ⟨⟨f4, _, _, ok__law_rows_of_words G__law_draw y_range y_tuple y_int F4, PySem.W.mg_of X G a4, F4.kp, b4⟩, run_nox⟩
  have b5 := F5.binds (ps := ["d", "row"]) fun _ _ _ _ _ _ us hl => match us, hl with | [_, _], _ => rfl
  have G__law_pick : Def0 l.prog w K mg base 2 "_law_pick" 2 mPick := ⟨⟨f5, _, _, ok__law_pick G__law_draw y_len F5, PySem.W.mg_of X G a5, F5.kp, b5⟩, run_nox⟩
  have b6 := F6.binds (ps := ["steps", "at", "word"]) fun _ _ _ _ _ _ us hl => match us, hl with | [_, _, _], _ => rfl
  have G__law_twin : Def0 l.prog w K mg base 1 "_law_twin" 3 m__law_twin := ⟨⟨f6, _, _, ok__law_twin y_int y_len F6, PySem.W.mg_of X G a6, F6.kp, b6⟩, run_nox⟩
  have b7 := F7.binds (ps := ["d", "many", "word"]) fun _ _ _ _ _ _ us hl => match us, hl with | [_, _, _], _ => rfl
  have G__law_steps : Def0 l.prog w K mg base 3 "_law_steps" 3 m__law_steps := ⟨⟨f7, _, _, ok__law_steps G__law_draw G__law_pick G__law_twin y_range y_len F7, PySem.W.mg_of X G a7, F7.kp, b7⟩, run_nox⟩
  have b8 := F8.binds (ps := ["steps", "points", "word"]) fun _ _ _ _ _ _ us hl => match us, hl with | [_, _, _], _ => rfl
  have G__law_table : Def0 l.prog w K mg base 1 "_law_table" 3 m__law_table := ⟨⟨f8, _, _, ok__law_table y_int y_len y_range F8, PySem.W.mg_of X G a8, F8.kp, b8⟩, run_nox⟩
  have b9 := F9.binds (ps := ["values", "names", "word"]) fun _ _ _ _ _ _ us hl => match us, hl with | [_, _, _], _ => rfl
  have G__law_due_form : Def0 l.prog w K mg base 1 "_law_due_form" 3 m__law_due_form := ⟨⟨f9, _, _, ok__law_due_form y_sorted y_int y_tuple F9, PySem.W.mg_of X G a9, F9.kp, b9⟩, run_nox⟩
  have b10 := F10.binds (ps := ["number", "word"]) fun _ _ _ _ _ _ us hl => match us, hl with | [_, _], _ => rfl
  have G_plain_form : Def0 l.prog w K mg base 1 "plain_form" 2 m_plain_form := ⟨⟨f10, _, _, ok_plain_form F10, PySem.W.mg_of X G a10, F10.kp, b10⟩, run_nox⟩
  have b11 := F11.binds (ps := ["channel"]) fun _ _ _ _ _ _ us hl => match us, hl with | [_], _ => rfl
  have G_channel_form : Def0 l.prog w K mg base 1 "channel_form" 1 m_channel_form := ⟨⟨f11, _, _, ok_channel_form F11, PySem.W.mg_of X G a11, F11.kp, b11⟩, run_nox⟩
  have b12 := F12.binds (ps := ["left", "right", "by", "word"]) fun _ _ _ _ _ _ us hl => match us, hl with | [_, _, _, _], _ => rfl
  have G_joined_form : Def0 l.prog w K mg base 1 "joined_form" 4 m_joined_form := ⟨⟨f12, _, _, ok_joined_form y_dict y_sorted y_tuple F12, PySem.W.mg_of X G a12, F12.kp, b12⟩, run_nox⟩
  have b13 := F13.binds (ps := ["left", "right", "word"]) fun _ _ _ _ _ _ us hl => match us, hl with | [_, _, _], _ => rfl
  have G_form_sum : Def0 l.prog w K mg base 2 "form_sum" 3 m_form_sum := ⟨⟨f13, _, _, ok_form_sum G_joined_form F13, PySem.W.mg_of X G a13, F13.kp, b13⟩, run_nox⟩
  have b14 := F14.binds (ps := ["left", "right", "word"]) fun _ _ _ _ _ _ us hl => match us, hl with | [_, _, _], _ => rfl
  have G_form_minus : Def0 l.prog w K mg base 2 "form_minus" 3 m_form_minus := ⟨⟨f14, _, _, ok_form_minus G_joined_form F14, PySem.W.mg_of X G a14, F14.kp, b14⟩, run_nox⟩
  have b15 := F15.binds (ps := ["form", "number", "word"]) fun _ _ _ _ _ _ us hl => match us, hl with | [_, _, _], _ => rfl
  have G_form_times : Def0 l.prog w K mg base 2 "form_times" 3 m_form_times := ⟨⟨f15, _, _, ok_form_times G_joined_form F15, PySem.W.mg_of X G a15, F15.kp, b15⟩, run_nox⟩
  have b16 := F16.binds (ps := ["step", "forms", "names", "word"]) fun _ _ _ _ _ _ us hl => match us, hl with | [_, _, _, _], _ => rfl
  have G__law_made : Def0 l.prog w K mg base 3 "_law_made" 4 m__law_made := ⟨⟨f16, _, _, ok__law_made G_plain_form G_channel_form G_form_sum G_form_minus G_form_times F16, PySem.W.mg_of X G a16, F16.kp, b16⟩, run_nox⟩
  have b17 := F17.binds (ps := ["thing"]) fun _ _ _ _ _ _ us hl => match us, hl with | [_], _ => rfl
  have G__law_is_int : Def0 l.prog w K mg base 1 "_law_is_int" 1 m__law_is_int := ⟨⟨f17, _, _, ok__law_is_int y_int y_isinstance y_bool F17, PySem.W.mg_of X G a17, F17.kp, b17⟩, run_nox⟩
  have b18 := F18.binds (ps := ["told", "due"]) fun _ _ _ _ _ _ us hl => match us, hl with | [_, _], _ => rfl
  have G__law_same : ∀ n, Def0 l.prog w K mg base (1 + n) "_law_same" 2 (m__law_same n) := fun n => by
    induction n with
    | zero => exact ⟨⟨f18, _, ["told", "due"], fnG_bad rfl, PySem.W.mg_of X G a18, F18.kp, b18⟩, nox_bad⟩
    | succ n ih => exact ⟨⟨f18, _, _, ok__law_same (by omega) ih G__law_is_int y_tuple y_isinstance y_len y_range y_all y_bool y_int y_str F18, PySem.W.mg_of X G a18, F18.kp, b18⟩, run_nox⟩
  have b19 := F19.binds (ps := ["form"]) fun _ _ _ _ _ _ us hl => match us, hl with | [_], _ => rfl
  have G_is_plain_form : Def0 l.prog w K mg base 1 "is_plain_form" 1 m_is_plain_form := ⟨⟨f19, _, _, ok_is_plain_form y_len F19, PySem.W.mg_of X G a19, F19.kp, b19⟩, run_nox⟩
  have b20 := F20.binds (ps := ["form", "words", "word"]) fun _ _ _ _ _ _ us hl => match us, hl with | [_, _, _], _ => rfl
  have G_form_value : DefX l.prog w K mg base 3 "form_value" 3 m_form_value := ⟨⟨f20, _, _, ok_form_value Z_NoSuch F20, PySem.W.mg_of X G a20, F20.kp, b20⟩⟩
  have b21 := F21.binds (ps := ["form", "words", "word"]) fun _ _ _ _ _ _ us hl => match us, hl with | [_, _, _], _ => rfl
  have G__law_asked : Def0 l.prog w K mg base 4 "_law_asked" 3 m__law_asked := ⟨⟨f21, _, _, ok__law_asked G_form_value J_NotOfKind J_SuretyError Z_NoSuch Y_NoSuch y_isinstance F21, PySem.W.mg_of X G a21, F21.kp, b21⟩, run_nox⟩
  exact ok_law G__law_begin G__law_draw G__law_rare G__law_channels G__law_rows_of_words G__law_steps G__law_table G__law_due_form G__law_made (G__law_same 6) G_is_plain_form G_form_value G__law_asked y_len y_range y_max y_min y_dict y_zip y_reversed y_tuple F22
end K11
namespace K11
open PySem PySem.Spec PyProof.Rows L2 L3
/-! ### dicts of texts and whole numbers -/
def dks (ks : List Str) (g : Str → Int) : List (Key × D) := ks.map fun x => (Sum.inr x, D.int (g x))
section
variable {ks as bs names : List Str} {g F F' : Str → Int} {x : Str} {v : Int}
theorem look_dks : ∀ {ks : List Str}, dlook (dks ks g) (.inr x) = if x ∈ ks then some (.int (g x)) else none
  | [] => rfl
  | y :: r => by
    have ih := look_dks (ks := r)
    unfold dlook dks at ih ⊢
    rw [List.map_cons, List.find?_cons]
    by_cases e : y = x
    · subst e
      simp
    · have h : ¬ (Sum.inr y : Key) = Sum.inr x := fun z => e (Sum.inr.inj z)
      have h2 : ¬ x = y := fun z => e z.symm
      simp only [h, decide_false, ih, List.mem_cons, h2, false_or]
theorem any_dks : ((dks ks g).any fun kv => decide (kv.1 = (Sum.inr x : Key))) = decide (x ∈ ks) := by
  unfold dks
  rw [List.any_map]
  induction ks with
  | nil => rfl
  | cons y r ih =>
    rw [List.any_cons, ih]
    by_cases e : y = x
    · subst e
      simp
    · have h : ¬ (Sum.inr y : Key) = Sum.inr x := fun z => e (Sum.inr.inj z)
      have h2 : ¬ x = y := fun z => e z.symm
      simp [h, h2]
theorem put_dks : dput (dks ks g) (.inr x) (.int v) = dks (if x ∈ ks then ks else ks ++ [x]) (fun y => if y = x then v else g y) := by
  unfold dput
  rw [any_dks]
  by_cases h : x ∈ ks
  · rw [if_pos (decide_eq_true h), if_pos h]
    unfold dks
    rw [List.map_map]
    refine List.map_congr_left fun y _ => ?_
    simp only [Function.comp]
    by_cases e : y = x
    · subst e
      rw [if_pos rfl, if_pos rfl]
    · rw [if_neg (fun z => e (Sum.inr.inj z)), if_neg e]
  · rw [if_neg (by simp [h]), if_neg h]
    unfold dks
    rw [List.map_append]
    congr 1
    · refine List.map_congr_left fun y hy => ?_
      dsimp only
      rw [if_neg (fun z : y = x => h (z ▸ hy))]
    · simp
theorem keys_dks : ∀ {ks : List Str}, keyStrs (dks ks g) = some ks
  | [] => rfl
  | y :: r => by
    show (keyStrs (dks r g)).map (y :: ·) = _
    rw [keys_dks (ks := r)]; rfl
theorem dks_congr (h : ∀ x ∈ ks, g x = F x) : dks ks g = dks ks F := List.map_congr_left fun x hx => by rw [h x hx]
theorem merge_dks : ∀ {bs as : List Str}, (as ++ bs).Nodup → mergeD (dks as g) (dks bs g) = dks (as ++ bs) g
  | [], as, _ => by rw [List.append_nil]; rfl
  | b :: r, as, h => by
    show mergeD (dput (dks as g) (.inr b) (.int (g b))) (dks r g) = _
    have hb : b ∉ as := fun z => by
      rw [List.nodup_append] at h
      exact h.2.2 b z b List.mem_cons_self rfl
    rw [put_dks, if_neg hb, dks_congr (F := g) fun y _ => by
      by_cases e : y = b
      · rw [if_pos e, e]
      · rw [if_neg e], merge_dks (by rwa [List.append_assoc]), List.append_assoc]
    rfl
def prs (ks : List Str) (g : Str → Int) : List D := ks.map fun x => .tup [.str x, .int (g x)]
theorem pairs_prs : ∀ {ks : List Str}, pairDs (prs ks g) = some (dks ks g)
  | [] => rfl
  | y :: r => by
    show (some ((Sum.inr y : Key), D.int (g y))).bind _ = _
    show ((pairDs (prs r g)).map _) = _
    rw [pairs_prs (ks := r)]; rfl
/-! ### forms -/
def ptL (names : List Str) (F : Str → Int) : List Str := (srtS names).filter fun x => decide (F x ≠ 0)
def fD (names : List Str) (c : Int) (F : Str → Int) : D := .tup [.int c, .tup (prs (ptL names F) F)]
theorem srt_nodup (h : names.Nodup) : (srtS names).Nodup := (srtS_perm names).nodup_iff.mpr h
theorem srt_mem : x ∈ srtS names ↔ x ∈ names := (srtS_perm names).mem_iff
theorem pt_mem : x ∈ ptL names F ↔ x ∈ names ∧ F x ≠ 0 := by
  unfold ptL
  rw [List.mem_filter, srt_mem]
  simp
theorem pt_nodup (h : names.Nodup) : (ptL names F).Nodup := (srt_nodup h).filter _
theorem pt_srt : (ptL names F).Pairwise leS := (srtS_srt names).filter _
theorem pt_len (h : names.length ≤ 6) : (ptL names F).length ≤ 6 := Nat.le_trans (List.length_filter_le _ _) (by rw [(srtS_perm names).length_eq]; exact h)
theorem pt_congr (h : ∀ x ∈ names, F x = F' x) : ptL names F = ptL names F' := by
  unfold ptL
  refine List.filter_congr fun x hx => ?_
  rw [h x (srt_mem.mp hx)]
theorem fD_congr {c : Int} (h : ∀ x ∈ names, F x = F' x) : fD names c F = fD names c F' := by
  unfold fD
  rw [pt_congr h]
  unfold prs
  rw [List.map_congr_left (f := fun x => D.tup [.str x, .int (F x)]) (g := fun x => D.tup [.str x, .int (F' x)]) fun x hx => by rw [h x (pt_mem.mp hx).1]]
/-- the filtered order of fewer names -/
theorem pt_sub (hn : names.Nodup) (hk : ks.Nodup) (h1 : ∀ x ∈ ks, x ∈ names) (h2 : ∀ x ∈ names, x ∉ ks → F x = 0) : ptL ks F = ptL names F := by
  refine srt_uniq ?_ pt_srt pt_srt
  refine (List.perm_ext_iff_of_nodup (pt_nodup hk) (pt_nodup hn)).mpr fun x => ?_
  rw [pt_mem, pt_mem]
  refine ⟨fun h => ⟨h1 x h.1, h.2⟩, fun h => ⟨?_, h.2⟩⟩
  exact Classical.not_not.mp fun z => h.2 (h2 x h.1 z)
theorem pt_one (hn : names.Nodup) (hx : x ∈ names) : ptL names (fun y => if y = x then 1 else 0) = [x] := by
  refine srt_uniq ?_ pt_srt (List.pairwise_singleton _ _)
  refine (List.perm_ext_iff_of_nodup (pt_nodup hn) (by simp)).mpr fun y => ?_
  rw [pt_mem, List.mem_singleton]
  constructor
  · intro h
    by_cases e : y = x
    · exact e
    · exact absurd (if_neg e) h.2
  · rintro rfl
    exact ⟨hx, by simp⟩
theorem pt_zero : ptL names (fun _ => 0) = [] := by
  unfold ptL
  rw [List.filter_eq_nil_iff]
  simp
/-! ### sums -/
def sm (l : List Str) (f : Str → Int) : Int := (l.map f).sum
theorem sm_perm {l m : List Str} {f : Str → Int} (p : l.Perm m) : sm l f = sm m f := by
  induction p with
  | nil => rfl
  | cons x _ ih => unfold sm at ih ⊢; simp only [List.map_cons, List.sum_cons, ih]
  | swap x y l => unfold sm; simp only [List.map_cons, List.sum_cons]; omega
  | trans _ _ i1 i2 => rw [i1, i2]
theorem sm_congr {l : List Str} {f g : Str → Int} (h : ∀ x ∈ l, f x = g x) : sm l f = sm l g := by
  unfold sm
  rw [List.map_congr_left h]
theorem sm_filter {p : Str → Bool} {f : Str → Int} : ∀ {l : List Str}, (∀ x ∈ l, p x = false → f x = 0) → sm (l.filter p) f = sm l f
  | [], _ => rfl
  | x :: r, h => by
    have ih := sm_filter (l := r) fun y hy => h y (List.mem_cons_of_mem _ hy)
    rw [List.filter_cons]
    split
    · unfold sm at ih ⊢
      simp only [List.map_cons, List.sum_cons, ih]
    · rename_i q
      have := h x List.mem_cons_self (by simpa using q)
      unfold sm at ih ⊢
      simp only [List.map_cons, List.sum_cons, ih, this]; omega
theorem sm_pt {P : Str → Int} : sm (ptL names F) (fun x => F x * P x) = sm names fun x => F x * P x := by
  unfold ptL
  rw [sm_filter fun x _ h => by
    have : F x = 0 := by simpa using h
    rw [this, Int.zero_mul]]
  exact sm_perm (srtS_perm names)
theorem sm_add {f h : Str → Int} : ∀ {l : List Str}, sm l (fun x => f x + h x) = sm l f + sm l h
  | [] => rfl
  | x :: r => by
    have ih := sm_add (f := f) (h := h) (l := r)
    unfold sm at ih ⊢
    simp only [List.map_cons, List.sum_cons, ih]; omega
theorem sm_mul {f : Str → Int} {k : Int} : ∀ {l : List Str}, sm l (fun x => k * f x) = k * sm l f
  | [] => by show (0 : Int) = k * 0; rw [Int.mul_zero]
  | x :: r => by
    have ih := sm_mul (f := f) (k := k) (l := r)
    unfold sm at ih ⊢
    simp only [List.map_cons, List.sum_cons, ih, Int.mul_add]
theorem sm_mod {f h : Str → Int} {w : Int} (e : ∀ x, f x % w = h x % w) : ∀ {l : List Str}, sm l f % w = sm l h % w
  | [] => rfl
  | x :: r => by
    have ih := sm_mod (f := f) (h := h) e (l := r)
    unfold sm at ih ⊢
    simp only [List.map_cons, List.sum_cons]
    rw [Int.add_emod, e x, ih, ← Int.add_emod]
theorem sm_one (hn : names.Nodup) (hx : x ∈ names) : sm names (fun y => F y * if y = x then 1 else 0) = F x := by
  rw [sm_congr (g := fun y => if y = x then F x else 0) fun y _ => by
    by_cases e : y = x
    · rw [if_pos e, if_pos e, e, Int.mul_one]
    · rw [if_neg e, if_neg e, Int.mul_zero]]
  induction names with
  | nil => simp at hx
  | cons z r ih =>
    rw [List.nodup_cons] at hn
    unfold sm at ih ⊢
    simp only [List.map_cons, List.sum_cons]
    by_cases e : z = x
    · rw [if_pos e]
      have : (r.map fun y => if y = x then F x else 0).sum = 0 := by
        have hq : ∀ y ∈ r, (if y = x then F x else 0) = (0 : Int) := fun y hy => if_neg (fun q => hn.1 (by rw [e, ← q]; exact hy))
        rw [List.map_congr_left hq]
        clear hq ih hx hn
        induction r with
        | nil => rfl
        | cons _ _ ih => simp only [List.map_cons, List.sum_cons, ih]; rfl
      rw [this]; omega
    · rw [if_neg e, ih hn.2 ((List.mem_cons.mp hx).resolve_left fun q => e q.symm)]; omega
theorem sm_zero : sm names (fun y => F y * 0) = 0 := by
  induction names with
  | nil => rfl
  | cons z r ih =>
    unfold sm at ih ⊢
    rw [List.map_cons, List.sum_cons, ih, Int.mul_zero]; rfl
/-- what a form is worth -/
def val (names : List Str) (w c : Int) (F P : Str → Int) : Int := (c + sm names fun x => F x * P x) % w
end
end K11
namespace K11
open PySem PySem.Spec PyProof.Rows L2 L3
local macro_rules | `(tactic| walk_at "ev") => `(tactic| simp (config := {decide := true}) only [W_ok, bind_ok, thn_nx, thn_rt, thn_rn, thn_bk, thn_ct, cVar, cK, c1_e, c1_k, c2_e, c2_k, c2_k2, cB_e, cB_k, cAnd_e, cOr_e, cNot_e, cNot_k, cIte_e, iteK_t, iteK_f, iteK, okB, okV, cAndV_e, cOrV_e, cNotV_e, cNotV_k, cBv_e, aNil, aCons_e, aCons_k, aCons_k2, cTup_e, cTup_k, nLst_e, nLst_k, vN_e, vN_k, cN_e, cN_k, nN_e, nN_k, oNone, oSome_e, oSome_k, cSl_e, cSl_k, cSl_k2, cSl_k3, nSl_e, nSl_k, nSl_k2, nSl_k3, nCat_e, nCat_k, nCat_k2, sNil, sSeq, sFrz, sBrk, sCnt, sExp_e, sExp_k, sRet_e, sRet_k, sRetN_e, sRetN_k, sRetU, sIf_e, sSet_e, sSet_k, sSetN_e, sSetN_k, gSet, gsNil, gsCons_e, gsCons_k, nxK, gTupD, gLstD, sAsg_e, sAsg_k, sAug_e, sAug_k, iL_e, iL_k, iT_e, iT_k, iR1_e, iR1_k, iR2_e, iR2_k, iZ_e, iZ_k, iR3_e, iR3_k, cCh_e, cCh_k, cCh_k2, cCh_k3, nRan_e, nRan_k, r1F_e, r1F_k, r2F_e, r2F_k, r2F_k2, r3F_e, r3F_k, r3F_k2, r3F_k3, intP, sFor_e, run_e, runK_rt, runK_rn, runK_nx, fin, outs, cCall_e, cCall_k, cCall_k2, nCall_e, nCall_k, nCall_k2, callM, sls, lents, wbk, lk, pvD, pvDs, pvs, Sl.dat, Sl.put, gSubD_e, gSubD_k, cM_e, cM_k, cMr_e, cMr_k, cMr_k2, isTy_str, isTy_lst, cGet2_e, cGet2_k, cGet2_k2, cGet2_k3, isDic_d, iRv_e, iRv_k, get2_d, nDic0, pNil, keyD, pCons_e, pCons_k, pCons_k2, pCons_k3, nDic_e, nDic_k, nLc_e, nLc_k, lcB_ok, unAll, backAll, noAdr, setAll, setAllF, List.map_cons, List.map_nil, hOne, cYes, List.all_cons, List.all_nil, Bool.and_true, Bool.true_and, Bool.and_self, Option.map_none, ofO, Rt.d, add_i, mns_i, mul_r, mul_l, div_i, mod_i, neg_i, lt_i, le_i, gt_i, ge_i, int_i, abs_i, len_l, len_t, get_l, get_t, toT_l, toT_t, eq_i, ne_i, eq_s, ne_s, rg_len, isN_non, isN_int, notN_non, notN_int, pow18, isi_int, isi_bool, max_ii, max_l, max_t, sum_l, sum_t, toL_l, toL_t, sl_l, sl_t, sg1, sg2, sg3, sg4, sg5, ss2, ss3, ss4, ss5, List.getElem?_cons_zero, List.getElem?_cons_succ, List.set_cons_zero, List.set_cons_succ, List.length_cons, List.length_nil, List.length_map, List.length_range, List.replicate, List.cons_append, List.nil_append, Option.bind_some, Option.map_some, Option.isSome_some, Option.bind_none, if_true, if_false, reduceIte, decide_eq_true_eq, Bool.false_eq_true, reduceCtorEq, decide_true, decide_false, Bool.not_true, Bool.not_false, *])
local macro_rules | `(tactic| walk_at "evc") => `(tactic| simp (config := {decide := true}) only [at0, at1, at2, at3, set0, set1, set2, ran0, ran1, ran2, ran3, maxI_one, maxI_cons, asI_nil, asI_cons, add_l, add_t, app_l, line_le, line_lt, forL_nil, forL_cons, forL_k, lp_nx, lp_ct, lp_bk, lp_rt, lp_rn, sub_ok, lcL_nil, lcL_cons, lcH_some, lcL_k, lcL_k2, L3.cutD, HT.sIx, List.take_succ_cons, List.take_zero, List.drop_succ_cons, List.drop_zero, List.sum_cons, List.sum_nil, Nat.reduceAdd, Int.reduceSub, Int.reduceAdd, int_lit, Int.reduceToNat, Nat.reduceSub, Nat.min_def, Nat.reduceLeDiff, Int.reduceLT, W_ok, bind_ok, thn_nx, thn_rt, thn_rn, thn_bk, thn_ct, cVar, cK, c1_e, c1_k, c2_e, c2_k, c2_k2, cB_e, cB_k, cAnd_e, cOr_e, cNot_e, cNot_k, cIte_e, iteK_t, iteK_f, iteK, okB, okV, cAndV_e, cOrV_e, cNotV_e, cNotV_k, cBv_e, aNil, aCons_e, aCons_k, aCons_k2, cTup_e, cTup_k, nLst_e, nLst_k, vN_e, vN_k, cN_e, cN_k, nN_e, nN_k, oNone, oSome_e, oSome_k, cSl_e, cSl_k, cSl_k2, cSl_k3, nSl_e, nSl_k, nSl_k2, nSl_k3, nCat_e, nCat_k, nCat_k2, sNil, sSeq, sFrz, sBrk, sCnt, sExp_e, sExp_k, sRet_e, sRet_k, sRetN_e, sRetN_k, sRetU, sIf_e, sSet_e, sSet_k, sSetN_e, sSetN_k, gSet, gsNil, gsCons_e, gsCons_k, nxK, gTupD, gLstD, sAsg_e, sAsg_k, sAug_e, sAug_k, iL_e, iL_k, iT_e, iT_k, iR1_e, iR1_k, iR2_e, iR2_k, iZ_e, iZ_k, iR3_e, iR3_k, cCh_e, cCh_k, cCh_k2, cCh_k3, nRan_e, nRan_k, r1F_e, r1F_k, r2F_e, r2F_k, r2F_k2, r3F_e, r3F_k, r3F_k2, r3F_k3, intP, sFor_e, run_e, runK_rt, runK_rn, runK_nx, fin, outs, cCall_e, cCall_k, cCall_k2, nCall_e, nCall_k, nCall_k2, callM, sls, lents, wbk, lk, pvD, pvDs, pvs, Sl.dat, Sl.put, gSubD_e, gSubD_k, cM_e, cM_k, cMr_e, cMr_k, cMr_k2, isTy_str, isTy_lst, cGet2_e, cGet2_k, cGet2_k2, cGet2_k3, isDic_d, iRv_e, iRv_k, get2_d, nDic0, pNil, keyD, pCons_e, pCons_k, pCons_k2, pCons_k3, nDic_e, nDic_k, nLc_e, nLc_k, lcB_ok, unAll, backAll, noAdr, setAll, setAllF, List.map_cons, List.map_nil, hOne, cYes, List.all_cons, List.all_nil, Bool.and_true, Bool.true_and, Bool.and_self, Option.map_none, ofO, Rt.d, add_i, mns_i, mul_r, mul_l, div_i, mod_i, neg_i, lt_i, le_i, gt_i, ge_i, int_i, abs_i, len_l, len_t, get_l, get_t, toT_l, toT_t, eq_i, ne_i, eq_s, ne_s, rg_len, isN_non, isN_int, notN_non, notN_int, pow18, isi_int, isi_bool, max_ii, max_l, max_t, sum_l, sum_t, toL_l, toL_t, sl_l, sl_t, sg1, sg2, sg3, sg4, sg5, ss2, ss3, ss4, ss5, List.getElem?_cons_zero, List.getElem?_cons_succ, List.set_cons_zero, List.set_cons_succ, List.length_cons, List.length_nil, List.length_map, List.length_range, List.replicate, List.cons_append, List.nil_append, Option.bind_some, Option.map_some, Option.isSome_some, Option.bind_none, if_true, if_false, reduceIte, decide_eq_true_eq, Bool.false_eq_true, reduceCtorEq, decide_true, decide_false, Bool.not_true, Bool.not_false, *])
section
variable {names ks : List Str} {g F F' P : Str → Int} {x : Str} {v c c' w by_ : Int}
theorem prs_len : (prs ks g).length = ks.length := by simp [prs]
theorem dks_len : (dks ks g).length = ks.length := by simp [dks]
/-- what stands behind a place of right -/
def addK (ks : List Str) : List Str → List Str
  | [] => ks
  | x :: r => addK (if x ∈ ks then ks else ks ++ [x]) r
theorem addK_mem {y : Str} : ∀ {l ks : List Str}, y ∈ addK ks l ↔ y ∈ ks ∨ y ∈ l
  | [], ks => by simp [addK]
  | x :: r, ks => by
    rw [addK, addK_mem (l := r)]
    split
    · rename_i h
      constructor
      · rintro (q | q)
        · exact .inl q
        · exact .inr (List.mem_cons_of_mem _ q)
      · rintro (q | q)
        · exact .inl q
        · rcases List.mem_cons.mp q with rfl | q
          · exact .inl h
          · exact .inr q
    · simp only [List.mem_append, List.mem_singleton, List.mem_cons, List.not_mem_nil, false_or, or_assoc]
theorem addK_nodup : ∀ {l ks : List Str}, ks.Nodup → (addK ks l).Nodup
  | [], _, h => h
  | x :: r, ks, h => by
    rw [addK]
    split
    · exact addK_nodup h
    · rename_i hx
      refine addK_nodup ?_
      rw [List.nodup_append]
      refine ⟨h, by simp, fun a ha b hb => ?_⟩
      rw [List.mem_singleton] at hb
      subst hb
      exact fun z => hx (z ▸ ha)
theorem len_sub : ∀ {l m : List Str}, l.Nodup → (∀ x ∈ l, x ∈ m) → l.length ≤ m.length
  | [], _, _, _ => Nat.zero_le _
  | x :: r, m, hn, h => by
    rw [List.nodup_cons] at hn
    have hx := h x List.mem_cons_self
    have := len_sub (l := r) (m := m.erase x) hn.2 fun y hy => (List.mem_erase_of_ne (fun z => hn.1 (by rw [← z]; exact hy))).mpr (h y (List.mem_cons_of_mem _ hy))
    rw [List.length_erase_of_mem hx] at this
    have := List.length_pos_of_mem hx
    rw [List.length_cons]; omega
theorem joined_loop (hn : names.Nodup) (h6 : names.length ≤ 6) {left right : D} {q7 : Sl} : ∀ (l : List Str) (ks : List Str) (g : Str → Int), l.Nodup → ks.Nodup → (∀ x ∈ ks, x ∈ names) → (∀ x ∈ l, x ∈ names) → (∀ x ∈ l, b64 (F' x) = true) → ∀ x5 x6 : Sl,
    ∃ y5 y6 : Sl, forL (gTupD 2 (gsCons (gSet 5) (gsCons (gSet 6) (gsNil)))) s_joined_form_1 (prs l F') [.val left, .val right, .val (.int by_), .val (.int w), .own (.dic (dks ks g)), x5, x6, q7] =
      .ok .nx [.val left, .val right, .val (.int by_), .val (.int w), .own (.dic (dks (addK ks l) fun x => if x ∈ l then (if x ∈ ks then g x else 0) + by_ * F' x else g x)), y5, y6, q7]
  | [], ks, g, _, _, _, _, _, x5, x6 => ⟨x5, x6, by simp [prs, forL, addK]⟩
  | x :: r, ks, g, hl, hk, h1, h2, h3, x5, x6 => by
    rw [List.nodup_cons] at hl
    have hx := h2 x List.mem_cons_self
    have hk6 : ks.length ≤ 6 := Nat.le_trans (len_sub hk h1) h6
    obtain ⟨y5, y6, ih⟩ := joined_loop (left := left) (right := right) (q7 := q7) hn h6 r (if x ∈ ks then ks else ks ++ [x]) (fun y => if y = x then (if x ∈ ks then g x else 0) + by_ * F' x else g y) hl.2 (by
        have := addK_nodup (l := [x]) hk
        exact this) (fun y hy => by
        have := (addK_mem (l := [x]) (ks := ks) (y := y)).mp hy
        rcases this with q | q
        · exact h1 y q
        · rw [List.mem_singleton.mp q]; exact hx) (fun y hy => h2 y (List.mem_cons_of_mem _ hy)) (fun y hy => h3 y (List.mem_cons_of_mem _ hy)) (.val (.str x)) (.val (.int (F' x)))
    refine ⟨y5, y6, ?_⟩
    have lk := look_dks (ks := ks) (g := g) (x := x)
    have e1 : (dlook (dks ks g) (.inr x)).getD (.int 0) = .int (if x ∈ ks then g x else 0) := by
      rw [lk]
      split <;> rfl
    have e2 : setD (.dic (dks ks g)) (.str x) (.int ((if x ∈ ks then g x else 0) + by_ * F' x)) = some (.dic (dks (if x ∈ ks then ks else ks ++ [x]) fun y => if y = x then (if x ∈ ks then g x else 0) + by_ * F' x else g y)) := by
      rw [set_d (by rw [dks_len, sizeLine_eq]; omega), put_dks]
    have e3 := mul_r (a := by_) (h3 x List.mem_cons_self)
    have fin : dks (addK (if x ∈ ks then ks else ks ++ [x]) r) (fun y => if y ∈ r then (if y ∈ (if x ∈ ks then ks else ks ++ [x]) then (fun y => if y = x then (if x ∈ ks then g x else 0) + by_ * F' x else g y) y else 0) + by_ * F' y else (fun y => if y = x then (if x ∈ ks then g x else 0) + by_ * F' x else g y) y) =
        dks (addK ks (x :: r)) fun y => if y ∈ x :: r then (if y ∈ ks then g y else 0) + by_ * F' y else g y := by
      show dks (addK ks (x :: r)) _ = _
      refine dks_congr fun y _ => ?_
      dsimp only
      by_cases e : y = x
      · subst e
        rw [if_neg hl.1, if_pos rfl, if_pos List.mem_cons_self]
      · rw [if_neg e]
        by_cases hr : y ∈ r
        · rw [if_pos hr, if_pos (List.mem_cons_of_mem _ hr)]
          congr 1
          by_cases hxk : x ∈ ks
          · rw [if_pos hxk]
          · rw [if_neg hxk]
            by_cases hyk : y ∈ ks
            · rw [if_pos hyk, if_pos (List.mem_append_left _ hyk)]
            · rw [if_neg hyk, if_neg fun z => (List.mem_append.mp z).elim hyk fun z => e (List.mem_singleton.mp z)]
        · rw [if_neg hr, if_neg fun z => (List.mem_cons.mp z).elim e hr]
    rw [fin] at ih
    clear fin hn hl hk h1 h2 h3 hx lk
    generalize addK ks (x :: r) = K2 at *
    generalize (if x ∈ ks then ks else ks ++ [x]) = K1 at *
    generalize (if x ∈ ks then g x else 0) = gx at *
    generalize dks ks g = DK at *
    show forL _ _ (D.tup [.str x, .int (F' x)] :: prs r F') _ = _
    rw [forL_cons]
    unfold s_joined_form_1 at ih ⊢
    walk_at "evc"
theorem joined_loop2 (hw : 0 < w) {left right : D} {q2 : Sl} : ∀ (l : List Str) (acc : List D), (∀ x ∈ l, x ∈ ks) → acc.length + l.length ≤ 100 → ∀ x5 x6 : Sl,
    ∃ y5 y6 : Sl, forL (gSet 5) s_joined_form_2 (l.map D.str) [.val left, .val right, q2, .val (.int w), .own (.dic (dks ks g)), x5, x6, .own (.lst acc)] =
      .ok .nx [.val left, .val right, q2, .val (.int w), .own (.dic (dks ks g)), y5, y6, .own (.lst (acc ++ prs (l.filter fun x => decide (g x % w ≠ 0)) fun x => g x % w))]
  | [], acc, _, _, x5, x6 => ⟨x5, x6, by simp [prs, forL]⟩
  | x :: r, acc, h1, h2, x5, x6 => by
    have lk : gGet (.dic (dks ks g)) (.str x) = some (.int (g x)) := by rw [get_d, look_dks, if_pos (h1 x List.mem_cons_self)]
    have z2 : (2 : Nat) ≤ sizeLine := by rw [sizeLine_eq]; omega
    rw [List.length_cons] at h2
    by_cases e : g x % w = 0
    · obtain ⟨y5, y6, ih⟩ := joined_loop2 hw (left := left) (right := right) (q2 := q2) r acc (fun y hy => h1 y (List.mem_cons_of_mem _ hy)) (by omega) (.val (.str x)) (.val (.int (g x % w)))
      refine ⟨y5, y6, ?_⟩
      rw [List.filter_cons, if_neg (by simp [e]), List.map_cons, forL_cons, ← ih]
      have e' : decide (g x % w = 0) = true := decide_eq_true e
      have em : gMod (.int (g x)) (.int w) = some (.int (g x % w)) := mod_i hw
      clear ih h1 h2 e hw
      generalize dks ks g = DK at *
      generalize g x % w = m at *
      unfold s_joined_form_2
      walk_at "evc"
    · have ap : gAppend (.lst acc) [.tup [.str x, .int (g x % w)]] = some (.non, .lst (acc ++ [.tup [.str x, .int (g x % w)]])) := app_l (by rw [sizeLine_eq]; omega)
      obtain ⟨y5, y6, ih⟩ := joined_loop2 hw (left := left) (right := right) (q2 := q2) r (acc ++ [.tup [.str x, .int (g x % w)]]) (fun y hy => h1 y (List.mem_cons_of_mem _ hy)) (by rw [List.length_append]; simp; omega) (.val (.str x)) (.val (.int (g x % w)))
      refine ⟨y5, y6, ?_⟩
      rw [List.filter_cons, if_pos (by simp [e])]
      have fin : acc ++ [D.tup [.str x, .int (g x % w)]] ++ prs (r.filter fun x => decide (g x % w ≠ 0)) (fun x => g x % w) = acc ++ prs (x :: r.filter fun x => decide (g x % w ≠ 0)) fun x => g x % w := by
        rw [List.append_assoc]; rfl
      rw [fin] at ih
      rw [List.map_cons, forL_cons, ← ih]
      have e' : decide (g x % w = 0) = false := decide_eq_false e
      have em : gMod (.int (g x)) (.int w) = some (.int (g x % w)) := mod_i hw
      clear ih h1 h2 e fin hw
      generalize dks ks g = DK at *
      generalize g x % w = m at *
      generalize acc ++ [D.tup [.str x, .int m]] = ac2 at *
      unfold s_joined_form_2
      walk_at "evc"
theorem joined_ok (hn : names.Nodup) (h6 : names.length ≤ 6) (hw : 0 < w) (hF : ∀ x ∈ names, b64 (F' x) = true) (hc : b64 c' = true) :
    m_joined_form [.val (fD names c F), .val (fD names c' F'), .val (.int by_), .val (.int w)] = .ok (.v (fD names ((c + by_ * c') % w) fun x => (F x + by_ * F' x) % w)) [.un, .un, .un, .un] := by
  have k6 := pt_len (F := F) h6
  have l6 := pt_len (F := F') h6
  obtain ⟨y5, y6, e1⟩ := joined_loop (F' := F') (by_ := by_) (w := w) hn h6 (left := fD names c F) (right := fD names c' F') (q7 := .un) (ptL names F') (ptL names F) F (pt_nodup hn) (pt_nodup hn) (fun x hx => (pt_mem.mp hx).1) (fun x hx => (pt_mem.mp hx).1) (fun x hx => hF x (pt_mem.mp hx).1) .un .un
  have hK : ∀ x ∈ addK (ptL names F) (ptL names F'), x ∈ names := fun x hx => by
    rcases addK_mem.mp hx with q | q
    · exact (pt_mem.mp q).1
    · exact (pt_mem.mp q).1
  have hKn := addK_nodup (l := ptL names F') (pt_nodup (F := F) hn)
  have hKl := len_sub hKn hK
  have eK : dks (addK (ptL names F) (ptL names F')) (fun x => if x ∈ ptL names F' then (if x ∈ ptL names F then F x else 0) + by_ * F' x else F x) = dks (addK (ptL names F) (ptL names F')) fun x => F x + by_ * F' x := dks_congr fun x hx => by
    by_cases q : x ∈ ptL names F'
    · rw [if_pos q]
      by_cases q2 : x ∈ ptL names F
      · rw [if_pos q2]
      · rw [if_neg q2]
        have : F x = 0 := Classical.not_not.mp fun z => q2 (pt_mem.mpr ⟨hK x hx, z⟩)
        rw [this]
    · rw [if_neg q]
      have : F' x = 0 := Classical.not_not.mp fun z => q (pt_mem.mpr ⟨hK x hx, z⟩)
      rw [this, Int.mul_zero, Int.add_zero]
  rw [eK] at e1
  clear eK
  have hO : ∀ x ∈ names, x ∉ addK (ptL names F) (ptL names F') → (F x + by_ * F' x) % w = 0 := fun x hx hq => by
    have a1 : F x = 0 := Classical.not_not.mp fun z => hq (addK_mem.mpr (.inl (pt_mem.mpr ⟨hx, z⟩)))
    have a2 : F' x = 0 := Classical.not_not.mp fun z => hq (addK_mem.mpr (.inr (pt_mem.mpr ⟨hx, z⟩)))
    rw [a1, a2, Int.mul_zero, Int.add_zero, Int.zero_emod]
  have fin := pt_sub (F := fun x => (F x + by_ * F' x) % w) hn hKn hK hO
  generalize addK (ptL names F) (ptL names F') = ks at *
  obtain ⟨z5, z6, e2⟩ := joined_loop2 (ks := ks) (g := fun x => F x + by_ * F' x) hw (left := fD names c F) (right := fD names c' F') (q2 := .val (.int by_)) (srtS ks) [] (fun x hx => srt_mem.mp hx) (by rw [(srtS_perm ks).length_eq]; simp; omega) y5 y6
  rw [List.nil_append, show (srtS ks).filter (fun x => decide ((fun x => F x + by_ * F' x) x % w ≠ 0)) = ptL ks (fun x => (F x + by_ * F' x) % w) from rfl, fin] at e2
  have e0 : gDict [.tup (prs (ptL names F) F)] = some (.dic (dks (ptL names F) F)) := by
    show (pairDs (prs (ptL names F) F)).bind _ = _
    rw [pairs_prs, Option.bind_some, if_pos (by rw [dks_len, sizeLine_eq]; omega)]
    exact congrArg (fun z => some (D.dic z)) (merge_dks (g := F) (as := []) (bs := ptL names F) (by rw [List.nil_append]; exact pt_nodup hn))
  have eS : gSorted [.dic (dks ks fun x => F x + by_ * F' x)] = some (.lst ((srtS ks).map .str)) := by
    show (keyStrs _).bind _ = _
    rw [keys_dks, Option.bind_some, if_pos (by omega)]
  have g1 : ∀ (c : Int) (F : Str → Int), gGet (fD names c F) (.int 0) = some (.int c) := fun _ _ => rfl
  have g2 : ∀ (c : Int) (F : Str → Int), gGet (fD names c F) (.int 1) = some (.tup (prs (ptL names F) F)) := fun _ _ => rfl
  have mu := mul_r (a := by_) hc
  have z0 : (0 : Nat) ≤ sizeLine := Nat.zero_le _
  have z2 : (2 : Nat) ≤ sizeLine := by rw [sizeLine_eq]; omega
  have fF : fD names ((c + by_ * c') % w) (fun x => (F x + by_ * F' x) % w) = .tup [.int ((c + by_ * c') % w), .tup (prs (ptL names fun x => (F x + by_ * F' x) % w) fun x => (F x + by_ * F' x) % w)] := rfl
  rw [fF]
  clear fF fin hO hKl hKn hK k6 l6 hn h6 hF hc
  replace g1 := g1
  have g1a := g1 c F
  have g1b := g1 c' F'
  have g2a := g2 c F
  have g2b := g2 c' F'
  clear g1 g2
  generalize prs (ptL names fun x => (F x + by_ * F' x) % w) (fun x => (F x + by_ * F' x) % w) = PR at *
  generalize dks ks (fun x => F x + by_ * F' x) = DK at *
  generalize dks (ptL names F) F = DK0 at *
  generalize prs (ptL names F') F' = PR2 at *
  generalize prs (ptL names F) F = PR1 at *
  generalize fD names c F = f1 at *
  generalize fD names c' F' = f2 at *
  generalize (srtS ks).map D.str = SS at *
  unfold m_joined_form g_joined_form
  walk_at "ev"
end
end K11
namespace K11
open PySem PySem.Spec PyProof.Rows L2 L3
local macro_rules | `(tactic| walk_at "ev") => `(tactic| simp (config := {decide := true}) only [W_ok, bind_ok, thn_nx, thn_rt, thn_rn, thn_bk, thn_ct, cVar, cK, c1_e, c1_k, c2_e, c2_k, c2_k2, cB_e, cB_k, cAnd_e, cOr_e, cNot_e, cNot_k, cIte_e, iteK_t, iteK_f, iteK, okB, okV, cAndV_e, cOrV_e, cNotV_e, cNotV_k, cBv_e, aNil, aCons_e, aCons_k, aCons_k2, cTup_e, cTup_k, nLst_e, nLst_k, vN_e, vN_k, cN_e, cN_k, nN_e, nN_k, oNone, oSome_e, oSome_k, cSl_e, cSl_k, cSl_k2, cSl_k3, nSl_e, nSl_k, nSl_k2, nSl_k3, nCat_e, nCat_k, nCat_k2, sNil, sSeq, sFrz, sBrk, sCnt, sExp_e, sExp_k, sRet_e, sRet_k, sRetN_e, sRetN_k, sRetU, sIf_e, sSet_e, sSet_k, sSetN_e, sSetN_k, gSet, gsNil, gsCons_e, gsCons_k, nxK, gTupD, gLstD, sAsg_e, sAsg_k, sAug_e, sAug_k, iL_e, iL_k, iT_e, iT_k, iR1_e, iR1_k, iR2_e, iR2_k, iZ_e, iZ_k, iR3_e, iR3_k, cCh_e, cCh_k, cCh_k2, cCh_k3, nRan_e, nRan_k, r1F_e, r1F_k, r2F_e, r2F_k, r2F_k2, r3F_e, r3F_k, r3F_k2, r3F_k3, intP, sFor_e, run_e, runK_rt, runK_rn, runK_nx, fin, outs, cCall_e, cCall_k, cCall_k2, nCall_e, nCall_k, nCall_k2, callM, sls, lents, wbk, lk, pvD, pvDs, pvs, Sl.dat, Sl.put, gSubD_e, gSubD_k, cM_e, cM_k, cMr_e, cMr_k, cMr_k2, isTy_str, isTy_lst, cGet2_e, cGet2_k, cGet2_k2, cGet2_k3, isDic_d, iRv_e, iRv_k, get2_d, nDic0, pNil, keyD, pCons_e, pCons_k, pCons_k2, pCons_k3, nDic_e, nDic_k, nLc_e, nLc_k, lcB_ok, unAll, backAll, noAdr, setAll, setAllF, List.map_cons, List.map_nil, hOne, cYes, List.all_cons, List.all_nil, Bool.and_true, Bool.true_and, Bool.and_self, Option.map_none, ofO, Rt.d, add_i, mns_i, mul_r, mul_l, div_i, mod_i, neg_i, lt_i, le_i, gt_i, ge_i, int_i, abs_i, len_l, len_t, get_l, get_t, toT_l, toT_t, eq_i, ne_i, eq_s, ne_s, rg_len, isN_non, isN_int, notN_non, notN_int, pow18, isi_int, isi_bool, max_ii, max_l, max_t, sum_l, sum_t, toL_l, toL_t, sl_l, sl_t, sg1, sg2, sg3, sg4, sg5, ss2, ss3, ss4, ss5, List.getElem?_cons_zero, List.getElem?_cons_succ, List.set_cons_zero, List.set_cons_succ, List.length_cons, List.length_nil, List.length_map, List.length_range, List.replicate, List.cons_append, List.nil_append, Option.bind_some, Option.map_some, Option.isSome_some, Option.bind_none, if_true, if_false, reduceIte, decide_eq_true_eq, Bool.false_eq_true, reduceCtorEq, decide_true, decide_false, Bool.not_true, Bool.not_false, *])
local macro_rules | `(tactic| walk_at "evc") => `(tactic| simp (config := {decide := true}) only [at0, at1, at2, at3, set0, set1, set2, ran0, ran1, ran2, ran3, maxI_one, maxI_cons, asI_nil, asI_cons, add_l, add_t, app_l, line_le, line_lt, forL_nil, forL_cons, forL_k, lp_nx, lp_ct, lp_bk, lp_rt, lp_rn, sub_ok, lcL_nil, lcL_cons, lcH_some, lcL_k, lcL_k2, L3.cutD, HT.sIx, List.take_succ_cons, List.take_zero, List.drop_succ_cons, List.drop_zero, List.sum_cons, List.sum_nil, Nat.reduceAdd, Int.reduceSub, Int.reduceAdd, int_lit, Int.reduceToNat, Nat.reduceSub, Nat.min_def, Nat.reduceLeDiff, Int.reduceLT, W_ok, bind_ok, thn_nx, thn_rt, thn_rn, thn_bk, thn_ct, cVar, cK, c1_e, c1_k, c2_e, c2_k, c2_k2, cB_e, cB_k, cAnd_e, cOr_e, cNot_e, cNot_k, cIte_e, iteK_t, iteK_f, iteK, okB, okV, cAndV_e, cOrV_e, cNotV_e, cNotV_k, cBv_e, aNil, aCons_e, aCons_k, aCons_k2, cTup_e, cTup_k, nLst_e, nLst_k, vN_e, vN_k, cN_e, cN_k, nN_e, nN_k, oNone, oSome_e, oSome_k, cSl_e, cSl_k, cSl_k2, cSl_k3, nSl_e, nSl_k, nSl_k2, nSl_k3, nCat_e, nCat_k, nCat_k2, sNil, sSeq, sFrz, sBrk, sCnt, sExp_e, sExp_k, sRet_e, sRet_k, sRetN_e, sRetN_k, sRetU, sIf_e, sSet_e, sSet_k, sSetN_e, sSetN_k, gSet, gsNil, gsCons_e, gsCons_k, nxK, gTupD, gLstD, sAsg_e, sAsg_k, sAug_e, sAug_k, iL_e, iL_k, iT_e, iT_k, iR1_e, iR1_k, iR2_e, iR2_k, iZ_e, iZ_k, iR3_e, iR3_k, cCh_e, cCh_k, cCh_k2, cCh_k3, nRan_e, nRan_k, r1F_e, r1F_k, r2F_e, r2F_k, r2F_k2, r3F_e, r3F_k, r3F_k2, r3F_k3, intP, sFor_e, run_e, runK_rt, runK_rn, runK_nx, fin, outs, cCall_e, cCall_k, cCall_k2, nCall_e, nCall_k, nCall_k2, callM, sls, lents, wbk, lk, pvD, pvDs, pvs, Sl.dat, Sl.put, gSubD_e, gSubD_k, cM_e, cM_k, cMr_e, cMr_k, cMr_k2, isTy_str, isTy_lst, cGet2_e, cGet2_k, cGet2_k2, cGet2_k3, isDic_d, iRv_e, iRv_k, get2_d, nDic0, pNil, keyD, pCons_e, pCons_k, pCons_k2, pCons_k3, nDic_e, nDic_k, nLc_e, nLc_k, lcB_ok, unAll, backAll, noAdr, setAll, setAllF, List.map_cons, List.map_nil, hOne, cYes, List.all_cons, List.all_nil, Bool.and_true, Bool.true_and, Bool.and_self, Option.map_none, ofO, Rt.d, add_i, mns_i, mul_r, mul_l, div_i, mod_i, neg_i, lt_i, le_i, gt_i, ge_i, int_i, abs_i, len_l, len_t, get_l, get_t, toT_l, toT_t, eq_i, ne_i, eq_s, ne_s, rg_len, isN_non, isN_int, notN_non, notN_int, pow18, isi_int, isi_bool, max_ii, max_l, max_t, sum_l, sum_t, toL_l, toL_t, sl_l, sl_t, sg1, sg2, sg3, sg4, sg5, ss2, ss3, ss4, ss5, List.getElem?_cons_zero, List.getElem?_cons_succ, List.set_cons_zero, List.set_cons_succ, List.length_cons, List.length_nil, List.length_map, List.length_range, List.replicate, List.cons_append, List.nil_append, Option.bind_some, Option.map_some, Option.isSome_some, Option.bind_none, if_true, if_false, reduceIte, decide_eq_true_eq, Bool.false_eq_true, reduceCtorEq, decide_true, decide_false, Bool.not_true, Bool.not_false, *])
inductive St where
  | num (n : Int) | ch (k : Nat) | add (i j : Nat) | sub (i j : Nat) | tim (i : Nat) (n : Int)
abbrev Fm := Int × (Str → Int)
def stD : St → D
  | .num n => .tup [.str "number", .int n]
  | .ch k => .tup [.str "channel", .int k]
  | .add i j => .tup [.str "sum", .int i, .int j]
  | .sub i j => .tup [.str "minus", .int i, .int j]
  | .tim i n => .tup [.str "times", .int i, .int n]
def atF (A : List Fm) (i : Nat) : Fm := A.getD i (0, fun _ => 0)
def stepF (w : Int) (names : List Str) (A : List Fm) : St → Fm
  | .num n => (n % w, fun _ => 0)
  | .ch k => (0, fun y => if y = names.getD k "" then 1 else 0)
  | .add i j => (((atF A i).1 + 1 * (atF A j).1) % w, fun x => ((atF A i).2 x + 1 * (atF A j).2 x) % w)
  | .sub i j => (((atF A i).1 + -1 * (atF A j).1) % w, fun x => ((atF A i).2 x + -1 * (atF A j).2 x) % w)
  | .tim i n => ((0 + n * (atF A i).1) % w, fun x => (0 + n * (atF A i).2 x) % w)
def StOk (m k : Nat) : St → Prop
  | .num _ => True
  | .ch j => j < m
  | .add i j => i < k ∧ j < k
  | .sub i j => i < k ∧ j < k
  | .tim i _ => i < k
/-- a form within -/
def Gf (w : Int) (a : Fm) : Prop := (0 ≤ a.1 ∧ a.1 < w) ∧ ∀ x, 0 ≤ a.2 x ∧ a.2 x < w
structure Nm (names : List Str) (w : Int) : Prop where
  nd : names.Nodup
  le : names.length ≤ 6
  ne : 0 < names.length
  w0 : 2 ≤ w
  w1 : w ≤ 1000
section
variable {names ks : List Str} {g F F' P : Str → Int} {x : Str} {v c c' w n : Int} {A : List Fm} {s : St} {a b : Fm} {i j : Nat}
def fDp (names : List Str) (a : Fm) : D := fD names a.1 a.2
theorem Gf.bb (h : Gf w a) (N : Nm names w) : b64 a.1 = true ∧ ∀ x, b64 (a.2 x) = true := by
  have := N.w1
  refine ⟨decide_eq_true ?_, fun x => decide_eq_true ?_⟩
  · have := h.1; omega
  · have := h.2 x; omega
theorem Gf.zero (N : Nm names w) : Gf w (0, fun _ => 0) := by
  have := N.w0
  exact ⟨⟨by show (0 : Int) ≤ 0; omega, by show (0 : Int) < w; omega⟩, fun x => ⟨by show (0 : Int) ≤ 0; omega, by show (0 : Int) < w; omega⟩⟩
theorem atF_good (N : Nm names w) (hA : ∀ a ∈ A, Gf w a) : Gf w (atF A i) := by
  unfold atF
  rw [List.getD_eq_getElem?_getD]
  cases e : A[i]? with
  | none => exact Gf.zero N
  | some a => exact hA a (List.mem_of_getElem? e)
theorem mod_in (N : Nm names w) {z : Int} : 0 ≤ z % w ∧ z % w < w := by
  have := N.w0
  exact ⟨Int.emod_nonneg _ (by omega), Int.emod_lt_of_pos _ (by omega)⟩
theorem step_good (N : Nm names w) (hA : ∀ a ∈ A, Gf w a) : Gf w (stepF w names A s) := by
  have hw := N.w0
  cases s with
  | num n => exact ⟨mod_in N, fun _ => ⟨by show (0 : Int) ≤ 0; omega, by show (0 : Int) < w; omega⟩⟩
  | ch k =>
    refine ⟨⟨by show (0 : Int) ≤ 0; omega, by show (0 : Int) < w; omega⟩, fun x => ?_⟩
    show 0 ≤ (if x = names.getD k "" then (1 : Int) else 0) ∧ (if x = names.getD k "" then (1 : Int) else 0) < w
    split <;> omega
  | add i j => exact ⟨mod_in N, fun _ => mod_in N⟩
  | sub i j => exact ⟨mod_in N, fun _ => mod_in N⟩
  | tim i n => exact ⟨mod_in N, fun _ => mod_in N⟩
theorem fD_zero : fD names c (fun _ => 0) = .tup [.int c, .tup []] := by unfold fD; rw [pt_zero]; rfl
theorem plain_ok (N : Nm names w) : m_plain_form [.val (.int n), .val (.int w)] = .ok (.v (fD names (n % w) fun _ => 0)) [.un, .un] := by
  rw [fD_zero]
  have hw : 0 < w := by have := N.w0; omega
  have z0 : (0 : Nat) ≤ sizeLine := Nat.zero_le _
  have z2 : (2 : Nat) ≤ sizeLine := by rw [sizeLine_eq]; omega
  clear N
  unfold m_plain_form g_plain_form
  walk_at "ev"
theorem channel_ok (N : Nm names w) (hx : x ∈ names) : m_channel_form [.val (.str x)] = .ok (.v (fD names 0 fun y => if y = x then 1 else 0)) [.un] := by
  have e : fD names 0 (fun y => if y = x then 1 else 0) = .tup [.int 0, .tup [.tup [.str x, .int 1]]] := by
    unfold fD
    rw [pt_one N.nd hx]
    show D.tup [.int 0, .tup [.tup [.str x, .int (if x = x then 1 else 0)]]] = _
    rw [if_pos rfl]
  rw [e]
  have z1 : (1 : Nat) ≤ sizeLine := by rw [sizeLine_eq]; omega
  have z2 : (2 : Nat) ≤ sizeLine := by rw [sizeLine_eq]; omega
  clear e N hx
  unfold m_channel_form g_channel_form
  walk_at "ev"
theorem sum_ok (N : Nm names w) (hb : Gf w b) : m_form_sum [.val (fDp names a), .val (fDp names b), .val (.int w)] = .ok (.v (fDp names ((a.1 + 1 * b.1) % w, fun x => (a.2 x + 1 * b.2 x) % w))) [.un, .un, .un] := by
  have e := joined_ok (c := a.1) (F := a.2) (c' := b.1) (F' := b.2) (by_ := 1) (w := w) N.nd N.le (by have := N.w0; omega) (fun x _ => (hb.bb N).2 x) (hb.bb N).1
  unfold fDp
  clear N hb
  generalize fD names a.1 a.2 = f1 at *
  generalize fD names b.1 b.2 = f2 at *
  unfold m_form_sum g_form_sum
  walk_at "ev"
theorem minus_ok (N : Nm names w) (hb : Gf w b) : m_form_minus [.val (fDp names a), .val (fDp names b), .val (.int w)] = .ok (.v (fDp names ((a.1 + -1 * b.1) % w, fun x => (a.2 x + -1 * b.2 x) % w))) [.un, .un, .un] := by
  have e := joined_ok (c := a.1) (F := a.2) (c' := b.1) (F' := b.2) (by_ := -1) (w := w) N.nd N.le (by have := N.w0; omega) (fun x _ => (hb.bb N).2 x) (hb.bb N).1
  unfold fDp
  clear N hb
  generalize fD names a.1 a.2 = f1 at *
  generalize fD names b.1 b.2 = f2 at *
  unfold m_form_minus g_form_minus
  walk_at "ev"
theorem times_ok (N : Nm names w) (hb : Gf w b) : m_form_times [.val (fDp names b), .val (.int n), .val (.int w)] = .ok (.v (fDp names ((0 + n * b.1) % w, fun x => (0 + n * b.2 x) % w))) [.un, .un, .un] := by
  have e := joined_ok (c := 0) (F := fun _ => 0) (c' := b.1) (F' := b.2) (by_ := n) (w := w) N.nd N.le (by have := N.w0; omega) (fun x _ => (hb.bb N).2 x) (hb.bb N).1
  rw [fD_zero] at e
  have z0 : (0 : Nat) ≤ sizeLine := Nat.zero_le _
  have z2 : (2 : Nat) ≤ sizeLine := by rw [sizeLine_eq]; omega
  unfold fDp
  clear N hb
  generalize fD names b.1 b.2 = f2 at *
  unfold m_form_times g_form_times
  walk_at "ev"
theorem atA (h : i < A.length) : gGet (.lst (A.map (fDp names))) (.int (i : Int)) = some (fDp names (atF A i)) := by
  have : atF A i = A[i] := by
    unfold atF
    rw [List.getD_eq_getElem?_getD, List.getElem?_eq_getElem h]; rfl
  rw [this]
  exact map_at h
theorem atN (h : i < names.length) : gGet (.lst (names.map D.str)) (.int (i : Int)) = some (.str (names.getD i "")) := by
  have : names.getD i "" = names[i] := by rw [List.getD_eq_getElem?_getD, List.getElem?_eq_getElem h]; rfl
  rw [this]
  exact map_at h
theorem made_ok (N : Nm names w) (hA : ∀ a ∈ A, Gf w a) (hs : StOk names.length A.length s) :
    m__law_made [.val (stD s), .bor (.lst (A.map (fDp names))), .val (.lst (names.map D.str)), .val (.int w)] = .ok (.v (fDp names (stepF w names A s))) [.un, .bor (.lst (A.map (fDp names))), .un, .un] := by
  cases s with
  | num n =>
    have e := plain_ok (n := n) N
    show _ = Out.ok (Rt.v (fD names (n % w) fun _ => 0)) _
    clear N hA hs
    generalize fD names (n % w) (fun _ => 0) = f at *
    generalize D.lst (A.map (fDp names)) = L at *
    generalize D.lst (names.map D.str) = L2 at *
    unfold m__law_made g__law_made stD
    walk_at "evc"
  | ch k =>
    have hk : k < names.length := hs
    have e1 := atN hk
    have e := channel_ok (x := names.getD k "") N (by
      have : names.getD k "" = names[k] := by rw [List.getD_eq_getElem?_getD, List.getElem?_eq_getElem hk]; rfl
      rw [this]; exact List.getElem_mem hk)
    show _ = Out.ok (Rt.v (fD names 0 fun y => if y = names.getD k "" then 1 else 0)) _
    clear N hA hs hk
    generalize fD names 0 (fun y => if y = names.getD k "" then 1 else 0) = f at *
    generalize names.getD k "" = nk at *
    generalize D.lst (A.map (fDp names)) = L at *
    generalize D.lst (names.map D.str) = L2 at *
    unfold m__law_made g__law_made stD
    walk_at "evc"
  | add i j =>
    have e1 := atA (names := names) hs.1
    have e2 := atA (names := names) hs.2
    have e := sum_ok (a := atF A i) (b := atF A j) N (atF_good N hA)
    unfold stepF
    clear N hA hs
    generalize fDp names (((atF A i).1 + 1 * (atF A j).1) % w, fun x => ((atF A i).2 x + 1 * (atF A j).2 x) % w) = f at *
    generalize fDp names (atF A i) = f1 at *
    generalize fDp names (atF A j) = f2 at *
    generalize D.lst (A.map (fDp names)) = L at *
    generalize D.lst (names.map D.str) = L2 at *
    unfold m__law_made g__law_made stD
    walk_at "evc"
  | sub i j =>
    have e1 := atA (names := names) hs.1
    have e2 := atA (names := names) hs.2
    have e := minus_ok (a := atF A i) (b := atF A j) N (atF_good N hA)
    unfold stepF
    clear N hA hs
    generalize fDp names (((atF A i).1 + -1 * (atF A j).1) % w, fun x => ((atF A i).2 x + -1 * (atF A j).2 x) % w) = f at *
    generalize fDp names (atF A i) = f1 at *
    generalize fDp names (atF A j) = f2 at *
    generalize D.lst (A.map (fDp names)) = L at *
    generalize D.lst (names.map D.str) = L2 at *
    unfold m__law_made g__law_made stD
    walk_at "evc"
  | tim i n =>
    have e1 := atA (names := names) (A := A) (i := i) hs
    have e := times_ok (b := atF A i) (n := n) N (atF_good N hA)
    unfold stepF
    clear N hA hs
    generalize fDp names ((0 + n * (atF A i).1) % w, fun x => (0 + n * (atF A i).2 x) % w) = f at *
    generalize fDp names (atF A i) = f1 at *
    generalize D.lst (A.map (fDp names)) = L at *
    generalize D.lst (names.map D.str) = L2 at *
    unfold m__law_made g__law_made stD
    walk_at "evc"
end
end K11
namespace K11
open PySem PySem.Spec PyProof.Rows L2 L3
local macro_rules | `(tactic| walk_at "ev") => `(tactic| simp (config := {decide := true}) only [W_ok, bind_ok, thn_nx, thn_rt, thn_rn, thn_bk, thn_ct, cVar, cK, c1_e, c1_k, c2_e, c2_k, c2_k2, cB_e, cB_k, cAnd_e, cOr_e, cNot_e, cNot_k, cIte_e, iteK_t, iteK_f, iteK, okB, okV, cAndV_e, cOrV_e, cNotV_e, cNotV_k, cBv_e, aNil, aCons_e, aCons_k, aCons_k2, cTup_e, cTup_k, nLst_e, nLst_k, vN_e, vN_k, cN_e, cN_k, nN_e, nN_k, oNone, oSome_e, oSome_k, cSl_e, cSl_k, cSl_k2, cSl_k3, nSl_e, nSl_k, nSl_k2, nSl_k3, nCat_e, nCat_k, nCat_k2, sNil, sSeq, sFrz, sBrk, sCnt, sExp_e, sExp_k, sRet_e, sRet_k, sRetN_e, sRetN_k, sRetU, sIf_e, sSet_e, sSet_k, sSetN_e, sSetN_k, gSet, gsNil, gsCons_e, gsCons_k, nxK, gTupD, gLstD, sAsg_e, sAsg_k, sAug_e, sAug_k, iL_e, iL_k, iT_e, iT_k, iR1_e, iR1_k, iR2_e, iR2_k, iZ_e, iZ_k, iR3_e, iR3_k, cCh_e, cCh_k, cCh_k2, cCh_k3, nRan_e, nRan_k, r1F_e, r1F_k, r2F_e, r2F_k, r2F_k2, r3F_e, r3F_k, r3F_k2, r3F_k3, intP, sFor_e, run_e, runK_rt, runK_rn, runK_nx, fin, outs, cCall_e, cCall_k, cCall_k2, nCall_e, nCall_k, nCall_k2, callM, sls, lents, wbk, lk, pvD, pvDs, pvs, Sl.dat, Sl.put, gSubD_e, gSubD_k, cM_e, cM_k, cMr_e, cMr_k, cMr_k2, isTy_str, isTy_lst, cGet2_e, cGet2_k, cGet2_k2, cGet2_k3, isDic_d, iRv_e, iRv_k, get2_d, nDic0, pNil, keyD, pCons_e, pCons_k, pCons_k2, pCons_k3, nDic_e, nDic_k, nLc_e, nLc_k, lcB_ok, unAll, backAll, noAdr, setAll, setAllF, List.map_cons, List.map_nil, hOne, cYes, List.all_cons, List.all_nil, Bool.and_true, Bool.true_and, Bool.and_self, Option.map_none, ofO, Rt.d, add_i, mns_i, mul_r, mul_l, div_i, mod_i, neg_i, lt_i, le_i, gt_i, ge_i, int_i, abs_i, len_l, len_t, get_l, get_t, toT_l, toT_t, eq_i, ne_i, eq_s, ne_s, rg_len, isN_non, isN_int, notN_non, notN_int, pow18, isi_int, isi_bool, max_ii, max_l, max_t, sum_l, sum_t, toL_l, toL_t, sl_l, sl_t, sg1, sg2, sg3, sg4, sg5, ss2, ss3, ss4, ss5, List.getElem?_cons_zero, List.getElem?_cons_succ, List.set_cons_zero, List.set_cons_succ, List.length_cons, List.length_nil, List.length_map, List.length_range, List.replicate, List.cons_append, List.nil_append, Option.bind_some, Option.map_some, Option.isSome_some, Option.bind_none, if_true, if_false, reduceIte, decide_eq_true_eq, Bool.false_eq_true, reduceCtorEq, decide_true, decide_false, Bool.not_true, Bool.not_false, *])
local macro_rules | `(tactic| walk_at "evc") => `(tactic| simp (config := {decide := true}) only [at0, at1, at2, at3, set0, set1, set2, ran0, ran1, ran2, ran3, maxI_one, maxI_cons, asI_nil, asI_cons, add_l, add_t, app_l, line_le, line_lt, forL_nil, forL_cons, forL_k, lp_nx, lp_ct, lp_bk, lp_rt, lp_rn, sub_ok, lcL_nil, lcL_cons, lcH_some, lcL_k, lcL_k2, L3.cutD, HT.sIx, List.take_succ_cons, List.take_zero, List.drop_succ_cons, List.drop_zero, List.sum_cons, List.sum_nil, Nat.reduceAdd, Int.reduceSub, Int.reduceAdd, int_lit, Int.reduceToNat, Nat.reduceSub, Nat.min_def, Nat.reduceLeDiff, Int.reduceLT, W_ok, bind_ok, thn_nx, thn_rt, thn_rn, thn_bk, thn_ct, cVar, cK, c1_e, c1_k, c2_e, c2_k, c2_k2, cB_e, cB_k, cAnd_e, cOr_e, cNot_e, cNot_k, cIte_e, iteK_t, iteK_f, iteK, okB, okV, cAndV_e, cOrV_e, cNotV_e, cNotV_k, cBv_e, aNil, aCons_e, aCons_k, aCons_k2, cTup_e, cTup_k, nLst_e, nLst_k, vN_e, vN_k, cN_e, cN_k, nN_e, nN_k, oNone, oSome_e, oSome_k, cSl_e, cSl_k, cSl_k2, cSl_k3, nSl_e, nSl_k, nSl_k2, nSl_k3, nCat_e, nCat_k, nCat_k2, sNil, sSeq, sFrz, sBrk, sCnt, sExp_e, sExp_k, sRet_e, sRet_k, sRetN_e, sRetN_k, sRetU, sIf_e, sSet_e, sSet_k, sSetN_e, sSetN_k, gSet, gsNil, gsCons_e, gsCons_k, nxK, gTupD, gLstD, sAsg_e, sAsg_k, sAug_e, sAug_k, iL_e, iL_k, iT_e, iT_k, iR1_e, iR1_k, iR2_e, iR2_k, iZ_e, iZ_k, iR3_e, iR3_k, cCh_e, cCh_k, cCh_k2, cCh_k3, nRan_e, nRan_k, r1F_e, r1F_k, r2F_e, r2F_k, r2F_k2, r3F_e, r3F_k, r3F_k2, r3F_k3, intP, sFor_e, run_e, runK_rt, runK_rn, runK_nx, fin, outs, cCall_e, cCall_k, cCall_k2, nCall_e, nCall_k, nCall_k2, callM, sls, lents, wbk, lk, pvD, pvDs, pvs, Sl.dat, Sl.put, gSubD_e, gSubD_k, cM_e, cM_k, cMr_e, cMr_k, cMr_k2, isTy_str, isTy_lst, cGet2_e, cGet2_k, cGet2_k2, cGet2_k3, isDic_d, iRv_e, iRv_k, get2_d, nDic0, pNil, keyD, pCons_e, pCons_k, pCons_k2, pCons_k3, nDic_e, nDic_k, nLc_e, nLc_k, lcB_ok, unAll, backAll, noAdr, setAll, setAllF, List.map_cons, List.map_nil, hOne, cYes, List.all_cons, List.all_nil, Bool.and_true, Bool.true_and, Bool.and_self, Option.map_none, ofO, Rt.d, add_i, mns_i, mul_r, mul_l, div_i, mod_i, neg_i, lt_i, le_i, gt_i, ge_i, int_i, abs_i, len_l, len_t, get_l, get_t, toT_l, toT_t, eq_i, ne_i, eq_s, ne_s, rg_len, isN_non, isN_int, notN_non, notN_int, pow18, isi_int, isi_bool, max_ii, max_l, max_t, sum_l, sum_t, toL_l, toL_t, sl_l, sl_t, sg1, sg2, sg3, sg4, sg5, ss2, ss3, ss4, ss5, List.getElem?_cons_zero, List.getElem?_cons_succ, List.set_cons_zero, List.set_cons_succ, List.length_cons, List.length_nil, List.length_map, List.length_range, List.replicate, List.cons_append, List.nil_append, Option.bind_some, Option.map_some, Option.isSome_some, Option.bind_none, if_true, if_false, reduceIte, decide_eq_true_eq, Bool.false_eq_true, reduceCtorEq, decide_true, decide_false, Bool.not_true, Bool.not_false, *])
section
variable {names ks l : List Str} {g F F' P : Str → Int} {x : Str} {v c c' w n : Int} {A : List Fm} {s : St} {a b : Fm} {i j m : Nat} {Ps : List (Str → Int)}
/-- what a form is worth at a point -/
def vl (names : List Str) (w : Int) (a : Fm) (P : Str → Int) : Int := (a.1 + sm names fun x => a.2 x * P x) % w
def rwD (names : List Str) (w : Int) (Ps : List (Str → Int)) (a : Fm) : D := .lst (Ps.map fun P => .int (vl names w a P))
/-- the points: the zero, the units, others -/
structure Pt (names : List Str) (w : Int) (Ps : List (Str → Int)) : Prop where
  lt : names.length < Ps.length
  le : Ps.length ≤ 1000
  z : ∀ (h : 0 < Ps.length), ∀ x ∈ names, Ps[0] x = 0
  u : ∀ (j : Nat) (h : j + 1 < Ps.length) (hj : j < names.length), ∀ x ∈ names, Ps[j + 1] x = if x = names[j] then 1 else 0
  b : ∀ P ∈ Ps, ∀ x ∈ names, 0 ≤ P x ∧ P x < w
def ixS (x : Str) : List Str → Nat
  | [] => 0
  | y :: r => if y = x then 0 else ixS x r + 1
theorem ixS_ok : ∀ {l : List Str}, x ∈ l → ∃ h : ixS x l < l.length, l[ixS x l] = x
  | [], h => by simp at h
  | y :: r, h => by
    by_cases e : y = x
    · refine ⟨by rw [ixS, if_pos e]; simp, ?_⟩
      simp only [ixS, if_pos e]
      exact e
    · obtain ⟨h1, h2⟩ := ixS_ok ((List.mem_cons.mp h).resolve_left fun z => e z.symm)
      refine ⟨by rw [ixS, if_neg e, List.length_cons]; omega, ?_⟩
      simp only [ixS, if_neg e, List.getElem_cons_succ]
      exact h2
theorem fl_strs : ∀ l : List Str, flDs (l.map D.str) = some (l.map V.str)
  | [] => rfl
  | x :: r => by
    show (some (V.str x)).bind _ = _
    rw [fl_strs r]; rfl
theorem ixV_strs : ∀ {l : List Str}, x ∈ l → ixV (.str x) (l.map V.str) = some (ixS x l)
  | [], h => by simp at h
  | y :: r, h => by
    rw [List.map_cons, ixV, ixS]
    show (if (y == x) = true then _ else _) = _
    by_cases e : y = x
    · rw [if_pos (by simp [e]), if_pos e]
    · rw [if_neg (by simp [e]), if_neg e, ixV_strs ((List.mem_cons.mp h).resolve_left fun z => e z.symm)]; rfl
theorem idx_names (h : x ∈ names) : gIdxL (.lst (names.map D.str)) [.str x] = some (.int (ixS x names)) := by
  simp only [gIdxL, gIdx, flD, Option.bind_some, fl_strs, ixV_strs h, Option.map_some]
theorem vl_zero (N : Nm names w) (hP : Pt names w Ps) (hA : Gf w a) (h : 0 < Ps.length) : vl names w a Ps[0] = a.1 := by
  unfold vl
  rw [sm_congr (g := fun x => a.2 x * 0) fun x hx => by rw [hP.z h x hx], sm_zero, Int.add_zero, Int.emod_eq_of_lt hA.1.1 hA.1.2]
theorem vl_unit (N : Nm names w) (hP : Pt names w Ps) (hx : x ∈ names) (h : ixS x names + 1 < Ps.length) : vl names w a Ps[ixS x names + 1] = (a.1 + a.2 x) % w := by
  obtain ⟨h1, h2⟩ := ixS_ok hx
  unfold vl
  rw [sm_congr (g := fun y => a.2 y * if y = x then 1 else 0) fun y hy => by rw [hP.u _ h h1 y hy, h2], sm_one N.nd hx]
theorem back (hA : Gf w a) : ((a.1 + a.2 x) % w - a.1) % w = a.2 x := by
  rw [Int.sub_emod, Int.emod_emod_of_dvd _ (Int.dvd_refl w), ← Int.sub_emod, show a.1 + a.2 x - a.1 = a.2 x by omega, Int.emod_eq_of_lt (hA.2 x).1 (hA.2 x).2]
theorem row_at (h : i < Ps.length) : gGet (rwD names w Ps a) (.int (i : Int)) = some (.int (vl names w a Ps[i])) := map_at h
theorem due_loop (N : Nm names w) (hP : Pt names w Ps) (hA : Gf w a) : ∀ (l : List Str) (acc : List D), (∀ x ∈ l, x ∈ names) → acc.length + l.length ≤ 100 → ∀ x4 x5 : Sl,
    ∃ y4 y5 : Sl, forL (gSet 4) s__law_due_form_1 (l.map D.str) [.val (rwD names w Ps a), .val (.lst (names.map D.str)), .val (.int w), .own (.lst acc), x4, x5] =
      .ok .nx [.val (rwD names w Ps a), .val (.lst (names.map D.str)), .val (.int w), .own (.lst (acc ++ prs (l.filter fun x => decide (a.2 x ≠ 0)) a.2)), y4, y5]
  | [], acc, _, _, x4, x5 => ⟨x4, x5, by simp [prs, forL]⟩
  | x :: r, acc, h1, h2, x4, x5 => by
    have hx := h1 x List.mem_cons_self
    have q1 := idx_names hx
    obtain ⟨hi, hie⟩ := ixS_ok hx
    have hlt := hP.lt
    have q2 : gGet (rwD names w Ps a) (.int (1 + (ixS x names : Int))) = some (.int ((a.1 + a.2 x) % w)) := by
      rw [show (1 : Int) + (ixS x names : Int) = ((ixS x names + 1 : Nat) : Int) by omega, row_at (by omega), vl_unit N hP hx]
    have q3 : gGet (rwD names w Ps a) (.int 0) = some (.int a.1) := by
      rw [show (0 : Int) = ((0 : Nat) : Int) from rfl, row_at (by omega), vl_zero N hP hA]
    have em : gMod (.int ((a.1 + a.2 x) % w - a.1)) (.int w) = some (.int (a.2 x)) := by
      rw [mod_i (by have := N.w0; omega), back hA]
    have z2 : (2 : Nat) ≤ sizeLine := by rw [sizeLine_eq]; omega
    rw [List.length_cons] at h2
    by_cases e : a.2 x = 0
    · obtain ⟨y5, y6, ih⟩ := due_loop N hP hA r acc (fun y hy => h1 y (List.mem_cons_of_mem _ hy)) (by omega) (.val (.str x)) (.val (.int (a.2 x)))
      refine ⟨y5, y6, ?_⟩
      rw [List.filter_cons, if_neg (by simp [e]), List.map_cons, forL_cons, ← ih]
      have e' : decide (a.2 x = 0) = true := decide_eq_true e
      clear hie ih h1 h2 e N hP hA hx hi hlt
      generalize rwD names w Ps a = R at *
      generalize names.map D.str = L at *
      generalize a.2 x = f at *
      generalize (a.1 + f) % w = u at *
      unfold s__law_due_form_1
      walk_at "evc"
    · have ap : gAppend (.lst acc) [.tup [.str x, .int (a.2 x)]] = some (.non, .lst (acc ++ [.tup [.str x, .int (a.2 x)]])) := app_l (by rw [sizeLine_eq]; omega)
      obtain ⟨y5, y6, ih⟩ := due_loop N hP hA r (acc ++ [.tup [.str x, .int (a.2 x)]]) (fun y hy => h1 y (List.mem_cons_of_mem _ hy)) (by rw [List.length_append]; simp; omega) (.val (.str x)) (.val (.int (a.2 x)))
      refine ⟨y5, y6, ?_⟩
      rw [List.filter_cons, if_pos (by simp [e])]
      have fin : acc ++ [D.tup [.str x, .int (a.2 x)]] ++ prs (r.filter fun x => decide (a.2 x ≠ 0)) a.2 = acc ++ prs (x :: r.filter fun x => decide (a.2 x ≠ 0)) a.2 := by
        rw [List.append_assoc]; rfl
      rw [fin] at ih
      rw [List.map_cons, forL_cons, ← ih]
      have e' : decide (a.2 x = 0) = false := decide_eq_false e
      clear hie ih h1 h2 e N hP hA hx hi hlt fin
      generalize rwD names w Ps a = R at *
      generalize names.map D.str = L at *
      generalize a.2 x = f at *
      generalize (a.1 + f) % w = u at *
      generalize acc ++ [D.tup [.str x, .int f]] = ac2 at *
      unfold s__law_due_form_1
      walk_at "evc"
theorem due_ok (N : Nm names w) (hP : Pt names w Ps) (hA : Gf w a) : m__law_due_form [.val (rwD names w Ps a), .val (.lst (names.map D.str)), .val (.int w)] = .ok (.v (fDp names a)) [.un, .un, .un] := by
  obtain ⟨y4, y5, e⟩ := due_loop N hP hA (srtS names) [] (fun x hx => srt_mem.mp hx) (by rw [(srtS_perm names).length_eq]; have := N.le; simp; omega) .un .un
  rw [List.nil_append] at e
  have hlt := hP.lt
  have q3 : gGet (rwD names w Ps a) (.int 0) = some (.int a.1) := by
    rw [show (0 : Int) = ((0 : Nat) : Int) from rfl, row_at (by omega), vl_zero N hP hA]
  have eS : gSorted [.lst (names.map D.str)] = some (.lst ((srtS names).map .str)) := by
    show (asStrs _).bind _ = _
    rw [asStrs_map, Option.bind_some, if_pos (by have := N.le; omega)]
  have z0 : (0 : Nat) ≤ sizeLine := Nat.zero_le _
  have z2 : (2 : Nat) ≤ sizeLine := by rw [sizeLine_eq]; omega
  show _ = Out.ok (Rt.v (.tup [.int a.1, .tup (prs ((srtS names).filter fun x => decide (a.2 x ≠ 0)) a.2)])) _
  clear N hP hA hlt
  generalize rwD names w Ps a = R at *
  generalize D.lst (names.map D.str) = L at *
  generalize prs ((srtS names).filter fun x => decide (a.2 x ≠ 0)) a.2 = PR at *
  generalize (srtS names).map D.str = SS at *
  unfold m__law_due_form g__law_due_form
  walk_at "ev"
/-! ### the same -/
def sdB : Nat → D → Bool
  | _, .int _ => true
  | _, .str _ => true
  | _, .bl _ => true
  | n + 1, .tup ds => decide (ds.length ≤ 1000) && ds.all fun d => sdB n d
  | _, _ => false
theorem same_ok : ∀ (m : Nat) (d : D), sdB m d = true → m__law_same (m + 1) [.val d, .val d] = .ok (.v (.bl true)) [.un, .un]
  | m, .int i, h => by
    have g1 : gIsi [.int i, .ty "tuple"] = some (.bl false) := rfl
    have e1 : m__law_is_int [.val (.int i)] = .ok (.v (.bl true)) [.un] := by
      unfold m__law_is_int g__law_is_int
      walk_at "ev"
    show run false 3 (g__law_same (m__law_same m)) _ = _
    unfold g__law_same
    walk_at "ev"
  | m, .str i, h => by
    have g1 : gIsi [.str i, .ty "tuple"] = some (.bl false) := rfl
    have g2 : gIsi [.str i, .ty "bool"] = some (.bl false) := rfl
    have g3 : gIsi [.str i, .ty "int"] = some (.bl false) := rfl
    have g4 : gIsi [.str i, .ty "str"] = some (.bl true) := rfl
    show run false 3 (g__law_same (m__law_same m)) _ = _
    unfold g__law_same
    walk_at "ev"
  | m, .bl i, h => by
    have g1 : gIsi [.bl i, .ty "tuple"] = some (.bl false) := rfl
    have g2 : gIsi [.bl i, .ty "bool"] = some (.bl true) := rfl
    have g3 : gEq (.bl i) (.bl i) = some (.bl true) := by rw [eq_bb]; cases i <;> rfl
    show run false 3 (g__law_same (m__law_same m)) _ = _
    unfold g__law_same
    walk_at "ev"
  | 0, .tup _, h => by simp [sdB] at h
  | m, .non, h => by cases m <;> simp [sdB] at h
  | m, .lst _, h => by cases m <;> simp [sdB] at h
  | m, .dic _, h => by cases m <;> simp [sdB] at h
  | m, .dit _, h => by cases m <;> simp [sdB] at h
  | m, .obj _ _ _, h => by cases m <;> simp [sdB] at h
  | m, .ty _, h => by cases m <;> simp [sdB] at h
  | m + 1, .tup ds, h => by
    unfold sdB at h
    rw [Bool.and_eq_true] at h
    have hl := of_decide_eq_true h.1
    have ha := List.all_eq_true.mp h.2
    have g1 : gIsi [.tup ds, .ty "tuple"] = some (.bl true) := rfl
    have e1 := lcL_rg (e := e__law_same_1 (m__law_same (m + 1))) (ρ := [.val (.tup ds), .val (.tup ds), .un]) (i0 := 2) (n := ds.length) (f := fun _ => .bl true) (by omega) fun k hk => by
      have q := same_ok m ds[k] (ha _ (List.getElem_mem hk))
      have q2 : gGet (.tup ds) (.int (k : Int)) = some ds[k] := atI_nat (List.getElem?_eq_getElem hk)
      generalize ds[k] = dk at *
      clear h hl ha hk
      generalize m__law_same (m + 1) = RR at *
      unfold e__law_same_1
      walk_at "ev"
      exact ⟨_, rfl, rfl⟩
    have e3 := all_rg (n := ds.length) (f := fun _ => true)
    rw [show (List.range ds.length).all (fun _ => true) = true from by simp] at e3
    have ir := inR_nat (n := ds.length) (by omega)
    clear h hl ha
    show run false 3 (g__law_same (m__law_same (m + 1))) _ = _
    generalize m__law_same (m + 1) = RR at *
    unfold g__law_same
    walk_at "ev"
theorem fD_sd (N : Nm names w) : sdB 3 (fDp names a) = true := by
  have h6 := pt_len (F := a.2) N.le
  show (decide _ && List.all [D.int a.1, .tup (prs (ptL names a.2) a.2)] (sdB 2)) = true
  have : sdB 2 (.tup (prs (ptL names a.2) a.2)) = true := by
    show (decide _ && List.all _ (sdB 1)) = true
    rw [Bool.and_eq_true]
    refine ⟨decide_eq_true (by rw [prs_len]; omega), List.all_eq_true.mpr fun d hd => ?_⟩
    obtain ⟨x, _, rfl⟩ := List.mem_map.mp hd
    rfl
  simp only [List.all_cons, List.all_nil, this, Bool.and_true]
  rfl
theorem plain_is : m_is_plain_form [.val (fDp names a)] = .ok (.v (.bl (decide (ptL names a.2 = [])))) [.un] := by
  have g2 : gGet (fDp names a) (.int 1) = some (.tup (prs (ptL names a.2) a.2)) := rfl
  have hd : decide (ptL names a.2 = []) = decide (((prs (ptL names a.2) a.2).length : Int) = 0) := by
    rw [prs_len]
    cases ptL names a.2 <;> simp
    omega
  rw [hd]
  clear hd
  generalize prs (ptL names a.2) a.2 = PR at *
  generalize fDp names a = f at *
  unfold m_is_plain_form g_is_plain_form
  walk_at "ev"
end
end K11
namespace K11
open PySem PySem.Spec PyProof.Rows L2 L3
local macro_rules | `(tactic| walk_at "ev") => `(tactic| simp (config := {decide := true}) only [W_ok, bind_ok, thn_nx, thn_rt, thn_rn, thn_bk, thn_ct, cVar, cK, c1_e, c1_k, c2_e, c2_k, c2_k2, cB_e, cB_k, cAnd_e, cOr_e, cNot_e, cNot_k, cIte_e, iteK_t, iteK_f, iteK, okB, okV, cAndV_e, cOrV_e, cNotV_e, cNotV_k, cBv_e, aNil, aCons_e, aCons_k, aCons_k2, cTup_e, cTup_k, nLst_e, nLst_k, vN_e, vN_k, cN_e, cN_k, nN_e, nN_k, oNone, oSome_e, oSome_k, cSl_e, cSl_k, cSl_k2, cSl_k3, nSl_e, nSl_k, nSl_k2, nSl_k3, nCat_e, nCat_k, nCat_k2, sNil, sSeq, sFrz, sBrk, sCnt, sExp_e, sExp_k, sRet_e, sRet_k, sRetN_e, sRetN_k, sRetU, sIf_e, sSet_e, sSet_k, sSetN_e, sSetN_k, gSet, gsNil, gsCons_e, gsCons_k, nxK, gTupD, gLstD, sAsg_e, sAsg_k, sAug_e, sAug_k, iL_e, iL_k, iT_e, iT_k, iR1_e, iR1_k, iR2_e, iR2_k, iZ_e, iZ_k, iR3_e, iR3_k, cCh_e, cCh_k, cCh_k2, cCh_k3, nRan_e, nRan_k, r1F_e, r1F_k, r2F_e, r2F_k, r2F_k2, r3F_e, r3F_k, r3F_k2, r3F_k3, intP, sFor_e, run_e, runK_rt, runK_rn, runK_nx, fin, outs, cCall_e, cCall_k, cCall_k2, nCall_e, nCall_k, nCall_k2, callM, sls, lents, wbk, lk, pvD, pvDs, pvs, Sl.dat, Sl.put, gSubD_e, gSubD_k, cM_e, cM_k, cMr_e, cMr_k, cMr_k2, isTy_str, isTy_lst, cGet2_e, cGet2_k, cGet2_k2, cGet2_k3, isDic_d, iRv_e, iRv_k, get2_d, nDic0, pNil, keyD, pCons_e, pCons_k, pCons_k2, pCons_k3, nDic_e, nDic_k, nLc_e, nLc_k, lcB_ok, unAll, backAll, noAdr, setAll, setAllF, List.map_cons, List.map_nil, hOne, cYes, List.all_cons, List.all_nil, Bool.and_true, Bool.true_and, Bool.and_self, Option.map_none, ofO, Rt.d, add_i, mns_i, mul_r, mul_l, div_i, mod_i, neg_i, lt_i, le_i, gt_i, ge_i, int_i, abs_i, len_l, len_t, get_l, get_t, toT_l, toT_t, eq_i, ne_i, eq_s, ne_s, rg_len, isN_non, isN_int, notN_non, notN_int, pow18, isi_int, isi_bool, max_ii, max_l, max_t, sum_l, sum_t, toL_l, toL_t, sl_l, sl_t, sg1, sg2, sg3, sg4, sg5, ss2, ss3, ss4, ss5, List.getElem?_cons_zero, List.getElem?_cons_succ, List.set_cons_zero, List.set_cons_succ, List.length_cons, List.length_nil, List.length_map, List.length_range, List.replicate, List.cons_append, List.nil_append, Option.bind_some, Option.map_some, Option.isSome_some, Option.bind_none, if_true, if_false, reduceIte, decide_eq_true_eq, Bool.false_eq_true, reduceCtorEq, decide_true, decide_false, Bool.not_true, Bool.not_false, *])
local macro_rules | `(tactic| walk_at "evc") => `(tactic| simp (config := {decide := true}) only [at0, at1, at2, at3, set0, set1, set2, ran0, ran1, ran2, ran3, maxI_one, maxI_cons, asI_nil, asI_cons, add_l, add_t, app_l, line_le, line_lt, forL_nil, forL_cons, forL_k, lp_nx, lp_ct, lp_bk, lp_rt, lp_rn, sub_ok, lcL_nil, lcL_cons, lcH_some, lcL_k, lcL_k2, L3.cutD, HT.sIx, List.take_succ_cons, List.take_zero, List.drop_succ_cons, List.drop_zero, List.sum_cons, List.sum_nil, Nat.reduceAdd, Int.reduceSub, Int.reduceAdd, int_lit, Int.reduceToNat, Nat.reduceSub, Nat.min_def, Nat.reduceLeDiff, Int.reduceLT, W_ok, bind_ok, thn_nx, thn_rt, thn_rn, thn_bk, thn_ct, cVar, cK, c1_e, c1_k, c2_e, c2_k, c2_k2, cB_e, cB_k, cAnd_e, cOr_e, cNot_e, cNot_k, cIte_e, iteK_t, iteK_f, iteK, okB, okV, cAndV_e, cOrV_e, cNotV_e, cNotV_k, cBv_e, aNil, aCons_e, aCons_k, aCons_k2, cTup_e, cTup_k, nLst_e, nLst_k, vN_e, vN_k, cN_e, cN_k, nN_e, nN_k, oNone, oSome_e, oSome_k, cSl_e, cSl_k, cSl_k2, cSl_k3, nSl_e, nSl_k, nSl_k2, nSl_k3, nCat_e, nCat_k, nCat_k2, sNil, sSeq, sFrz, sBrk, sCnt, sExp_e, sExp_k, sRet_e, sRet_k, sRetN_e, sRetN_k, sRetU, sIf_e, sSet_e, sSet_k, sSetN_e, sSetN_k, gSet, gsNil, gsCons_e, gsCons_k, nxK, gTupD, gLstD, sAsg_e, sAsg_k, sAug_e, sAug_k, iL_e, iL_k, iT_e, iT_k, iR1_e, iR1_k, iR2_e, iR2_k, iZ_e, iZ_k, iR3_e, iR3_k, cCh_e, cCh_k, cCh_k2, cCh_k3, nRan_e, nRan_k, r1F_e, r1F_k, r2F_e, r2F_k, r2F_k2, r3F_e, r3F_k, r3F_k2, r3F_k3, intP, sFor_e, run_e, runK_rt, runK_rn, runK_nx, fin, outs, cCall_e, cCall_k, cCall_k2, nCall_e, nCall_k, nCall_k2, callM, sls, lents, wbk, lk, pvD, pvDs, pvs, Sl.dat, Sl.put, gSubD_e, gSubD_k, cM_e, cM_k, cMr_e, cMr_k, cMr_k2, isTy_str, isTy_lst, cGet2_e, cGet2_k, cGet2_k2, cGet2_k3, isDic_d, iRv_e, iRv_k, get2_d, nDic0, pNil, keyD, pCons_e, pCons_k, pCons_k2, pCons_k3, nDic_e, nDic_k, nLc_e, nLc_k, lcB_ok, unAll, backAll, noAdr, setAll, setAllF, List.map_cons, List.map_nil, hOne, cYes, List.all_cons, List.all_nil, Bool.and_true, Bool.true_and, Bool.and_self, Option.map_none, ofO, Rt.d, add_i, mns_i, mul_r, mul_l, div_i, mod_i, neg_i, lt_i, le_i, gt_i, ge_i, int_i, abs_i, len_l, len_t, get_l, get_t, toT_l, toT_t, eq_i, ne_i, eq_s, ne_s, rg_len, isN_non, isN_int, notN_non, notN_int, pow18, isi_int, isi_bool, max_ii, max_l, max_t, sum_l, sum_t, toL_l, toL_t, sl_l, sl_t, sg1, sg2, sg3, sg4, sg5, ss2, ss3, ss4, ss5, List.getElem?_cons_zero, List.getElem?_cons_succ, List.set_cons_zero, List.set_cons_succ, List.length_cons, List.length_nil, List.length_map, List.length_range, List.replicate, List.cons_append, List.nil_append, Option.bind_some, Option.map_some, Option.isSome_some, Option.bind_none, if_true, if_false, reduceIte, decide_eq_true_eq, Bool.false_eq_true, reduceCtorEq, decide_true, decide_false, Bool.not_true, Bool.not_false, *])
section
variable {names ks l : List Str} {g F F' P : Str → Int} {x : Str} {v c c' w n : Int} {A : List Fm} {s : St} {a b : Fm} {i j m : Nat} {Ps : List (Str → Int)}
def fm (ks : List Str) : List Str → Option Str
  | [] => none
  | x :: r => if x ∈ ks then fm ks r else some x
abbrev bF (ks : List Str) : (D → En → Out Unit) := gTupD 2 (gsCons (gSet 4) (gsCons (gSet 5) (gsNil)))
theorem fv_none {f : D} : ∀ {l : List Str} (found : Int) (x4 x5 : Sl), fm ks l = none → (∀ x ∈ l, b64 (F x) = true) →
    ∃ y4 y5 : Sl, forL (gTupD 2 (gsCons (gSet 4) (gsCons (gSet 5) (gsNil)))) s_form_value_1 (prs l F) [.val f, .val (.dic (dks ks P)), .val (.int w), .val (.int found), x4, x5] =
      .ok .nx [.val f, .val (.dic (dks ks P)), .val (.int w), .val (.int (found + sm l fun x => F x * P x)), y4, y5]
  | [], found, x4, x5, _, _ => ⟨x4, x5, by simp [prs, forL, sm]⟩
  | x :: r, found, x4, x5, h, hb => by
    have hx : x ∈ ks := Classical.not_not.mp fun z => by rw [fm, if_neg z] at h; cases h
    rw [fm, if_pos hx] at h
    obtain ⟨y4, y5, ih⟩ := fv_none (f := f) (found + F x * P x) (.val (.str x)) (.val (.int (F x))) h fun y hy => hb y (List.mem_cons_of_mem _ hy)
    refine ⟨y4, y5, ?_⟩
    have e0 : found + sm (x :: r) (fun x => F x * P x) = found + F x * P x + sm r fun x => F x * P x := by
      unfold sm
      rw [List.map_cons, List.sum_cons]; omega
    rw [e0, ← ih]
    have lk := look_dks (ks := ks) (g := P) (x := x)
    rw [if_pos hx] at lk
    have e1 : gInD true (.str x) (.dic (dks ks P)) = some (.bl false) := by rw [in_d, lk]; rfl
    have e2 : gGet (.dic (dks ks P)) (.str x) = some (.int (P x)) := lk
    have e3 := mul_l (b := P x) (hb x List.mem_cons_self)
    have pl : ∀ a b : Int, gI (· + ·) (.int a) (.int b) = some (.int (a + b)) := fun _ _ => rfl
    clear ih hb h hx e0 lk
    show forL _ _ (D.tup [.str x, .int (F x)] :: prs r F) _ = _
    rw [forL_cons]
    generalize dks ks P = DK at *
    generalize F x * P x = fp at *
    generalize F x = fx at *
    generalize P x = px at *
    unfold s_form_value_1
    walk_at "evc"
theorem fv_some {f : D} {z : Str} : ∀ {l : List Str} (found : Int) (x4 x5 : Sl), fm ks l = some z → (∀ x ∈ l, b64 (F x) = true) →
    ∃ q3 q4 q5 : Sl, forL (gTupD 2 (gsCons (gSet 4) (gsCons (gSet 5) (gsNil)))) s_form_value_1 (prs l F) [.val f, .val (.dic (dks ks P)), .val (.int w), .val (.int found), x4, x5] =
      .exc ⟨"NoSuch", [("name", .str z)]⟩ [.val f, .val (.dic (dks ks P)), .val (.int w), q3, q4, q5]
  | [], found, x4, x5, h, _ => by cases h
  | x :: r, found, x4, x5, h, hb => by
    have lk := look_dks (ks := ks) (g := P) (x := x)
    have pl : ∀ a b : Int, gI (· + ·) (.int a) (.int b) = some (.int (a + b)) := fun _ _ => rfl
    by_cases hx : x ∈ ks
    · rw [fm, if_pos hx] at h
      obtain ⟨q3, q4, q5, ih⟩ := fv_some (f := f) (found + F x * P x) (.val (.str x)) (.val (.int (F x))) h fun y hy => hb y (List.mem_cons_of_mem _ hy)
      refine ⟨q3, q4, q5, ?_⟩
      rw [← ih]
      rw [if_pos hx] at lk
      have e1 : gInD true (.str x) (.dic (dks ks P)) = some (.bl false) := by rw [in_d, lk]; rfl
      have e2 : gGet (.dic (dks ks P)) (.str x) = some (.int (P x)) := lk
      have e3 := mul_l (b := P x) (hb x List.mem_cons_self)
      clear ih hb h hx lk
      show forL _ _ (D.tup [.str x, .int (F x)] :: prs r F) _ = _
      rw [forL_cons]
      generalize dks ks P = DK at *
      generalize F x * P x = fp at *
      generalize F x = fx at *
      generalize P x = px at *
      unfold s_form_value_1
      walk_at "evc"
    · rw [fm, if_neg hx] at h
      cases h
      rw [if_neg hx] at lk
      refine ⟨.val (.int found), .val (.str z), .val (.int (F z)), ?_⟩
      have e1 : gInD true (.str z) (.dic (dks ks P)) = some (.bl true) := by rw [in_d, lk]; rfl
      have t1 : ∀ (e : Ex) (ρ : En) (g : En → Out Fl), (Out.exc e ρ : Out Fl).thn g = .exc e ρ := fun _ _ _ => rfl
      have t2 : ∀ (e : Ex) (ρ : En) (g : En → Out Fl), (Out.exc e ρ : Out Fl).lp g = .exc e ρ := fun _ _ _ => rfl
      clear hb hx lk
      show forL _ _ (D.tup [.str z, .int (F z)] :: prs r F) _ = _
      rw [forL_cons]
      generalize dks ks P = DK at *
      have er : sRaise "NoSuch" ["name"] (aCons (cVar 4) (aNil)) [.val f, .val (.dic DK), .val (.int w), .val (.int found), .val (.str z), .val (.int (F z))] = .exc ⟨"NoSuch", [("name", .str z)]⟩ [.val f, .val (.dic DK), .val (.int w), .val (.int found), .val (.str z), .val (.int (F z))] := rfl
      unfold s_form_value_1
      walk_at "evc"
theorem fv_ok (N : Nm names w) (hA : Gf w a) (h : fm ks (ptL names a.2) = none) : m_form_value [.val (fDp names a), .val (.dic (dks ks P)), .val (.int w)] = .ok (.v (.int (vl names w a P))) [.un, .un, .un] := by
  obtain ⟨y4, y5, e⟩ := fv_none (f := fDp names a) (P := P) (w := w) a.1 .un .un h fun x _ => (hA.bb N).2 x
  rw [sm_pt] at e
  have g1 : gGet (fDp names a) (.int 0) = some (.int a.1) := rfl
  have g2 : gGet (fDp names a) (.int 1) = some (.tup (prs (ptL names a.2) a.2)) := rfl
  have hw : 0 < w := by have := N.w0; omega
  unfold vl
  clear N hA h
  generalize prs (ptL names a.2) a.2 = PR at *
  generalize fDp names a = f at *
  generalize dks ks P = DK at *
  generalize (sm names fun x => a.2 x * P x) = S at *
  unfold m_form_value g_form_value
  walk_at "ev"
theorem fv_exc (N : Nm names w) (hA : Gf w a) (h : fm ks (ptL names a.2) = some x) : m_form_value [.val (fDp names a), .val (.dic (dks ks P)), .val (.int w)] = .exc ⟨"NoSuch", [("name", .str x)]⟩ [.un, .un, .un] := by
  obtain ⟨q3, q4, q5, e⟩ := fv_some (f := fDp names a) (P := P) (w := w) a.1 .un .un h fun x _ => (hA.bb N).2 x
  have g1 : gGet (fDp names a) (.int 0) = some (.int a.1) := rfl
  have g2 : gGet (fDp names a) (.int 1) = some (.tup (prs (ptL names a.2) a.2)) := rfl
  have t1 : ∀ (e : Ex) (ρ : En) (g : En → Out Fl), (Out.exc e ρ : Out Fl).thn g = .exc e ρ := fun _ _ _ => rfl
  have t3 : ∀ (e : Ex) (q0 q1 q2 : D) (p3 p4 p5 : Sl), runK true [.val q0, .val q1, .val q2] (.exc e [.val q0, .val q1, .val q2, p3, p4, p5]) = .exc e [.un, .un, .un] := fun _ _ _ _ _ _ _ => rfl
  clear N hA h
  generalize prs (ptL names a.2) a.2 = PR at *
  generalize fDp names a = f at *
  generalize dks ks P = DK at *
  unfold m_form_value g_form_value
  walk_at "ev"
theorem asked_ok (N : Nm names w) (hA : Gf w a) (h : fm ks (ptL names a.2) = none) : m__law_asked [.val (fDp names a), .val (.dic (dks ks P)), .val (.int w)] = .ok (.v (.tup [.str "value", .int (vl names w a P)])) [.un, .un, .un] := by
  have e := fv_ok (P := P) N hA h
  have z2 : (2 : Nat) ≤ sizeLine := by rw [sizeLine_eq]; omega
  clear N hA h
  generalize fDp names a = f at *
  generalize dks ks P = DK at *
  generalize vl names w a P = V at *
  have eg : (sRet (cTup (aCons (cK (.str "value")) (aCons (cCall 3 m_form_value (aCons (cVar 0) (aCons (cVar 1) (aCons (cVar 2) (aNil))))) (aNil))))) [.val f, .val (.dic DK), .val (.int w), .un] = .ok (.rt (.tup [.str "value", .int V])) [.val f, .val (.dic DK), .val (.int w), .un] := by
    walk_at "ev"
  unfold m__law_asked g__law_asked
  rw [run_e]
  show runK false _ (sTry _ _ _ _ [.val f, .val (.dic DK), .val (.int w), .un]) = _
  unfold sTry
  rw [eg]
  rfl
theorem asked_exc (N : Nm names w) (hA : Gf w a) (h : fm ks (ptL names a.2) = some x) : m__law_asked [.val (fDp names a), .val (.dic (dks ks P)), .val (.int w)] = .ok (.v (.tup [.str "missing", .str x])) [.un, .un, .un] := by
  have e := fv_exc (P := P) N hA h
  have z2 : (2 : Nat) ≤ sizeLine := by rw [sizeLine_eq]; omega
  have t1 : ∀ (e : Ex) (ρ : En) (g : Pv → En → Out (List Pv)), (Out.exc e ρ : Out Pv).bind g = .exc e ρ := fun _ _ _ => rfl
  have t2 : ∀ (e : Ex) (ρ : En) (g : List Pv → En → Out (List Pv)), (Out.exc e ρ : Out (List Pv)).bind g = .exc e ρ := fun _ _ _ => rfl
  have t3 : ∀ (e : Ex) (ρ : En) (g : List Pv → En → Out Pv), (Out.exc e ρ : Out (List Pv)).bind g = .exc e ρ := fun _ _ _ => rfl
  have t4 : ∀ (e : Ex) (ρ : En) (g : Pv → En → Out Fl), (Out.exc e ρ : Out Pv).bind g = .exc e ρ := fun _ _ _ => rfl
  have t5 : ∀ (e : Ex) (ρ : En) (g : Rt → En → Out Pv), (Out.exc e ρ : Out Rt).bind g = .exc e ρ := fun _ _ _ => rfl
  clear N hA h
  generalize fDp names a = f at *
  generalize dks ks P = DK at *
  have eg : (sRet (cTup (aCons (cK (.str "value")) (aCons (cCall 3 m_form_value (aCons (cVar 0) (aCons (cVar 1) (aCons (cVar 2) (aNil))))) (aNil))))) [.val f, .val (.dic DK), .val (.int w), .un] = .exc ⟨"NoSuch", [("name", .str x)]⟩ [.val f, .val (.dic DK), .val (.int w), .un] := by
    walk_at "ev"
  have eh : hIf (hOr (hI [("NoSuch", false)]) (hNot (hI [("NoSuch", true)]))) (hTp (hCons (hK (.str "other")) (hCons (hK (.int 0)) (hNil)))) (hTp (hCons (hK (.str "missing")) (hCons (hF "NoSuch" "name") (hNil)))) ⟨"NoSuch", [("name", .str x)]⟩ = some (.tup [.str "missing", .str x]) := by
    show hTp (hCons (hK (.str "missing")) (hCons (hF "NoSuch" "name") (hNil))) ⟨"NoSuch", [("name", .str x)]⟩ = _
    show (if ([.str "missing", .str x] : List D).length ≤ sizeLine then some (D.tup [.str "missing", .str x]) else none) = _
    rw [if_pos (by simpa using z2)]
  unfold m__law_asked g__law_asked
  rw [run_e]
  show runK false _ (sTry _ _ _ _ [.val f, .val (.dic DK), .val (.int w), .un]) = _
  unfold sTry
  rw [eg]
  dsimp only
  rw [show List.lookup ("NoSuch" : Str) [(("NoSuch" : Str), true)] = some true from rfl]
  dsimp only
  rw [eh]
  rfl
end
end K11
namespace K11
open PySem PySem.Spec PyProof.Rows L2 L3
local macro_rules | `(tactic| walk_at "ev") => `(tactic| simp (config := {decide := true}) only [W_ok, bind_ok, thn_nx, thn_rt, thn_rn, thn_bk, thn_ct, cVar, cK, c1_e, c1_k, c2_e, c2_k, c2_k2, cB_e, cB_k, cAnd_e, cOr_e, cNot_e, cNot_k, cIte_e, iteK_t, iteK_f, iteK, okB, okV, cAndV_e, cOrV_e, cNotV_e, cNotV_k, cBv_e, aNil, aCons_e, aCons_k, aCons_k2, cTup_e, cTup_k, nLst_e, nLst_k, vN_e, vN_k, cN_e, cN_k, nN_e, nN_k, oNone, oSome_e, oSome_k, cSl_e, cSl_k, cSl_k2, cSl_k3, nSl_e, nSl_k, nSl_k2, nSl_k3, nCat_e, nCat_k, nCat_k2, sNil, sSeq, sFrz, sBrk, sCnt, sExp_e, sExp_k, sRet_e, sRet_k, sRetN_e, sRetN_k, sRetU, sIf_e, sSet_e, sSet_k, sSetN_e, sSetN_k, gSet, gsNil, gsCons_e, gsCons_k, nxK, gTupD, gLstD, sAsg_e, sAsg_k, sAug_e, sAug_k, iL_e, iL_k, iT_e, iT_k, iR1_e, iR1_k, iR2_e, iR2_k, iZ_e, iZ_k, iR3_e, iR3_k, cCh_e, cCh_k, cCh_k2, cCh_k3, nRan_e, nRan_k, r1F_e, r1F_k, r2F_e, r2F_k, r2F_k2, r3F_e, r3F_k, r3F_k2, r3F_k3, intP, sFor_e, run_e, runK_rt, runK_rn, runK_nx, fin, outs, cCall_e, cCall_k, cCall_k2, nCall_e, nCall_k, nCall_k2, callM, sls, lents, wbk, lk, pvD, pvDs, pvs, Sl.dat, Sl.put, gSubD_e, gSubD_k, cM_e, cM_k, cMr_e, cMr_k, cMr_k2, isTy_str, isTy_lst, cGet2_e, cGet2_k, cGet2_k2, cGet2_k3, isDic_d, iRv_e, iRv_k, get2_d, nDic0, pNil, keyD, pCons_e, pCons_k, pCons_k2, pCons_k3, nDic_e, nDic_k, nLc_e, nLc_k, lcB_ok, unAll, backAll, noAdr, setAll, setAllF, List.map_cons, List.map_nil, hOne, cYes, List.all_cons, List.all_nil, Bool.and_true, Bool.true_and, Bool.and_self, Option.map_none, ofO, Rt.d, add_i, mns_i, mul_r, mul_l, div_i, mod_i, neg_i, lt_i, le_i, gt_i, ge_i, int_i, abs_i, len_l, len_t, get_l, get_t, toT_l, toT_t, eq_i, ne_i, eq_s, ne_s, rg_len, isN_non, isN_int, notN_non, notN_int, pow18, isi_int, isi_bool, max_ii, max_l, max_t, sum_l, sum_t, toL_l, toL_t, sl_l, sl_t, sg1, sg2, sg3, sg4, sg5, ss2, ss3, ss4, ss5, List.getElem?_cons_zero, List.getElem?_cons_succ, List.set_cons_zero, List.set_cons_succ, List.length_cons, List.length_nil, List.length_map, List.length_range, List.replicate, List.cons_append, List.nil_append, Option.bind_some, Option.map_some, Option.isSome_some, Option.bind_none, if_true, if_false, reduceIte, decide_eq_true_eq, Bool.false_eq_true, reduceCtorEq, decide_true, decide_false, Bool.not_true, Bool.not_false, *])
local macro_rules | `(tactic| walk_at "evc") => `(tactic| simp (config := {decide := true}) only [at0, at1, at2, at3, set0, set1, set2, ran0, ran1, ran2, ran3, maxI_one, maxI_cons, asI_nil, asI_cons, add_l, add_t, app_l, line_le, line_lt, forL_nil, forL_cons, forL_k, lp_nx, lp_ct, lp_bk, lp_rt, lp_rn, sub_ok, lcL_nil, lcL_cons, lcH_some, lcL_k, lcL_k2, L3.cutD, HT.sIx, List.take_succ_cons, List.take_zero, List.drop_succ_cons, List.drop_zero, List.sum_cons, List.sum_nil, Nat.reduceAdd, Int.reduceSub, Int.reduceAdd, int_lit, Int.reduceToNat, Nat.reduceSub, Nat.min_def, Nat.reduceLeDiff, Int.reduceLT, W_ok, bind_ok, thn_nx, thn_rt, thn_rn, thn_bk, thn_ct, cVar, cK, c1_e, c1_k, c2_e, c2_k, c2_k2, cB_e, cB_k, cAnd_e, cOr_e, cNot_e, cNot_k, cIte_e, iteK_t, iteK_f, iteK, okB, okV, cAndV_e, cOrV_e, cNotV_e, cNotV_k, cBv_e, aNil, aCons_e, aCons_k, aCons_k2, cTup_e, cTup_k, nLst_e, nLst_k, vN_e, vN_k, cN_e, cN_k, nN_e, nN_k, oNone, oSome_e, oSome_k, cSl_e, cSl_k, cSl_k2, cSl_k3, nSl_e, nSl_k, nSl_k2, nSl_k3, nCat_e, nCat_k, nCat_k2, sNil, sSeq, sFrz, sBrk, sCnt, sExp_e, sExp_k, sRet_e, sRet_k, sRetN_e, sRetN_k, sRetU, sIf_e, sSet_e, sSet_k, sSetN_e, sSetN_k, gSet, gsNil, gsCons_e, gsCons_k, nxK, gTupD, gLstD, sAsg_e, sAsg_k, sAug_e, sAug_k, iL_e, iL_k, iT_e, iT_k, iR1_e, iR1_k, iR2_e, iR2_k, iZ_e, iZ_k, iR3_e, iR3_k, cCh_e, cCh_k, cCh_k2, cCh_k3, nRan_e, nRan_k, r1F_e, r1F_k, r2F_e, r2F_k, r2F_k2, r3F_e, r3F_k, r3F_k2, r3F_k3, intP, sFor_e, run_e, runK_rt, runK_rn, runK_nx, fin, outs, cCall_e, cCall_k, cCall_k2, nCall_e, nCall_k, nCall_k2, callM, sls, lents, wbk, lk, pvD, pvDs, pvs, Sl.dat, Sl.put, gSubD_e, gSubD_k, cM_e, cM_k, cMr_e, cMr_k, cMr_k2, isTy_str, isTy_lst, cGet2_e, cGet2_k, cGet2_k2, cGet2_k3, isDic_d, iRv_e, iRv_k, get2_d, nDic0, pNil, keyD, pCons_e, pCons_k, pCons_k2, pCons_k3, nDic_e, nDic_k, nLc_e, nLc_k, lcB_ok, unAll, backAll, noAdr, setAll, setAllF, List.map_cons, List.map_nil, hOne, cYes, List.all_cons, List.all_nil, Bool.and_true, Bool.true_and, Bool.and_self, Option.map_none, ofO, Rt.d, add_i, mns_i, mul_r, mul_l, div_i, mod_i, neg_i, lt_i, le_i, gt_i, ge_i, int_i, abs_i, len_l, len_t, get_l, get_t, toT_l, toT_t, eq_i, ne_i, eq_s, ne_s, rg_len, isN_non, isN_int, notN_non, notN_int, pow18, isi_int, isi_bool, max_ii, max_l, max_t, sum_l, sum_t, toL_l, toL_t, sl_l, sl_t, sg1, sg2, sg3, sg4, sg5, ss2, ss3, ss4, ss5, List.getElem?_cons_zero, List.getElem?_cons_succ, List.set_cons_zero, List.set_cons_succ, List.length_cons, List.length_nil, List.length_map, List.length_range, List.replicate, List.cons_append, List.nil_append, Option.bind_some, Option.map_some, Option.isSome_some, Option.bind_none, if_true, if_false, reduceIte, decide_eq_true_eq, Bool.false_eq_true, reduceCtorEq, decide_true, decide_false, Bool.not_true, Bool.not_false, *])
section
variable {names ks l : List Str} {g F F' P : Str → Int} {x : Str} {v c c' w n k : Int} {A : List Fm} {s : St} {a b : Fm} {i j m : Nat} {Ps : List (Str → Int)}
theorem mul_mod {z p : Int} : (z % w * p) % w = (z * p) % w := by rw [Int.mul_emod, Int.emod_emod_of_dvd _ (Int.dvd_refl w), ← Int.mul_emod]
theorem vl_lin : vl names w ((a.1 + k * b.1) % w, fun x => (a.2 x + k * b.2 x) % w) P = (vl names w a P + k * vl names w b P) % w := by
  have h : sm names (fun x => (a.2 x + k * b.2 x) % w * P x) % w = (sm names (fun x => a.2 x * P x) + k * sm names fun x => b.2 x * P x) % w := by
    rw [sm_mod (h := fun x => (a.2 x + k * b.2 x) * P x) fun x => mul_mod, sm_congr (g := fun x => a.2 x * P x + k * (b.2 x * P x)) fun x _ => by rw [Int.add_mul, Int.mul_assoc], sm_add, sm_mul]
  unfold vl
  generalize sm names (fun x => a.2 x * P x) = SA at *
  generalize sm names (fun x => b.2 x * P x) = SB at *
  dsimp only
  have r1 : (k * ((b.1 + SB) % w)) % w = (k * (b.1 + SB)) % w := by rw [Int.mul_comm, mul_mod, Int.mul_comm]
  rw [Int.add_emod, h, Int.emod_emod_of_dvd _ (Int.dvd_refl w), ← Int.add_emod, Int.add_emod ((a.1 + SA) % w), r1, Int.emod_emod_of_dvd _ (Int.dvd_refl w), ← Int.add_emod, Int.mul_add]
  congr 1
  omega
theorem vl_const : vl names w (c, fun _ => 0) P = c % w := by
  unfold vl
  rw [sm_congr (g := fun x => P x * 0) fun x _ => by dsimp only; rw [Int.zero_mul, Int.mul_zero], sm_zero, Int.add_zero]
theorem vl_chan (N : Nm names w) (hx : x ∈ names) (hP : 0 ≤ P x ∧ P x < w) : vl names w (0, fun y => if y = x then 1 else 0) P = P x := by
  unfold vl
  rw [sm_congr (g := fun y => P y * if y = x then 1 else 0) fun y _ => by dsimp only; rw [Int.mul_comm], sm_one N.nd hx, Int.zero_add, Int.emod_eq_of_lt hP.1 hP.2]
def ptD (names : List Str) (P : Str → Int) : D := .tup (names.map fun x => .int (P x))
abbrev atP (Ps : List (Str → Int)) (k : Nat) : Str → Int := Ps.getD k fun _ => 0
theorem map_rg {α : Type} {l : List α} {h : α → D} {d : α} : l.map h = rg l.length fun k => h (l.getD k d) := by
  apply List.ext_getElem?
  intro i
  by_cases hi : i < l.length
  · rw [rg_get hi, List.getElem?_map, List.getElem?_eq_getElem hi, List.getD_eq_getElem?_getD, List.getElem?_eq_getElem hi]; rfl
  · rw [List.getElem?_eq_none (by simpa using hi), List.getElem?_eq_none (by rw [rg_len]; omega)]
theorem rw_rg : rwD names w Ps a = .lst (rg Ps.length fun k => .int (vl names w a (atP Ps k))) := by
  unfold rwD
  rw [map_rg (d := fun _ => 0)]
theorem rwA (h : i < A.length) : gGet (.lst (A.map (rwD names w Ps))) (.int (i : Int)) = some (rwD names w Ps (atF A i)) := by
  have : atF A i = A[i] := by
    unfold atF
    rw [List.getD_eq_getElem?_getD, List.getElem?_eq_getElem h]; rfl
  rw [this]
  exact map_at h
theorem rw_at (h : i < Ps.length) : gGet (rwD names w Ps a) (.int (i : Int)) = some (.int (vl names w a (atP Ps i))) := by
  rw [rw_rg]
  exact rg_at h
theorem pt_at (h : i < names.length) : gGet (ptD names P) (.int (i : Int)) = some (.int (P (names.getD i ""))) := by
  have : names.getD i "" = names[i] := by rw [List.getD_eq_getElem?_getD, List.getElem?_eq_getElem h]; rfl
  rw [this]
  exact map_at h
theorem getD_mem (h : i < names.length) : names.getD i "" ∈ names := by
  have : names.getD i "" = names[i] := by rw [List.getD_eq_getElem?_getD, List.getElem?_eq_getElem h]; rfl
  rw [this]; exact List.getElem_mem h
end
end K11
namespace K11
open PySem PySem.Spec PyProof.Rows L2 L3
local macro_rules | `(tactic| walk_at "ev") => `(tactic| simp (config := {decide := true}) only [W_ok, bind_ok, thn_nx, thn_rt, thn_rn, thn_bk, thn_ct, cVar, cK, c1_e, c1_k, c2_e, c2_k, c2_k2, cB_e, cB_k, cAnd_e, cOr_e, cNot_e, cNot_k, cIte_e, iteK_t, iteK_f, iteK, okB, okV, cAndV_e, cOrV_e, cNotV_e, cNotV_k, cBv_e, aNil, aCons_e, aCons_k, aCons_k2, cTup_e, cTup_k, nLst_e, nLst_k, vN_e, vN_k, cN_e, cN_k, nN_e, nN_k, oNone, oSome_e, oSome_k, cSl_e, cSl_k, cSl_k2, cSl_k3, nSl_e, nSl_k, nSl_k2, nSl_k3, nCat_e, nCat_k, nCat_k2, sNil, sSeq, sFrz, sBrk, sCnt, sExp_e, sExp_k, sRet_e, sRet_k, sRetN_e, sRetN_k, sRetU, sIf_e, sSet_e, sSet_k, sSetN_e, sSetN_k, gSet, gsNil, gsCons_e, gsCons_k, nxK, gTupD, gLstD, sAsg_e, sAsg_k, sAug_e, sAug_k, iL_e, iL_k, iT_e, iT_k, iR1_e, iR1_k, iR2_e, iR2_k, iZ_e, iZ_k, iR3_e, iR3_k, cCh_e, cCh_k, cCh_k2, cCh_k3, nRan_e, nRan_k, r1F_e, r1F_k, r2F_e, r2F_k, r2F_k2, r3F_e, r3F_k, r3F_k2, r3F_k3, intP, sFor_e, run_e, runK_rt, runK_rn, runK_nx, fin, outs, cCall_e, cCall_k, cCall_k2, nCall_e, nCall_k, nCall_k2, callM, sls, lents, wbk, lk, pvD, pvDs, pvs, Sl.dat, Sl.put, gSubD_e, gSubD_k, cM_e, cM_k, cMr_e, cMr_k, cMr_k2, isTy_str, isTy_lst, cGet2_e, cGet2_k, cGet2_k2, cGet2_k3, isDic_d, iRv_e, iRv_k, get2_d, nDic0, pNil, keyD, pCons_e, pCons_k, pCons_k2, pCons_k3, nDic_e, nDic_k, nLc_e, nLc_k, lcB_ok, unAll, backAll, noAdr, setAll, setAllF, List.map_cons, List.map_nil, hOne, cYes, List.all_cons, List.all_nil, Bool.and_true, Bool.true_and, Bool.and_self, Option.map_none, ofO, Rt.d, add_i, mns_i, mul_r, mul_l, div_i, mod_i, neg_i, lt_i, le_i, gt_i, ge_i, int_i, abs_i, len_l, len_t, get_l, get_t, toT_l, toT_t, eq_i, ne_i, eq_s, ne_s, rg_len, isN_non, isN_int, notN_non, notN_int, pow18, isi_int, isi_bool, max_ii, max_l, max_t, sum_l, sum_t, toL_l, toL_t, sl_l, sl_t, sg1, sg2, sg3, sg4, sg5, ss2, ss3, ss4, ss5, List.getElem?_cons_zero, List.getElem?_cons_succ, List.set_cons_zero, List.set_cons_succ, List.length_cons, List.length_nil, List.length_map, List.length_range, List.replicate, List.cons_append, List.nil_append, Option.bind_some, Option.map_some, Option.isSome_some, Option.bind_none, if_true, if_false, reduceIte, decide_eq_true_eq, Bool.false_eq_true, reduceCtorEq, decide_true, decide_false, Bool.not_true, Bool.not_false, *])
local macro_rules | `(tactic| walk_at "evc") => `(tactic| simp (config := {decide := true}) only [at0, at1, at2, at3, set0, set1, set2, ran0, ran1, ran2, ran3, maxI_one, maxI_cons, asI_nil, asI_cons, add_l, add_t, app_l, line_le, line_lt, forL_nil, forL_cons, forL_k, lp_nx, lp_ct, lp_bk, lp_rt, lp_rn, sub_ok, lcL_nil, lcL_cons, lcH_some, lcL_k, lcL_k2, L3.cutD, HT.sIx, List.take_succ_cons, List.take_zero, List.drop_succ_cons, List.drop_zero, List.sum_cons, List.sum_nil, Nat.reduceAdd, Int.reduceSub, Int.reduceAdd, int_lit, Int.reduceToNat, Nat.reduceSub, Nat.min_def, Nat.reduceLeDiff, Int.reduceLT, W_ok, bind_ok, thn_nx, thn_rt, thn_rn, thn_bk, thn_ct, cVar, cK, c1_e, c1_k, c2_e, c2_k, c2_k2, cB_e, cB_k, cAnd_e, cOr_e, cNot_e, cNot_k, cIte_e, iteK_t, iteK_f, iteK, okB, okV, cAndV_e, cOrV_e, cNotV_e, cNotV_k, cBv_e, aNil, aCons_e, aCons_k, aCons_k2, cTup_e, cTup_k, nLst_e, nLst_k, vN_e, vN_k, cN_e, cN_k, nN_e, nN_k, oNone, oSome_e, oSome_k, cSl_e, cSl_k, cSl_k2, cSl_k3, nSl_e, nSl_k, nSl_k2, nSl_k3, nCat_e, nCat_k, nCat_k2, sNil, sSeq, sFrz, sBrk, sCnt, sExp_e, sExp_k, sRet_e, sRet_k, sRetN_e, sRetN_k, sRetU, sIf_e, sSet_e, sSet_k, sSetN_e, sSetN_k, gSet, gsNil, gsCons_e, gsCons_k, nxK, gTupD, gLstD, sAsg_e, sAsg_k, sAug_e, sAug_k, iL_e, iL_k, iT_e, iT_k, iR1_e, iR1_k, iR2_e, iR2_k, iZ_e, iZ_k, iR3_e, iR3_k, cCh_e, cCh_k, cCh_k2, cCh_k3, nRan_e, nRan_k, r1F_e, r1F_k, r2F_e, r2F_k, r2F_k2, r3F_e, r3F_k, r3F_k2, r3F_k3, intP, sFor_e, run_e, runK_rt, runK_rn, runK_nx, fin, outs, cCall_e, cCall_k, cCall_k2, nCall_e, nCall_k, nCall_k2, callM, sls, lents, wbk, lk, pvD, pvDs, pvs, Sl.dat, Sl.put, gSubD_e, gSubD_k, cM_e, cM_k, cMr_e, cMr_k, cMr_k2, isTy_str, isTy_lst, cGet2_e, cGet2_k, cGet2_k2, cGet2_k3, isDic_d, iRv_e, iRv_k, get2_d, nDic0, pNil, keyD, pCons_e, pCons_k, pCons_k2, pCons_k3, nDic_e, nDic_k, nLc_e, nLc_k, lcB_ok, unAll, backAll, noAdr, setAll, setAllF, List.map_cons, List.map_nil, hOne, cYes, List.all_cons, List.all_nil, Bool.and_true, Bool.true_and, Bool.and_self, Option.map_none, ofO, Rt.d, add_i, mns_i, mul_r, mul_l, div_i, mod_i, neg_i, lt_i, le_i, gt_i, ge_i, int_i, abs_i, len_l, len_t, get_l, get_t, toT_l, toT_t, eq_i, ne_i, eq_s, ne_s, rg_len, isN_non, isN_int, notN_non, notN_int, pow18, isi_int, isi_bool, max_ii, max_l, max_t, sum_l, sum_t, toL_l, toL_t, sl_l, sl_t, sg1, sg2, sg3, sg4, sg5, ss2, ss3, ss4, ss5, List.getElem?_cons_zero, List.getElem?_cons_succ, List.set_cons_zero, List.set_cons_succ, List.length_cons, List.length_nil, List.length_map, List.length_range, List.replicate, List.cons_append, List.nil_append, Option.bind_some, Option.map_some, Option.isSome_some, Option.bind_none, if_true, if_false, reduceIte, decide_eq_true_eq, Bool.false_eq_true, reduceCtorEq, decide_true, decide_false, Bool.not_true, Bool.not_false, *])
section
variable {names ks l : List Str} {g F F' P : Str → Int} {x : Str} {v c c' w : Int} {A : List Fm} {s : St} {a b : Fm} {m : Nat} {Ps : List (Str → Int)}
theorem iso_num {SD : D} {PL R R2 : List D} {q0 : Sl} {w : Int} (ap : ∀ d, gAppend (.lst R) [d] = some (.non, .lst (R ++ [d])))
    (e1 : lcL [5] hOne cYes e__law_table_1 PL [] [q0, .val (.lst PL), .val (.int w), .own (.lst R), .val SD, .un, .un] = .ok R2 [q0, .val (.lst PL), .val (.int w), .own (.lst R), .val SD, .un, .un])
    (s0 : gGet SD (.int 0) = some (.str "number")) (k_number : gEq (.str "number") (.str "number") = some (.bl true)) :
    s__law_table_6 [q0, .val (.lst PL), .val (.int w), .own (.lst R), .val SD, .un, .un] = .ok .nx [q0, .val (.lst PL), .val (.int w), .own (.lst (R ++ [.lst R2])), .val SD, .un, .un] := by
  unfold s__law_table_6
  walk_at "ev"
theorem turn_num {n : Int} (N : Nm names w) (hP : Pt names w Ps) (hs : StOk names.length A.length (.num n)) (hl : A.length ≤ 1000) {q0 : Sl} {q4 : Sl} :
    s__law_table_6 [q0, .val (.lst (Ps.map (ptD names))), .val (.int w), .own (.lst (A.map (rwD names w Ps))), .val (stD (.num n)), .un, .un] =
      .ok .nx [q0, .val (.lst (Ps.map (ptD names))), .val (.int w), .own (.lst ((A ++ [stepF w names A (.num n)]).map (rwD names w Ps))), .val (stD (.num n)), .un, .un] := by
  have hw : 0 < w := by have := N.w0; omega
  have hpl := hP.le
  have ap : ∀ d, gAppend (.lst (A.map (rwD names w Ps))) [d] = some (.non, .lst (A.map (rwD names w Ps) ++ [d])) := fun d => app_l (by rw [List.length_map, sizeLine_eq]; omega)
  have ir := inR_nat (n := Ps.length) (by omega)
  have ll : gLen [.lst (Ps.map (ptD names))] = some (.int Ps.length) := by rw [len_l, List.length_map]
  rw [List.map_append, show [stepF w names A (.num n)].map (rwD names w Ps) = [rwD names w Ps (stepF w names A (.num n))] from rfl]
  have e1 : lcL [5] hOne cYes e__law_table_1 (Ps.map (ptD names)) [] [q0, .val (.lst (Ps.map (ptD names))), .val (.int w), .own (.lst (A.map (rwD names w Ps))), .val (stD (.num n)), .un, .un] = .ok (Ps.map fun _ => .int (n % w)) [q0, .val (.lst (Ps.map (ptD names))), .val (.int w), .own (.lst (A.map (rwD names w Ps))), .val (stD (.num n)), .un, .un] :=
    lcL_map (is := [5]) (ptD names) (fun _ => D.int (n % w)) Ps [] (by rw [sizeLine_eq]; simp; omega) fun P hP => by
      refine ⟨[ptD names P], _, [q0, .val (.lst (Ps.map (ptD names))), .val (.int w), .own (.lst (A.map (rwD names w Ps))), .val (stD (.num n)), .val (ptD names P), .un], rfl, rfl, ?_, rfl⟩
      show e__law_table_1 [q0, .val (.lst (Ps.map (ptD names))), .val (.int w), .own (.lst (A.map (rwD names w Ps))), .val (stD (.num n)), .val (ptD names P), .un] = _
      clear hP ap N hs
      unfold e__law_table_1 stD
      walk_at "evc"
  have fin : rwD names w Ps (stepF w names A (.num n)) = .lst (Ps.map fun _ => .int (n % w)) := by
    unfold rwD stepF
    congr 1
    refine List.map_congr_left fun P _ => ?_
    rw [vl_const, Int.emod_emod_of_dvd _ (Int.dvd_refl w)]
  rw [fin]
  exact iso_num ap e1 rfl (by rw [eq_s]; rfl)
theorem iso_ch {SD : D} {PL R R2 : List D} {q0 : Sl} {w : Int} (ap : ∀ d, gAppend (.lst R) [d] = some (.non, .lst (R ++ [d])))
    (e1 : lcL [5] hOne cYes e__law_table_2 PL [] [q0, .val (.lst PL), .val (.int w), .own (.lst R), .val SD, .un, .un] = .ok R2 [q0, .val (.lst PL), .val (.int w), .own (.lst R), .val SD, .un, .un])
    (s0 : gGet SD (.int 0) = some (.str "channel")) (k_number : gEq (.str "channel") (.str "number") = some (.bl false)) (k_channel : gEq (.str "channel") (.str "channel") = some (.bl true)) :
    s__law_table_6 [q0, .val (.lst PL), .val (.int w), .own (.lst R), .val SD, .un, .un] = .ok .nx [q0, .val (.lst PL), .val (.int w), .own (.lst (R ++ [.lst R2])), .val SD, .un, .un] := by
  unfold s__law_table_6
  walk_at "ev"
theorem turn_ch {k : Nat} (N : Nm names w) (hP : Pt names w Ps) (hs : StOk names.length A.length (.ch k)) (hl : A.length ≤ 1000) {q0 : Sl} {q4 : Sl} :
    s__law_table_6 [q0, .val (.lst (Ps.map (ptD names))), .val (.int w), .own (.lst (A.map (rwD names w Ps))), .val (stD (.ch k)), .un, .un] =
      .ok .nx [q0, .val (.lst (Ps.map (ptD names))), .val (.int w), .own (.lst ((A ++ [stepF w names A (.ch k)]).map (rwD names w Ps))), .val (stD (.ch k)), .un, .un] := by
  have hw : 0 < w := by have := N.w0; omega
  have hpl := hP.le
  have ap : ∀ d, gAppend (.lst (A.map (rwD names w Ps))) [d] = some (.non, .lst (A.map (rwD names w Ps) ++ [d])) := fun d => app_l (by rw [List.length_map, sizeLine_eq]; omega)
  have ir := inR_nat (n := Ps.length) (by omega)
  have ll : gLen [.lst (Ps.map (ptD names))] = some (.int Ps.length) := by rw [len_l, List.length_map]
  rw [List.map_append, show [stepF w names A (.ch k)].map (rwD names w Ps) = [rwD names w Ps (stepF w names A (.ch k))] from rfl]
  have hk : k < names.length := hs
  have e1 : lcL [5] hOne cYes e__law_table_2 (Ps.map (ptD names)) [] [q0, .val (.lst (Ps.map (ptD names))), .val (.int w), .own (.lst (A.map (rwD names w Ps))), .val (stD (.ch k)), .un, .un] = .ok (Ps.map fun P => .int (P (names.getD k ""))) [q0, .val (.lst (Ps.map (ptD names))), .val (.int w), .own (.lst (A.map (rwD names w Ps))), .val (stD (.ch k)), .un, .un] :=
    lcL_map (is := [5]) (ptD names) (fun P => D.int (P (names.getD k ""))) Ps [] (by rw [sizeLine_eq]; simp; omega) fun P hP => by
      refine ⟨[ptD names P], _, [q0, .val (.lst (Ps.map (ptD names))), .val (.int w), .own (.lst (A.map (rwD names w Ps))), .val (stD (.ch k)), .val (ptD names P), .un], rfl, rfl, ?_, rfl⟩
      show e__law_table_2 [q0, .val (.lst (Ps.map (ptD names))), .val (.int w), .own (.lst (A.map (rwD names w Ps))), .val (stD (.ch k)), .val (ptD names P), .un] = _
      have q := pt_at (P := P) hk
      clear hP ap N hs hk
      generalize ptD names P = pp at *
      unfold e__law_table_2 stD
      walk_at "evc"
  have fin : rwD names w Ps (stepF w names A (.ch k)) = .lst (Ps.map fun P => .int (P (names.getD k ""))) := by
    unfold rwD stepF
    congr 1
    refine List.map_congr_left fun P hq => ?_
    rw [vl_chan N (getD_mem hk) (hP.b P hq _ (getD_mem hk))]
  rw [fin]
  exact iso_ch ap e1 rfl (by rw [eq_s]; rfl) (by rw [eq_s]; rfl)
theorem iso_add {SD PD : D} {PL w : Int} {R R2 : List D} {q0 : Sl} (ap : ∀ d, gAppend (.lst R) [d] = some (.non, .lst (R ++ [d]))) (ir : L3.inR PL = true) (ll : gLen [PD] = some (.int PL))
    (e1 : lcL [6] hOne cYes e__law_table_3 (rangeD 0 PL) [] [q0, .val PD, .val (.int w), .own (.lst R), .val SD, .un, .un] = .ok R2 [q0, .val PD, .val (.int w), .own (.lst R), .val SD, .un, .un])
    (s0 : gGet SD (.int 0) = some (.str "sum")) (k_number : gEq (.str "sum") (.str "number") = some (.bl false)) (k_channel : gEq (.str "sum") (.str "channel") = some (.bl false)) (k_sum : gEq (.str "sum") (.str "sum") = some (.bl true)) :
    s__law_table_6 [q0, .val PD, .val (.int w), .own (.lst R), .val SD, .un, .un] = .ok .nx [q0, .val PD, .val (.int w), .own (.lst (R ++ [.lst R2])), .val SD, .un, .un] := by
  unfold s__law_table_6
  walk_at "ev"
theorem turn_add {i j : Nat} (N : Nm names w) (hP : Pt names w Ps) (hs : StOk names.length A.length (.add i j)) (hl : A.length ≤ 1000) {q0 : Sl} {q4 : Sl} :
    s__law_table_6 [q0, .val (.lst (Ps.map (ptD names))), .val (.int w), .own (.lst (A.map (rwD names w Ps))), .val (stD (.add i j)), .un, .un] =
      .ok .nx [q0, .val (.lst (Ps.map (ptD names))), .val (.int w), .own (.lst ((A ++ [stepF w names A (.add i j)]).map (rwD names w Ps))), .val (stD (.add i j)), .un, .un] := by
  have hw : 0 < w := by have := N.w0; omega
  have hpl := hP.le
  have ap : ∀ d, gAppend (.lst (A.map (rwD names w Ps))) [d] = some (.non, .lst (A.map (rwD names w Ps) ++ [d])) := fun d => app_l (by rw [List.length_map, sizeLine_eq]; omega)
  have ir := inR_nat (n := Ps.length) (by omega)
  have ll : gLen [.lst (Ps.map (ptD names))] = some (.int Ps.length) := by rw [len_l, List.length_map]
  rw [List.map_append, show [stepF w names A (.add i j)].map (rwD names w Ps) = [rwD names w Ps (stepF w names A (.add i j))] from rfl]
  have r1 := rwA (names := names) (w := w) (Ps := Ps) hs.1
  have r2 := rwA (names := names) (w := w) (Ps := Ps) hs.2
  have e1 := lcL_rg (e := e__law_table_3) (ρ := [q0, .val (.lst (Ps.map (ptD names))), .val (.int w), .own (.lst (A.map (rwD names w Ps))), .val (stD (.add i j)), .un, .un]) (i0 := 6) (n := Ps.length) (f := fun k => .int ((vl names w (atF A i) (atP Ps k) + vl names w (atF A j) (atP Ps k)) % w)) (by omega) fun k hk => by
    have q1 := rw_at (names := names) (w := w) (a := atF A i) hk
    have q2 := rw_at (names := names) (w := w) (a := atF A j) hk
    clear hk ap N hs hP hl
    generalize A.map (rwD names w Ps) = R at *
    generalize rwD names w Ps (atF A i) = R1 at *
    generalize rwD names w Ps (atF A j) = R2 at *
    unfold e__law_table_3 stD
    walk_at "evc"
    exact ⟨_, rfl, rfl⟩
  have fin : rwD names w Ps (stepF w names A (.add i j)) = .lst (rg Ps.length fun k => .int ((vl names w (atF A i) (atP Ps k) + vl names w (atF A j) (atP Ps k)) % w)) := by
    rw [rw_rg]
    congr 1
    refine rg_congr fun k _ => ?_
    unfold stepF
    rw [vl_lin, Int.one_mul]
  rw [fin]
  exact iso_add ap ir ll e1 rfl (by rw [eq_s]; rfl) (by rw [eq_s]; rfl) (by rw [eq_s]; rfl)
theorem iso_sub {SD PD : D} {PL w : Int} {R R2 : List D} {q0 : Sl} (ap : ∀ d, gAppend (.lst R) [d] = some (.non, .lst (R ++ [d]))) (ir : L3.inR PL = true) (ll : gLen [PD] = some (.int PL))
    (e1 : lcL [6] hOne cYes e__law_table_4 (rangeD 0 PL) [] [q0, .val PD, .val (.int w), .own (.lst R), .val SD, .un, .un] = .ok R2 [q0, .val PD, .val (.int w), .own (.lst R), .val SD, .un, .un])
    (s0 : gGet SD (.int 0) = some (.str "minus")) (k_number : gEq (.str "minus") (.str "number") = some (.bl false)) (k_channel : gEq (.str "minus") (.str "channel") = some (.bl false)) (k_sum : gEq (.str "minus") (.str "sum") = some (.bl false)) (k_minus : gEq (.str "minus") (.str "minus") = some (.bl true)) :
    s__law_table_6 [q0, .val PD, .val (.int w), .own (.lst R), .val SD, .un, .un] = .ok .nx [q0, .val PD, .val (.int w), .own (.lst (R ++ [.lst R2])), .val SD, .un, .un] := by
  unfold s__law_table_6
  walk_at "ev"
theorem turn_sub {i j : Nat} (N : Nm names w) (hP : Pt names w Ps) (hs : StOk names.length A.length (.sub i j)) (hl : A.length ≤ 1000) {q0 : Sl} {q4 : Sl} :
    s__law_table_6 [q0, .val (.lst (Ps.map (ptD names))), .val (.int w), .own (.lst (A.map (rwD names w Ps))), .val (stD (.sub i j)), .un, .un] =
      .ok .nx [q0, .val (.lst (Ps.map (ptD names))), .val (.int w), .own (.lst ((A ++ [stepF w names A (.sub i j)]).map (rwD names w Ps))), .val (stD (.sub i j)), .un, .un] := by
  have hw : 0 < w := by have := N.w0; omega
  have hpl := hP.le
  have ap : ∀ d, gAppend (.lst (A.map (rwD names w Ps))) [d] = some (.non, .lst (A.map (rwD names w Ps) ++ [d])) := fun d => app_l (by rw [List.length_map, sizeLine_eq]; omega)
  have ir := inR_nat (n := Ps.length) (by omega)
  have ll : gLen [.lst (Ps.map (ptD names))] = some (.int Ps.length) := by rw [len_l, List.length_map]
  rw [List.map_append, show [stepF w names A (.sub i j)].map (rwD names w Ps) = [rwD names w Ps (stepF w names A (.sub i j))] from rfl]
  have r1 := rwA (names := names) (w := w) (Ps := Ps) hs.1
  have r2 := rwA (names := names) (w := w) (Ps := Ps) hs.2
  have e1 := lcL_rg (e := e__law_table_4) (ρ := [q0, .val (.lst (Ps.map (ptD names))), .val (.int w), .own (.lst (A.map (rwD names w Ps))), .val (stD (.sub i j)), .un, .un]) (i0 := 6) (n := Ps.length) (f := fun k => .int ((vl names w (atF A i) (atP Ps k) - vl names w (atF A j) (atP Ps k)) % w)) (by omega) fun k hk => by
    have q1 := rw_at (names := names) (w := w) (a := atF A i) hk
    have q2 := rw_at (names := names) (w := w) (a := atF A j) hk
    clear hk ap N hs hP hl
    generalize A.map (rwD names w Ps) = R at *
    generalize rwD names w Ps (atF A i) = R1 at *
    generalize rwD names w Ps (atF A j) = R2 at *
    unfold e__law_table_4 stD
    walk_at "evc"
    exact ⟨_, rfl, rfl⟩
  have fin : rwD names w Ps (stepF w names A (.sub i j)) = .lst (rg Ps.length fun k => .int ((vl names w (atF A i) (atP Ps k) - vl names w (atF A j) (atP Ps k)) % w)) := by
    rw [rw_rg]
    congr 1
    refine rg_congr fun k _ => ?_
    unfold stepF
    rw [vl_lin]
    congr 2
    omega
  rw [fin]
  exact iso_sub ap ir ll e1 rfl (by rw [eq_s]; rfl) (by rw [eq_s]; rfl) (by rw [eq_s]; rfl) (by rw [eq_s]; rfl)
theorem iso_tim {SD PD : D} {PL w : Int} {R R2 : List D} {q0 : Sl} (ap : ∀ d, gAppend (.lst R) [d] = some (.non, .lst (R ++ [d]))) (ir : L3.inR PL = true) (ll : gLen [PD] = some (.int PL))
    (e1 : lcL [6] hOne cYes e__law_table_5 (rangeD 0 PL) [] [q0, .val PD, .val (.int w), .own (.lst R), .val SD, .un, .un] = .ok R2 [q0, .val PD, .val (.int w), .own (.lst R), .val SD, .un, .un])
    (s0 : gGet SD (.int 0) = some (.str "times")) (k_number : gEq (.str "times") (.str "number") = some (.bl false)) (k_channel : gEq (.str "times") (.str "channel") = some (.bl false)) (k_sum : gEq (.str "times") (.str "sum") = some (.bl false)) (k_minus : gEq (.str "times") (.str "minus") = some (.bl false)) :
    s__law_table_6 [q0, .val PD, .val (.int w), .own (.lst R), .val SD, .un, .un] = .ok .nx [q0, .val PD, .val (.int w), .own (.lst (R ++ [.lst R2])), .val SD, .un, .un] := by
  unfold s__law_table_6
  walk_at "ev"
theorem turn_tim {i : Nat} {n : Int} (N : Nm names w) (hP : Pt names w Ps) (hs : StOk names.length A.length (.tim i n)) (hl : A.length ≤ 1000) {q0 : Sl} {q4 : Sl} :
    s__law_table_6 [q0, .val (.lst (Ps.map (ptD names))), .val (.int w), .own (.lst (A.map (rwD names w Ps))), .val (stD (.tim i n)), .un, .un] =
      .ok .nx [q0, .val (.lst (Ps.map (ptD names))), .val (.int w), .own (.lst ((A ++ [stepF w names A (.tim i n)]).map (rwD names w Ps))), .val (stD (.tim i n)), .un, .un] := by
  have hw : 0 < w := by have := N.w0; omega
  have hpl := hP.le
  have ap : ∀ d, gAppend (.lst (A.map (rwD names w Ps))) [d] = some (.non, .lst (A.map (rwD names w Ps) ++ [d])) := fun d => app_l (by rw [List.length_map, sizeLine_eq]; omega)
  have ir := inR_nat (n := Ps.length) (by omega)
  have ll : gLen [.lst (Ps.map (ptD names))] = some (.int Ps.length) := by rw [len_l, List.length_map]
  rw [List.map_append, show [stepF w names A (.tim i n)].map (rwD names w Ps) = [rwD names w Ps (stepF w names A (.tim i n))] from rfl]
  have r1 := rwA (names := names) (w := w) (Ps := Ps) (A := A) (i := i) hs
  have e1 := lcL_rg (e := e__law_table_5) (ρ := [q0, .val (.lst (Ps.map (ptD names))), .val (.int w), .own (.lst (A.map (rwD names w Ps))), .val (stD (.tim i n)), .un, .un]) (i0 := 6) (n := Ps.length) (f := fun k => .int ((vl names w (atF A i) (atP Ps k) * n) % w)) (by omega) fun k hk => by
    have q1 := rw_at (names := names) (w := w) (a := atF A i) hk
    have q3 : gMul (.int (vl names w (atF A i) (atP Ps k))) (.int n) = some (.int (vl names w (atF A i) (atP Ps k) * n)) := mul_l (decide_eq_true (by
      have h1 : 0 ≤ vl names w (atF A i) (atP Ps k) := (mod_in N).1
      have h2 : vl names w (atF A i) (atP Ps k) < w := (mod_in N).2
      have := N.w1
      omega))
    clear hk ap N hs hP hl
    generalize A.map (rwD names w Ps) = R at *
    generalize rwD names w Ps (atF A i) = R1 at *
    generalize vl names w (atF A i) (atP Ps k) = V at *
    unfold e__law_table_5 stD
    walk_at "evc"
    exact ⟨_, rfl, rfl⟩
  have fin : rwD names w Ps (stepF w names A (.tim i n)) = .lst (rg Ps.length fun k => .int ((vl names w (atF A i) (atP Ps k) * n) % w)) := by
    rw [rw_rg]
    congr 1
    refine rg_congr fun k _ => ?_
    have q := vl_lin (names := names) (w := w) (a := (0, fun _ => 0)) (b := atF A i) (k := n) (P := atP Ps k)
    rw [vl_const, Int.zero_emod] at q
    unfold stepF
    refine congrArg D.int (Eq.trans q ?_)
    rw [Int.zero_add, Int.mul_comm]
  rw [fin]
  exact iso_tim ap ir ll e1 rfl (by rw [eq_s]; rfl) (by rw [eq_s]; rfl) (by rw [eq_s]; rfl) (by rw [eq_s]; rfl)
end
end K11
namespace K11
open PySem PySem.Spec PyProof.Rows L2 L3
local macro_rules | `(tactic| walk_at "ev") => `(tactic| simp (config := {decide := true}) only [W_ok, bind_ok, thn_nx, thn_rt, thn_rn, thn_bk, thn_ct, cVar, cK, c1_e, c1_k, c2_e, c2_k, c2_k2, cB_e, cB_k, cAnd_e, cOr_e, cNot_e, cNot_k, cIte_e, iteK_t, iteK_f, iteK, okB, okV, cAndV_e, cOrV_e, cNotV_e, cNotV_k, cBv_e, aNil, aCons_e, aCons_k, aCons_k2, cTup_e, cTup_k, nLst_e, nLst_k, vN_e, vN_k, cN_e, cN_k, nN_e, nN_k, oNone, oSome_e, oSome_k, cSl_e, cSl_k, cSl_k2, cSl_k3, nSl_e, nSl_k, nSl_k2, nSl_k3, nCat_e, nCat_k, nCat_k2, sNil, sSeq, sFrz, sBrk, sCnt, sExp_e, sExp_k, sRet_e, sRet_k, sRetN_e, sRetN_k, sRetU, sIf_e, sSet_e, sSet_k, sSetN_e, sSetN_k, gSet, gsNil, gsCons_e, gsCons_k, nxK, gTupD, gLstD, sAsg_e, sAsg_k, sAug_e, sAug_k, iL_e, iL_k, iT_e, iT_k, iR1_e, iR1_k, iR2_e, iR2_k, iZ_e, iZ_k, iR3_e, iR3_k, cCh_e, cCh_k, cCh_k2, cCh_k3, nRan_e, nRan_k, r1F_e, r1F_k, r2F_e, r2F_k, r2F_k2, r3F_e, r3F_k, r3F_k2, r3F_k3, intP, sFor_e, run_e, runK_rt, runK_rn, runK_nx, fin, outs, cCall_e, cCall_k, cCall_k2, nCall_e, nCall_k, nCall_k2, callM, sls, lents, wbk, lk, pvD, pvDs, pvs, Sl.dat, Sl.put, gSubD_e, gSubD_k, cM_e, cM_k, cMr_e, cMr_k, cMr_k2, isTy_str, isTy_lst, cGet2_e, cGet2_k, cGet2_k2, cGet2_k3, isDic_d, iRv_e, iRv_k, get2_d, nDic0, pNil, keyD, pCons_e, pCons_k, pCons_k2, pCons_k3, nDic_e, nDic_k, nLc_e, nLc_k, lcB_ok, unAll, backAll, noAdr, setAll, setAllF, List.map_cons, List.map_nil, hOne, cYes, List.all_cons, List.all_nil, Bool.and_true, Bool.true_and, Bool.and_self, Option.map_none, ofO, Rt.d, add_i, mns_i, mul_r, mul_l, div_i, mod_i, neg_i, lt_i, le_i, gt_i, ge_i, int_i, abs_i, len_l, len_t, get_l, get_t, toT_l, toT_t, eq_i, ne_i, eq_s, ne_s, rg_len, isN_non, isN_int, notN_non, notN_int, pow18, isi_int, isi_bool, max_ii, max_l, max_t, sum_l, sum_t, toL_l, toL_t, sl_l, sl_t, sg1, sg2, sg3, sg4, sg5, ss2, ss3, ss4, ss5, List.getElem?_cons_zero, List.getElem?_cons_succ, List.set_cons_zero, List.set_cons_succ, List.length_cons, List.length_nil, List.length_map, List.length_range, List.replicate, List.cons_append, List.nil_append, Option.bind_some, Option.map_some, Option.isSome_some, Option.bind_none, if_true, if_false, reduceIte, decide_eq_true_eq, Bool.false_eq_true, reduceCtorEq, decide_true, decide_false, Bool.not_true, Bool.not_false, *])
local macro_rules | `(tactic| walk_at "evc") => `(tactic| simp (config := {decide := true}) only [at0, at1, at2, at3, set0, set1, set2, ran0, ran1, ran2, ran3, maxI_one, maxI_cons, asI_nil, asI_cons, add_l, add_t, app_l, line_le, line_lt, forL_nil, forL_cons, forL_k, lp_nx, lp_ct, lp_bk, lp_rt, lp_rn, sub_ok, lcL_nil, lcL_cons, lcH_some, lcL_k, lcL_k2, L3.cutD, HT.sIx, List.take_succ_cons, List.take_zero, List.drop_succ_cons, List.drop_zero, List.sum_cons, List.sum_nil, Nat.reduceAdd, Int.reduceSub, Int.reduceAdd, int_lit, Int.reduceToNat, Nat.reduceSub, Nat.min_def, Nat.reduceLeDiff, Int.reduceLT, W_ok, bind_ok, thn_nx, thn_rt, thn_rn, thn_bk, thn_ct, cVar, cK, c1_e, c1_k, c2_e, c2_k, c2_k2, cB_e, cB_k, cAnd_e, cOr_e, cNot_e, cNot_k, cIte_e, iteK_t, iteK_f, iteK, okB, okV, cAndV_e, cOrV_e, cNotV_e, cNotV_k, cBv_e, aNil, aCons_e, aCons_k, aCons_k2, cTup_e, cTup_k, nLst_e, nLst_k, vN_e, vN_k, cN_e, cN_k, nN_e, nN_k, oNone, oSome_e, oSome_k, cSl_e, cSl_k, cSl_k2, cSl_k3, nSl_e, nSl_k, nSl_k2, nSl_k3, nCat_e, nCat_k, nCat_k2, sNil, sSeq, sFrz, sBrk, sCnt, sExp_e, sExp_k, sRet_e, sRet_k, sRetN_e, sRetN_k, sRetU, sIf_e, sSet_e, sSet_k, sSetN_e, sSetN_k, gSet, gsNil, gsCons_e, gsCons_k, nxK, gTupD, gLstD, sAsg_e, sAsg_k, sAug_e, sAug_k, iL_e, iL_k, iT_e, iT_k, iR1_e, iR1_k, iR2_e, iR2_k, iZ_e, iZ_k, iR3_e, iR3_k, cCh_e, cCh_k, cCh_k2, cCh_k3, nRan_e, nRan_k, r1F_e, r1F_k, r2F_e, r2F_k, r2F_k2, r3F_e, r3F_k, r3F_k2, r3F_k3, intP, sFor_e, run_e, runK_rt, runK_rn, runK_nx, fin, outs, cCall_e, cCall_k, cCall_k2, nCall_e, nCall_k, nCall_k2, callM, sls, lents, wbk, lk, pvD, pvDs, pvs, Sl.dat, Sl.put, gSubD_e, gSubD_k, cM_e, cM_k, cMr_e, cMr_k, cMr_k2, isTy_str, isTy_lst, cGet2_e, cGet2_k, cGet2_k2, cGet2_k3, isDic_d, iRv_e, iRv_k, get2_d, nDic0, pNil, keyD, pCons_e, pCons_k, pCons_k2, pCons_k3, nDic_e, nDic_k, nLc_e, nLc_k, lcB_ok, unAll, backAll, noAdr, setAll, setAllF, List.map_cons, List.map_nil, hOne, cYes, List.all_cons, List.all_nil, Bool.and_true, Bool.true_and, Bool.and_self, Option.map_none, ofO, Rt.d, add_i, mns_i, mul_r, mul_l, div_i, mod_i, neg_i, lt_i, le_i, gt_i, ge_i, int_i, abs_i, len_l, len_t, get_l, get_t, toT_l, toT_t, eq_i, ne_i, eq_s, ne_s, rg_len, isN_non, isN_int, notN_non, notN_int, pow18, isi_int, isi_bool, max_ii, max_l, max_t, sum_l, sum_t, toL_l, toL_t, sl_l, sl_t, sg1, sg2, sg3, sg4, sg5, ss2, ss3, ss4, ss5, List.getElem?_cons_zero, List.getElem?_cons_succ, List.set_cons_zero, List.set_cons_succ, List.length_cons, List.length_nil, List.length_map, List.length_range, List.replicate, List.cons_append, List.nil_append, Option.bind_some, Option.map_some, Option.isSome_some, Option.bind_none, if_true, if_false, reduceIte, decide_eq_true_eq, Bool.false_eq_true, reduceCtorEq, decide_true, decide_false, Bool.not_true, Bool.not_false, *])
section
variable {names ks l : List Str} {g F F' P : Str → Int} {x : Str} {v c c' w n k : Int} {A : List Fm} {s : St} {a b : Fm} {i j m : Nat} {Ps : List (Str → Int)}
def runF (w : Int) (names : List Str) : List Fm → List St → List Fm
  | A, [] => A
  | A, s :: r => runF w names (A ++ [stepF w names A s]) r
def StsOk (m : Nat) : Nat → List St → Prop
  | _, [] => True
  | k, s :: r => StOk m k s ∧ StsOk m (k + 1) r
theorem run_len : ∀ {S : List St} {A : List Fm}, (runF w names A S).length = A.length + S.length
  | [], A => rfl
  | s :: r, A => by rw [runF, run_len, List.length_append]; simp; omega
theorem run_good (N : Nm names w) : ∀ {S : List St} {A : List Fm}, (∀ a ∈ A, Gf w a) → ∀ a ∈ runF w names A S, Gf w a
  | [], A, h => h
  | s :: r, A, h => by
    rw [runF]
    refine run_good N fun a ha => ?_
    rcases List.mem_append.mp ha with q | q
    · exact h a q
    · rw [List.mem_singleton.mp q]; exact step_good N h
/-- what is run stands ahead -/
theorem run_pre : ∀ {S : List St} {A : List Fm}, ∃ B, runF w names A S = A ++ B
  | [], A => ⟨[], (List.append_nil A).symm⟩
  | s :: r, A => by
    obtain ⟨B, e⟩ := run_pre (S := r) (A := A ++ [stepF w names A s])
    exact ⟨stepF w names A s :: B, by rw [runF, e, List.append_assoc]; rfl⟩
theorem table_turn (N : Nm names w) (hP : Pt names w Ps) (hs : StOk names.length A.length s) (hl : A.length ≤ 1000) {q0 : Sl} :
    s__law_table_6 [q0, .val (.lst (Ps.map (ptD names))), .val (.int w), .own (.lst (A.map (rwD names w Ps))), .val (stD s), .un, .un] =
      .ok .nx [q0, .val (.lst (Ps.map (ptD names))), .val (.int w), .own (.lst ((A ++ [stepF w names A s]).map (rwD names w Ps))), .val (stD s), .un, .un] := by
  cases s with
  | num n => exact turn_num (q4 := .un) N hP hs hl
  | ch k => exact turn_ch (q4 := .un) N hP hs hl
  | add i j => exact turn_add (q4 := .un) N hP hs hl
  | sub i j => exact turn_sub (q4 := .un) N hP hs hl
  | tim i n => exact turn_tim (q4 := .un) N hP hs hl
theorem table_loop (N : Nm names w) (hP : Pt names w Ps) {q0 : Sl} : ∀ (S : List St) (A : List Fm), StsOk names.length A.length S → A.length + S.length ≤ 1000 → ∀ q4 : Sl,
    ∃ y4 : Sl, forL (gSet 4) s__law_table_6 (S.map stD) [q0, .val (.lst (Ps.map (ptD names))), .val (.int w), .own (.lst (A.map (rwD names w Ps))), q4, .un, .un] =
      .ok .nx [q0, .val (.lst (Ps.map (ptD names))), .val (.int w), .own (.lst ((runF w names A S).map (rwD names w Ps))), y4, .un, .un]
  | [], A, _, _, q4 => ⟨q4, rfl⟩
  | s :: r, A, h, hl, q4 => by
    rw [List.length_cons] at hl
    obtain ⟨y4, ih⟩ := table_loop N hP (q0 := q0) r (A ++ [stepF w names A s]) (by rw [List.length_append]; exact h.2) (by rw [List.length_append]; simp; omega) (.val (stD s))
    refine ⟨y4, ?_⟩
    rw [runF, ← ih, List.map_cons, forL_cons]
    show (s__law_table_6 [q0, .val (.lst (Ps.map (ptD names))), .val (.int w), .own (.lst (A.map (rwD names w Ps))), .val (stD s), .un, .un]).lp _ = _
    rw [table_turn N hP h.1 (by omega)]
    rfl
theorem table_ok (N : Nm names w) (hP : Pt names w Ps) {S : List St} (h : StsOk names.length 0 S) (hl : S.length ≤ 1000) :
    m__law_table [.val (.lst (S.map stD)), .val (.lst (Ps.map (ptD names))), .val (.int w)] = .ok (.n (.lst ((runF w names [] S).map (rwD names w Ps)))) [.un, .un, .un] := by
  obtain ⟨y4, e⟩ := table_loop N hP (q0 := .val (.lst (S.map stD))) S [] h (by simpa using hl) .un
  have z0 : (0 : Nat) ≤ sizeLine := Nat.zero_le _
  rw [List.map_nil] at e
  clear N hP h hl
  generalize (runF w names [] S).map (rwD names w Ps) = R at *
  generalize Ps.map (ptD names) = PL at *
  generalize S.map stD = SL at *
  unfold m__law_table g__law_table
  walk_at "ev"
/-! ### greatest and least of a row -/
theorem mx_ge : ∀ {l : List Int} {y : Int}, y ∈ l → y ≤ maxI l ∧ minI l ≤ y
  | [], y, h => by simp at h
  | [z], y, h => by
    rw [List.mem_singleton.mp h]
    exact ⟨Int.le_refl _, Int.le_refl _⟩
  | z :: u :: r, y, h => by
    have ih := fun y => mx_ge (l := u :: r) (y := y)
    have e1 : maxI (z :: u :: r) = max z (maxI (u :: r)) := maxI_cons _ _ _
    have e2 : minI (z :: u :: r) = min z (minI (u :: r)) := rfl
    rw [e1, e2]
    rcases List.mem_cons.mp h with rfl | q
    · omega
    · have := ih y q; omega
theorem mx_eq {l : List Int} {c : Int} (h0 : l ≠ []) (h : ∀ y ∈ l, y = c) : maxI l = c ∧ minI l = c := by
  induction l with
  | nil => exact absurd rfl h0
  | cons z r ih =>
    cases r with
    | nil => exact ⟨h z List.mem_cons_self, h z List.mem_cons_self⟩
    | cons u t =>
      obtain ⟨i1, i2⟩ := ih (by simp) fun y hy => h y (List.mem_cons_of_mem _ hy)
      have hz := h z List.mem_cons_self
      have e1 : maxI (z :: u :: t) = max z (maxI (u :: t)) := maxI_cons _ _ _
      have e2 : minI (z :: u :: t) = min z (minI (u :: t)) := rfl
      rw [e1, e2, i1, i2, hz]
      omega
/-- the row tells the factors -/
theorem row_tells (N : Nm names w) (hP : Pt names w Ps) (hA : Gf w a) (hB : Gf w b) (h : rwD names w Ps a = rwD names w Ps b) : a.1 = b.1 ∧ ∀ x ∈ names, a.2 x = b.2 x := by
  have hlt := hP.lt
  have key : ∀ i (hi : i < Ps.length), vl names w a Ps[i] = vl names w b Ps[i] := fun i hi => by
    have e1 := row_at (names := names) (w := w) (a := a) hi
    have e2 := row_at (names := names) (w := w) (a := b) hi
    rw [h, e2] at e1
    exact (D.int.inj (Option.some.inj e1)).symm
  have k0 := key 0 (by omega)
  rw [vl_zero N hP hA, vl_zero N hP hB] at k0
  refine ⟨k0, fun x hx => ?_⟩
  obtain ⟨hi, _⟩ := ixS_ok hx
  have k1 := key (ixS x names + 1) (by omega)
  rw [vl_unit N hP hx, vl_unit N hP hx] at k1
  rw [← back (x := x) hA, ← back (x := x) hB, k1, k0]
theorem row_eq_iff (N : Nm names w) (hP : Pt names w Ps) (hA : Gf w a) (hB : Gf w b) : rwD names w Ps a = rwD names w Ps b ↔ fDp names a = fDp names b := by
  constructor
  · intro h
    obtain ⟨h1, h2⟩ := row_tells N hP hA hB h
    unfold fDp
    rw [h1, fD_congr h2]
  · intro h
    unfold fDp fD at h
    simp only [D.tup.injEq, List.cons.injEq, D.int.injEq, and_true] at h
    obtain ⟨h1, h2⟩ := h
    have hp : ptL names a.2 = ptL names b.2 ∧ ∀ x ∈ ptL names a.2, a.2 x = b.2 x := by
      have gen : ∀ (l m : List Str), prs l a.2 = prs m b.2 → l = m ∧ ∀ x ∈ l, a.2 x = b.2 x := by
        intro l
        induction l with
        | nil =>
          intro m e
          cases m with
          | nil => exact ⟨rfl, fun x hx => by simp at hx⟩
          | cons _ _ => simp [prs] at e
        | cons y r ih =>
          intro m e
          cases m with
          | nil => simp [prs] at e
          | cons z t =>
            simp only [prs, List.map_cons, List.cons.injEq, D.tup.injEq, D.str.injEq, D.int.injEq, and_true] at e
            obtain ⟨⟨e1, e2⟩, e3⟩ := e
            obtain ⟨i1, i2⟩ := ih t e3
            subst e1 i1
            refine ⟨rfl, fun x hx => ?_⟩
            rcases List.mem_cons.mp hx with rfl | q
            · exact e2
            · exact i2 x q
      exact gen _ _ h2
    have hx : ∀ x ∈ names, a.2 x = b.2 x := fun x hx => by
      by_cases q : x ∈ ptL names a.2
      · exact hp.2 x q
      · have a0 : a.2 x = 0 := Classical.not_not.mp fun z => q (pt_mem.mpr ⟨hx, z⟩)
        have b0 : b.2 x = 0 := Classical.not_not.mp fun z => q (hp.1 ▸ pt_mem.mpr ⟨hx, z⟩)
        rw [a0, b0]
    unfold rwD vl
    congr 1
    refine List.map_congr_left fun P _ => ?_
    rw [h1, sm_congr fun x q => by rw [hx x q]]
theorem flat_iff (N : Nm names w) (hP : Pt names w Ps) (hA : Gf w a) : decide (ptL names a.2 = []) = decide (maxI (Ps.map fun P => vl names w a P) = minI (Ps.map fun P => vl names w a P)) := by
  have hlt := hP.lt
  refine decide_eq_decide.mpr ⟨fun h => ?_, fun h => ?_⟩
  · have h0 : ∀ x ∈ names, a.2 x = 0 := fun x hx => Classical.not_not.mp fun z => by
      have : x ∈ ptL names a.2 := pt_mem.mpr ⟨hx, z⟩
      rw [h] at this
      simp at this
    obtain ⟨e1, e2⟩ := mx_eq (l := Ps.map fun P => vl names w a P) (c := a.1) (by
      intro z
      rw [List.map_eq_nil_iff] at z
      rw [z] at hlt
      simp at hlt) fun y hy => by
      obtain ⟨P, _, rfl⟩ := List.mem_map.mp hy
      unfold vl
      rw [sm_congr (g := fun x => P x * 0) fun x hx => by rw [h0 x hx, Int.zero_mul, Int.mul_zero], sm_zero, Int.add_zero, Int.emod_eq_of_lt hA.1.1 hA.1.2]
    rw [e1, e2]
  · have all : ∀ i (hi : i < Ps.length), vl names w a Ps[i] = minI (Ps.map fun P => vl names w a P) := fun i hi => by
      have := mx_ge (l := Ps.map fun P => vl names w a P) (y := vl names w a Ps[i]) (List.mem_map.mpr ⟨Ps[i], List.getElem_mem hi, rfl⟩)
      omega
    rw [List.eq_nil_iff_forall_not_mem]
    intro x hx
    obtain ⟨hx, hne⟩ := pt_mem.mp hx
    obtain ⟨hi, _⟩ := ixS_ok hx
    have k0 := all 0 (by omega)
    have k1 := all (ixS x names + 1) (by omega)
    rw [vl_zero N hP hA] at k0
    rw [vl_unit N hP hx, ← k0] at k1
    have := back (x := x) hA
    rw [k1, Int.sub_self, Int.zero_emod] at this
    exact hne this.symm
end
end K11
namespace K11
open PySem PySem.Spec PyProof.Rows L2 L3
local macro_rules | `(tactic| walk_at "ev") => `(tactic| simp (config := {decide := true}) only [W_ok, bind_ok, thn_nx, thn_rt, thn_rn, thn_bk, thn_ct, cVar, cK, c1_e, c1_k, c2_e, c2_k, c2_k2, cB_e, cB_k, cAnd_e, cOr_e, cNot_e, cNot_k, cIte_e, iteK_t, iteK_f, iteK, okB, okV, cAndV_e, cOrV_e, cNotV_e, cNotV_k, cBv_e, aNil, aCons_e, aCons_k, aCons_k2, cTup_e, cTup_k, nLst_e, nLst_k, vN_e, vN_k, cN_e, cN_k, nN_e, nN_k, oNone, oSome_e, oSome_k, cSl_e, cSl_k, cSl_k2, cSl_k3, nSl_e, nSl_k, nSl_k2, nSl_k3, nCat_e, nCat_k, nCat_k2, sNil, sSeq, sFrz, sBrk, sCnt, sExp_e, sExp_k, sRet_e, sRet_k, sRetN_e, sRetN_k, sRetU, sIf_e, sSet_e, sSet_k, sSetN_e, sSetN_k, gSet, gsNil, gsCons_e, gsCons_k, nxK, gTupD, gLstD, sAsg_e, sAsg_k, sAug_e, sAug_k, iL_e, iL_k, iT_e, iT_k, iR1_e, iR1_k, iR2_e, iR2_k, iZ_e, iZ_k, iR3_e, iR3_k, cCh_e, cCh_k, cCh_k2, cCh_k3, nRan_e, nRan_k, r1F_e, r1F_k, r2F_e, r2F_k, r2F_k2, r3F_e, r3F_k, r3F_k2, r3F_k3, intP, sFor_e, run_e, runK_rt, runK_rn, runK_nx, fin, outs, cCall_e, cCall_k, cCall_k2, nCall_e, nCall_k, nCall_k2, callM, sls, lents, wbk, lk, pvD, pvDs, pvs, Sl.dat, Sl.put, gSubD_e, gSubD_k, cM_e, cM_k, cMr_e, cMr_k, cMr_k2, isTy_str, isTy_lst, cGet2_e, cGet2_k, cGet2_k2, cGet2_k3, isDic_d, iRv_e, iRv_k, get2_d, nDic0, pNil, keyD, pCons_e, pCons_k, pCons_k2, pCons_k3, nDic_e, nDic_k, nLc_e, nLc_k, lcB_ok, unAll, backAll, noAdr, setAll, setAllF, List.map_cons, List.map_nil, hOne, cYes, List.all_cons, List.all_nil, Bool.and_true, Bool.true_and, Bool.and_self, Option.map_none, ofO, Rt.d, add_i, mns_i, mul_r, mul_l, div_i, mod_i, neg_i, lt_i, le_i, gt_i, ge_i, int_i, abs_i, len_l, len_t, get_l, get_t, toT_l, toT_t, eq_i, ne_i, eq_s, ne_s, rg_len, isN_non, isN_int, notN_non, notN_int, pow18, isi_int, isi_bool, max_ii, max_l, max_t, sum_l, sum_t, toL_l, toL_t, sl_l, sl_t, sg1, sg2, sg3, sg4, sg5, ss2, ss3, ss4, ss5, List.getElem?_cons_zero, List.getElem?_cons_succ, List.set_cons_zero, List.set_cons_succ, List.length_cons, List.length_nil, List.length_map, List.length_range, List.replicate, List.cons_append, List.nil_append, Option.bind_some, Option.map_some, Option.isSome_some, Option.bind_none, if_true, if_false, reduceIte, decide_eq_true_eq, Bool.false_eq_true, reduceCtorEq, decide_true, decide_false, Bool.not_true, Bool.not_false, *])
local macro_rules | `(tactic| walk_at "evc") => `(tactic| simp (config := {decide := true}) only [at0, at1, at2, at3, set0, set1, set2, ran0, ran1, ran2, ran3, maxI_one, maxI_cons, asI_nil, asI_cons, add_l, add_t, app_l, line_le, line_lt, forL_nil, forL_cons, forL_k, lp_nx, lp_ct, lp_bk, lp_rt, lp_rn, sub_ok, lcL_nil, lcL_cons, lcH_some, lcL_k, lcL_k2, L3.cutD, HT.sIx, List.take_succ_cons, List.take_zero, List.drop_succ_cons, List.drop_zero, List.sum_cons, List.sum_nil, Nat.reduceAdd, Int.reduceSub, Int.reduceAdd, int_lit, Int.reduceToNat, Nat.reduceSub, Nat.min_def, Nat.reduceLeDiff, Int.reduceLT, W_ok, bind_ok, thn_nx, thn_rt, thn_rn, thn_bk, thn_ct, cVar, cK, c1_e, c1_k, c2_e, c2_k, c2_k2, cB_e, cB_k, cAnd_e, cOr_e, cNot_e, cNot_k, cIte_e, iteK_t, iteK_f, iteK, okB, okV, cAndV_e, cOrV_e, cNotV_e, cNotV_k, cBv_e, aNil, aCons_e, aCons_k, aCons_k2, cTup_e, cTup_k, nLst_e, nLst_k, vN_e, vN_k, cN_e, cN_k, nN_e, nN_k, oNone, oSome_e, oSome_k, cSl_e, cSl_k, cSl_k2, cSl_k3, nSl_e, nSl_k, nSl_k2, nSl_k3, nCat_e, nCat_k, nCat_k2, sNil, sSeq, sFrz, sBrk, sCnt, sExp_e, sExp_k, sRet_e, sRet_k, sRetN_e, sRetN_k, sRetU, sIf_e, sSet_e, sSet_k, sSetN_e, sSetN_k, gSet, gsNil, gsCons_e, gsCons_k, nxK, gTupD, gLstD, sAsg_e, sAsg_k, sAug_e, sAug_k, iL_e, iL_k, iT_e, iT_k, iR1_e, iR1_k, iR2_e, iR2_k, iZ_e, iZ_k, iR3_e, iR3_k, cCh_e, cCh_k, cCh_k2, cCh_k3, nRan_e, nRan_k, r1F_e, r1F_k, r2F_e, r2F_k, r2F_k2, r3F_e, r3F_k, r3F_k2, r3F_k3, intP, sFor_e, run_e, runK_rt, runK_rn, runK_nx, fin, outs, cCall_e, cCall_k, cCall_k2, nCall_e, nCall_k, nCall_k2, callM, sls, lents, wbk, lk, pvD, pvDs, pvs, Sl.dat, Sl.put, gSubD_e, gSubD_k, cM_e, cM_k, cMr_e, cMr_k, cMr_k2, isTy_str, isTy_lst, cGet2_e, cGet2_k, cGet2_k2, cGet2_k3, isDic_d, iRv_e, iRv_k, get2_d, nDic0, pNil, keyD, pCons_e, pCons_k, pCons_k2, pCons_k3, nDic_e, nDic_k, nLc_e, nLc_k, lcB_ok, unAll, backAll, noAdr, setAll, setAllF, List.map_cons, List.map_nil, hOne, cYes, List.all_cons, List.all_nil, Bool.and_true, Bool.true_and, Bool.and_self, Option.map_none, ofO, Rt.d, add_i, mns_i, mul_r, mul_l, div_i, mod_i, neg_i, lt_i, le_i, gt_i, ge_i, int_i, abs_i, len_l, len_t, get_l, get_t, toT_l, toT_t, eq_i, ne_i, eq_s, ne_s, rg_len, isN_non, isN_int, notN_non, notN_int, pow18, isi_int, isi_bool, max_ii, max_l, max_t, sum_l, sum_t, toL_l, toL_t, sl_l, sl_t, sg1, sg2, sg3, sg4, sg5, ss2, ss3, ss4, ss5, List.getElem?_cons_zero, List.getElem?_cons_succ, List.set_cons_zero, List.set_cons_succ, List.length_cons, List.length_nil, List.length_map, List.length_range, List.replicate, List.cons_append, List.nil_append, Option.bind_some, Option.map_some, Option.isSome_some, Option.bind_none, if_true, if_false, reduceIte, decide_eq_true_eq, Bool.false_eq_true, reduceCtorEq, decide_true, decide_false, Bool.not_true, Bool.not_false, *])
mutual
def plD : D → Bool
  | .int _ => true
  | .str _ => true
  | .tup ds => plL ds
  | .lst ds => plL ds
  | _ => false
def plL : List D → Bool
  | [] => true
  | d :: r => plD d && plL r
end
mutual
theorem eqv_inj : ∀ (a b : D), plD a = true → plD b = true → PyData.eqv (py a) (py b) = true → a = b
  | .int i, b, _, hb, h => by
    cases b <;> simp_all [plD, py, PyData.eqv]
  | .str i, b, _, hb, h => by
    cases b <;> simp_all [plD, py, PyData.eqv]
  | .tup ds, b, ha, hb, h => by
    cases b with
    | tup es =>
      simp only [plD] at ha hb
      simp only [py, PyData.eqv] at h
      rw [eqvL_inj ds es ha hb h]
    | _ => simp_all [plD, py, PyData.eqv]
  | .lst ds, b, ha, hb, h => by
    cases b with
    | lst es =>
      simp only [plD] at ha hb
      simp only [py, PyData.eqv] at h
      rw [eqvL_inj ds es ha hb h]
    | _ => simp_all [plD, py, PyData.eqv]
  | .non, _, ha, _, _ => by simp [plD] at ha
  | .bl _, _, ha, _, _ => by simp [plD] at ha
  | .dic _, _, ha, _, _ => by simp [plD] at ha
  | .dit _, _, ha, _, _ => by simp [plD] at ha
  | .obj _ _ _, _, ha, _, _ => by simp [plD] at ha
  | .ty _, _, ha, _, _ => by simp [plD] at ha
theorem eqvL_inj : ∀ (as bs : List D), plL as = true → plL bs = true → PyData.eqvAll (pyL as) (pyL bs) = true → as = bs
  | [], [], _, _, _ => rfl
  | [], _ :: _, _, _, h => by simp [pyL, PyData.eqvAll] at h
  | _ :: _, [], _, _, h => by simp [pyL, PyData.eqvAll] at h
  | a :: r, b :: t, ha, hb, h => by
    simp only [plL, Bool.and_eq_true] at ha hb
    simp only [pyL, PyData.eqvAll, Bool.and_eq_true] at h
    rw [eqv_inj a b ha.1 hb.1 h.1, eqvL_inj r t ha.2 hb.2 h.2]
end
theorem plL_all : ∀ {l : List D}, (∀ d ∈ l, plD d = true) → plL l = true
  | [], _ => rfl
  | d :: r, h => by
    rw [plL, h d List.mem_cons_self, plL_all fun e he => h e (List.mem_cons_of_mem _ he)]; rfl
section
variable {names ks l : List Str} {g F F' P : Str → Int} {x : Str} {v c c' w n k : Int} {A : List Fm} {s : St} {a b : Fm} {i j m : Nat} {Ps : List (Str → Int)}
theorem eqD_iff {a b : D} (pa : plD a = true) (pb : plD b = true) (oa : pyOk 60 a = true) : eqD a b = true ↔ a = b := by
  unfold eqD
  constructor
  · exact eqv_inj a b pa pb
  · rintro rfl
    exact eqv_self a 60 oa
/-- names that can be laid -/
def Lay (names : List Str) : Prop := ∀ x ∈ names, PyData.strOk x = true
theorem fD_pl : plD (fDp names a) = true := by
  show (true && (plL (prs (ptL names a.2) a.2) && true)) = true
  rw [plL_all fun d hd => by
    obtain ⟨x, _, rfl⟩ := List.mem_map.mp hd
    rfl]
  rfl
theorem fD_ok (L : Lay names) : pyOk 60 (fDp names a) = true := by
  refine pyOk_tup (n := 59) fun d hd => ?_
  simp only [List.mem_cons, List.not_mem_nil, or_false] at hd
  rcases hd with rfl | rfl
  · exact pyOk_int
  · refine pyOk_tup (n := 58) fun d hd => ?_
    obtain ⟨x, hx, rfl⟩ := List.mem_map.mp hd
    refine pyOk_tup (n := 57) fun e he => ?_
    simp only [List.mem_cons, List.not_mem_nil, or_false] at he
    rcases he with rfl | rfl
    · exact L x (pt_mem.mp hx).1
    · exact pyOk_int
theorem rw_pl : plD (rwD names w Ps a) = true := plL_all fun d hd => by
  obtain ⟨P, _, rfl⟩ := List.mem_map.mp hd
  rfl
theorem rw_ok : pyOk 60 (rwD names w Ps a) = true := pyOk_lst (n := 59) fun d hd => by
  obtain ⟨P, _, rfl⟩ := List.mem_map.mp hd
  exact pyOk_int
theorem eq_f (L : Lay names) : gEq (fDp names a) (fDp names b) = some (.bl (eqD (fDp names a) (fDp names b))) := by
  show (if _ = true then _ else _) = _
  rw [fD_ok L, fD_ok L]; rfl
theorem eq_r : gEq (rwD names w Ps a) (rwD names w Ps b) = some (.bl (eqD (rwD names w Ps a) (rwD names w Ps b))) := by
  show (if _ = true then _ else _) = _
  rw [rw_ok, rw_ok]; rfl
theorem both (N : Nm names w) (L : Lay names) (hP : Pt names w Ps) (hA : Gf w a) (hB : Gf w b) : eqD (fDp names a) (fDp names b) = eqD (rwD names w Ps a) (rwD names w Ps b) := by
  have h1 := eqD_iff (a := fDp names a) (b := fDp names b) fD_pl fD_pl (fD_ok L)
  have h2 := eqD_iff (a := rwD names w Ps a) (b := rwD names w Ps b) rw_pl rw_pl rw_ok
  rw [Bool.eq_iff_iff, h1, h2, row_eq_iff N hP hA hB]
/-! ### the run, place by place -/
theorem run_step : ∀ {S : List St} {A : List Fm} {i : Nat} (hi : i < S.length), atF (runF w names A S) (A.length + i) = stepF w names ((runF w names A S).take (A.length + i)) S[i]
  | [], A, i, hi => by simp at hi
  | s :: r, A, 0, _ => by
    obtain ⟨B, e⟩ := run_pre (w := w) (names := names) (S := r) (A := A ++ [stepF w names A s])
    rw [runF, e]
    unfold atF
    rw [Nat.add_zero, List.getD_eq_getElem?_getD, List.append_assoc, List.getElem?_append_right (Nat.le_refl _), Nat.sub_self, List.take_left']
    · rfl
    · rfl
  | s :: r, A, i + 1, hi => by
    have hi' : i < r.length := by simpa using hi
    have := run_step (A := A ++ [stepF w names A s]) hi'
    rw [List.length_append, show A.length + [stepF w names A s].length + i = A.length + (i + 1) from by simp; omega] at this
    rw [runF, this]
    rfl
theorem take_one {B : List Fm} (h : i < B.length) : B.take (i + 1) = B.take i ++ [atF B i] := by
  unfold atF
  rw [List.getD_eq_getElem?_getD, List.getElem?_eq_getElem h, List.take_succ, List.getElem?_eq_getElem h]; rfl
theorem sts_at : ∀ {S : List St} {k i : Nat} (hi : i < S.length), StsOk m k S → StOk m (k + i) S[i]
  | [], _, _, hi, _ => by simp at hi
  | s :: r, k, 0, _, h => h.1
  | s :: r, k, i + 1, hi, h => by
    have := sts_at (k := k + 1) (i := i) (S := r) (by simpa using hi) h.2
    rw [show k + 1 + i = k + (i + 1) by omega] at this
    exact this
theorem same_f (N : Nm names w) : m__law_same 6 [.val (fDp names a), .val (fDp names a)] = .ok (.v (.bl true)) [.un, .un] := by
  have mono : ∀ (n : Nat) (d : D), sdB n d = true → sdB (n + 1) d = true := by
    intro n
    induction n with
    | zero => intro d h; cases d <;> simp_all [sdB]
    | succ n ih =>
      intro d h
      cases d with
      | tup ds =>
        simp only [sdB, Bool.and_eq_true, List.all_eq_true] at h ⊢
        exact ⟨h.1, fun e he => ih e (h.2 e he)⟩
      | _ => simp_all [sdB]
  exact same_ok 5 _ (mono _ _ (mono _ _ (fD_sd N)))
theorem same_b {b : Bool} : m__law_same 6 [.val (.bl b), .val (.bl b)] = .ok (.v (.bl true)) [.un, .un] := same_ok 5 _ rfl
theorem same_i {i : Int} : m__law_same 6 [.val (.int i), .val (.int i)] = .ok (.v (.bl true)) [.un, .un] := same_ok 5 _ rfl
theorem max_row (h : 0 < Ps.length) : gMax [rwD names w Ps a] = some (.int (maxI (Ps.map fun P => vl names w a P))) ∧ gMin [rwD names w Ps a] = some (.int (minI (Ps.map fun P => vl names w a P))) := by
  have e : asInts (Ps.map fun P => D.int (vl names w a P)) = some (Ps.map fun P => vl names w a P) := by
    rw [← asInts_map (Ps.map fun P => vl names w a P), List.map_map]; rfl
  have h0 : (Ps.map fun P => vl names w a P) ≠ [] := fun z => by
    rw [List.map_eq_nil_iff] at z
    rw [z] at h
    simp at h
  constructor
  · show (asInts _).bind _ = _
    rw [e, Option.bind_some, if_neg h0]
  · show (asInts _).bind _ = _
    rw [e, Option.bind_some, if_neg h0]
end
end K11
namespace K11
open PySem PySem.Spec PyProof.Rows L2 L3
local macro_rules | `(tactic| walk_at "ev") => `(tactic| simp (config := {decide := true}) only [W_ok, bind_ok, thn_nx, thn_rt, thn_rn, thn_bk, thn_ct, cVar, cK, c1_e, c1_k, c2_e, c2_k, c2_k2, cB_e, cB_k, cAnd_e, cOr_e, cNot_e, cNot_k, cIte_e, iteK_t, iteK_f, iteK, okB, okV, cAndV_e, cOrV_e, cNotV_e, cNotV_k, cBv_e, aNil, aCons_e, aCons_k, aCons_k2, cTup_e, cTup_k, nLst_e, nLst_k, vN_e, vN_k, cN_e, cN_k, nN_e, nN_k, oNone, oSome_e, oSome_k, cSl_e, cSl_k, cSl_k2, cSl_k3, nSl_e, nSl_k, nSl_k2, nSl_k3, nCat_e, nCat_k, nCat_k2, sNil, sSeq, sFrz, sBrk, sCnt, sExp_e, sExp_k, sRet_e, sRet_k, sRetN_e, sRetN_k, sRetU, sIf_e, sSet_e, sSet_k, sSetN_e, sSetN_k, gSet, gsNil, gsCons_e, gsCons_k, nxK, gTupD, gLstD, sAsg_e, sAsg_k, sAug_e, sAug_k, iL_e, iL_k, iT_e, iT_k, iR1_e, iR1_k, iR2_e, iR2_k, iZ_e, iZ_k, iR3_e, iR3_k, cCh_e, cCh_k, cCh_k2, cCh_k3, nRan_e, nRan_k, r1F_e, r1F_k, r2F_e, r2F_k, r2F_k2, r3F_e, r3F_k, r3F_k2, r3F_k3, intP, sFor_e, run_e, runK_rt, runK_rn, runK_nx, fin, outs, cCall_e, cCall_k, cCall_k2, nCall_e, nCall_k, nCall_k2, callM, sls, lents, wbk, lk, pvD, pvDs, pvs, Sl.dat, Sl.put, gSubD_e, gSubD_k, cM_e, cM_k, cMr_e, cMr_k, cMr_k2, isTy_str, isTy_lst, cGet2_e, cGet2_k, cGet2_k2, cGet2_k3, isDic_d, iRv_e, iRv_k, get2_d, nDic0, pNil, keyD, pCons_e, pCons_k, pCons_k2, pCons_k3, nDic_e, nDic_k, nLc_e, nLc_k, lcB_ok, unAll, backAll, noAdr, setAll, setAllF, List.map_cons, List.map_nil, hOne, cYes, List.all_cons, List.all_nil, Bool.and_true, Bool.true_and, Bool.and_self, Option.map_none, ofO, Rt.d, add_i, mns_i, mul_r, mul_l, div_i, mod_i, neg_i, lt_i, le_i, gt_i, ge_i, int_i, abs_i, len_l, len_t, get_l, get_t, toT_l, toT_t, eq_i, ne_i, eq_s, ne_s, rg_len, isN_non, isN_int, notN_non, notN_int, pow18, isi_int, isi_bool, max_ii, max_l, max_t, sum_l, sum_t, toL_l, toL_t, sl_l, sl_t, sg1, sg2, sg3, sg4, sg5, ss2, ss3, ss4, ss5, List.getElem?_cons_zero, List.getElem?_cons_succ, List.set_cons_zero, List.set_cons_succ, List.length_cons, List.length_nil, List.length_map, List.length_range, List.replicate, List.cons_append, List.nil_append, Option.bind_some, Option.map_some, Option.isSome_some, Option.bind_none, if_true, if_false, reduceIte, decide_eq_true_eq, Bool.false_eq_true, reduceCtorEq, decide_true, decide_false, Bool.not_true, Bool.not_false, *])
local macro_rules | `(tactic| walk_at "evc") => `(tactic| simp (config := {decide := true}) only [at0, at1, at2, at3, set0, set1, set2, ran0, ran1, ran2, ran3, maxI_one, maxI_cons, asI_nil, asI_cons, add_l, add_t, app_l, line_le, line_lt, forL_nil, forL_cons, forL_k, lp_nx, lp_ct, lp_bk, lp_rt, lp_rn, sub_ok, lcL_nil, lcL_cons, lcH_some, lcL_k, lcL_k2, L3.cutD, HT.sIx, List.take_succ_cons, List.take_zero, List.drop_succ_cons, List.drop_zero, List.sum_cons, List.sum_nil, Nat.reduceAdd, Int.reduceSub, Int.reduceAdd, int_lit, Int.reduceToNat, Nat.reduceSub, Nat.min_def, Nat.reduceLeDiff, Int.reduceLT, W_ok, bind_ok, thn_nx, thn_rt, thn_rn, thn_bk, thn_ct, cVar, cK, c1_e, c1_k, c2_e, c2_k, c2_k2, cB_e, cB_k, cAnd_e, cOr_e, cNot_e, cNot_k, cIte_e, iteK_t, iteK_f, iteK, okB, okV, cAndV_e, cOrV_e, cNotV_e, cNotV_k, cBv_e, aNil, aCons_e, aCons_k, aCons_k2, cTup_e, cTup_k, nLst_e, nLst_k, vN_e, vN_k, cN_e, cN_k, nN_e, nN_k, oNone, oSome_e, oSome_k, cSl_e, cSl_k, cSl_k2, cSl_k3, nSl_e, nSl_k, nSl_k2, nSl_k3, nCat_e, nCat_k, nCat_k2, sNil, sSeq, sFrz, sBrk, sCnt, sExp_e, sExp_k, sRet_e, sRet_k, sRetN_e, sRetN_k, sRetU, sIf_e, sSet_e, sSet_k, sSetN_e, sSetN_k, gSet, gsNil, gsCons_e, gsCons_k, nxK, gTupD, gLstD, sAsg_e, sAsg_k, sAug_e, sAug_k, iL_e, iL_k, iT_e, iT_k, iR1_e, iR1_k, iR2_e, iR2_k, iZ_e, iZ_k, iR3_e, iR3_k, cCh_e, cCh_k, cCh_k2, cCh_k3, nRan_e, nRan_k, r1F_e, r1F_k, r2F_e, r2F_k, r2F_k2, r3F_e, r3F_k, r3F_k2, r3F_k3, intP, sFor_e, run_e, runK_rt, runK_rn, runK_nx, fin, outs, cCall_e, cCall_k, cCall_k2, nCall_e, nCall_k, nCall_k2, callM, sls, lents, wbk, lk, pvD, pvDs, pvs, Sl.dat, Sl.put, gSubD_e, gSubD_k, cM_e, cM_k, cMr_e, cMr_k, cMr_k2, isTy_str, isTy_lst, cGet2_e, cGet2_k, cGet2_k2, cGet2_k3, isDic_d, iRv_e, iRv_k, get2_d, nDic0, pNil, keyD, pCons_e, pCons_k, pCons_k2, pCons_k3, nDic_e, nDic_k, nLc_e, nLc_k, lcB_ok, unAll, backAll, noAdr, setAll, setAllF, List.map_cons, List.map_nil, hOne, cYes, List.all_cons, List.all_nil, Bool.and_true, Bool.true_and, Bool.and_self, Option.map_none, ofO, Rt.d, add_i, mns_i, mul_r, mul_l, div_i, mod_i, neg_i, lt_i, le_i, gt_i, ge_i, int_i, abs_i, len_l, len_t, get_l, get_t, toT_l, toT_t, eq_i, ne_i, eq_s, ne_s, rg_len, isN_non, isN_int, notN_non, notN_int, pow18, isi_int, isi_bool, max_ii, max_l, max_t, sum_l, sum_t, toL_l, toL_t, sl_l, sl_t, sg1, sg2, sg3, sg4, sg5, ss2, ss3, ss4, ss5, List.getElem?_cons_zero, List.getElem?_cons_succ, List.set_cons_zero, List.set_cons_succ, List.length_cons, List.length_nil, List.length_map, List.length_range, List.replicate, List.cons_append, List.nil_append, Option.bind_some, Option.map_some, Option.isSome_some, Option.bind_none, if_true, if_false, reduceIte, decide_eq_true_eq, Bool.false_eq_true, reduceCtorEq, decide_true, decide_false, Bool.not_true, Bool.not_false, *])
section
variable {names ks l : List Str} {g F F' P : Str → Int} {x : Str} {v c c' w n : Int} {A B : List Fm} {s : St} {a b : Fm} {i j m k : Nat} {Ps : List (Str → Int)} {S : List St}
/-- what goes on through the law -/
structure Al (names : List Str) (w : Int) (Ps : List (Str → Int)) (S : List St) (B : List Fm) : Prop where
  N : Nm names w
  L : Lay names
  hP : Pt names w Ps
  hS : StsOk names.length 0 S
  hl : S.length ≤ 1000
  h2 : 2 ≤ S.length
  hB : B = runF w names [] S
theorem Al.len (h : Al names w Ps S B) : B.length = S.length := by rw [h.hB, run_len]; simp
theorem Al.good (h : Al names w Ps S B) : ∀ a ∈ B, Gf w a := by rw [h.hB]; exact run_good h.N fun a ha => by simp at ha
theorem Al.at (h : Al names w Ps S B) (i : Nat) : Gf w (atF B i) := atF_good h.N h.good
theorem W_of {α : Type} {o : Out α} {a : α} {ρ : En} {P : α → En → Prop} (h : o = .ok a ρ) (p : P a ρ) : W o P := by rw [h]; exact p
theorem iso2 {LS LD LR LN f R SD : D} {L9 : List D} {K w mx mn : Int} {q0 q1 q2 q5 x11 q12 q13 q14 q15 q16 q17 q18 q19 q20 : Sl} {b : Bool}
    (g1 : gGet LS (.int K) = some SD) (g2 : gGet LD (.int K) = some f) (g3 : gGet LR (.int K) = some R)
    (c1 : m__law_made [.val SD, .bor (.lst L9), .val LN, .val (.int w)] = .ok (.v f) [.un, .bor (.lst L9), .un, .un])
    (c2 : m__law_same 6 [.val f, .val f] = .ok (.v (.bl true)) [.un, .un])
    (c3 : m_is_plain_form [.val f] = .ok (.v (.bl b)) [.un])
    (c4 : gMax [R] = some (.int mx)) (c5 : gMin [R] = some (.int mn)) (c6 : decide (mx = mn) = b)
    (c7 : m__law_same 6 [.val (.bl b), .val (.bl b)] = .ok (.v (.bl true)) [.un, .un])
    (c8 : gAppend (.lst L9) [f] = some (.non, .lst (L9 ++ [f]))) :
    s_law_2 [q0, q1, q2, .val (.int w), .val LN, q5, .val LS, .val LR, .val LD, .own (.lst L9), .val (.int K), x11, q12, q13, q14, q15, q16, q17, q18, q19, q20] =
      .ok .nx [q0, q1, q2, .val (.int w), .val LN, q5, .val LS, .val LR, .val LD, .own (.lst (L9 ++ [f])), .val (.int K), .val f, q12, q13, q14, q15, q16, q17, q18, q19, q20] := by
  have c6' : gEq (.int mx) (.int mn) = some (.bl b) := by rw [eq_i, c6]
  clear c6
  unfold s_law_2
  generalize m__law_same 6 = RR at *
  walk_at "ev"
theorem law2_turn (h : Al names w Ps S B) (hk : k < S.length) {q0 q1 q2 q5 x11 q12 q13 q14 q15 q16 q17 q18 q19 q20 : Sl} :
    s_law_2 [q0, q1, q2, .val (.int w), .val (.lst (names.map D.str)), q5, .val (.lst (S.map stD)), .val (.lst (B.map (rwD names w Ps))), .val (.lst (B.map (fDp names))), .own (.lst ((B.take k).map (fDp names))), .val (.int (k : Int)), x11, q12, q13, q14, q15, q16, q17, q18, q19, q20] =
      .ok .nx [q0, q1, q2, .val (.int w), .val (.lst (names.map D.str)), q5, .val (.lst (S.map stD)), .val (.lst (B.map (rwD names w Ps))), .val (.lst (B.map (fDp names))), .own (.lst ((B.take (k + 1)).map (fDp names))), .val (.int (k : Int)), .val (fDp names (atF B k)), q12, q13, q14, q15, q16, q17, q18, q19, q20] := by
  have hb : k < B.length := by rw [h.len]; exact hk
  have e1 := run_step (w := w) (names := names) (A := []) hk
  rw [← h.hB, List.length_nil, Nat.zero_add] at e1
  have hs := sts_at (i := k) hk h.hS
  rw [Nat.zero_add] at hs
  have c1 := made_ok (A := B.take k) (s := S[k]) h.N (fun a ha => h.good a (List.mem_of_mem_take ha)) (by rw [List.length_take, Nat.min_eq_left (by omega)]; exact hs)
  rw [← e1] at c1
  have mm := max_row (names := names) (w := w) (a := atF B k) (Ps := Ps) (by have := h.hP.lt; omega)
  rw [take_one hb, List.map_append, show [atF B k].map (fDp names) = [fDp names (atF B k)] from rfl]
  exact iso2 (map_at hk) (atA hb) (rwA hb) c1 (same_f h.N) plain_is mm.1 mm.2 (flat_iff h.N h.hP (h.at k)).symm same_b (app_l (by
    rw [List.length_map, List.length_take, sizeLine_eq]
    have := h.hl
    omega))
theorem iso3 {LF LR : D} {I J : Int} {f1 f2 r1 r2 : D} {e : Bool} {q0 q1 q2 q3 q4 q5 q6 q8 q10 q11 q14 q15 q16 q17 q18 q19 q20 : Sl}
    (g1 : gGet LF (.int I) = some f1) (g2 : gGet LF (.int J) = some f2) (g3 : gGet LR (.int I) = some r1) (g4 : gGet LR (.int J) = some r2)
    (c1 : gEq f1 f2 = some (.bl e)) (c2 : gEq r1 r2 = some (.bl e)) :
    s_law_3 [q0, q1, q2, q3, q4, q5, q6, .val LR, q8, .own LF, q10, q11, .val (.int I), .val (.int J), q14, q15, q16, q17, q18, q19, q20] =
      .ok .nx [q0, q1, q2, q3, q4, q5, q6, .val LR, q8, .own LF, q10, q11, .val (.int I), .val (.int J), q14, q15, q16, q17, q18, q19, q20] := by
  have c3 : gNe (.bl e) (.bl e) = some (.bl false) := by rw [ne_bb]; cases e <;> rfl
  unfold s_law_3
  walk_at "ev"
theorem law3_turn (h : Al names w Ps S B) (hi : i < S.length) (hj : j < S.length) {q0 q1 q2 q3 q4 q5 q6 q8 q10 q11 q14 q15 q16 q17 q18 q19 q20 : Sl} :
    s_law_3 [q0, q1, q2, q3, q4, q5, q6, .val (.lst (B.map (rwD names w Ps))), q8, .own (.lst (B.map (fDp names))), q10, q11, .val (.int (i : Int)), .val (.int (j : Int)), q14, q15, q16, q17, q18, q19, q20] =
      .ok .nx [q0, q1, q2, q3, q4, q5, q6, .val (.lst (B.map (rwD names w Ps))), q8, .own (.lst (B.map (fDp names))), q10, q11, .val (.int (i : Int)), .val (.int (j : Int)), q14, q15, q16, q17, q18, q19, q20] := by
  rw [← h.len] at hi hj
  exact iso3 (atA hi) (atA hj) (rwA hi) (rwA hj) (eq_f h.L) (by rw [eq_r, both h.N h.L h.hP (h.at i) (h.at j)])
theorem law4_turn (h : Al names w Ps S B) (hi : i < S.length) {q0 q1 q2 q3 q4 q5 q6 q8 q10 q11 q13 q14 q15 q16 q17 q18 q19 q20 : Sl} :
    ∃ y13 : Sl, s_law_4 [q0, q1, q2, q3, q4, q5, q6, .val (.lst (B.map (rwD names w Ps))), q8, .own (.lst (B.map (fDp names))), q10, q11, .val (.int (i : Int)), q13, q14, q15, q16, q17, q18, q19, q20] =
      .ok .nx [q0, q1, q2, q3, q4, q5, q6, .val (.lst (B.map (rwD names w Ps))), q8, .own (.lst (B.map (fDp names))), q10, q11, .val (.int (i : Int)), y13, q14, q15, q16, q17, q18, q19, q20] := by
  have key : W (forL (gSet 13) s_law_3 (rangeD 0 (i : Int)) [q0, q1, q2, q3, q4, q5, q6, .val (.lst (B.map (rwD names w Ps))), q8, .own (.lst (B.map (fDp names))), q10, q11, .val (.int (i : Int)), q13, q14, q15, q16, q17, q18, q19, q20])
      (fun fl ρ => fl = .nx ∧ ∃ y13 : Sl, ρ = [q0, q1, q2, q3, q4, q5, q6, .val (.lst (B.map (rwD names w Ps))), q8, .own (.lst (B.map (fDp names))), q10, q11, .val (.int (i : Int)), y13, q14, q15, q16, q17, q18, q19, q20]) := by
    refine forL_all (I := fun _ ρ => ∃ y13 : Sl, ρ = [q0, q1, q2, q3, q4, q5, q6, .val (.lst (B.map (rwD names w Ps))), q8, .own (.lst (B.map (fDp names))), q10, q11, .val (.int (i : Int)), y13, q14, q15, q16, q17, q18, q19, q20]) ⟨_, rfl⟩ ?_ ?_
    · rintro ρ ⟨y, rfl⟩
      exact ⟨rfl, _, rfl⟩
    · rintro j ρ p hd ⟨y, rfl⟩
      obtain ⟨rfl, hj⟩ := ran_nat hd
      refine ⟨_, rfl, ?_⟩
      refine W_of (law3_turn h hi (j := j) (by omega)) ⟨_, rfl⟩
  obtain ⟨fl, ρ, e, rfl, y, rfl⟩ := key.ok
  refine ⟨y, ?_⟩
  have ir := inR_nat (n := i) (by have := h.hl; omega)
  clear key h hi
  generalize D.lst (B.map (rwD names w Ps)) = LR at *
  generalize D.lst (B.map (fDp names)) = LF at *
  unfold s_law_4
  walk_at "ev"
end
end K11
namespace K11
open PySem PySem.Spec PyProof.Rows L2 L3
local macro_rules | `(tactic| walk_at "ev") => `(tactic| simp (config := {decide := true}) only [W_ok, bind_ok, thn_nx, thn_rt, thn_rn, thn_bk, thn_ct, cVar, cK, c1_e, c1_k, c2_e, c2_k, c2_k2, cB_e, cB_k, cAnd_e, cOr_e, cNot_e, cNot_k, cIte_e, iteK_t, iteK_f, iteK, okB, okV, cAndV_e, cOrV_e, cNotV_e, cNotV_k, cBv_e, aNil, aCons_e, aCons_k, aCons_k2, cTup_e, cTup_k, nLst_e, nLst_k, vN_e, vN_k, cN_e, cN_k, nN_e, nN_k, oNone, oSome_e, oSome_k, cSl_e, cSl_k, cSl_k2, cSl_k3, nSl_e, nSl_k, nSl_k2, nSl_k3, nCat_e, nCat_k, nCat_k2, sNil, sSeq, sFrz, sBrk, sCnt, sExp_e, sExp_k, sRet_e, sRet_k, sRetN_e, sRetN_k, sRetU, sIf_e, sSet_e, sSet_k, sSetN_e, sSetN_k, gSet, gsNil, gsCons_e, gsCons_k, nxK, gTupD, gLstD, sAsg_e, sAsg_k, sAug_e, sAug_k, iL_e, iL_k, iT_e, iT_k, iR1_e, iR1_k, iR2_e, iR2_k, iZ_e, iZ_k, iR3_e, iR3_k, cCh_e, cCh_k, cCh_k2, cCh_k3, nRan_e, nRan_k, r1F_e, r1F_k, r2F_e, r2F_k, r2F_k2, r3F_e, r3F_k, r3F_k2, r3F_k3, intP, sFor_e, run_e, runK_rt, runK_rn, runK_nx, fin, outs, cCall_e, cCall_k, cCall_k2, nCall_e, nCall_k, nCall_k2, callM, sls, lents, wbk, lk, pvD, pvDs, pvs, Sl.dat, Sl.put, gSubD_e, gSubD_k, cM_e, cM_k, cMr_e, cMr_k, cMr_k2, isTy_str, isTy_lst, cGet2_e, cGet2_k, cGet2_k2, cGet2_k3, isDic_d, iRv_e, iRv_k, get2_d, nDic0, pNil, keyD, pCons_e, pCons_k, pCons_k2, pCons_k3, nDic_e, nDic_k, nLc_e, nLc_k, lcB_ok, unAll, backAll, noAdr, setAll, setAllF, List.map_cons, List.map_nil, hOne, cYes, List.all_cons, List.all_nil, Bool.and_true, Bool.true_and, Bool.and_self, Option.map_none, ofO, Rt.d, add_i, mns_i, mul_r, mul_l, div_i, mod_i, neg_i, lt_i, le_i, gt_i, ge_i, int_i, abs_i, len_l, len_t, get_l, get_t, toT_l, toT_t, eq_i, ne_i, eq_s, ne_s, rg_len, isN_non, isN_int, notN_non, notN_int, pow18, isi_int, isi_bool, max_ii, max_l, max_t, sum_l, sum_t, toL_l, toL_t, sl_l, sl_t, sg1, sg2, sg3, sg4, sg5, ss2, ss3, ss4, ss5, List.getElem?_cons_zero, List.getElem?_cons_succ, List.set_cons_zero, List.set_cons_succ, List.length_cons, List.length_nil, List.length_map, List.length_range, List.replicate, List.cons_append, List.nil_append, Option.bind_some, Option.map_some, Option.isSome_some, Option.bind_none, if_true, if_false, reduceIte, decide_eq_true_eq, Bool.false_eq_true, reduceCtorEq, decide_true, decide_false, Bool.not_true, Bool.not_false, *])
local macro_rules | `(tactic| walk_at "evc") => `(tactic| simp (config := {decide := true}) only [at0, at1, at2, at3, set0, set1, set2, ran0, ran1, ran2, ran3, maxI_one, maxI_cons, asI_nil, asI_cons, add_l, add_t, app_l, line_le, line_lt, forL_nil, forL_cons, forL_k, lp_nx, lp_ct, lp_bk, lp_rt, lp_rn, sub_ok, lcL_nil, lcL_cons, lcH_some, lcL_k, lcL_k2, L3.cutD, HT.sIx, List.take_succ_cons, List.take_zero, List.drop_succ_cons, List.drop_zero, List.sum_cons, List.sum_nil, Nat.reduceAdd, Int.reduceSub, Int.reduceAdd, int_lit, Int.reduceToNat, Nat.reduceSub, Nat.min_def, Nat.reduceLeDiff, Int.reduceLT, W_ok, bind_ok, thn_nx, thn_rt, thn_rn, thn_bk, thn_ct, cVar, cK, c1_e, c1_k, c2_e, c2_k, c2_k2, cB_e, cB_k, cAnd_e, cOr_e, cNot_e, cNot_k, cIte_e, iteK_t, iteK_f, iteK, okB, okV, cAndV_e, cOrV_e, cNotV_e, cNotV_k, cBv_e, aNil, aCons_e, aCons_k, aCons_k2, cTup_e, cTup_k, nLst_e, nLst_k, vN_e, vN_k, cN_e, cN_k, nN_e, nN_k, oNone, oSome_e, oSome_k, cSl_e, cSl_k, cSl_k2, cSl_k3, nSl_e, nSl_k, nSl_k2, nSl_k3, nCat_e, nCat_k, nCat_k2, sNil, sSeq, sFrz, sBrk, sCnt, sExp_e, sExp_k, sRet_e, sRet_k, sRetN_e, sRetN_k, sRetU, sIf_e, sSet_e, sSet_k, sSetN_e, sSetN_k, gSet, gsNil, gsCons_e, gsCons_k, nxK, gTupD, gLstD, sAsg_e, sAsg_k, sAug_e, sAug_k, iL_e, iL_k, iT_e, iT_k, iR1_e, iR1_k, iR2_e, iR2_k, iZ_e, iZ_k, iR3_e, iR3_k, cCh_e, cCh_k, cCh_k2, cCh_k3, nRan_e, nRan_k, r1F_e, r1F_k, r2F_e, r2F_k, r2F_k2, r3F_e, r3F_k, r3F_k2, r3F_k3, intP, sFor_e, run_e, runK_rt, runK_rn, runK_nx, fin, outs, cCall_e, cCall_k, cCall_k2, nCall_e, nCall_k, nCall_k2, callM, sls, lents, wbk, lk, pvD, pvDs, pvs, Sl.dat, Sl.put, gSubD_e, gSubD_k, cM_e, cM_k, cMr_e, cMr_k, cMr_k2, isTy_str, isTy_lst, cGet2_e, cGet2_k, cGet2_k2, cGet2_k3, isDic_d, iRv_e, iRv_k, get2_d, nDic0, pNil, keyD, pCons_e, pCons_k, pCons_k2, pCons_k3, nDic_e, nDic_k, nLc_e, nLc_k, lcB_ok, unAll, backAll, noAdr, setAll, setAllF, List.map_cons, List.map_nil, hOne, cYes, List.all_cons, List.all_nil, Bool.and_true, Bool.true_and, Bool.and_self, Option.map_none, ofO, Rt.d, add_i, mns_i, mul_r, mul_l, div_i, mod_i, neg_i, lt_i, le_i, gt_i, ge_i, int_i, abs_i, len_l, len_t, get_l, get_t, toT_l, toT_t, eq_i, ne_i, eq_s, ne_s, rg_len, isN_non, isN_int, notN_non, notN_int, pow18, isi_int, isi_bool, max_ii, max_l, max_t, sum_l, sum_t, toL_l, toL_t, sl_l, sl_t, sg1, sg2, sg3, sg4, sg5, ss2, ss3, ss4, ss5, List.getElem?_cons_zero, List.getElem?_cons_succ, List.set_cons_zero, List.set_cons_succ, List.length_cons, List.length_nil, List.length_map, List.length_range, List.replicate, List.cons_append, List.nil_append, Option.bind_some, Option.map_some, Option.isSome_some, Option.bind_none, if_true, if_false, reduceIte, decide_eq_true_eq, Bool.false_eq_true, reduceCtorEq, decide_true, decide_false, Bool.not_true, Bool.not_false, *])
section
variable {names ks l : List Str} {g F F' P : Str → Int} {x : Str} {v c c' w n : Int} {A B : List Fm} {s : St} {a b : Fm} {i j m k : Nat} {Ps : List (Str → Int)} {S : List St} {d : D}
theorem fm_all : ∀ {l : List Str}, (∀ x ∈ l, x ∈ ks) → fm ks l = none
  | [], _ => rfl
  | x :: r, h => by rw [fm, if_pos (h x List.mem_cons_self)]; exact fm_all fun y hy => h y (List.mem_cons_of_mem _ hy)
theorem flK_dks : ∀ {ks : List Str}, flK (dks ks g) = some (ks.map fun x => ((Sum.inr x : Key), V.int (g x)))
  | [] => rfl
  | x :: r => by
    show (some (V.int (g x))).bind _ = _
    show (flK (dks r g)).map _ = _
    rw [flK_dks (ks := r)]; rfl
theorem val_mem {x : Str} : ∀ {ks : List Str}, x ∈ ks → valV (ks.map fun x => ((Sum.inr x : Key), V.int (g x))) (.inr x) = some (.int (g x))
  | [], h => by simp at h
  | y :: r, h => by
    rw [List.map_cons]
    by_cases e : y = x
    · subst e
      exact valV_pos rfl
    · rw [valV_neg (fun z => e (Sum.inr.inj z))]
      exact val_mem ((List.mem_cons.mp h).resolve_left fun z => e z.symm)
theorem eqK_self : ∀ {l ks : List Str}, (∀ x ∈ l, x ∈ ks) → eqKV (ks.map fun x => ((Sum.inr x : Key), V.int (g x))) (l.map fun x => ((Sum.inr x : Key), V.int (g x))) = true
  | [], _, _ => rfl
  | x :: r, ks, h => by
    rw [List.map_cons, eqKV, val_mem (h x List.mem_cons_self)]
    show (_ == _ && _) = true
    rw [eqK_self fun y hy => h y (List.mem_cons_of_mem _ hy)]
    simp
theorem ne_self_dks : gNeK (.dic (dks ks g)) (.dic (dks ks g)) = some (.bl false) := by
  show (flK (dks ks g)).bind _ = _
  rw [flK_dks, Option.bind_some, Option.map_some, eqK_self fun x hx => hx]
  simp
theorem zip_pt : ∀ {names : List Str}, (names.map Sum.inr : List Key).zip (names.map fun x => D.int (P x)) = dks names P
  | [] => rfl
  | x :: r => by
    rw [List.map_cons, List.map_cons, List.zip_cons_cons, zip_pt (names := r)]; rfl
theorem dzip_ok (N : Nm names w) : gDZip [.lst (names.map D.str), ptD names P] = some (.dic (dks names P)) := by
  show (asStrs (names.map D.str)).map _ = _
  rw [asStrs_map, Option.map_some, zip_pt]
  exact congrArg (fun z => some (D.dic z)) (merge_dks (g := P) (as := []) (bs := names) (by rw [List.nil_append]; exact N.nd))
/-! ### law_5, law_6: values at whole words -/
theorem iso5 {LF LR f r : D} {DK : List (Key × D)} {w K T u : Int} {q0 q1 q2 q4 q5 q6 q8 q11 q12 q13 x16 q17 q18 q19 q20 : Sl}
    (g0 : gDict [.dic DK] = some (.dic DK)) (g1 : gGet LF (.int K) = some f) (g2 : gGet LR (.int K) = some r) (g3 : gGet r (.int T) = some (.int u))
    (c1 : m_form_value [.val f, .val (.dic DK), .val (.int w)] = .ok (.v (.int u)) [.un, .un, .un])
    (c2 : m__law_same 6 [.val (.int u), .val (.int u)] = .ok (.v (.bl true)) [.un, .un]) (c3 : gNeK (.dic DK) (.dic DK) = some (.bl false)) :
    s_law_5 [q0, q1, q2, .val (.int w), q4, q5, q6, .val LR, q8, .own LF, .val (.int T), q11, q12, q13, .own (.dic DK), .val (.int K), x16, q17, q18, q19, q20] =
      .ok .nx [q0, q1, q2, .val (.int w), q4, q5, q6, .val LR, q8, .own LF, .val (.int T), q11, q12, q13, .own (.dic DK), .val (.int K), .val (.dic DK), q17, q18, q19, q20] := by
  unfold s_law_5
  generalize m__law_same 6 = RR at *
  walk_at "ev"
theorem law5_turn (h : Al names w Ps S B) (hi : i < S.length) (hj : j < Ps.length) {q0 q1 q2 q4 q5 q6 q8 q11 q12 q13 x16 q17 q18 q19 q20 : Sl} :
    s_law_5 [q0, q1, q2, .val (.int w), q4, q5, q6, .val (.lst (B.map (rwD names w Ps))), q8, .own (.lst (B.map (fDp names))), .val (.int (j : Int)), q11, q12, q13, .own (.dic (dks names (atP Ps j))), .val (.int (i : Int)), x16, q17, q18, q19, q20] =
      .ok .nx [q0, q1, q2, .val (.int w), q4, q5, q6, .val (.lst (B.map (rwD names w Ps))), q8, .own (.lst (B.map (fDp names))), .val (.int (j : Int)), q11, q12, q13, .own (.dic (dks names (atP Ps j))), .val (.int (i : Int)), .val (.dic (dks names (atP Ps j))), q17, q18, q19, q20] := by
  rw [← h.len] at hi
  exact iso5 rfl (atA hi) (rwA hi) (rw_at hj) (fv_ok h.N (h.at i) (fm_all fun x hx => (pt_mem.mp hx).1)) same_i ne_self_dks
theorem iso6 {LN LP LS PT : D} {DK : List (Key × D)} {d d' : D} {T n y : Int} {q0 q2 q3 q7 q8 q9 q11 q12 q13 x14 x15 x16 q17 q18 q19 q20 z15 z16 : Sl}
    (g1 : gGet LP (.int T) = some PT) (g2 : gDZip [LN, PT] = some (.dic DK)) (g3 : gLen [LS] = some (.int n)) (z2 : (2 : Nat) ≤ sizeLine)
    (c1 : mDraw [.bor d, .val (.int n)] = .ok (.v (.int y)) [.bor d', .un])
    (c2 : forL (gSet 15) s_law_5 [.int (n - 1), .int y] [q0, .own d', q2, q3, .val LN, .val LP, .val LS, q7, q8, q9, .val (.int T), q11, q12, q13, .own (.dic DK), x15, x16, q17, q18, q19, q20] =
      .ok .nx [q0, .own d', q2, q3, .val LN, .val LP, .val LS, q7, q8, q9, .val (.int T), q11, q12, q13, .own (.dic DK), z15, z16, q17, q18, q19, q20]) :
    s_law_6 [q0, .own d, q2, q3, .val LN, .val LP, .val LS, q7, q8, q9, .val (.int T), q11, q12, q13, x14, x15, x16, q17, q18, q19, q20] =
      .ok .nx [q0, .own d', q2, q3, .val LN, .val LP, .val LS, q7, q8, q9, .val (.int T), q11, q12, q13, .own (.dic DK), z15, z16, q17, q18, q19, q20] := by
  unfold s_law_6
  walk_at "ev"
theorem law6_turn (hw : Wf d) (h : Al names w Ps S B) (hj : j < Ps.length) {q0 q2 q8 q11 q12 q13 x14 x15 x16 q17 q18 q19 q20 : Sl} :
    ∃ (d' : D) (z15 z16 : Sl), s_law_6 [q0, .own d, q2, .val (.int w), .val (.lst (names.map D.str)), .val (.lst (Ps.map (ptD names))), .val (.lst (S.map stD)), .val (.lst (B.map (rwD names w Ps))), q8, .own (.lst (B.map (fDp names))), .val (.int (j : Int)), q11, q12, q13, x14, x15, x16, q17, q18, q19, q20] =
      .ok .nx [q0, .own d', q2, .val (.int w), .val (.lst (names.map D.str)), .val (.lst (Ps.map (ptD names))), .val (.lst (S.map stD)), .val (.lst (B.map (rwD names w Ps))), q8, .own (.lst (B.map (fDp names))), .val (.int (j : Int)), q11, q12, q13, .own (.dic (dks names (atP Ps j))), z15, z16, q17, q18, q19, q20] ∧ Wf d' := by
  have h2 := h.h2
  have hl := h.hl
  obtain ⟨y, d', e1, l1, u1, w'⟩ := draw_ok hw (many := (S.length : Int)) (by omega) (by omega)
  obtain ⟨y, rfl⟩ := Int.eq_ofNat_of_zero_le l1
  have hp : gGet (.lst (Ps.map (ptD names))) (.int (j : Int)) = some (ptD names (atP Ps j)) := by
    have : atP Ps j = Ps[j] := by
      show Ps.getD j _ = _
      rw [List.getD_eq_getElem?_getD, List.getElem?_eq_getElem hj]; rfl
    rw [this]
    exact map_at hj
  have t1 := fun (x15 x16 : Sl) (i : Nat) (hi : i < S.length) => law5_turn h hi hj (x16 := x16) (q0 := q0) (q1 := .own d') (q2 := q2) (q4 := .val (.lst (names.map D.str))) (q5 := .val (.lst (Ps.map (ptD names)))) (q6 := .val (.lst (S.map stD))) (q8 := q8) (q11 := q11) (q12 := q12) (q13 := q13) (q17 := q17) (q18 := q18) (q19 := q19) (q20 := q20)
  refine ⟨d', .val (.int (y : Int)), .val (.dic (dks names (atP Ps j))), iso6 (n := (S.length : Int)) hp (dzip_ok h.N) (by rw [len_l, List.length_map]) (by rw [sizeLine_eq]; omega) e1 ?_, w'⟩
  rw [forL_cons]
  have e0 : (S.length : Int) - 1 = ((S.length - 1 : Nat) : Int) := by omega
  rw [e0]
  show (s_law_5 [_, _, _, _, _, _, _, _, _, _, _, _, _, _, _, .val (.int ((S.length - 1 : Nat) : Int)), _, _, _, _, _]).lp _ = _
  rw [t1 x15 x16 (S.length - 1) (by omega)]
  show forL (gSet 15) s_law_5 [.int (y : Int)] _ = _
  rw [forL_cons]
  show (s_law_5 [_, _, _, _, _, _, _, _, _, _, _, _, _, _, _, .val (.int (y : Int)), _, _, _, _, _]).lp _ = _
  rw [t1 x15 _ y (by omega)]
  rfl
end
end K11
namespace K11
open PySem PySem.Spec PyProof.Rows L2 L3
local macro_rules | `(tactic| walk_at "ev") => `(tactic| simp (config := {decide := true}) only [W_ok, bind_ok, thn_nx, thn_rt, thn_rn, thn_bk, thn_ct, cVar, cK, c1_e, c1_k, c2_e, c2_k, c2_k2, cB_e, cB_k, cAnd_e, cOr_e, cNot_e, cNot_k, cIte_e, iteK_t, iteK_f, iteK, okB, okV, cAndV_e, cOrV_e, cNotV_e, cNotV_k, cBv_e, aNil, aCons_e, aCons_k, aCons_k2, cTup_e, cTup_k, nLst_e, nLst_k, vN_e, vN_k, cN_e, cN_k, nN_e, nN_k, oNone, oSome_e, oSome_k, cSl_e, cSl_k, cSl_k2, cSl_k3, nSl_e, nSl_k, nSl_k2, nSl_k3, nCat_e, nCat_k, nCat_k2, sNil, sSeq, sFrz, sBrk, sCnt, sExp_e, sExp_k, sRet_e, sRet_k, sRetN_e, sRetN_k, sRetU, sIf_e, sSet_e, sSet_k, sSetN_e, sSetN_k, gSet, gsNil, gsCons_e, gsCons_k, nxK, gTupD, gLstD, sAsg_e, sAsg_k, sAug_e, sAug_k, iL_e, iL_k, iT_e, iT_k, iR1_e, iR1_k, iR2_e, iR2_k, iZ_e, iZ_k, iR3_e, iR3_k, cCh_e, cCh_k, cCh_k2, cCh_k3, nRan_e, nRan_k, r1F_e, r1F_k, r2F_e, r2F_k, r2F_k2, r3F_e, r3F_k, r3F_k2, r3F_k3, intP, sFor_e, run_e, runK_rt, runK_rn, runK_nx, fin, outs, cCall_e, cCall_k, cCall_k2, nCall_e, nCall_k, nCall_k2, callM, sls, lents, wbk, lk, pvD, pvDs, pvs, Sl.dat, Sl.put, gSubD_e, gSubD_k, cM_e, cM_k, cMr_e, cMr_k, cMr_k2, isTy_str, isTy_lst, cGet2_e, cGet2_k, cGet2_k2, cGet2_k3, isDic_d, iRv_e, iRv_k, get2_d, nDic0, pNil, keyD, pCons_e, pCons_k, pCons_k2, pCons_k3, nDic_e, nDic_k, nLc_e, nLc_k, lcB_ok, unAll, backAll, noAdr, setAll, setAllF, List.map_cons, List.map_nil, hOne, cYes, List.all_cons, List.all_nil, Bool.and_true, Bool.true_and, Bool.and_self, Option.map_none, ofO, Rt.d, add_i, mns_i, mul_r, mul_l, div_i, mod_i, neg_i, lt_i, le_i, gt_i, ge_i, int_i, abs_i, len_l, len_t, get_l, get_t, toT_l, toT_t, eq_i, ne_i, eq_s, ne_s, rg_len, isN_non, isN_int, notN_non, notN_int, pow18, isi_int, isi_bool, max_ii, max_l, max_t, sum_l, sum_t, toL_l, toL_t, sl_l, sl_t, sg1, sg2, sg3, sg4, sg5, ss2, ss3, ss4, ss5, List.getElem?_cons_zero, List.getElem?_cons_succ, List.set_cons_zero, List.set_cons_succ, List.length_cons, List.length_nil, List.length_map, List.length_range, List.replicate, List.cons_append, List.nil_append, Option.bind_some, Option.map_some, Option.isSome_some, Option.bind_none, if_true, if_false, reduceIte, decide_eq_true_eq, Bool.false_eq_true, reduceCtorEq, decide_true, decide_false, Bool.not_true, Bool.not_false, *])
local macro_rules | `(tactic| walk_at "evc") => `(tactic| simp (config := {decide := true}) only [at0, at1, at2, at3, set0, set1, set2, ran0, ran1, ran2, ran3, maxI_one, maxI_cons, asI_nil, asI_cons, add_l, add_t, app_l, line_le, line_lt, forL_nil, forL_cons, forL_k, lp_nx, lp_ct, lp_bk, lp_rt, lp_rn, sub_ok, lcL_nil, lcL_cons, lcH_some, lcL_k, lcL_k2, L3.cutD, HT.sIx, List.take_succ_cons, List.take_zero, List.drop_succ_cons, List.drop_zero, List.sum_cons, List.sum_nil, Nat.reduceAdd, Int.reduceSub, Int.reduceAdd, int_lit, Int.reduceToNat, Nat.reduceSub, Nat.min_def, Nat.reduceLeDiff, Int.reduceLT, W_ok, bind_ok, thn_nx, thn_rt, thn_rn, thn_bk, thn_ct, cVar, cK, c1_e, c1_k, c2_e, c2_k, c2_k2, cB_e, cB_k, cAnd_e, cOr_e, cNot_e, cNot_k, cIte_e, iteK_t, iteK_f, iteK, okB, okV, cAndV_e, cOrV_e, cNotV_e, cNotV_k, cBv_e, aNil, aCons_e, aCons_k, aCons_k2, cTup_e, cTup_k, nLst_e, nLst_k, vN_e, vN_k, cN_e, cN_k, nN_e, nN_k, oNone, oSome_e, oSome_k, cSl_e, cSl_k, cSl_k2, cSl_k3, nSl_e, nSl_k, nSl_k2, nSl_k3, nCat_e, nCat_k, nCat_k2, sNil, sSeq, sFrz, sBrk, sCnt, sExp_e, sExp_k, sRet_e, sRet_k, sRetN_e, sRetN_k, sRetU, sIf_e, sSet_e, sSet_k, sSetN_e, sSetN_k, gSet, gsNil, gsCons_e, gsCons_k, nxK, gTupD, gLstD, sAsg_e, sAsg_k, sAug_e, sAug_k, iL_e, iL_k, iT_e, iT_k, iR1_e, iR1_k, iR2_e, iR2_k, iZ_e, iZ_k, iR3_e, iR3_k, cCh_e, cCh_k, cCh_k2, cCh_k3, nRan_e, nRan_k, r1F_e, r1F_k, r2F_e, r2F_k, r2F_k2, r3F_e, r3F_k, r3F_k2, r3F_k3, intP, sFor_e, run_e, runK_rt, runK_rn, runK_nx, fin, outs, cCall_e, cCall_k, cCall_k2, nCall_e, nCall_k, nCall_k2, callM, sls, lents, wbk, lk, pvD, pvDs, pvs, Sl.dat, Sl.put, gSubD_e, gSubD_k, cM_e, cM_k, cMr_e, cMr_k, cMr_k2, isTy_str, isTy_lst, cGet2_e, cGet2_k, cGet2_k2, cGet2_k3, isDic_d, iRv_e, iRv_k, get2_d, nDic0, pNil, keyD, pCons_e, pCons_k, pCons_k2, pCons_k3, nDic_e, nDic_k, nLc_e, nLc_k, lcB_ok, unAll, backAll, noAdr, setAll, setAllF, List.map_cons, List.map_nil, hOne, cYes, List.all_cons, List.all_nil, Bool.and_true, Bool.true_and, Bool.and_self, Option.map_none, ofO, Rt.d, add_i, mns_i, mul_r, mul_l, div_i, mod_i, neg_i, lt_i, le_i, gt_i, ge_i, int_i, abs_i, len_l, len_t, get_l, get_t, toT_l, toT_t, eq_i, ne_i, eq_s, ne_s, rg_len, isN_non, isN_int, notN_non, notN_int, pow18, isi_int, isi_bool, max_ii, max_l, max_t, sum_l, sum_t, toL_l, toL_t, sl_l, sl_t, sg1, sg2, sg3, sg4, sg5, ss2, ss3, ss4, ss5, List.getElem?_cons_zero, List.getElem?_cons_succ, List.set_cons_zero, List.set_cons_succ, List.length_cons, List.length_nil, List.length_map, List.length_range, List.replicate, List.cons_append, List.nil_append, Option.bind_some, Option.map_some, Option.isSome_some, Option.bind_none, if_true, if_false, reduceIte, decide_eq_true_eq, Bool.false_eq_true, reduceCtorEq, decide_true, decide_false, Bool.not_true, Bool.not_false, *])
section
variable {names ks l : List Str} {g F F' P : Str → Int} {x : Str} {v c c' w n : Int} {A B : List Fm} {s : St} {a b : Fm} {i j m k : Nat} {Ps : List (Str → Int)} {S : List St} {d : D}
theorem iso7t {LN LP PT : D} {DK DK2 : List (Key × D)} {d d' : D} {T C y p : Int} {x : Str} {q0 q2 q3 q6 q7 q8 q9 q11 q12 q13 q15 q16 q18 q19 q20 : Sl}
    (g1 : gGet LP (.int T) = some PT) (g2 : gGet PT (.int C) = some (.int p)) (g3 : gGet LN (.int C) = some (.str x)) (g4 : setD (.dic DK) (.str x) (.int p) = some (.dic DK2))
    (c1 : mDraw [.bor d, .val (.int 4)] = .ok (.v (.int y)) [.bor d', .un]) (hy : 0 < y) :
    s_law_7 [q0, .own d, q2, q3, .val LN, .val LP, q6, q7, q8, q9, .val (.int T), q11, q12, q13, .own (.dic DK), q15, q16, .val (.int C), q18, q19, q20] =
      .ok .nx [q0, .own d', q2, q3, .val LN, .val LP, q6, q7, q8, q9, .val (.int T), q11, q12, q13, .own (.dic DK2), q15, q16, .val (.int C), q18, q19, q20] := by
  unfold s_law_7
  walk_at "ev"
theorem iso7f {LN LP : D} {DK : D} {d d' : D} {T C y : Int} {q0 q2 q3 q6 q7 q8 q9 q11 q12 q13 q15 q16 q18 q19 q20 : Sl}
    (c1 : mDraw [.bor d, .val (.int 4)] = .ok (.v (.int y)) [.bor d', .un]) (hy : ¬ 0 < y) :
    s_law_7 [q0, .own d, q2, q3, .val LN, .val LP, q6, q7, q8, q9, .val (.int T), q11, q12, q13, .own DK, q15, q16, .val (.int C), q18, q19, q20] =
      .ok .nx [q0, .own d', q2, q3, .val LN, .val LP, q6, q7, q8, q9, .val (.int T), q11, q12, q13, .own DK, q15, q16, .val (.int C), q18, q19, q20] := by
  unfold s_law_7
  walk_at "ev"
theorem law7_loop (N : Nm names w) (hj : j < Ps.length) (hw : Wf d) {q0 q2 q3 q6 q7 q8 q9 q11 q12 q13 q15 q16 q17 q18 q19 q20 : Sl} :
    W (forL (gSet 17) s_law_7 (rangeD 0 (names.length : Int)) [q0, .own d, q2, q3, .val (.lst (names.map D.str)), .val (.lst (Ps.map (ptD names))), q6, q7, q8, q9, .val (.int (j : Int)), q11, q12, q13, .own (.dic []), q15, q16, q17, q18, q19, q20])
      (fun fl ρ => fl = .nx ∧ ∃ (d' : D) (ks : List Str) (y17 : Sl), ρ = [q0, .own d', q2, q3, .val (.lst (names.map D.str)), .val (.lst (Ps.map (ptD names))), q6, q7, q8, q9, .val (.int (j : Int)), q11, q12, q13, .own (.dic (dks ks (atP Ps j))), q15, q16, y17, q18, q19, q20] ∧ Wf d') := by
  refine forL_all (I := fun i ρ => i ≤ names.length ∧ ∃ (d' : D) (ks : List Str) (y17 : Sl), ρ = [q0, .own d', q2, q3, .val (.lst (names.map D.str)), .val (.lst (Ps.map (ptD names))), q6, q7, q8, q9, .val (.int (j : Int)), q11, q12, q13, .own (.dic (dks ks (atP Ps j))), q15, q16, y17, q18, q19, q20] ∧ Wf d' ∧ ks.length ≤ i) ⟨Nat.zero_le _, d, [], _, rfl, hw, Nat.le_refl _⟩ ?_ ?_
  · rintro ρ ⟨_, d', ks, y, rfl, w', _⟩
    exact ⟨rfl, d', ks, y, rfl, w'⟩
  · rintro i ρ p hd ⟨_, d', ks, y, rfl, w', hk⟩
    obtain ⟨rfl, hi⟩ := ran_nat hd
    refine ⟨_, rfl, ?_⟩
    obtain ⟨z, d2, e1, l1, u1, w2⟩ := draw_ok w' (many := 4) (by decide) (by decide)
    have hN := N.le
    by_cases hz : 0 < z
    · have hp : gGet (.lst (Ps.map (ptD names))) (.int (j : Int)) = some (ptD names (atP Ps j)) := by
        have : atP Ps j = Ps[j] := by
          show Ps.getD j _ = _
          rw [List.getD_eq_getElem?_getD, List.getElem?_eq_getElem hj]; rfl
        rw [this]
        exact map_at hj
      have g4 : setD (.dic (dks ks (atP Ps j))) (.str (names.getD i "")) (.int (atP Ps j (names.getD i ""))) = some (.dic (dks (if names.getD i "" ∈ ks then ks else ks ++ [names.getD i ""]) (atP Ps j))) := by
        rw [set_d (by rw [dks_len, sizeLine_eq]; omega), put_dks, dks_congr (g := fun y => if y = names.getD i "" then atP Ps j (names.getD i "") else atP Ps j y) (F := atP Ps j) fun y _ => by
          by_cases e : y = names.getD i ""
          · rw [if_pos e, e]
          · rw [if_neg e]]
      refine W_of (iso7t hp (pt_at hi) (atN hi) g4 e1 hz) ⟨hi, d2, _, _, rfl, w2, ?_⟩
      split
      · omega
      · rw [List.length_append]; simp; omega
    · exact W_of (iso7f e1 hz) ⟨hi, d2, ks, _, rfl, w2, by omega⟩
/-! ### law_8: what is due -/
def stp (ks : List Str) (e : D) (x : Str) : D := if x ∈ ks then e else .tup [.str "missing", .str x]
def mdue (ks : List Str) (e : D) (l : List Str) : D := match fm ks l with
  | none => e
  | some x => .tup [.str "missing", .str x]
theorem mdue_fold {e : D} : ∀ {l : List Str}, l.reverse.foldl (stp ks) e = mdue ks e l
  | [] => rfl
  | x :: r => by
    rw [List.foldl_reverse, List.foldr_cons, ← List.foldl_reverse, mdue_fold (l := r)]
    unfold stp mdue
    by_cases h : x ∈ ks
    · rw [if_pos h, fm, if_pos h]
    · rw [if_neg h, fm, if_neg h]
theorem iso8t {DK : List (Key × D)} {p du : D} {x : Str} {q0 q1 q2 q3 q4 q5 q6 q7 q8 q9 q10 q11 q12 q13 q15 q16 q17 q20 : Sl} (z2 : (2 : Nat) ≤ sizeLine)
    (g1 : gGet p (.int 0) = some (.str x)) (g2 : gInD true (.str x) (.dic DK) = some (.bl true)) :
    s_law_8 [q0, q1, q2, q3, q4, q5, q6, q7, q8, q9, q10, q11, q12, q13, .own (.dic DK), q15, q16, q17, .val du, .val p, q20] =
      .ok .nx [q0, q1, q2, q3, q4, q5, q6, q7, q8, q9, q10, q11, q12, q13, .own (.dic DK), q15, q16, q17, .val (.tup [.str "missing", .str x]), .val p, q20] := by
  unfold s_law_8
  walk_at "ev"
theorem iso8f {DK : List (Key × D)} {p du : D} {x : Str} {q0 q1 q2 q3 q4 q5 q6 q7 q8 q9 q10 q11 q12 q13 q15 q16 q17 q20 : Sl}
    (g1 : gGet p (.int 0) = some (.str x)) (g2 : gInD true (.str x) (.dic DK) = some (.bl false)) :
    s_law_8 [q0, q1, q2, q3, q4, q5, q6, q7, q8, q9, q10, q11, q12, q13, .own (.dic DK), q15, q16, q17, .val du, .val p, q20] =
      .ok .nx [q0, q1, q2, q3, q4, q5, q6, q7, q8, q9, q10, q11, q12, q13, .own (.dic DK), q15, q16, q17, .val du, .val p, q20] := by
  unfold s_law_8
  walk_at "ev"
theorem law8_loop {q0 q1 q2 q3 q4 q5 q6 q7 q8 q9 q10 q11 q12 q13 q15 q16 q17 q20 : Sl} : ∀ (M : List Str) (du : D) (x19 : Sl),
    ∃ y19 : Sl, forL (gSet 19) s_law_8 (prs M F) [q0, q1, q2, q3, q4, q5, q6, q7, q8, q9, q10, q11, q12, q13, .own (.dic (dks ks P)), q15, q16, q17, .val du, x19, q20] =
      .ok .nx [q0, q1, q2, q3, q4, q5, q6, q7, q8, q9, q10, q11, q12, q13, .own (.dic (dks ks P)), q15, q16, q17, .val (M.foldl (stp ks) du), y19, q20]
  | [], du, x19 => ⟨x19, rfl⟩
  | x :: r, du, x19 => by
    obtain ⟨y19, ih⟩ := law8_loop (q0 := q0) (q1 := q1) (q2 := q2) (q3 := q3) (q4 := q4) (q5 := q5) (q6 := q6) (q7 := q7) (q8 := q8) (q9 := q9) (q10 := q10) (q11 := q11) (q12 := q12) (q13 := q13) (q15 := q15) (q16 := q16) (q17 := q17) (q20 := q20) r (stp ks du x) (.val (.tup [.str x, .int (F x)]))
    refine ⟨y19, ?_⟩
    rw [List.foldl_cons, ← ih]
    show forL _ _ (D.tup [.str x, .int (F x)] :: prs r F) _ = _
    rw [forL_cons]
    show (s_law_8 [_, _, _, _, _, _, _, _, _, _, _, _, _, _, _, _, _, _, _, .val (.tup [.str x, .int (F x)]), _]).lp _ = _
    have lk := look_dks (ks := ks) (g := P) (x := x)
    by_cases h : x ∈ ks
    · rw [if_pos h] at lk
      rw [iso8f (x := x) rfl (by rw [in_d, lk]; rfl)]
      unfold stp
      rw [if_pos h]
      rfl
    · rw [if_neg h] at lk
      rw [iso8t (x := x) (by rw [sizeLine_eq]; omega) rfl (by rw [in_d, lk]; rfl)]
      unfold stp
      rw [if_neg h]
      rfl
theorem law8_ok {q0 q1 q2 q3 q4 q5 q6 q7 q8 q9 q10 q11 q12 q13 q15 q16 q17 q20 : Sl} (l : List Str) (du : D) (x19 : Sl) :
    ∃ y19 : Sl, forL (gSet 19) s_law_8 (prs l F).reverse [q0, q1, q2, q3, q4, q5, q6, q7, q8, q9, q10, q11, q12, q13, .own (.dic (dks ks P)), q15, q16, q17, .val du, x19, q20] =
      .ok .nx [q0, q1, q2, q3, q4, q5, q6, q7, q8, q9, q10, q11, q12, q13, .own (.dic (dks ks P)), q15, q16, q17, .val (mdue ks du l), y19, q20] := by
  have e : (prs l F).reverse = prs l.reverse F := by
    unfold prs
    rw [List.map_reverse]
  rw [e, ← mdue_fold]
  exact law8_loop l.reverse du x19
theorem asked_due (N : Nm names w) (hA : Gf w a) : m__law_asked [.val (fDp names a), .val (.dic (dks ks P)), .val (.int w)] = .ok (.v (mdue ks (.tup [.str "value", .int (vl names w a P)]) (ptL names a.2))) [.un, .un, .un] := by
  unfold mdue
  cases e : fm ks (ptL names a.2) with
  | none => exact asked_ok N hA e
  | some x => exact asked_exc N hA e
theorem same_due {e : D} (h : sdB 5 e = true) : m__law_same 6 [.val (mdue ks e l), .val (mdue ks e l)] = .ok (.v (.bl true)) [.un, .un] := by
  unfold mdue
  split
  · exact same_ok 5 _ h
  · exact same_ok 5 _ rfl
theorem iso9 {LN LP LS LR LD LF f r dl du : D} {PR : List D} {DW : List (Key × D)} {d d' d2 : D} {w n m K y u : Int} {q0 q11 q12 q13 x10 x14 q16 x17 y17 x18 x19 y19 q20 : Sl} (z2 : (2 : Nat) ≤ sizeLine)
    (c1 : gLen [LP] = some (.int n)) (c2 : mDraw [.bor d, .val (.int n)] = .ok (.v (.int y)) [.bor d', .un]) (ir : L3.inR m = true)
    (c3 : forL (gSet 17) s_law_7 (rangeD 0 m) [q0, .own d', .val (.int m), .val (.int w), .val LN, .val LP, .val LS, .val LR, .val LD, .own LF, .val (.int y), q11, q12, q13, .own (.dic []), .val (.int K), q16, x17, x18, x19, q20] =
      .ok .nx [q0, .own d2, .val (.int m), .val (.int w), .val LN, .val LP, .val LS, .val LR, .val LD, .own LF, .val (.int y), q11, q12, q13, .own (.dic DW), .val (.int K), q16, y17, x18, x19, q20])
    (g1 : gGet LR (.int K) = some r) (g2 : gGet r (.int y) = some (.int u)) (g3 : gGet LD (.int K) = some dl) (g4 : gGet dl (.int 1) = some (.tup PR)) (g5 : gGet LF (.int K) = some f)
    (c4 : forL (gSet 19) s_law_8 PR.reverse [q0, .own d2, .val (.int m), .val (.int w), .val LN, .val LP, .val LS, .val LR, .val LD, .own LF, .val (.int y), q11, q12, q13, .own (.dic DW), .val (.int K), q16, y17, .val (.tup [.str "value", .int u]), x19, q20] =
      .ok .nx [q0, .own d2, .val (.int m), .val (.int w), .val LN, .val LP, .val LS, .val LR, .val LD, .own LF, .val (.int y), q11, q12, q13, .own (.dic DW), .val (.int K), q16, y17, .val du, y19, q20])
    (c5 : m__law_asked [.val f, .val (.dic DW), .val (.int w)] = .ok (.v du) [.un, .un, .un]) (c6 : m__law_same 6 [.val du, .val du] = .ok (.v (.bl true)) [.un, .un]) :
    s_law_9 [q0, .own d, .val (.int m), .val (.int w), .val LN, .val LP, .val LS, .val LR, .val LD, .own LF, x10, q11, q12, q13, x14, .val (.int K), q16, x17, x18, x19, q20] =
      .ok .nx [q0, .own d2, .val (.int m), .val (.int w), .val LN, .val LP, .val LS, .val LR, .val LD, .own LF, .val (.int y), q11, q12, q13, .val (.dic DW), .val (.int K), q16, y17, .val du, y19, q20] := by
  unfold s_law_9
  generalize m__law_same 6 = RR at *
  walk_at "ev"
theorem law9_turn (hw : Wf d) (h : Al names w Ps S B) (hi : i < S.length) {q0 q11 q12 q13 x10 x14 q16 x17 x18 x19 q20 : Sl} :
    W (s_law_9 [q0, .own d, .val (.int names.length), .val (.int w), .val (.lst (names.map D.str)), .val (.lst (Ps.map (ptD names))), .val (.lst (S.map stD)), .val (.lst (B.map (rwD names w Ps))), .val (.lst (B.map (fDp names))), .own (.lst (B.map (fDp names))), x10, q11, q12, q13, x14, .val (.int (i : Int)), q16, x17, x18, x19, q20])
      (fun fl ρ => fl = .nx ∧ ∃ (d' : D) (x10 x14 x17 x18 x19 : Sl), ρ = [q0, .own d', .val (.int names.length), .val (.int w), .val (.lst (names.map D.str)), .val (.lst (Ps.map (ptD names))), .val (.lst (S.map stD)), .val (.lst (B.map (rwD names w Ps))), .val (.lst (B.map (fDp names))), .own (.lst (B.map (fDp names))), x10, q11, q12, q13, x14, .val (.int (i : Int)), q16, x17, x18, x19, q20] ∧ Wf d') := by
  have hlt := h.hP.lt
  have hle := h.hP.le
  obtain ⟨y, d', e1, l1, u1, w'⟩ := draw_ok hw (many := (Ps.length : Int)) (by omega) (by omega)
  obtain ⟨y, rfl⟩ := Int.eq_ofNat_of_zero_le l1
  have hj : y < Ps.length := by omega
  obtain ⟨fl, ρ, e2, rfl, d2, ks, y17, rfl, w2⟩ := (law7_loop h.N hj w' (q0 := q0) (q2 := .val (.int names.length)) (q3 := .val (.int w)) (q6 := .val (.lst (S.map stD))) (q7 := .val (.lst (B.map (rwD names w Ps)))) (q8 := .val (.lst (B.map (fDp names)))) (q9 := .own (.lst (B.map (fDp names)))) (q11 := q11) (q12 := q12) (q13 := q13) (q15 := .val (.int (i : Int))) (q16 := q16) (q17 := x17) (q18 := x18) (q19 := x19) (q20 := q20)).ok
  rw [← h.len] at hi
  obtain ⟨y19, e3⟩ := law8_ok (F := (atF B i).2) (ks := ks) (P := atP Ps y) (q0 := q0) (q1 := .own d2) (q2 := .val (.int names.length)) (q3 := .val (.int w)) (q4 := .val (.lst (names.map D.str))) (q5 := .val (.lst (Ps.map (ptD names)))) (q6 := .val (.lst (S.map stD))) (q7 := .val (.lst (B.map (rwD names w Ps)))) (q8 := .val (.lst (B.map (fDp names)))) (q9 := .own (.lst (B.map (fDp names)))) (q10 := .val (.int (y : Int))) (q11 := q11) (q12 := q12) (q13 := q13) (q15 := .val (.int (i : Int))) (q16 := q16) (q17 := y17) (q20 := q20) (ptL names (atF B i).2) (.tup [.str "value", .int (vl names w (atF B i) (atP Ps y))]) x19
  refine W_of (iso9 (n := (Ps.length : Int)) (by rw [sizeLine_eq]; omega) (by rw [len_l, List.length_map]) e1 (inR_nat (n := names.length) (by have := h.N.le; omega)) e2 (rwA hi) (rw_at hj) (atA hi) rfl (atA hi) e3 (asked_due h.N (h.at i)) (same_due rfl)) ⟨rfl, d2, _, _, _, _, _, rfl, w2⟩
end
end K11
namespace K11
open PySem PySem.Spec PyProof.Rows L2 L3
local macro_rules | `(tactic| walk_at "ev") => `(tactic| simp (config := {decide := true}) only [W_ok, bind_ok, thn_nx, thn_rt, thn_rn, thn_bk, thn_ct, cVar, cK, c1_e, c1_k, c2_e, c2_k, c2_k2, cB_e, cB_k, cAnd_e, cOr_e, cNot_e, cNot_k, cIte_e, iteK_t, iteK_f, iteK, okB, okV, cAndV_e, cOrV_e, cNotV_e, cNotV_k, cBv_e, aNil, aCons_e, aCons_k, aCons_k2, cTup_e, cTup_k, nLst_e, nLst_k, vN_e, vN_k, cN_e, cN_k, nN_e, nN_k, oNone, oSome_e, oSome_k, cSl_e, cSl_k, cSl_k2, cSl_k3, nSl_e, nSl_k, nSl_k2, nSl_k3, nCat_e, nCat_k, nCat_k2, sNil, sSeq, sFrz, sBrk, sCnt, sExp_e, sExp_k, sRet_e, sRet_k, sRetN_e, sRetN_k, sRetU, sIf_e, sSet_e, sSet_k, sSetN_e, sSetN_k, gSet, gsNil, gsCons_e, gsCons_k, nxK, gTupD, gLstD, sAsg_e, sAsg_k, sAug_e, sAug_k, iL_e, iL_k, iT_e, iT_k, iR1_e, iR1_k, iR2_e, iR2_k, iZ_e, iZ_k, iR3_e, iR3_k, cCh_e, cCh_k, cCh_k2, cCh_k3, nRan_e, nRan_k, r1F_e, r1F_k, r2F_e, r2F_k, r2F_k2, r3F_e, r3F_k, r3F_k2, r3F_k3, intP, sFor_e, run_e, runK_rt, runK_rn, runK_nx, fin, outs, cCall_e, cCall_k, cCall_k2, nCall_e, nCall_k, nCall_k2, callM, sls, lents, wbk, lk, pvD, pvDs, pvs, Sl.dat, Sl.put, gSubD_e, gSubD_k, cM_e, cM_k, cMr_e, cMr_k, cMr_k2, isTy_str, isTy_lst, cGet2_e, cGet2_k, cGet2_k2, cGet2_k3, isDic_d, iRv_e, iRv_k, get2_d, nDic0, pNil, keyD, pCons_e, pCons_k, pCons_k2, pCons_k3, nDic_e, nDic_k, nLc_e, nLc_k, lcB_ok, unAll, backAll, noAdr, setAll, setAllF, List.map_cons, List.map_nil, hOne, cYes, List.all_cons, List.all_nil, Bool.and_true, Bool.true_and, Bool.and_self, Option.map_none, ofO, Rt.d, add_i, mns_i, mul_r, mul_l, div_i, mod_i, neg_i, lt_i, le_i, gt_i, ge_i, int_i, abs_i, len_l, len_t, get_l, get_t, toT_l, toT_t, eq_i, ne_i, eq_s, ne_s, rg_len, isN_non, isN_int, notN_non, notN_int, pow18, isi_int, isi_bool, max_ii, max_l, max_t, sum_l, sum_t, toL_l, toL_t, sl_l, sl_t, sg1, sg2, sg3, sg4, sg5, ss2, ss3, ss4, ss5, List.getElem?_cons_zero, List.getElem?_cons_succ, List.set_cons_zero, List.set_cons_succ, List.length_cons, List.length_nil, List.length_map, List.length_range, List.replicate, List.cons_append, List.nil_append, Option.bind_some, Option.map_some, Option.isSome_some, Option.bind_none, if_true, if_false, reduceIte, decide_eq_true_eq, Bool.false_eq_true, reduceCtorEq, decide_true, decide_false, Bool.not_true, Bool.not_false, *])
local macro_rules | `(tactic| walk_at "evc") => `(tactic| simp (config := {decide := true}) only [at0, at1, at2, at3, set0, set1, set2, ran0, ran1, ran2, ran3, maxI_one, maxI_cons, asI_nil, asI_cons, add_l, add_t, app_l, line_le, line_lt, forL_nil, forL_cons, forL_k, lp_nx, lp_ct, lp_bk, lp_rt, lp_rn, sub_ok, lcL_nil, lcL_cons, lcH_some, lcL_k, lcL_k2, L3.cutD, HT.sIx, List.take_succ_cons, List.take_zero, List.drop_succ_cons, List.drop_zero, List.sum_cons, List.sum_nil, Nat.reduceAdd, Int.reduceSub, Int.reduceAdd, int_lit, Int.reduceToNat, Nat.reduceSub, Nat.min_def, Nat.reduceLeDiff, Int.reduceLT, W_ok, bind_ok, thn_nx, thn_rt, thn_rn, thn_bk, thn_ct, cVar, cK, c1_e, c1_k, c2_e, c2_k, c2_k2, cB_e, cB_k, cAnd_e, cOr_e, cNot_e, cNot_k, cIte_e, iteK_t, iteK_f, iteK, okB, okV, cAndV_e, cOrV_e, cNotV_e, cNotV_k, cBv_e, aNil, aCons_e, aCons_k, aCons_k2, cTup_e, cTup_k, nLst_e, nLst_k, vN_e, vN_k, cN_e, cN_k, nN_e, nN_k, oNone, oSome_e, oSome_k, cSl_e, cSl_k, cSl_k2, cSl_k3, nSl_e, nSl_k, nSl_k2, nSl_k3, nCat_e, nCat_k, nCat_k2, sNil, sSeq, sFrz, sBrk, sCnt, sExp_e, sExp_k, sRet_e, sRet_k, sRetN_e, sRetN_k, sRetU, sIf_e, sSet_e, sSet_k, sSetN_e, sSetN_k, gSet, gsNil, gsCons_e, gsCons_k, nxK, gTupD, gLstD, sAsg_e, sAsg_k, sAug_e, sAug_k, iL_e, iL_k, iT_e, iT_k, iR1_e, iR1_k, iR2_e, iR2_k, iZ_e, iZ_k, iR3_e, iR3_k, cCh_e, cCh_k, cCh_k2, cCh_k3, nRan_e, nRan_k, r1F_e, r1F_k, r2F_e, r2F_k, r2F_k2, r3F_e, r3F_k, r3F_k2, r3F_k3, intP, sFor_e, run_e, runK_rt, runK_rn, runK_nx, fin, outs, cCall_e, cCall_k, cCall_k2, nCall_e, nCall_k, nCall_k2, callM, sls, lents, wbk, lk, pvD, pvDs, pvs, Sl.dat, Sl.put, gSubD_e, gSubD_k, cM_e, cM_k, cMr_e, cMr_k, cMr_k2, isTy_str, isTy_lst, cGet2_e, cGet2_k, cGet2_k2, cGet2_k3, isDic_d, iRv_e, iRv_k, get2_d, nDic0, pNil, keyD, pCons_e, pCons_k, pCons_k2, pCons_k3, nDic_e, nDic_k, nLc_e, nLc_k, lcB_ok, unAll, backAll, noAdr, setAll, setAllF, List.map_cons, List.map_nil, hOne, cYes, List.all_cons, List.all_nil, Bool.and_true, Bool.true_and, Bool.and_self, Option.map_none, ofO, Rt.d, add_i, mns_i, mul_r, mul_l, div_i, mod_i, neg_i, lt_i, le_i, gt_i, ge_i, int_i, abs_i, len_l, len_t, get_l, get_t, toT_l, toT_t, eq_i, ne_i, eq_s, ne_s, rg_len, isN_non, isN_int, notN_non, notN_int, pow18, isi_int, isi_bool, max_ii, max_l, max_t, sum_l, sum_t, toL_l, toL_t, sl_l, sl_t, sg1, sg2, sg3, sg4, sg5, ss2, ss3, ss4, ss5, List.getElem?_cons_zero, List.getElem?_cons_succ, List.set_cons_zero, List.set_cons_succ, List.length_cons, List.length_nil, List.length_map, List.length_range, List.replicate, List.cons_append, List.nil_append, Option.bind_some, Option.map_some, Option.isSome_some, Option.bind_none, if_true, if_false, reduceIte, decide_eq_true_eq, Bool.false_eq_true, reduceCtorEq, decide_true, decide_false, Bool.not_true, Bool.not_false, *])
def dg (i : Nat) : Str := Str.ofString (toString (i : Int))
theorem dg_is : ∀ i < 6, (dg i).cps.toList = [48 + i] := by decide +kernel
def abc : Str := "abcdefghijklmnopqrstuvwxyz"
theorem abc_is : abc.cps.toList = (List.range 26).map fun i => 97 + i := by decide +kernel
theorem abc_len : abc.length = 26 := by decide +kernel
def one (c : Nat) : Str := ⟨#[97 + c]⟩
theorem abc_at {y : Nat} (h : y < 26) : gGet (.str abc) (.int (y : Int)) = some (.str (one y)) := by
  have e : gGet (.str abc) (.int (y : Int)) = (if abc.length ≤ sizeLine then (L2.atI abc.cps.toList (y : Int)).map fun c => D.str ⟨#[c]⟩ else none) := rfl
  rw [e, abc_len, if_pos (by rw [sizeLine_eq]; omega), abc_is, atI_nat (j := y) (v := 97 + y) (by rw [List.getElem?_map, List.getElem?_range h]; rfl)]
  rfl
abbrev okA (a : Array Nat) : Prop := ∀ c ∈ a.toList, c < 0x110000
theorem strOk_of {x : Str} (h : okA x.cps) : PyData.strOk x = true := by
  unfold PyData.strOk
  rw [Array.all_eq_true]
  intro i hi
  exact decide_eq_true (h _ (by simp))
theorem glue_ok : ∀ {l : List Str} {acc : Array Nat}, okA acc → (∀ p ∈ l, okA p.cps) → okA (l.foldl (fun acc p => acc ++ (Str.ofString "").cps ++ p.cps) acc)
  | [], acc, h, _ => h
  | p :: r, acc, h, hp => by
    rw [List.foldl_cons]
    refine glue_ok ?_ fun q hq => hp q (List.mem_cons_of_mem _ hq)
    intro c hc
    rw [Array.toList_append, Array.toList_append] at hc
    rcases List.mem_append.mp hc with q | q
    · rcases List.mem_append.mp q with q | q
      · exact h c q
      · have : (Str.ofString "").cps.toList = [] := by decide +kernel
        rw [this] at q
        simp at q
    · exact hp p List.mem_cons_self c q
theorem join_ok {l : List Str} (h : ∀ p ∈ l, okA p.cps) : okA (Txt.join (Str.ofString "") l).cps := by
  show okA ((l.drop 1).foldl _ (l.headD Str.empty).cps)
  refine glue_ok ?_ fun p hp => h p (List.mem_of_mem_drop hp)
  cases l with
  | nil => intro c hc; simp [Str.empty] at hc
  | cons p r => exact h p List.mem_cons_self
theorem one_ok {y : Nat} (h : y < 26) : okA (one y).cps := fun c hc => by
  simp [one] at hc
  omega
section
variable {d : D} {w : Int} {i m : Nat}
/-- what a name is -/
def Nam (i : Nat) (x : Str) : Prop := ∃ a : Str, okA a.cps ∧ x = a ++ dg i
theorem Nam.ok {x : Str} (h : Nam i x) (hi : i < 6) : PyData.strOk x = true := by
  obtain ⟨a, h1, rfl⟩ := h
  refine strOk_of fun c hc => ?_
  rw [PySem.Str.cps_append, Array.toList_append] at hc
  rcases List.mem_append.mp hc with q | q
  · exact h1 c q
  · rw [dg_is i hi, List.mem_singleton] at q
    omega
theorem Nam.inj {x : Str} {j : Nat} (h : Nam i x) (h2 : Nam j x) (hi : i < 6) (hj : j < 6) : i = j := by
  obtain ⟨a, _, rfl⟩ := h
  obtain ⟨b, _, e⟩ := h2
  have e1 : (a ++ dg i).cps.toList = (b ++ dg j).cps.toList := by rw [e]
  rw [PySem.Str.cps_append, PySem.Str.cps_append, Array.toList_append, Array.toList_append, dg_is i hi, dg_is j hj] at e1
  have := congrArg List.getLast? e1
  simp at this
  exact this
theorem chan_turn (hw : Wf d) (hi : i < 6) {q1 q5 : Sl} {L : List Str} (hL : L.length ≤ 10) :
    W (s__law_channels_2 [.bor d, q1, .val (.str abc), .own (.lst (L.map D.str)), .val (.int (i : Int)), q5, .un])
      (fun fl ρ => fl = .nx ∧ ∃ (d' : D) (x : Str) (q5 : Sl), ρ = [.bor d', q1, .val (.str abc), .own (.lst ((L ++ [x]).map D.str)), .val (.int (i : Int)), q5, .un] ∧ Wf d' ∧ Nam i x) := by
  obtain ⟨y, d1, e1, l1, u1, w1⟩ := draw_ok hw (many := 8) (by decide) (by decide)
  obtain ⟨n, hn⟩ : ∃ n : Nat, 1 + y = n := ⟨(1 + y).toNat, by omega⟩
  obtain ⟨acc, ρ', e2, hl2, ds, d2, r1, r2, w2, hd2⟩ := lcL_fold (is := [6]) (h := hOne) (c := cYes) (e := e__law_channels_1)
      (fun k acc ρ => ∃ (ds : List Str) (d' : D), ρ = [.bor d', q1, .val (.str abc), .own (.lst (L.map D.str)), .val (.int (i : Int)), q5, .un] ∧ acc = ds.map D.str ∧ Wf d' ∧ ∀ p ∈ ds, okA p.cps ∧ p.length = 1) (rangeD 0 (n : Int)) (by rw [ran_len, sizeLine_eq]; omega)
      (by
        rintro k acc ρ x hx ⟨ds, d', rfl, rfl, w', hd⟩
        obtain ⟨z, d3, e3, l3, u3, w3⟩ := draw_ok w' (many := 26) (by decide) (by decide)
        obtain ⟨z, rfl⟩ := Int.eq_ofNat_of_zero_le l3
        have hz : z < 26 := by omega
        have g := abc_at hz
        refine ⟨[x], [.bor d', q1, .val (.str abc), .own (.lst (L.map D.str)), .val (.int (i : Int)), q5, .val x], .str (one z), [.bor d3, q1, .val (.str abc), .own (.lst (L.map D.str)), .val (.int (i : Int)), q5, .val x], rfl, rfl, ?_, ds ++ [one z], d3, rfl, by rw [List.map_append]; rfl, w3, fun p hp => ?_⟩
        · clear hx hd e1 w' w3 l3 u3
          generalize abc = AB at *
          unfold e__law_channels_1
          walk_at "ev"
        · rcases List.mem_append.mp hp with q | q
          · exact hd p q
          · rw [List.mem_singleton.mp q]
            exact ⟨one_ok hz, rfl⟩) 0 [] [.bor d1, q1, .val (.str abc), .own (.lst (L.map D.str)), .val (.int (i : Int)), q5, .un] (Nat.zero_le _) rfl ⟨[], d1, rfl, rfl, w1, fun p hp => by simp at hp⟩
  subst r1 r2
  rw [List.drop_zero] at e2
  rw [ran_len, List.length_map] at hl2
  have s1 : (ds.map (·.length)).sum = ds.length := by
    have : ∀ l : List Str, (∀ p ∈ l, p.length = 1) → (l.map (·.length)).sum = l.length := by
      intro l
      induction l with
      | nil => intro _; rfl
      | cons p r ih =>
        intro h
        rw [List.map_cons, List.sum_cons, ih fun q hq => h q (List.mem_cons_of_mem _ hq), h p List.mem_cons_self, List.length_cons]
        omega
    exact this ds fun p hp => (hd2 p hp).2
  have g1 : gJoin (.str "") [.lst (ds.map D.str)] = some (.str (Txt.join (Str.ofString "") ds)) := by
    show (asStrs (ds.map D.str)).bind _ = _
    rw [asStrs_map, Option.bind_some, if_pos (by
      rw [s1, show (Str.ofString "").length = 0 from by decide +kernel]
      omega)]
  have g2 : gStr [.int (i : Int)] = some (.str (dg i)) := by
    show (if _ then _ else _) = _
    rw [if_pos (by
      have h0 : ((i : Int)).natAbs = i := Int.natAbs_natCast i
      rw [h0]
      have := Nat.log2_le_self i
      omega)]
    rfl
  have jl : (Txt.join (Str.ofString "") ds).length = ds.length := PySem.W.KT.join_ones ds fun a ha => (hd2 a ha).2
  have dl : (dg i).length = 1 := by
    show (dg i).cps.size = 1
    rw [← Array.length_toList, dg_is i hi]; rfl
  have g3 : gAdd (.str (Txt.join (Str.ofString "") ds)) (.str (dg i)) = some (.str (Txt.join (Str.ofString "") ds ++ dg i)) := by
    show (if _ then _ else _) = _
    rw [if_pos (by rw [jl, dl, sizeLine_eq]; omega)]
  have ap : ∀ x, gAppend (.lst (L.map D.str)) [x] = some (.non, .lst (L.map D.str ++ [x])) := fun x => app_l (by rw [List.length_map, sizeLine_eq]; omega)
  have ir := inR_nat (n := n) (by omega)
  have jo := join_ok fun p hp => (hd2 p hp).1
  generalize Txt.join (Str.ofString "") ds = J at *
  generalize ds.map D.str = DS at *
  have fin : (L ++ [J ++ dg i]).map D.str = L.map D.str ++ [D.str (J ++ dg i)] := by rw [List.map_append]; rfl
  refine W.imp (P := fun fl ρ => fl = .nx ∧ ρ = [.bor d2, q1, .val (.str abc), .own (.lst (L.map D.str ++ [D.str (J ++ dg i)])), .val (.int (i : Int)), .val (.lst DS), .un]) ?_ fun fl ρ ⟨r1, r2⟩ => ⟨r1, d2, J ++ dg i, .val (.lst DS), by rw [r2, fin], w2, J, jo, rfl⟩
  clear fin jo hd2 s1 jl dl hl2 l1 u1 hw w1 w2 hi hL
  generalize J ++ dg i = JD at *
  generalize dg i = DG at *
  generalize L.map D.str = LL at *
  generalize abc = AB at *
  unfold s__law_channels_2
  walk_at "ev"
end
end K11
namespace K11
open PySem PySem.Spec PyProof.Rows L2 L3
local macro_rules | `(tactic| walk_at "ev") => `(tactic| simp (config := {decide := true}) only [W_ok, bind_ok, thn_nx, thn_rt, thn_rn, thn_bk, thn_ct, cVar, cK, c1_e, c1_k, c2_e, c2_k, c2_k2, cB_e, cB_k, cAnd_e, cOr_e, cNot_e, cNot_k, cIte_e, iteK_t, iteK_f, iteK, okB, okV, cAndV_e, cOrV_e, cNotV_e, cNotV_k, cBv_e, aNil, aCons_e, aCons_k, aCons_k2, cTup_e, cTup_k, nLst_e, nLst_k, vN_e, vN_k, cN_e, cN_k, nN_e, nN_k, oNone, oSome_e, oSome_k, cSl_e, cSl_k, cSl_k2, cSl_k3, nSl_e, nSl_k, nSl_k2, nSl_k3, nCat_e, nCat_k, nCat_k2, sNil, sSeq, sFrz, sBrk, sCnt, sExp_e, sExp_k, sRet_e, sRet_k, sRetN_e, sRetN_k, sRetU, sIf_e, sSet_e, sSet_k, sSetN_e, sSetN_k, gSet, gsNil, gsCons_e, gsCons_k, nxK, gTupD, gLstD, sAsg_e, sAsg_k, sAug_e, sAug_k, iL_e, iL_k, iT_e, iT_k, iR1_e, iR1_k, iR2_e, iR2_k, iZ_e, iZ_k, iR3_e, iR3_k, cCh_e, cCh_k, cCh_k2, cCh_k3, nRan_e, nRan_k, r1F_e, r1F_k, r2F_e, r2F_k, r2F_k2, r3F_e, r3F_k, r3F_k2, r3F_k3, intP, sFor_e, run_e, runK_rt, runK_rn, runK_nx, fin, outs, cCall_e, cCall_k, cCall_k2, nCall_e, nCall_k, nCall_k2, callM, sls, lents, wbk, lk, pvD, pvDs, pvs, Sl.dat, Sl.put, gSubD_e, gSubD_k, cM_e, cM_k, cMr_e, cMr_k, cMr_k2, isTy_str, isTy_lst, cGet2_e, cGet2_k, cGet2_k2, cGet2_k3, isDic_d, iRv_e, iRv_k, get2_d, nDic0, pNil, keyD, pCons_e, pCons_k, pCons_k2, pCons_k3, nDic_e, nDic_k, nLc_e, nLc_k, lcB_ok, unAll, backAll, noAdr, setAll, setAllF, List.map_cons, List.map_nil, hOne, cYes, List.all_cons, List.all_nil, Bool.and_true, Bool.true_and, Bool.and_self, Option.map_none, ofO, Rt.d, add_i, mns_i, mul_r, mul_l, div_i, mod_i, neg_i, lt_i, le_i, gt_i, ge_i, int_i, abs_i, len_l, len_t, get_l, get_t, toT_l, toT_t, eq_i, ne_i, eq_s, ne_s, rg_len, isN_non, isN_int, notN_non, notN_int, pow18, isi_int, isi_bool, max_ii, max_l, max_t, sum_l, sum_t, toL_l, toL_t, sl_l, sl_t, sg1, sg2, sg3, sg4, sg5, ss2, ss3, ss4, ss5, List.getElem?_cons_zero, List.getElem?_cons_succ, List.set_cons_zero, List.set_cons_succ, List.length_cons, List.length_nil, List.length_map, List.length_range, List.replicate, List.cons_append, List.nil_append, Option.bind_some, Option.map_some, Option.isSome_some, Option.bind_none, if_true, if_false, reduceIte, decide_eq_true_eq, Bool.false_eq_true, reduceCtorEq, decide_true, decide_false, Bool.not_true, Bool.not_false, *])
local macro_rules | `(tactic| walk_at "evc") => `(tactic| simp (config := {decide := true}) only [at0, at1, at2, at3, set0, set1, set2, ran0, ran1, ran2, ran3, maxI_one, maxI_cons, asI_nil, asI_cons, add_l, add_t, app_l, line_le, line_lt, forL_nil, forL_cons, forL_k, lp_nx, lp_ct, lp_bk, lp_rt, lp_rn, sub_ok, lcL_nil, lcL_cons, lcH_some, lcL_k, lcL_k2, L3.cutD, HT.sIx, List.take_succ_cons, List.take_zero, List.drop_succ_cons, List.drop_zero, List.sum_cons, List.sum_nil, Nat.reduceAdd, Int.reduceSub, Int.reduceAdd, int_lit, Int.reduceToNat, Nat.reduceSub, Nat.min_def, Nat.reduceLeDiff, Int.reduceLT, W_ok, bind_ok, thn_nx, thn_rt, thn_rn, thn_bk, thn_ct, cVar, cK, c1_e, c1_k, c2_e, c2_k, c2_k2, cB_e, cB_k, cAnd_e, cOr_e, cNot_e, cNot_k, cIte_e, iteK_t, iteK_f, iteK, okB, okV, cAndV_e, cOrV_e, cNotV_e, cNotV_k, cBv_e, aNil, aCons_e, aCons_k, aCons_k2, cTup_e, cTup_k, nLst_e, nLst_k, vN_e, vN_k, cN_e, cN_k, nN_e, nN_k, oNone, oSome_e, oSome_k, cSl_e, cSl_k, cSl_k2, cSl_k3, nSl_e, nSl_k, nSl_k2, nSl_k3, nCat_e, nCat_k, nCat_k2, sNil, sSeq, sFrz, sBrk, sCnt, sExp_e, sExp_k, sRet_e, sRet_k, sRetN_e, sRetN_k, sRetU, sIf_e, sSet_e, sSet_k, sSetN_e, sSetN_k, gSet, gsNil, gsCons_e, gsCons_k, nxK, gTupD, gLstD, sAsg_e, sAsg_k, sAug_e, sAug_k, iL_e, iL_k, iT_e, iT_k, iR1_e, iR1_k, iR2_e, iR2_k, iZ_e, iZ_k, iR3_e, iR3_k, cCh_e, cCh_k, cCh_k2, cCh_k3, nRan_e, nRan_k, r1F_e, r1F_k, r2F_e, r2F_k, r2F_k2, r3F_e, r3F_k, r3F_k2, r3F_k3, intP, sFor_e, run_e, runK_rt, runK_rn, runK_nx, fin, outs, cCall_e, cCall_k, cCall_k2, nCall_e, nCall_k, nCall_k2, callM, sls, lents, wbk, lk, pvD, pvDs, pvs, Sl.dat, Sl.put, gSubD_e, gSubD_k, cM_e, cM_k, cMr_e, cMr_k, cMr_k2, isTy_str, isTy_lst, cGet2_e, cGet2_k, cGet2_k2, cGet2_k3, isDic_d, iRv_e, iRv_k, get2_d, nDic0, pNil, keyD, pCons_e, pCons_k, pCons_k2, pCons_k3, nDic_e, nDic_k, nLc_e, nLc_k, lcB_ok, unAll, backAll, noAdr, setAll, setAllF, List.map_cons, List.map_nil, hOne, cYes, List.all_cons, List.all_nil, Bool.and_true, Bool.true_and, Bool.and_self, Option.map_none, ofO, Rt.d, add_i, mns_i, mul_r, mul_l, div_i, mod_i, neg_i, lt_i, le_i, gt_i, ge_i, int_i, abs_i, len_l, len_t, get_l, get_t, toT_l, toT_t, eq_i, ne_i, eq_s, ne_s, rg_len, isN_non, isN_int, notN_non, notN_int, pow18, isi_int, isi_bool, max_ii, max_l, max_t, sum_l, sum_t, toL_l, toL_t, sl_l, sl_t, sg1, sg2, sg3, sg4, sg5, ss2, ss3, ss4, ss5, List.getElem?_cons_zero, List.getElem?_cons_succ, List.set_cons_zero, List.set_cons_succ, List.length_cons, List.length_nil, List.length_map, List.length_range, List.replicate, List.cons_append, List.nil_append, Option.bind_some, Option.map_some, Option.isSome_some, Option.bind_none, if_true, if_false, reduceIte, decide_eq_true_eq, Bool.false_eq_true, reduceCtorEq, decide_true, decide_false, Bool.not_true, Bool.not_false, *])
section
variable {d : D} {w : Int} {i m : Nat} {names : List Str}
theorem chan_ok (hw : Wf d) (hm : m ≤ 6) : ∃ (names : List Str) (d' : D), m__law_channels [.bor d, .val (.int m)] = .ok (.n (.lst (names.map D.str))) [.bor d', .un] ∧ names.length = m ∧ (∀ j (h : j < names.length), Nam j names[j]) ∧ Wf d' := by
  have key : W (forL (gSet 4) s__law_channels_2 (rangeD 0 (m : Int)) [.bor d, .val (.int m), .val (.str abc), .own (.lst []), .un, .un, .un])
      (fun fl ρ => fl = .nx ∧ ∃ (d' : D) (names : List Str) (y4 y5 : Sl), ρ = [.bor d', .val (.int m), .val (.str abc), .own (.lst (names.map D.str)), y4, y5, .un] ∧ Wf d' ∧ names.length = m ∧ ∀ j (h : j < names.length), Nam j names[j]) := by
    refine forL_all (I := fun k ρ => k ≤ m ∧ ∃ (d' : D) (names : List Str) (y4 y5 : Sl), ρ = [.bor d', .val (.int m), .val (.str abc), .own (.lst (names.map D.str)), y4, y5, .un] ∧ Wf d' ∧ names.length = k ∧ ∀ j (h : j < names.length), Nam j names[j]) ⟨Nat.zero_le _, d, [], _, _, rfl, hw, rfl, fun j h => by simp at h⟩ ?_ ?_
    · rintro ρ ⟨_, d', names, y4, y5, rfl, w', h1, h2⟩
      rw [ran_len] at h1
      exact ⟨rfl, d', names, _, _, rfl, w', h1, h2⟩
    · rintro k ρ p hd ⟨_, d', names, y4, y5, rfl, w', h1, h2⟩
      obtain ⟨rfl, hk⟩ := ran_nat hd
      refine ⟨_, rfl, ?_⟩
      refine W.imp (chan_turn (q1 := .val (.int m)) (q5 := y5) (i := k) w' (by omega) (by omega)) fun fl ρ ⟨r1, d2, x, q5, r2, r3, r4⟩ => ?_
      subst r1 r2
      refine ⟨hk, d2, names ++ [x], _, _, rfl, r3, by rw [List.length_append, h1]; rfl, fun j hj => ?_⟩
      by_cases e : j < names.length
      · rw [List.getElem_append_left e]
        exact h2 j e
      · have : j = names.length := by rw [List.length_append] at hj; simp at hj; omega
        subst this
        rw [List.getElem_append_right (Nat.le_refl _)]
        simpa [h1] using r4
  obtain ⟨fl, ρ, e, rfl, d', names, y4, y5, rfl, w', h1, h2⟩ := key.ok
  refine ⟨names, d', ?_, h1, h2, w'⟩
  have ir := inR_nat (n := m) (by omega)
  have z0 : (0 : Nat) ≤ sizeLine := Nat.zero_le _
  have ea : (.str abc : D) = .str "abcdefghijklmnopqrstuvwxyz" := rfl
  rw [ea] at e
  clear key h1 h2 hw hm w' ea
  generalize names.map D.str = NL at *
  unfold m__law_channels g__law_channels
  walk_at "ev"
theorem names_ok (h : ∀ j (h : j < names.length), Nam j names[j]) (h6 : names.length ≤ 6) (h0 : 0 < names.length) (w0 : 2 ≤ w) (w1 : w ≤ 1000) : Nm names w ∧ Lay names := by
  refine ⟨⟨?_, h6, h0, w0, w1⟩, fun x hx => ?_⟩
  · unfold List.Nodup
    rw [List.pairwise_iff_getElem]
    intro i j hi hj hij e
    have := Nam.inj (h i hi) (e ▸ h j hj) (by omega) (by omega)
    omega
  · obtain ⟨i, hi, rfl⟩ := List.mem_iff_getElem.mp hx
    exact (h i hi).ok (by omega)
/-! ### points by places -/
def toP (names : List Str) (f : Nat → Int) : Str → Int := fun x => f (ixS x names)
theorem ixS_at : ∀ {names : List Str}, names.Nodup → ∀ k (h : k < names.length), ixS names[k] names = k
  | [], _, k, h => by simp at h
  | x :: r, hn, 0, _ => by rw [List.getElem_cons_zero, ixS, if_pos rfl]
  | x :: r, hn, k + 1, h => by
    rw [List.nodup_cons] at hn
    have hk : k < r.length := by simpa using h
    rw [List.getElem_cons_succ, ixS, if_neg (fun e : x = r[k] => hn.1 (by rw [e]; exact List.getElem_mem hk)), ixS_at hn.2 k hk]
theorem ptD_rg (hn : names.Nodup) {f : Nat → Int} : ptD names (toP names f) = .tup (rg names.length fun k => .int (f k)) := by
  unfold ptD
  rw [show names.map (fun x => D.int (toP names f x)) = rg names.length fun k => D.int (toP names f (names.getD k "")) from map_rg]
  congr 1
  refine rg_congr fun k hk => ?_
  unfold toP
  have : names.getD k "" = names[k] := by rw [List.getD_eq_getElem?_getD, List.getElem?_eq_getElem hk]; rfl
  rw [this, ixS_at hn k hk]
/-- the law's points, by places -/
structure Fs (m : Nat) (w : Int) (fs : List (Nat → Int)) : Prop where
  lt : m < fs.length
  le : fs.length ≤ 1000
  z : ∀ (h : 0 < fs.length), ∀ k < m, fs[0] k = 0
  u : ∀ (j : Nat) (h : j + 1 < fs.length), j < m → ∀ k < m, fs[j + 1] k = if k = j then 1 else 0
  b : ∀ f ∈ fs, ∀ k < m, 0 ≤ f k ∧ f k < w
theorem pts_of (N : Nm names w) {fs : List (Nat → Int)} (h : Fs names.length w fs) : Pt names w (fs.map (toP names)) := by
  refine ⟨by rw [List.length_map]; exact h.lt, by rw [List.length_map]; exact h.le, fun h0 x hx => ?_, fun j hj hjm x hx => ?_, fun P hP x hx => ?_⟩
  · obtain ⟨hi, _⟩ := ixS_ok hx
    rw [List.getElem_map]
    exact h.z (by simpa using h0) _ hi
  · obtain ⟨hi, he⟩ := ixS_ok hx
    rw [List.getElem_map]
    have hj' : j + 1 < fs.length := by simpa using hj
    show fs[j + 1] (ixS x names) = _
    rw [h.u j hj' hjm _ hi]
    by_cases e : ixS x names = j
    · subst e
      rw [if_pos rfl, if_pos he.symm]
    · rw [if_neg e, if_neg fun q => e (by rw [q]; exact ixS_at N.nd j hjm)]
  · obtain ⟨f, hf, rfl⟩ := List.mem_map.mp hP
    obtain ⟨hi, _⟩ := ixS_ok hx
    exact h.b f hf _ hi
theorem pts_data (hn : names.Nodup) {fs : List (Nat → Int)} : (fs.map (toP names)).map (ptD names) = fs.map fun f => .tup (rg names.length fun k => .int (f k)) := by
  rw [List.map_map]
  exact List.map_congr_left fun f _ => ptD_rg hn
end
end K11
namespace K11
open PySem PySem.Spec PyProof.Rows L2 L3
local macro_rules | `(tactic| walk_at "ev") => `(tactic| simp (config := {decide := true}) only [W_ok, bind_ok, thn_nx, thn_rt, thn_rn, thn_bk, thn_ct, cVar, cK, c1_e, c1_k, c2_e, c2_k, c2_k2, cB_e, cB_k, cAnd_e, cOr_e, cNot_e, cNot_k, cIte_e, iteK_t, iteK_f, iteK, okB, okV, cAndV_e, cOrV_e, cNotV_e, cNotV_k, cBv_e, aNil, aCons_e, aCons_k, aCons_k2, cTup_e, cTup_k, nLst_e, nLst_k, vN_e, vN_k, cN_e, cN_k, nN_e, nN_k, oNone, oSome_e, oSome_k, cSl_e, cSl_k, cSl_k2, cSl_k3, nSl_e, nSl_k, nSl_k2, nSl_k3, nCat_e, nCat_k, nCat_k2, sNil, sSeq, sFrz, sBrk, sCnt, sExp_e, sExp_k, sRet_e, sRet_k, sRetN_e, sRetN_k, sRetU, sIf_e, sSet_e, sSet_k, sSetN_e, sSetN_k, gSet, gsNil, gsCons_e, gsCons_k, nxK, gTupD, gLstD, sAsg_e, sAsg_k, sAug_e, sAug_k, iL_e, iL_k, iT_e, iT_k, iR1_e, iR1_k, iR2_e, iR2_k, iZ_e, iZ_k, iR3_e, iR3_k, cCh_e, cCh_k, cCh_k2, cCh_k3, nRan_e, nRan_k, r1F_e, r1F_k, r2F_e, r2F_k, r2F_k2, r3F_e, r3F_k, r3F_k2, r3F_k3, intP, sFor_e, run_e, runK_rt, runK_rn, runK_nx, fin, outs, cCall_e, cCall_k, cCall_k2, nCall_e, nCall_k, nCall_k2, callM, sls, lents, wbk, lk, pvD, pvDs, pvs, Sl.dat, Sl.put, gSubD_e, gSubD_k, cM_e, cM_k, cMr_e, cMr_k, cMr_k2, isTy_str, isTy_lst, cGet2_e, cGet2_k, cGet2_k2, cGet2_k3, isDic_d, iRv_e, iRv_k, get2_d, nDic0, pNil, keyD, pCons_e, pCons_k, pCons_k2, pCons_k3, nDic_e, nDic_k, nLc_e, nLc_k, lcB_ok, unAll, backAll, noAdr, setAll, setAllF, List.map_cons, List.map_nil, hOne, cYes, List.all_cons, List.all_nil, Bool.and_true, Bool.true_and, Bool.and_self, Option.map_none, ofO, Rt.d, add_i, mns_i, mul_r, mul_l, div_i, mod_i, neg_i, lt_i, le_i, gt_i, ge_i, int_i, abs_i, len_l, len_t, get_l, get_t, toT_l, toT_t, eq_i, ne_i, eq_s, ne_s, rg_len, isN_non, isN_int, notN_non, notN_int, pow18, isi_int, isi_bool, max_ii, max_l, max_t, sum_l, sum_t, toL_l, toL_t, sl_l, sl_t, sg1, sg2, sg3, sg4, sg5, ss2, ss3, ss4, ss5, List.getElem?_cons_zero, List.getElem?_cons_succ, List.set_cons_zero, List.set_cons_succ, List.length_cons, List.length_nil, List.length_map, List.length_range, List.replicate, List.cons_append, List.nil_append, Option.bind_some, Option.map_some, Option.isSome_some, Option.bind_none, if_true, if_false, reduceIte, decide_eq_true_eq, Bool.false_eq_true, reduceCtorEq, decide_true, decide_false, Bool.not_true, Bool.not_false, *])
local macro_rules | `(tactic| walk_at "evc") => `(tactic| simp (config := {decide := true}) only [at0, at1, at2, at3, set0, set1, set2, ran0, ran1, ran2, ran3, maxI_one, maxI_cons, asI_nil, asI_cons, add_l, add_t, app_l, line_le, line_lt, forL_nil, forL_cons, forL_k, lp_nx, lp_ct, lp_bk, lp_rt, lp_rn, sub_ok, lcL_nil, lcL_cons, lcH_some, lcL_k, lcL_k2, L3.cutD, HT.sIx, List.take_succ_cons, List.take_zero, List.drop_succ_cons, List.drop_zero, List.sum_cons, List.sum_nil, Nat.reduceAdd, Int.reduceSub, Int.reduceAdd, int_lit, Int.reduceToNat, Nat.reduceSub, Nat.min_def, Nat.reduceLeDiff, Int.reduceLT, W_ok, bind_ok, thn_nx, thn_rt, thn_rn, thn_bk, thn_ct, cVar, cK, c1_e, c1_k, c2_e, c2_k, c2_k2, cB_e, cB_k, cAnd_e, cOr_e, cNot_e, cNot_k, cIte_e, iteK_t, iteK_f, iteK, okB, okV, cAndV_e, cOrV_e, cNotV_e, cNotV_k, cBv_e, aNil, aCons_e, aCons_k, aCons_k2, cTup_e, cTup_k, nLst_e, nLst_k, vN_e, vN_k, cN_e, cN_k, nN_e, nN_k, oNone, oSome_e, oSome_k, cSl_e, cSl_k, cSl_k2, cSl_k3, nSl_e, nSl_k, nSl_k2, nSl_k3, nCat_e, nCat_k, nCat_k2, sNil, sSeq, sFrz, sBrk, sCnt, sExp_e, sExp_k, sRet_e, sRet_k, sRetN_e, sRetN_k, sRetU, sIf_e, sSet_e, sSet_k, sSetN_e, sSetN_k, gSet, gsNil, gsCons_e, gsCons_k, nxK, gTupD, gLstD, sAsg_e, sAsg_k, sAug_e, sAug_k, iL_e, iL_k, iT_e, iT_k, iR1_e, iR1_k, iR2_e, iR2_k, iZ_e, iZ_k, iR3_e, iR3_k, cCh_e, cCh_k, cCh_k2, cCh_k3, nRan_e, nRan_k, r1F_e, r1F_k, r2F_e, r2F_k, r2F_k2, r3F_e, r3F_k, r3F_k2, r3F_k3, intP, sFor_e, run_e, runK_rt, runK_rn, runK_nx, fin, outs, cCall_e, cCall_k, cCall_k2, nCall_e, nCall_k, nCall_k2, callM, sls, lents, wbk, lk, pvD, pvDs, pvs, Sl.dat, Sl.put, gSubD_e, gSubD_k, cM_e, cM_k, cMr_e, cMr_k, cMr_k2, isTy_str, isTy_lst, cGet2_e, cGet2_k, cGet2_k2, cGet2_k3, isDic_d, iRv_e, iRv_k, get2_d, nDic0, pNil, keyD, pCons_e, pCons_k, pCons_k2, pCons_k3, nDic_e, nDic_k, nLc_e, nLc_k, lcB_ok, unAll, backAll, noAdr, setAll, setAllF, List.map_cons, List.map_nil, hOne, cYes, List.all_cons, List.all_nil, Bool.and_true, Bool.true_and, Bool.and_self, Option.map_none, ofO, Rt.d, add_i, mns_i, mul_r, mul_l, div_i, mod_i, neg_i, lt_i, le_i, gt_i, ge_i, int_i, abs_i, len_l, len_t, get_l, get_t, toT_l, toT_t, eq_i, ne_i, eq_s, ne_s, rg_len, isN_non, isN_int, notN_non, notN_int, pow18, isi_int, isi_bool, max_ii, max_l, max_t, sum_l, sum_t, toL_l, toL_t, sl_l, sl_t, sg1, sg2, sg3, sg4, sg5, ss2, ss3, ss4, ss5, List.getElem?_cons_zero, List.getElem?_cons_succ, List.set_cons_zero, List.set_cons_succ, List.length_cons, List.length_nil, List.length_map, List.length_range, List.replicate, List.cons_append, List.nil_append, Option.bind_some, Option.map_some, Option.isSome_some, Option.bind_none, if_true, if_false, reduceIte, decide_eq_true_eq, Bool.false_eq_true, reduceCtorEq, decide_true, decide_false, Bool.not_true, Bool.not_false, *])
section
variable {d : D} {w : Int} {i m : Nat} {names : List Str} {fs : List (Nat → Int)}
def rD (m : Nat) (f : Nat → Int) : D := .tup (rg m fun k => .int (f k))
theorem unit_turn (hm : m ≤ 6) (hl : fs.length ≤ 500) {q0 q2 x5 x6 x7 x8 x9 : Sl} :
    s__law_rows_of_words_3 [q0, .val (.int m), q2, .own (.lst (fs.map (rD m))), .val (.int (i : Int)), x5, x6, x7, x8, x9, .un] =
      .ok .nx [q0, .val (.int m), q2, .own (.lst ((fs ++ [fun k => if k = i then 1 else 0]).map (rD m))), .val (.int (i : Int)), x5, x6, x7, x8, x9, .un] := by
  have e1 := lcL_rg (e := e__law_rows_of_words_2) (ρ := [q0, .val (.int m), q2, .own (.lst (fs.map (rD m))), .val (.int (i : Int)), x5, x6, x7, x8, x9, .un]) (i0 := 10) (n := m) (f := fun k => .int (if k = i then 1 else 0)) (by omega) fun k hk => by
    have g2 : gInt [.bl (decide ((k : Int) = (i : Int)))] = some (.int (if k = i then 1 else 0)) := by
      by_cases e : k = i
      · rw [if_pos e, decide_eq_true (by omega)]; rfl
      · rw [if_neg e, decide_eq_false (by omega)]; rfl
    clear hk hm hl
    generalize fs.map (rD m) = R at *
    generalize (if k = i then (1 : Int) else 0) = u at *
    unfold e__law_rows_of_words_2
    walk_at "ev"
    exact ⟨_, rfl, rfl⟩
  have ap : ∀ x, gAppend (.lst (fs.map (rD m))) [x] = some (.non, .lst (fs.map (rD m) ++ [x])) := fun x => app_l (by rw [List.length_map, sizeLine_eq]; omega)
  have ir := inR_nat (n := m) (by omega)
  rw [List.map_append, show [fun k => if k = i then (1 : Int) else 0].map (rD m) = [D.tup (rg m fun k => .int (if k = i then 1 else 0))] from rfl]
  clear hm hl
  generalize fs.map (rD m) = R at *
  generalize (rg m fun k => D.int (if k = i then 1 else 0)) = U at *
  unfold s__law_rows_of_words_3
  walk_at "ev"
theorem mul_turn {W0 w : Int} (hb : b64 w = true) {q0 q1 q3 x4 x6 x7 x8 x9 x10 : Sl} :
    s__law_rows_of_words_4 [q0, q1, .val (.int w), q3, x4, .val (.int W0), x6, x7, x8, x9, x10] = .ok .nx [q0, q1, .val (.int w), q3, x4, .val (.int (W0 * w)), x6, x7, x8, x9, x10] := by
  have e := mul_r (a := W0) hb
  unfold s__law_rows_of_words_4
  walk_at "ev"
theorem draws_turn (hw : Wf d) (hm : m ≤ 6) (hl : fs.length ≤ 500) (w0 : 0 < w) (w1 : w ≤ 1000) {x4 x5 x6 x7 x8 x9 : Sl} :
    W (s__law_rows_of_words_6 [.bor d, .val (.int m), .val (.int w), .own (.lst (fs.map (rD m))), x4, x5, x6, x7, x8, x9, .un])
      (fun fl ρ => fl = .nx ∧ ∃ (d' : D) (f : Nat → Int), ρ = [.bor d', .val (.int m), .val (.int w), .own (.lst ((fs ++ [f]).map (rD m))), x4, x5, x6, x7, x8, x9, .un] ∧ Wf d' ∧ ∀ k < m, 0 ≤ f k ∧ f k < w) := by
  obtain ⟨acc, ρ', e2, hl2, d2, f, r1, r2, w2, hf⟩ := lcL_fold (is := [10]) (h := hOne) (c := cYes) (e := e__law_rows_of_words_5)
      (fun k acc ρ => ∃ (d' : D) (f : Nat → Int), ρ = [.bor d', .val (.int m), .val (.int w), .own (.lst (fs.map (rD m))), x4, x5, x6, x7, x8, x9, .un] ∧ acc = (rg k fun j => D.int (f j)) ∧ Wf d' ∧ ∀ j < k, 0 ≤ f j ∧ f j < w) (rangeD 0 (m : Int)) (by rw [ran_len, sizeLine_eq]; omega)
      (by
        rintro k acc ρ x hx ⟨d', f, rfl, rfl, w', hf⟩
        obtain ⟨z, d3, e3, l3, u3, w3⟩ := draw_ok w' (many := w) (by omega) (by omega)
        refine ⟨[x], [.bor d', .val (.int m), .val (.int w), .own (.lst (fs.map (rD m))), x4, x5, x6, x7, x8, x9, .val x], .int z, [.bor d3, .val (.int m), .val (.int w), .own (.lst (fs.map (rD m))), x4, x5, x6, x7, x8, x9, .val x], rfl, rfl, ?_, d3, fun j => if j = k then z else f j, rfl, ?_, w3, fun j hj => ?_⟩
        · clear hx hf w' w3 l3 u3 w0 w1 hm hl
          generalize fs.map (rD m) = R at *
          unfold e__law_rows_of_words_5
          walk_at "ev"
        · rw [← rg_succ]
          dsimp only
          rw [if_pos rfl, rg_congr (n := k) (f := fun j => D.int (f j)) (g := fun j => D.int (if j = k then z else f j)) fun j hj => by rw [if_neg (by omega)]]
        · by_cases e : j = k
          · simp only [if_pos e]; exact ⟨l3, u3⟩
          · simp only [if_neg e]; exact hf j (by omega)) 0 [] [.bor d, .val (.int m), .val (.int w), .own (.lst (fs.map (rD m))), x4, x5, x6, x7, x8, x9, .un] (Nat.zero_le _) rfl ⟨d, fun _ => 0, rfl, rfl, hw, fun j hj => by omega⟩
  subst r1 r2
  rw [List.drop_zero, ran_len] at e2
  rw [ran_len] at hf
  have ap : ∀ x, gAppend (.lst (fs.map (rD m))) [x] = some (.non, .lst (fs.map (rD m) ++ [x])) := fun x => app_l (by rw [List.length_map, sizeLine_eq]; omega)
  have ir := inR_nat (n := m) (by omega)
  have fin : (fs ++ [f]).map (rD m) = fs.map (rD m) ++ [D.tup (rg m fun k => .int (f k))] := by rw [List.map_append]; rfl
  refine W.imp (P := fun fl ρ => fl = .nx ∧ ρ = [.bor d2, .val (.int m), .val (.int w), .own (.lst (fs.map (rD m) ++ [D.tup (rg m fun k => .int (f k))])), x4, x5, x6, x7, x8, x9, .un]) ?_ fun fl ρ ⟨r1, r2⟩ => ⟨r1, d2, f, by rw [r2, fin], w2, hf⟩
  clear fin hf hw w2 hl2 hm hl w0 w1
  generalize fs.map (rD m) = R at *
  generalize (rg m fun k => D.int (f k)) = U at *
  unfold s__law_rows_of_words_6
  walk_at "ev"
theorem digit_turn {acc : List D} {left : Int} (w0 : 0 < w) (w1 : w ≤ 1000) (ha : acc.length ≤ 100) {q0 q1 q3 x4 x5 x6 x7 x10 : Sl} :
    s__law_rows_of_words_7 [q0, q1, .val (.int w), q3, x4, x5, x6, x7, .own (.lst acc), .val (.int left), x10] =
      .ok .nx [q0, q1, .val (.int w), q3, x4, x5, x6, x7, .own (.lst (acc ++ [.int (left % w)])), .val (.int (left / w)), x10] := by
  have ap : ∀ x, gAppend (.lst acc) [x] = some (.non, .lst (acc ++ [x])) := fun x => app_l (by rw [sizeLine_eq]; omega)
  have e1 : gMod (.int left) (.int w) = some (.int (left % w)) := mod_i w0
  have e2 : gDiv (.int left) (.int w) = some (.int (left / w)) := div_i w0 (by omega)
  clear w0 w1 ha
  unfold s__law_rows_of_words_7
  walk_at "ev"
end
end K11
namespace K11
open PySem PySem.Spec PyProof.Rows L2 L3
local macro_rules | `(tactic| walk_at "ev") => `(tactic| simp (config := {decide := true}) only [W_ok, bind_ok, thn_nx, thn_rt, thn_rn, thn_bk, thn_ct, cVar, cK, c1_e, c1_k, c2_e, c2_k, c2_k2, cB_e, cB_k, cAnd_e, cOr_e, cNot_e, cNot_k, cIte_e, iteK_t, iteK_f, iteK, okB, okV, cAndV_e, cOrV_e, cNotV_e, cNotV_k, cBv_e, aNil, aCons_e, aCons_k, aCons_k2, cTup_e, cTup_k, nLst_e, nLst_k, vN_e, vN_k, cN_e, cN_k, nN_e, nN_k, oNone, oSome_e, oSome_k, cSl_e, cSl_k, cSl_k2, cSl_k3, nSl_e, nSl_k, nSl_k2, nSl_k3, nCat_e, nCat_k, nCat_k2, sNil, sSeq, sFrz, sBrk, sCnt, sExp_e, sExp_k, sRet_e, sRet_k, sRetN_e, sRetN_k, sRetU, sIf_e, sSet_e, sSet_k, sSetN_e, sSetN_k, gSet, gsNil, gsCons_e, gsCons_k, nxK, gTupD, gLstD, sAsg_e, sAsg_k, sAug_e, sAug_k, iL_e, iL_k, iT_e, iT_k, iR1_e, iR1_k, iR2_e, iR2_k, iZ_e, iZ_k, iR3_e, iR3_k, cCh_e, cCh_k, cCh_k2, cCh_k3, nRan_e, nRan_k, r1F_e, r1F_k, r2F_e, r2F_k, r2F_k2, r3F_e, r3F_k, r3F_k2, r3F_k3, intP, sFor_e, run_e, runK_rt, runK_rn, runK_nx, fin, outs, cCall_e, cCall_k, cCall_k2, nCall_e, nCall_k, nCall_k2, callM, sls, lents, wbk, lk, pvD, pvDs, pvs, Sl.dat, Sl.put, gSubD_e, gSubD_k, cM_e, cM_k, cMr_e, cMr_k, cMr_k2, isTy_str, isTy_lst, cGet2_e, cGet2_k, cGet2_k2, cGet2_k3, isDic_d, iRv_e, iRv_k, get2_d, nDic0, pNil, keyD, pCons_e, pCons_k, pCons_k2, pCons_k3, nDic_e, nDic_k, nLc_e, nLc_k, lcB_ok, unAll, backAll, noAdr, setAll, setAllF, List.map_cons, List.map_nil, hOne, cYes, List.all_cons, List.all_nil, Bool.and_true, Bool.true_and, Bool.and_self, Option.map_none, ofO, Rt.d, add_i, mns_i, mul_r, mul_l, div_i, mod_i, neg_i, lt_i, le_i, gt_i, ge_i, int_i, abs_i, len_l, len_t, get_l, get_t, toT_l, toT_t, eq_i, ne_i, eq_s, ne_s, rg_len, isN_non, isN_int, notN_non, notN_int, pow18, isi_int, isi_bool, max_ii, max_l, max_t, sum_l, sum_t, toL_l, toL_t, sl_l, sl_t, sg1, sg2, sg3, sg4, sg5, ss2, ss3, ss4, ss5, List.getElem?_cons_zero, List.getElem?_cons_succ, List.set_cons_zero, List.set_cons_succ, List.length_cons, List.length_nil, List.length_map, List.length_range, List.replicate, List.cons_append, List.nil_append, Option.bind_some, Option.map_some, Option.isSome_some, Option.bind_none, if_true, if_false, reduceIte, decide_eq_true_eq, Bool.false_eq_true, reduceCtorEq, decide_true, decide_false, Bool.not_true, Bool.not_false, *])
local macro_rules | `(tactic| walk_at "evc") => `(tactic| simp (config := {decide := true}) only [at0, at1, at2, at3, set0, set1, set2, ran0, ran1, ran2, ran3, maxI_one, maxI_cons, asI_nil, asI_cons, add_l, add_t, app_l, line_le, line_lt, forL_nil, forL_cons, forL_k, lp_nx, lp_ct, lp_bk, lp_rt, lp_rn, sub_ok, lcL_nil, lcL_cons, lcH_some, lcL_k, lcL_k2, L3.cutD, HT.sIx, List.take_succ_cons, List.take_zero, List.drop_succ_cons, List.drop_zero, List.sum_cons, List.sum_nil, Nat.reduceAdd, Int.reduceSub, Int.reduceAdd, int_lit, Int.reduceToNat, Nat.reduceSub, Nat.min_def, Nat.reduceLeDiff, Int.reduceLT, W_ok, bind_ok, thn_nx, thn_rt, thn_rn, thn_bk, thn_ct, cVar, cK, c1_e, c1_k, c2_e, c2_k, c2_k2, cB_e, cB_k, cAnd_e, cOr_e, cNot_e, cNot_k, cIte_e, iteK_t, iteK_f, iteK, okB, okV, cAndV_e, cOrV_e, cNotV_e, cNotV_k, cBv_e, aNil, aCons_e, aCons_k, aCons_k2, cTup_e, cTup_k, nLst_e, nLst_k, vN_e, vN_k, cN_e, cN_k, nN_e, nN_k, oNone, oSome_e, oSome_k, cSl_e, cSl_k, cSl_k2, cSl_k3, nSl_e, nSl_k, nSl_k2, nSl_k3, nCat_e, nCat_k, nCat_k2, sNil, sSeq, sFrz, sBrk, sCnt, sExp_e, sExp_k, sRet_e, sRet_k, sRetN_e, sRetN_k, sRetU, sIf_e, sSet_e, sSet_k, sSetN_e, sSetN_k, gSet, gsNil, gsCons_e, gsCons_k, nxK, gTupD, gLstD, sAsg_e, sAsg_k, sAug_e, sAug_k, iL_e, iL_k, iT_e, iT_k, iR1_e, iR1_k, iR2_e, iR2_k, iZ_e, iZ_k, iR3_e, iR3_k, cCh_e, cCh_k, cCh_k2, cCh_k3, nRan_e, nRan_k, r1F_e, r1F_k, r2F_e, r2F_k, r2F_k2, r3F_e, r3F_k, r3F_k2, r3F_k3, intP, sFor_e, run_e, runK_rt, runK_rn, runK_nx, fin, outs, cCall_e, cCall_k, cCall_k2, nCall_e, nCall_k, nCall_k2, callM, sls, lents, wbk, lk, pvD, pvDs, pvs, Sl.dat, Sl.put, gSubD_e, gSubD_k, cM_e, cM_k, cMr_e, cMr_k, cMr_k2, isTy_str, isTy_lst, cGet2_e, cGet2_k, cGet2_k2, cGet2_k3, isDic_d, iRv_e, iRv_k, get2_d, nDic0, pNil, keyD, pCons_e, pCons_k, pCons_k2, pCons_k3, nDic_e, nDic_k, nLc_e, nLc_k, lcB_ok, unAll, backAll, noAdr, setAll, setAllF, List.map_cons, List.map_nil, hOne, cYes, List.all_cons, List.all_nil, Bool.and_true, Bool.true_and, Bool.and_self, Option.map_none, ofO, Rt.d, add_i, mns_i, mul_r, mul_l, div_i, mod_i, neg_i, lt_i, le_i, gt_i, ge_i, int_i, abs_i, len_l, len_t, get_l, get_t, toT_l, toT_t, eq_i, ne_i, eq_s, ne_s, rg_len, isN_non, isN_int, notN_non, notN_int, pow18, isi_int, isi_bool, max_ii, max_l, max_t, sum_l, sum_t, toL_l, toL_t, sl_l, sl_t, sg1, sg2, sg3, sg4, sg5, ss2, ss3, ss4, ss5, List.getElem?_cons_zero, List.getElem?_cons_succ, List.set_cons_zero, List.set_cons_succ, List.length_cons, List.length_nil, List.length_map, List.length_range, List.replicate, List.cons_append, List.nil_append, Option.bind_some, Option.map_some, Option.isSome_some, Option.bind_none, if_true, if_false, reduceIte, decide_eq_true_eq, Bool.false_eq_true, reduceCtorEq, decide_true, decide_false, Bool.not_true, Bool.not_false, *])
section
variable {d : D} {w : Int} {i m : Nat} {names : List Str} {fs : List (Nat → Int)}
theorem number_turn (hm : m ≤ 6) (hl : fs.length ≤ 500) (w0 : 0 < w) (w1 : w ≤ 1000) {q0 x4 x5 x6 x8 x9 x10 : Sl} {nb : Int} :
    W (s__law_rows_of_words_8 [q0, .val (.int m), .val (.int w), .own (.lst (fs.map (rD m))), x4, x5, x6, .val (.int nb), x8, x9, x10])
      (fun fl ρ => fl = .nx ∧ ∃ (f : Nat → Int) (x4 x8 x9 : Sl), ρ = [q0, .val (.int m), .val (.int w), .own (.lst ((fs ++ [f]).map (rD m))), x4, x5, x6, .val (.int nb), x8, x9, x10] ∧ ∀ k < m, 0 ≤ f k ∧ f k < w) := by
  have key : W (forL (gSet 4) s__law_rows_of_words_7 (rangeD 0 (m : Int)) [q0, .val (.int m), .val (.int w), .own (.lst (fs.map (rD m))), x4, x5, x6, .val (.int nb), .own (.lst []), .val (.int nb), x10])
      (fun fl ρ => fl = .nx ∧ ∃ (f : Nat → Int) (x4 : Sl) (lf : Int), ρ = [q0, .val (.int m), .val (.int w), .own (.lst (fs.map (rD m))), x4, x5, x6, .val (.int nb), .own (.lst (rg m fun j => .int (f j))), .val (.int lf), x10] ∧ ∀ k < m, 0 ≤ f k ∧ f k < w) := by
    refine forL_all (I := fun k ρ => ∃ (f : Nat → Int) (x4 : Sl) (lf : Int), ρ = [q0, .val (.int m), .val (.int w), .own (.lst (fs.map (rD m))), x4, x5, x6, .val (.int nb), .own (.lst (rg k fun j => .int (f j))), .val (.int lf), x10] ∧ ∀ j < k, 0 ≤ f j ∧ f j < w) ⟨fun _ => 0, _, nb, rfl, fun j hj => by omega⟩ ?_ ?_
    · rintro ρ ⟨f, y4, lf, rfl, hf⟩
      rw [ran_len] at hf ⊢
      exact ⟨rfl, f, _, _, rfl, hf⟩
    · rintro k ρ p hd ⟨f, y4, lf, rfl, hf⟩
      obtain ⟨rfl, hk⟩ := ran_nat hd
      refine ⟨_, rfl, ?_⟩
      refine W_of (digit_turn w0 w1 (by rw [rg_len]; omega)) ⟨fun j => if j = k then lf % w else f j, .val (.int (k : Int)), lf / w, ?_, fun j hj => ?_⟩
      · rw [← rg_succ]
        dsimp only
        rw [if_pos rfl, rg_congr (n := k) (f := fun j => D.int (f j)) (g := fun j => D.int (if j = k then lf % w else f j)) fun j hj => by rw [if_neg (by omega)]]
      · by_cases e : j = k
        · simp only [if_pos e]
          exact ⟨Int.emod_nonneg _ (by omega), Int.emod_lt_of_pos _ w0⟩
        · simp only [if_neg e]; exact hf j (by omega)
  obtain ⟨fl, ρ, e, rfl, f, y4, lf, rfl, hf⟩ := key.ok
  have ap : ∀ x, gAppend (.lst (fs.map (rD m))) [x] = some (.non, .lst (fs.map (rD m) ++ [x])) := fun x => app_l (by rw [List.length_map, sizeLine_eq]; omega)
  have ir := inR_nat (n := m) (by omega)
  have z0 : (0 : Nat) ≤ sizeLine := Nat.zero_le _
  have fin : (fs ++ [f]).map (rD m) = fs.map (rD m) ++ [D.tup (rg m fun k => .int (f k))] := by rw [List.map_append]; rfl
  refine W.imp (P := fun fl ρ => fl = .nx ∧ ∃ y8 : Sl, ρ = [q0, .val (.int m), .val (.int w), .own (.lst (fs.map (rD m) ++ [D.tup (rg m fun k => .int (f k))])), y4, x5, x6, .val (.int nb), y8, .val (.int lf), x10]) ?_ fun fl ρ ⟨r1, y8, r2⟩ => ⟨r1, f, y4, y8, .val (.int lf), by rw [r2, fin], hf⟩
  clear fin hf key hm hl w0 w1
  generalize fs.map (rD m) = R at *
  generalize (rg m fun k => D.int (f k)) = U at *
  unfold s__law_rows_of_words_8
  walk_at "ev"
  exact ⟨trivial, _, rfl⟩
/-- zero, then k units -/
def base (k : Nat) : List (Nat → Int) := (fun _ => 0) :: (List.range k).map fun i j => if j = i then 1 else 0
theorem base_len {k : Nat} : (base k).length = k + 1 := by simp [base]
theorem base_succ {k : Nat} : base (k + 1) = base k ++ [fun j => if j = k then 1 else 0] := by
  unfold base
  rw [List.range_succ, List.map_append]; rfl
theorem fs_of (w0 : 2 ≤ w) {ex : List (Nat → Int)} (hx : ∀ f ∈ ex, ∀ k < m, 0 ≤ f k ∧ f k < w) (hl : ex.length ≤ 500) (hm : m ≤ 6) (h0 : 0 < ex.length) : Fs m w (base m ++ ex) := by
  refine ⟨by rw [List.length_append, base_len]; omega, by rw [List.length_append, base_len]; omega, fun h k _ => rfl, fun j h hj k hk => ?_, fun f hf k hk => ?_⟩
  · have : (base m ++ ex)[j + 1] = fun k => if k = j then 1 else 0 := by
      rw [List.getElem_append_left (by rw [base_len]; omega)]
      simp [base]
    rw [this]
  · rcases List.mem_append.mp hf with q | q
    · rcases List.mem_cons.mp q with rfl | q
      · exact ⟨Int.le_refl _, by show (0 : Int) < w; omega⟩
      · obtain ⟨i, _, rfl⟩ := List.mem_map.mp q
        dsimp only
        split <;> omega
    · exact hx f q k hk
theorem rows_ok (hw : Wf d) (hm : m ≤ 6) (w0 : 2 ≤ w) (w1 : w ≤ 1000) : ∃ (fs : List (Nat → Int)) (d' : D), m__law_rows_of_words [.bor d, .val (.int m), .val (.int w)] = .ok (.n (.lst (fs.map (rD m)))) [.bor d', .un, .un] ∧ Fs m w fs ∧ Wf d' := by
  have zr := lcL_rg (e := e__law_rows_of_words_1) (ρ := [.bor d, .val (.int m), .val (.int w), .un, .un, .un, .un, .un, .un, .un, .un]) (i0 := 10) (n := m) (f := fun _ => .int 0) (by omega) fun k hk => ⟨_, rfl, rfl⟩
  have k1 : W (forL (gSet 4) s__law_rows_of_words_3 (rangeD 0 (m : Int)) [.bor d, .val (.int m), .val (.int w), .own (.lst [D.tup (rg m fun _ => .int 0)]), .un, .un, .un, .un, .un, .un, .un])
      (fun fl ρ => fl = .nx ∧ ∃ x4 : Sl, ρ = [.bor d, .val (.int m), .val (.int w), .own (.lst ((base m).map (rD m))), x4, .un, .un, .un, .un, .un, .un]) := by
    refine forL_all (I := fun k ρ => ∃ x4 : Sl, ρ = [.bor d, .val (.int m), .val (.int w), .own (.lst ((base k).map (rD m))), x4, .un, .un, .un, .un, .un, .un] ∧ k ≤ m) ⟨_, rfl, Nat.zero_le _⟩ ?_ ?_
    · rintro ρ ⟨x4, rfl, _⟩
      rw [ran_len]
      exact ⟨rfl, _, rfl⟩
    · rintro k ρ p hd ⟨x4, rfl, _⟩
      obtain ⟨rfl, hk⟩ := ran_nat hd
      refine ⟨_, rfl, ?_⟩
      refine W_of (unit_turn hm (by rw [base_len]; omega)) ⟨.val (.int (k : Int)), by rw [base_succ], hk⟩
  obtain ⟨fl, ρ, e1, rfl, x4, rfl⟩ := k1.ok
  have hb : b64 w = true := decide_eq_true (by omega)
  have k2 : W (forL (gSet 4) s__law_rows_of_words_4 (rangeD 0 (m : Int)) [.bor d, .val (.int m), .val (.int w), .own (.lst ((base m).map (rD m))), x4, .val (.int 1), .un, .un, .un, .un, .un])
      (fun fl ρ => fl = .nx ∧ ∃ (x4 : Sl) (W0 : Int), ρ = [.bor d, .val (.int m), .val (.int w), .own (.lst ((base m).map (rD m))), x4, .val (.int W0), .un, .un, .un, .un, .un] ∧ 1 ≤ W0) := by
    refine forL_all (I := fun _ ρ => ∃ (x4 : Sl) (W0 : Int), ρ = [.bor d, .val (.int m), .val (.int w), .own (.lst ((base m).map (rD m))), x4, .val (.int W0), .un, .un, .un, .un, .un] ∧ 1 ≤ W0) ⟨_, 1, rfl, Int.le_refl _⟩ ?_ ?_
    · rintro ρ h
      exact ⟨rfl, h⟩
    · rintro k ρ p hd ⟨y4, W0, rfl, h⟩
      obtain ⟨rfl, hk⟩ := ran_nat hd
      refine ⟨_, rfl, ?_⟩
      refine W_of (mul_turn hb) ⟨_, _, rfl, ?_⟩
      have : 1 * 1 ≤ W0 * w := Int.mul_le_mul h (by omega) (by decide) (by omega)
      omega
  obtain ⟨fl, ρ, e2, rfl, y4, W0, rfl, hW⟩ := k2.ok
  have ir := inR_nat (n := m) (by omega)
  have z0 : (0 : Nat) ≤ sizeLine := Nat.zero_le _
  have z1 : (1 : Nat) ≤ sizeLine := by rw [sizeLine_eq]; omega
  by_cases hc : 130 < W0
  · have k3 : W (forL (gSet 6) s__law_rows_of_words_6 (rangeD 0 6) [.bor d, .val (.int m), .val (.int w), .own (.lst ((base m).map (rD m))), y4, .val (.int W0), .un, .un, .un, .un, .un])
        (fun fl ρ => fl = .nx ∧ ∃ (d' : D) (ex : List (Nat → Int)) (x6 : Sl), ρ = [.bor d', .val (.int m), .val (.int w), .own (.lst ((base m ++ ex).map (rD m))), y4, .val (.int W0), x6, .un, .un, .un, .un] ∧ Wf d' ∧ ex.length = 6 ∧ ∀ f ∈ ex, ∀ k < m, 0 ≤ f k ∧ f k < w) := by
      refine forL_all (I := fun k ρ => k ≤ 6 ∧ ∃ (d' : D) (ex : List (Nat → Int)) (x6 : Sl), ρ = [.bor d', .val (.int m), .val (.int w), .own (.lst ((base m ++ ex).map (rD m))), y4, .val (.int W0), x6, .un, .un, .un, .un] ∧ Wf d' ∧ ex.length = k ∧ ∀ f ∈ ex, ∀ k < m, 0 ≤ f k ∧ f k < w) ⟨Nat.zero_le _, d, [], _, by rw [List.append_nil], hw, rfl, fun f hf => by simp at hf⟩ ?_ ?_
      · rintro ρ ⟨_, h⟩
        exact ⟨rfl, h⟩
      · rintro k ρ p hd ⟨_, d', ex, x6, rfl, w', hl, hf⟩
        have hk : k < 6 := lt_of_get hd
        refine ⟨_, rfl, ?_⟩
        refine W.imp (draws_turn (x4 := y4) (x5 := .val (.int W0)) (x6 := .val p) (x7 := .un) (x8 := .un) (x9 := .un) w' hm (by rw [List.length_append, base_len]; omega) (by omega) w1) fun fl ρ ⟨r1, d2, f, r2, r3, r4⟩ => ?_
        subst r1 r2
        refine ⟨hk, d2, ex ++ [f], _, by rw [List.append_assoc], r3, by rw [List.length_append, hl]; rfl, fun g hg => ?_⟩
        rcases List.mem_append.mp hg with q | q
        · exact hf g q
        · rw [List.mem_singleton.mp q]; exact r4
    obtain ⟨fl, ρ, e3, rfl, d', ex, x6, rfl, w', hl, hf⟩ := k3.ok
    refine ⟨base m ++ ex, d', ?_, fs_of w0 hf (by omega) hm (by omega), w'⟩
    have i6 : L3.inR 6 = true := rfl
    clear k1 k2 k3 hf w' hw hm w0 w1 hb hl hW
    generalize (base m ++ ex).map (rD m) = R2 at *
    generalize (base m).map (rD m) = R at *
    generalize (rg m fun _ => D.int 0) = Z at *
    unfold m__law_rows_of_words g__law_rows_of_words
    walk_at "ev"
  · obtain ⟨wh, rfl⟩ := Int.eq_ofNat_of_zero_le (show 0 ≤ W0 by omega)
    have k3 : W (forL (gSet 7) s__law_rows_of_words_8 (rangeD 0 (wh : Int)) [.bor d, .val (.int m), .val (.int w), .own (.lst ((base m).map (rD m))), y4, .val (.int (wh : Int)), .un, .un, .un, .un, .un])
        (fun fl ρ => fl = .nx ∧ ∃ (ex : List (Nat → Int)) (x4 x7 x8 x9 : Sl), ρ = [.bor d, .val (.int m), .val (.int w), .own (.lst ((base m ++ ex).map (rD m))), x4, .val (.int (wh : Int)), .un, x7, x8, x9, .un] ∧ ex.length = wh ∧ ∀ f ∈ ex, ∀ k < m, 0 ≤ f k ∧ f k < w) := by
      refine forL_all (I := fun k ρ => k ≤ wh ∧ ∃ (ex : List (Nat → Int)) (x4 x7 x8 x9 : Sl), ρ = [.bor d, .val (.int m), .val (.int w), .own (.lst ((base m ++ ex).map (rD m))), x4, .val (.int (wh : Int)), .un, x7, x8, x9, .un] ∧ ex.length = k ∧ ∀ f ∈ ex, ∀ k < m, 0 ≤ f k ∧ f k < w) ⟨Nat.zero_le _, [], _, _, _, _, by rw [List.append_nil], rfl, fun f hf => by simp at hf⟩ ?_ ?_
      · rintro ρ ⟨_, h⟩
        rw [ran_len] at h
        exact ⟨rfl, h⟩
      · rintro k ρ p hd ⟨_, ex, z4, z7, z8, z9, rfl, hl, hf⟩
        obtain ⟨rfl, hk⟩ := ran_nat hd
        refine ⟨_, rfl, ?_⟩
        refine W.imp (number_turn (fs := base m ++ ex) (x4 := z4) (x5 := .val (.int (wh : Int))) (x6 := .un) (x8 := z8) (x9 := z9) (x10 := .un) (nb := (k : Int)) hm (by rw [List.length_append, base_len]; omega) (by omega) w1) fun fl ρ ⟨r1, f, y4, y8, y9, r2, r4⟩ => ?_
        subst r1 r2
        refine ⟨hk, ex ++ [f], _, _, _, _, by rw [List.append_assoc], by rw [List.length_append, hl]; rfl, fun g hg => ?_⟩
        rcases List.mem_append.mp hg with q | q
        · exact hf g q
        · rw [List.mem_singleton.mp q]; exact r4
    obtain ⟨fl, ρ, e3, rfl, ex, z4, z7, z8, z9, rfl, hl, hf⟩ := k3.ok
    refine ⟨base m ++ ex, d, ?_, fs_of w0 hf (by omega) hm (by omega), hw⟩
    have i6 := inR_nat (n := wh) (by omega)
    clear k1 k2 k3 hf hw hm w0 w1 hb hl hW
    generalize (base m ++ ex).map (rD m) = R2 at *
    generalize (base m).map (rD m) = R at *
    generalize (rg m fun _ => D.int 0) = Z at *
    generalize (wh : Int) = WH at *
    unfold m__law_rows_of_words g__law_rows_of_words
    walk_at "ev"
end
end K11
namespace K11
open PySem PySem.Spec PyProof.Rows L2 L3
local macro_rules | `(tactic| walk_at "ev") => `(tactic| simp (config := {decide := true}) only [W_ok, bind_ok, thn_nx, thn_rt, thn_rn, thn_bk, thn_ct, cVar, cK, c1_e, c1_k, c2_e, c2_k, c2_k2, cB_e, cB_k, cAnd_e, cOr_e, cNot_e, cNot_k, cIte_e, iteK_t, iteK_f, iteK, okB, okV, cAndV_e, cOrV_e, cNotV_e, cNotV_k, cBv_e, aNil, aCons_e, aCons_k, aCons_k2, cTup_e, cTup_k, nLst_e, nLst_k, vN_e, vN_k, cN_e, cN_k, nN_e, nN_k, oNone, oSome_e, oSome_k, cSl_e, cSl_k, cSl_k2, cSl_k3, nSl_e, nSl_k, nSl_k2, nSl_k3, nCat_e, nCat_k, nCat_k2, sNil, sSeq, sFrz, sBrk, sCnt, sExp_e, sExp_k, sRet_e, sRet_k, sRetN_e, sRetN_k, sRetU, sIf_e, sSet_e, sSet_k, sSetN_e, sSetN_k, gSet, gsNil, gsCons_e, gsCons_k, nxK, gTupD, gLstD, sAsg_e, sAsg_k, sAug_e, sAug_k, iL_e, iL_k, iT_e, iT_k, iR1_e, iR1_k, iR2_e, iR2_k, iZ_e, iZ_k, iR3_e, iR3_k, cCh_e, cCh_k, cCh_k2, cCh_k3, nRan_e, nRan_k, r1F_e, r1F_k, r2F_e, r2F_k, r2F_k2, r3F_e, r3F_k, r3F_k2, r3F_k3, intP, sFor_e, run_e, runK_rt, runK_rn, runK_nx, fin, outs, cCall_e, cCall_k, cCall_k2, nCall_e, nCall_k, nCall_k2, callM, sls, lents, wbk, lk, pvD, pvDs, pvs, Sl.dat, Sl.put, gSubD_e, gSubD_k, cM_e, cM_k, cMr_e, cMr_k, cMr_k2, isTy_str, isTy_lst, cGet2_e, cGet2_k, cGet2_k2, cGet2_k3, isDic_d, iRv_e, iRv_k, get2_d, nDic0, pNil, keyD, pCons_e, pCons_k, pCons_k2, pCons_k3, nDic_e, nDic_k, nLc_e, nLc_k, lcB_ok, unAll, backAll, noAdr, setAll, setAllF, List.map_cons, List.map_nil, hOne, cYes, List.all_cons, List.all_nil, Bool.and_true, Bool.true_and, Bool.and_self, Option.map_none, ofO, Rt.d, add_i, mns_i, mul_r, mul_l, div_i, mod_i, neg_i, lt_i, le_i, gt_i, ge_i, int_i, abs_i, len_l, len_t, get_l, get_t, toT_l, toT_t, eq_i, ne_i, eq_s, ne_s, rg_len, isN_non, isN_int, notN_non, notN_int, pow18, isi_int, isi_bool, max_ii, max_l, max_t, sum_l, sum_t, toL_l, toL_t, sl_l, sl_t, sg1, sg2, sg3, sg4, sg5, ss2, ss3, ss4, ss5, List.getElem?_cons_zero, List.getElem?_cons_succ, List.set_cons_zero, List.set_cons_succ, List.length_cons, List.length_nil, List.length_map, List.length_range, List.replicate, List.cons_append, List.nil_append, Option.bind_some, Option.map_some, Option.isSome_some, Option.bind_none, if_true, if_false, reduceIte, decide_eq_true_eq, Bool.false_eq_true, reduceCtorEq, decide_true, decide_false, Bool.not_true, Bool.not_false, *])
local macro_rules | `(tactic| walk_at "evc") => `(tactic| simp (config := {decide := true}) only [at0, at1, at2, at3, set0, set1, set2, ran0, ran1, ran2, ran3, maxI_one, maxI_cons, asI_nil, asI_cons, add_l, add_t, app_l, line_le, line_lt, forL_nil, forL_cons, forL_k, lp_nx, lp_ct, lp_bk, lp_rt, lp_rn, sub_ok, lcL_nil, lcL_cons, lcH_some, lcL_k, lcL_k2, L3.cutD, HT.sIx, List.take_succ_cons, List.take_zero, List.drop_succ_cons, List.drop_zero, List.sum_cons, List.sum_nil, Nat.reduceAdd, Int.reduceSub, Int.reduceAdd, int_lit, Int.reduceToNat, Nat.reduceSub, Nat.min_def, Nat.reduceLeDiff, Int.reduceLT, W_ok, bind_ok, thn_nx, thn_rt, thn_rn, thn_bk, thn_ct, cVar, cK, c1_e, c1_k, c2_e, c2_k, c2_k2, cB_e, cB_k, cAnd_e, cOr_e, cNot_e, cNot_k, cIte_e, iteK_t, iteK_f, iteK, okB, okV, cAndV_e, cOrV_e, cNotV_e, cNotV_k, cBv_e, aNil, aCons_e, aCons_k, aCons_k2, cTup_e, cTup_k, nLst_e, nLst_k, vN_e, vN_k, cN_e, cN_k, nN_e, nN_k, oNone, oSome_e, oSome_k, cSl_e, cSl_k, cSl_k2, cSl_k3, nSl_e, nSl_k, nSl_k2, nSl_k3, nCat_e, nCat_k, nCat_k2, sNil, sSeq, sFrz, sBrk, sCnt, sExp_e, sExp_k, sRet_e, sRet_k, sRetN_e, sRetN_k, sRetU, sIf_e, sSet_e, sSet_k, sSetN_e, sSetN_k, gSet, gsNil, gsCons_e, gsCons_k, nxK, gTupD, gLstD, sAsg_e, sAsg_k, sAug_e, sAug_k, iL_e, iL_k, iT_e, iT_k, iR1_e, iR1_k, iR2_e, iR2_k, iZ_e, iZ_k, iR3_e, iR3_k, cCh_e, cCh_k, cCh_k2, cCh_k3, nRan_e, nRan_k, r1F_e, r1F_k, r2F_e, r2F_k, r2F_k2, r3F_e, r3F_k, r3F_k2, r3F_k3, intP, sFor_e, run_e, runK_rt, runK_rn, runK_nx, fin, outs, cCall_e, cCall_k, cCall_k2, nCall_e, nCall_k, nCall_k2, callM, sls, lents, wbk, lk, pvD, pvDs, pvs, Sl.dat, Sl.put, gSubD_e, gSubD_k, cM_e, cM_k, cMr_e, cMr_k, cMr_k2, isTy_str, isTy_lst, cGet2_e, cGet2_k, cGet2_k2, cGet2_k3, isDic_d, iRv_e, iRv_k, get2_d, nDic0, pNil, keyD, pCons_e, pCons_k, pCons_k2, pCons_k3, nDic_e, nDic_k, nLc_e, nLc_k, lcB_ok, unAll, backAll, noAdr, setAll, setAllF, List.map_cons, List.map_nil, hOne, cYes, List.all_cons, List.all_nil, Bool.and_true, Bool.true_and, Bool.and_self, Option.map_none, ofO, Rt.d, add_i, mns_i, mul_r, mul_l, div_i, mod_i, neg_i, lt_i, le_i, gt_i, ge_i, int_i, abs_i, len_l, len_t, get_l, get_t, toT_l, toT_t, eq_i, ne_i, eq_s, ne_s, rg_len, isN_non, isN_int, notN_non, notN_int, pow18, isi_int, isi_bool, max_ii, max_l, max_t, sum_l, sum_t, toL_l, toL_t, sl_l, sl_t, sg1, sg2, sg3, sg4, sg5, ss2, ss3, ss4, ss5, List.getElem?_cons_zero, List.getElem?_cons_succ, List.set_cons_zero, List.set_cons_succ, List.length_cons, List.length_nil, List.length_map, List.length_range, List.replicate, List.cons_append, List.nil_append, Option.bind_some, Option.map_some, Option.isSome_some, Option.bind_none, if_true, if_false, reduceIte, decide_eq_true_eq, Bool.false_eq_true, reduceCtorEq, decide_true, decide_false, Bool.not_true, Bool.not_false, *])
section
variable {d : D} {w : Int} {i m k : Nat} {S T : List St} {s : St}
theorem sts_app : ∀ {S T : List St} {k : Nat}, StsOk m k S → StsOk m (k + S.length) T → StsOk m k (S ++ T)
  | [], T, k, _, h => h
  | s :: r, T, k, h, h2 => ⟨h.1, sts_app h.2 (by rw [show k + 1 + r.length = k + (s :: r).length by simp; omega]; exact h2)⟩
theorem twin_ok (hS : StsOk m 0 S) (hi : i < S.length) (w0 : 2 ≤ w) : ∃ T : List St, m__law_twin [.bor (.lst (S.map stD)), .val (.int (i : Int)), .val (.int w)] = .ok (.n (.lst (T.map stD))) [.bor (.lst (S.map stD)), .un, .un] ∧ StsOk m S.length T ∧ T.length ≤ 2 := by
  have g1 : gGet (.lst (S.map stD)) (.int (i : Int)) = some (stD S[i]) := map_at hi
  have hs := sts_at (i := i) hi hS
  rw [Nat.zero_add] at hs
  have hw : 0 < w := by omega
  have z1 : (1 : Nat) ≤ sizeLine := by rw [sizeLine_eq]; omega
  have z2 : (2 : Nat) ≤ sizeLine := by rw [sizeLine_eq]; omega
  have z3 : (3 : Nat) ≤ sizeLine := by rw [sizeLine_eq]; omega
  have ll : gLen [.lst (S.map stD)] = some (.int S.length) := by rw [len_l, List.length_map]
  generalize S[i] = s at *
  cases s with
  | num n =>
    refine ⟨[.num (n % w)], ?_, ⟨trivial, trivial⟩, by simp⟩
    show _ = Out.ok (Rt.n (.lst [.tup [.str "number", .int (n % w)]])) _
    clear hs hS hi w0
    replace g1 : gGet (.lst (S.map stD)) (.int (i : Int)) = some (.tup [.str "number", .int n]) := g1
    generalize D.lst (S.map stD) = L at *
    unfold m__law_twin g__law_twin
    walk_at "evc"
  | ch k =>
    refine ⟨[.tim i (w + 1)], ?_, ⟨hi, trivial⟩, by simp⟩
    show _ = Out.ok (Rt.n (.lst [.tup [.str "times", .int i, .int (w + 1)]])) _
    clear hs hS hi w0
    replace g1 : gGet (.lst (S.map stD)) (.int (i : Int)) = some (.tup [.str "channel", .int k]) := g1
    generalize D.lst (S.map stD) = L at *
    unfold m__law_twin g__law_twin
    walk_at "evc"
  | add a b =>
    refine ⟨[.add b a], ?_, ⟨⟨by have := hs.2; omega, by have := hs.1; omega⟩, trivial⟩, by simp⟩
    show _ = Out.ok (Rt.n (.lst [.tup [.str "sum", .int b, .int a]])) _
    clear hs hS hi w0
    replace g1 : gGet (.lst (S.map stD)) (.int (i : Int)) = some (.tup [.str "sum", .int a, .int b]) := g1
    generalize D.lst (S.map stD) = L at *
    unfold m__law_twin g__law_twin
    walk_at "evc"
  | sub a b =>
    refine ⟨[.tim b (w - 1), .add a S.length], ?_, ⟨(by have := hs.2; show b < S.length; omega), ⟨by have := hs.1; omega, by omega⟩, trivial⟩, by simp⟩
    show _ = Out.ok (Rt.n (.lst [.tup [.str "times", .int b, .int (w - 1)], .tup [.str "sum", .int a, .int (S.length : Int)]])) _
    clear hs hS hi w0
    replace g1 : gGet (.lst (S.map stD)) (.int (i : Int)) = some (.tup [.str "minus", .int a, .int b]) := g1
    generalize (S.length : Int) = SL at *
    generalize D.lst (S.map stD) = L at *
    unfold m__law_twin g__law_twin
    walk_at "evc"
  | tim a n =>
    refine ⟨[.tim a (n + w)], ?_, ⟨(by have := hs; show a < S.length; exact Nat.lt_trans this hi), trivial⟩, by simp⟩
    show _ = Out.ok (Rt.n (.lst [.tup [.str "times", .int a, .int (n + w)]])) _
    clear hs hS hi w0
    replace g1 : gGet (.lst (S.map stD)) (.int (i : Int)) = some (.tup [.str "times", .int a, .int n]) := g1
    generalize D.lst (S.map stD) = L at *
    unfold m__law_twin g__law_twin
    walk_at "evc"
end
end K11
namespace K11
open PySem PySem.Spec PyProof.Rows L2 L3
local macro_rules | `(tactic| walk_at "ev") => `(tactic| simp (config := {decide := true}) only [W_ok, bind_ok, thn_nx, thn_rt, thn_rn, thn_bk, thn_ct, cVar, cK, c1_e, c1_k, c2_e, c2_k, c2_k2, cB_e, cB_k, cAnd_e, cOr_e, cNot_e, cNot_k, cIte_e, iteK_t, iteK_f, iteK, okB, okV, cAndV_e, cOrV_e, cNotV_e, cNotV_k, cBv_e, aNil, aCons_e, aCons_k, aCons_k2, cTup_e, cTup_k, nLst_e, nLst_k, vN_e, vN_k, cN_e, cN_k, nN_e, nN_k, oNone, oSome_e, oSome_k, cSl_e, cSl_k, cSl_k2, cSl_k3, nSl_e, nSl_k, nSl_k2, nSl_k3, nCat_e, nCat_k, nCat_k2, sNil, sSeq, sFrz, sBrk, sCnt, sExp_e, sExp_k, sRet_e, sRet_k, sRetN_e, sRetN_k, sRetU, sIf_e, sSet_e, sSet_k, sSetN_e, sSetN_k, gSet, gsNil, gsCons_e, gsCons_k, nxK, gTupD, gLstD, sAsg_e, sAsg_k, sAug_e, sAug_k, iL_e, iL_k, iT_e, iT_k, iR1_e, iR1_k, iR2_e, iR2_k, iZ_e, iZ_k, iR3_e, iR3_k, cCh_e, cCh_k, cCh_k2, cCh_k3, nRan_e, nRan_k, r1F_e, r1F_k, r2F_e, r2F_k, r2F_k2, r3F_e, r3F_k, r3F_k2, r3F_k3, intP, sFor_e, run_e, runK_rt, runK_rn, runK_nx, fin, outs, cCall_e, cCall_k, cCall_k2, nCall_e, nCall_k, nCall_k2, callM, sls, lents, wbk, lk, pvD, pvDs, pvs, Sl.dat, Sl.put, gSubD_e, gSubD_k, cM_e, cM_k, cMr_e, cMr_k, cMr_k2, isTy_str, isTy_lst, cGet2_e, cGet2_k, cGet2_k2, cGet2_k3, isDic_d, iRv_e, iRv_k, get2_d, nDic0, pNil, keyD, pCons_e, pCons_k, pCons_k2, pCons_k3, nDic_e, nDic_k, nLc_e, nLc_k, lcB_ok, unAll, backAll, noAdr, setAll, setAllF, List.map_cons, List.map_nil, hOne, cYes, List.all_cons, List.all_nil, Bool.and_true, Bool.true_and, Bool.and_self, Option.map_none, ofO, Rt.d, add_i, mns_i, mul_r, mul_l, div_i, mod_i, neg_i, lt_i, le_i, gt_i, ge_i, int_i, abs_i, len_l, len_t, get_l, get_t, toT_l, toT_t, eq_i, ne_i, eq_s, ne_s, rg_len, isN_non, isN_int, notN_non, notN_int, pow18, isi_int, isi_bool, max_ii, max_l, max_t, sum_l, sum_t, toL_l, toL_t, sl_l, sl_t, sg1, sg2, sg3, sg4, sg5, ss2, ss3, ss4, ss5, List.getElem?_cons_zero, List.getElem?_cons_succ, List.set_cons_zero, List.set_cons_succ, List.length_cons, List.length_nil, List.length_map, List.length_range, List.replicate, List.cons_append, List.nil_append, Option.bind_some, Option.map_some, Option.isSome_some, Option.bind_none, if_true, if_false, reduceIte, decide_eq_true_eq, Bool.false_eq_true, reduceCtorEq, decide_true, decide_false, Bool.not_true, Bool.not_false, *])
local macro_rules | `(tactic| walk_at "evc") => `(tactic| simp (config := {decide := true}) only [at0, at1, at2, at3, set0, set1, set2, ran0, ran1, ran2, ran3, maxI_one, maxI_cons, asI_nil, asI_cons, add_l, add_t, app_l, line_le, line_lt, forL_nil, forL_cons, forL_k, lp_nx, lp_ct, lp_bk, lp_rt, lp_rn, sub_ok, lcL_nil, lcL_cons, lcH_some, lcL_k, lcL_k2, L3.cutD, HT.sIx, List.take_succ_cons, List.take_zero, List.drop_succ_cons, List.drop_zero, List.sum_cons, List.sum_nil, Nat.reduceAdd, Int.reduceSub, Int.reduceAdd, int_lit, Int.reduceToNat, Nat.reduceSub, Nat.min_def, Nat.reduceLeDiff, Int.reduceLT, W_ok, bind_ok, thn_nx, thn_rt, thn_rn, thn_bk, thn_ct, cVar, cK, c1_e, c1_k, c2_e, c2_k, c2_k2, cB_e, cB_k, cAnd_e, cOr_e, cNot_e, cNot_k, cIte_e, iteK_t, iteK_f, iteK, okB, okV, cAndV_e, cOrV_e, cNotV_e, cNotV_k, cBv_e, aNil, aCons_e, aCons_k, aCons_k2, cTup_e, cTup_k, nLst_e, nLst_k, vN_e, vN_k, cN_e, cN_k, nN_e, nN_k, oNone, oSome_e, oSome_k, cSl_e, cSl_k, cSl_k2, cSl_k3, nSl_e, nSl_k, nSl_k2, nSl_k3, nCat_e, nCat_k, nCat_k2, sNil, sSeq, sFrz, sBrk, sCnt, sExp_e, sExp_k, sRet_e, sRet_k, sRetN_e, sRetN_k, sRetU, sIf_e, sSet_e, sSet_k, sSetN_e, sSetN_k, gSet, gsNil, gsCons_e, gsCons_k, nxK, gTupD, gLstD, sAsg_e, sAsg_k, sAug_e, sAug_k, iL_e, iL_k, iT_e, iT_k, iR1_e, iR1_k, iR2_e, iR2_k, iZ_e, iZ_k, iR3_e, iR3_k, cCh_e, cCh_k, cCh_k2, cCh_k3, nRan_e, nRan_k, r1F_e, r1F_k, r2F_e, r2F_k, r2F_k2, r3F_e, r3F_k, r3F_k2, r3F_k3, intP, sFor_e, run_e, runK_rt, runK_rn, runK_nx, fin, outs, cCall_e, cCall_k, cCall_k2, nCall_e, nCall_k, nCall_k2, callM, sls, lents, wbk, lk, pvD, pvDs, pvs, Sl.dat, Sl.put, gSubD_e, gSubD_k, cM_e, cM_k, cMr_e, cMr_k, cMr_k2, isTy_str, isTy_lst, cGet2_e, cGet2_k, cGet2_k2, cGet2_k3, isDic_d, iRv_e, iRv_k, get2_d, nDic0, pNil, keyD, pCons_e, pCons_k, pCons_k2, pCons_k3, nDic_e, nDic_k, nLc_e, nLc_k, lcB_ok, unAll, backAll, noAdr, setAll, setAllF, List.map_cons, List.map_nil, hOne, cYes, List.all_cons, List.all_nil, Bool.and_true, Bool.true_and, Bool.and_self, Option.map_none, ofO, Rt.d, add_i, mns_i, mul_r, mul_l, div_i, mod_i, neg_i, lt_i, le_i, gt_i, ge_i, int_i, abs_i, len_l, len_t, get_l, get_t, toT_l, toT_t, eq_i, ne_i, eq_s, ne_s, rg_len, isN_non, isN_int, notN_non, notN_int, pow18, isi_int, isi_bool, max_ii, max_l, max_t, sum_l, sum_t, toL_l, toL_t, sl_l, sl_t, sg1, sg2, sg3, sg4, sg5, ss2, ss3, ss4, ss5, List.getElem?_cons_zero, List.getElem?_cons_succ, List.set_cons_zero, List.set_cons_succ, List.length_cons, List.length_nil, List.length_map, List.length_range, List.replicate, List.cons_append, List.nil_append, Option.bind_some, Option.map_some, Option.isSome_some, Option.bind_none, if_true, if_false, reduceIte, decide_eq_true_eq, Bool.false_eq_true, reduceCtorEq, decide_true, decide_false, Bool.not_true, Bool.not_false, *])
section
variable {d d1 d2 d3 d4 d5 : D} {w w3 y z n : Int} {m : D} {L L2 : List D} {I J : Int} {x4 x5 x6 x7 : Sl}
theorem st_0 (ll : gLen [.lst L] = some (.int n)) (c1 : mDraw [.bor d, .val (.int 8)] = .ok (.v (.int 0)) [.bor d1, .un]) (c2 : mDraw [.bor d1, .val (.int n)] = .ok (.v (.int I)) [.bor d2, .un]) (c3 : mDraw [.bor d2, .val (.int n)] = .ok (.v (.int J)) [.bor d3, .un]) (z2 : (2 : Nat) ≤ sizeLine) (z3 : (3 : Nat) ≤ sizeLine)
    (mu : gMul (.int 3) (.int w) = some (.int w3)) (c4 : mDraw [.bor d3, .val (.int w3)] = .ok (.v (.int z)) [.bor d4, .un]) (ap : gAppend (.lst L) [.tup [.str "number", .int z]] = some (.non, .lst L2)) :
    s__law_steps_1 [.bor d, .val m, .val (.int w), .own (.lst L), x4, x5, x6, x7] = .ok .nx [.bor d4, .val m, .val (.int w), .own (.lst L2), x4, .val (.int 0), .val (.int I), .val (.int J)] := by
  have g12 : gIn false (.int 0) (.tup [.int 1, .int 2]) = some (.bl false) := rfl
  have g34 : gIn false (.int 0) (.tup [.int 3, .int 4]) = some (.bl false) := rfl
  unfold s__law_steps_1
  walk_at "ev"
theorem st_1 (ll : gLen [.lst L] = some (.int n)) (c1 : mDraw [.bor d, .val (.int 8)] = .ok (.v (.int 1)) [.bor d1, .un]) (c2 : mDraw [.bor d1, .val (.int n)] = .ok (.v (.int I)) [.bor d2, .un]) (c3 : mDraw [.bor d2, .val (.int n)] = .ok (.v (.int J)) [.bor d3, .un]) (z2 : (2 : Nat) ≤ sizeLine) (z3 : (3 : Nat) ≤ sizeLine)
    (c4 : mDraw [.bor d3, .val m] = .ok (.v (.int z)) [.bor d4, .un]) (ap : gAppend (.lst L) [.tup [.str "channel", .int z]] = some (.non, .lst L2)) :
    s__law_steps_1 [.bor d, .val m, .val (.int w), .own (.lst L), x4, x5, x6, x7] = .ok .nx [.bor d4, .val m, .val (.int w), .own (.lst L2), x4, .val (.int 1), .val (.int I), .val (.int J)] := by
  have g12 : gIn false (.int 1) (.tup [.int 1, .int 2]) = some (.bl true) := rfl
  have g34 : gIn false (.int 1) (.tup [.int 3, .int 4]) = some (.bl false) := rfl
  unfold s__law_steps_1
  walk_at "ev"
theorem st_2 (ll : gLen [.lst L] = some (.int n)) (c1 : mDraw [.bor d, .val (.int 8)] = .ok (.v (.int 2)) [.bor d1, .un]) (c2 : mDraw [.bor d1, .val (.int n)] = .ok (.v (.int I)) [.bor d2, .un]) (c3 : mDraw [.bor d2, .val (.int n)] = .ok (.v (.int J)) [.bor d3, .un]) (z2 : (2 : Nat) ≤ sizeLine) (z3 : (3 : Nat) ≤ sizeLine)
    (c4 : mDraw [.bor d3, .val m] = .ok (.v (.int z)) [.bor d4, .un]) (ap : gAppend (.lst L) [.tup [.str "channel", .int z]] = some (.non, .lst L2)) :
    s__law_steps_1 [.bor d, .val m, .val (.int w), .own (.lst L), x4, x5, x6, x7] = .ok .nx [.bor d4, .val m, .val (.int w), .own (.lst L2), x4, .val (.int 2), .val (.int I), .val (.int J)] := by
  have g12 : gIn false (.int 2) (.tup [.int 1, .int 2]) = some (.bl true) := rfl
  have g34 : gIn false (.int 2) (.tup [.int 3, .int 4]) = some (.bl false) := rfl
  unfold s__law_steps_1
  walk_at "ev"
theorem st_3 (ll : gLen [.lst L] = some (.int n)) (c1 : mDraw [.bor d, .val (.int 8)] = .ok (.v (.int 3)) [.bor d1, .un]) (c2 : mDraw [.bor d1, .val (.int n)] = .ok (.v (.int I)) [.bor d2, .un]) (c3 : mDraw [.bor d2, .val (.int n)] = .ok (.v (.int J)) [.bor d3, .un]) (z2 : (2 : Nat) ≤ sizeLine) (z3 : (3 : Nat) ≤ sizeLine)
    {q : Str} (c4 : mPick [.bor d3, .val (.tup [.str "sum", .str "minus"])] = .ok (.v (.str q)) [.bor d4, .un]) (ap : gAppend (.lst L) [.tup [.str q, .int I, .int J]] = some (.non, .lst L2)) :
    s__law_steps_1 [.bor d, .val m, .val (.int w), .own (.lst L), x4, x5, x6, x7] = .ok .nx [.bor d4, .val m, .val (.int w), .own (.lst L2), x4, .val (.int 3), .val (.int I), .val (.int J)] := by
  have g12 : gIn false (.int 3) (.tup [.int 1, .int 2]) = some (.bl false) := rfl
  have g34 : gIn false (.int 3) (.tup [.int 3, .int 4]) = some (.bl true) := rfl
  unfold s__law_steps_1
  walk_at "ev"
theorem st_4 (ll : gLen [.lst L] = some (.int n)) (c1 : mDraw [.bor d, .val (.int 8)] = .ok (.v (.int 4)) [.bor d1, .un]) (c2 : mDraw [.bor d1, .val (.int n)] = .ok (.v (.int I)) [.bor d2, .un]) (c3 : mDraw [.bor d2, .val (.int n)] = .ok (.v (.int J)) [.bor d3, .un]) (z2 : (2 : Nat) ≤ sizeLine) (z3 : (3 : Nat) ≤ sizeLine)
    {q : Str} (c4 : mPick [.bor d3, .val (.tup [.str "sum", .str "minus"])] = .ok (.v (.str q)) [.bor d4, .un]) (ap : gAppend (.lst L) [.tup [.str q, .int I, .int J]] = some (.non, .lst L2)) :
    s__law_steps_1 [.bor d, .val m, .val (.int w), .own (.lst L), x4, x5, x6, x7] = .ok .nx [.bor d4, .val m, .val (.int w), .own (.lst L2), x4, .val (.int 4), .val (.int I), .val (.int J)] := by
  have g12 : gIn false (.int 4) (.tup [.int 1, .int 2]) = some (.bl false) := rfl
  have g34 : gIn false (.int 4) (.tup [.int 3, .int 4]) = some (.bl true) := rfl
  unfold s__law_steps_1
  walk_at "ev"
theorem st_5 (ll : gLen [.lst L] = some (.int n)) (c1 : mDraw [.bor d, .val (.int 8)] = .ok (.v (.int 5)) [.bor d1, .un]) (c2 : mDraw [.bor d1, .val (.int n)] = .ok (.v (.int I)) [.bor d2, .un]) (c3 : mDraw [.bor d2, .val (.int n)] = .ok (.v (.int J)) [.bor d3, .un]) (z2 : (2 : Nat) ≤ sizeLine) (z3 : (3 : Nat) ≤ sizeLine)
     (ap : gAppend (.lst L) [.tup [.str "minus", .int I, .int J]] = some (.non, .lst L2)) :
    s__law_steps_1 [.bor d, .val m, .val (.int w), .own (.lst L), x4, x5, x6, x7] = .ok .nx [.bor d3, .val m, .val (.int w), .own (.lst L2), x4, .val (.int 5), .val (.int I), .val (.int J)] := by
  have g12 : gIn false (.int 5) (.tup [.int 1, .int 2]) = some (.bl false) := rfl
  have g34 : gIn false (.int 5) (.tup [.int 3, .int 4]) = some (.bl false) := rfl
  unfold s__law_steps_1
  walk_at "ev"
theorem st_6 (ll : gLen [.lst L] = some (.int n)) (c1 : mDraw [.bor d, .val (.int 8)] = .ok (.v (.int 6)) [.bor d1, .un]) (c2 : mDraw [.bor d1, .val (.int n)] = .ok (.v (.int I)) [.bor d2, .un]) (c3 : mDraw [.bor d2, .val (.int n)] = .ok (.v (.int J)) [.bor d3, .un]) (z2 : (2 : Nat) ≤ sizeLine) (z3 : (3 : Nat) ≤ sizeLine)
    (c4 : mPick [.bor d3, .val (.tup [.int 2, .int (w + 1), .int 100000])] = .ok (.v (.int y)) [.bor d4, .un]) (c5 : mDraw [.bor d4, .val (.int y)] = .ok (.v (.int z)) [.bor d5, .un]) (ap : gAppend (.lst L) [.tup [.str "times", .int I, .int z]] = some (.non, .lst L2)) :
    s__law_steps_1 [.bor d, .val m, .val (.int w), .own (.lst L), x4, x5, x6, x7] = .ok .nx [.bor d5, .val m, .val (.int w), .own (.lst L2), x4, .val (.int 6), .val (.int I), .val (.int J)] := by
  have g12 : gIn false (.int 6) (.tup [.int 1, .int 2]) = some (.bl false) := rfl
  have g34 : gIn false (.int 6) (.tup [.int 3, .int 4]) = some (.bl false) := rfl
  unfold s__law_steps_1
  walk_at "ev"
theorem st_7 (ll : gLen [.lst L] = some (.int n)) (c1 : mDraw [.bor d, .val (.int 8)] = .ok (.v (.int 7)) [.bor d1, .un]) (c2 : mDraw [.bor d1, .val (.int n)] = .ok (.v (.int I)) [.bor d2, .un]) (c3 : mDraw [.bor d2, .val (.int n)] = .ok (.v (.int J)) [.bor d3, .un]) (z2 : (2 : Nat) ≤ sizeLine) (z3 : (3 : Nat) ≤ sizeLine)
    {T : List D} (c4 : m__law_twin [.bor (.lst L), .val (.int I), .val (.int w)] = .ok (.n (.lst T)) [.bor (.lst L), .un, .un]) (ap : gExtend (.lst L) [.lst T] = some (.non, .lst L2)) :
    s__law_steps_1 [.bor d, .val m, .val (.int w), .own (.lst L), x4, x5, x6, x7] = .ok .nx [.bor d3, .val m, .val (.int w), .own (.lst L2), x4, .val (.int 7), .val (.int I), .val (.int J)] := by
  have g12 : gIn false (.int 7) (.tup [.int 1, .int 2]) = some (.bl false) := rfl
  have g34 : gIn false (.int 7) (.tup [.int 3, .int 4]) = some (.bl false) := rfl
  unfold s__law_steps_1
  walk_at "ev"
end
end K11
namespace K11
open PySem PySem.Spec PyProof.Rows L2 L3
local macro_rules | `(tactic| walk_at "ev") => `(tactic| simp (config := {decide := true}) only [W_ok, bind_ok, thn_nx, thn_rt, thn_rn, thn_bk, thn_ct, cVar, cK, c1_e, c1_k, c2_e, c2_k, c2_k2, cB_e, cB_k, cAnd_e, cOr_e, cNot_e, cNot_k, cIte_e, iteK_t, iteK_f, iteK, okB, okV, cAndV_e, cOrV_e, cNotV_e, cNotV_k, cBv_e, aNil, aCons_e, aCons_k, aCons_k2, cTup_e, cTup_k, nLst_e, nLst_k, vN_e, vN_k, cN_e, cN_k, nN_e, nN_k, oNone, oSome_e, oSome_k, cSl_e, cSl_k, cSl_k2, cSl_k3, nSl_e, nSl_k, nSl_k2, nSl_k3, nCat_e, nCat_k, nCat_k2, sNil, sSeq, sFrz, sBrk, sCnt, sExp_e, sExp_k, sRet_e, sRet_k, sRetN_e, sRetN_k, sRetU, sIf_e, sSet_e, sSet_k, sSetN_e, sSetN_k, gSet, gsNil, gsCons_e, gsCons_k, nxK, gTupD, gLstD, sAsg_e, sAsg_k, sAug_e, sAug_k, iL_e, iL_k, iT_e, iT_k, iR1_e, iR1_k, iR2_e, iR2_k, iZ_e, iZ_k, iR3_e, iR3_k, cCh_e, cCh_k, cCh_k2, cCh_k3, nRan_e, nRan_k, r1F_e, r1F_k, r2F_e, r2F_k, r2F_k2, r3F_e, r3F_k, r3F_k2, r3F_k3, intP, sFor_e, run_e, runK_rt, runK_rn, runK_nx, fin, outs, cCall_e, cCall_k, cCall_k2, nCall_e, nCall_k, nCall_k2, callM, sls, lents, wbk, lk, pvD, pvDs, pvs, Sl.dat, Sl.put, gSubD_e, gSubD_k, cM_e, cM_k, cMr_e, cMr_k, cMr_k2, isTy_str, isTy_lst, cGet2_e, cGet2_k, cGet2_k2, cGet2_k3, isDic_d, iRv_e, iRv_k, get2_d, nDic0, pNil, keyD, pCons_e, pCons_k, pCons_k2, pCons_k3, nDic_e, nDic_k, nLc_e, nLc_k, lcB_ok, unAll, backAll, noAdr, setAll, setAllF, List.map_cons, List.map_nil, hOne, cYes, List.all_cons, List.all_nil, Bool.and_true, Bool.true_and, Bool.and_self, Option.map_none, ofO, Rt.d, add_i, mns_i, mul_r, mul_l, div_i, mod_i, neg_i, lt_i, le_i, gt_i, ge_i, int_i, abs_i, len_l, len_t, get_l, get_t, toT_l, toT_t, eq_i, ne_i, eq_s, ne_s, rg_len, isN_non, isN_int, notN_non, notN_int, pow18, isi_int, isi_bool, max_ii, max_l, max_t, sum_l, sum_t, toL_l, toL_t, sl_l, sl_t, sg1, sg2, sg3, sg4, sg5, ss2, ss3, ss4, ss5, List.getElem?_cons_zero, List.getElem?_cons_succ, List.set_cons_zero, List.set_cons_succ, List.length_cons, List.length_nil, List.length_map, List.length_range, List.replicate, List.cons_append, List.nil_append, Option.bind_some, Option.map_some, Option.isSome_some, Option.bind_none, if_true, if_false, reduceIte, decide_eq_true_eq, Bool.false_eq_true, reduceCtorEq, decide_true, decide_false, Bool.not_true, Bool.not_false, *])
local macro_rules | `(tactic| walk_at "evc") => `(tactic| simp (config := {decide := true}) only [at0, at1, at2, at3, set0, set1, set2, ran0, ran1, ran2, ran3, maxI_one, maxI_cons, asI_nil, asI_cons, add_l, add_t, app_l, line_le, line_lt, forL_nil, forL_cons, forL_k, lp_nx, lp_ct, lp_bk, lp_rt, lp_rn, sub_ok, lcL_nil, lcL_cons, lcH_some, lcL_k, lcL_k2, L3.cutD, HT.sIx, List.take_succ_cons, List.take_zero, List.drop_succ_cons, List.drop_zero, List.sum_cons, List.sum_nil, Nat.reduceAdd, Int.reduceSub, Int.reduceAdd, int_lit, Int.reduceToNat, Nat.reduceSub, Nat.min_def, Nat.reduceLeDiff, Int.reduceLT, W_ok, bind_ok, thn_nx, thn_rt, thn_rn, thn_bk, thn_ct, cVar, cK, c1_e, c1_k, c2_e, c2_k, c2_k2, cB_e, cB_k, cAnd_e, cOr_e, cNot_e, cNot_k, cIte_e, iteK_t, iteK_f, iteK, okB, okV, cAndV_e, cOrV_e, cNotV_e, cNotV_k, cBv_e, aNil, aCons_e, aCons_k, aCons_k2, cTup_e, cTup_k, nLst_e, nLst_k, vN_e, vN_k, cN_e, cN_k, nN_e, nN_k, oNone, oSome_e, oSome_k, cSl_e, cSl_k, cSl_k2, cSl_k3, nSl_e, nSl_k, nSl_k2, nSl_k3, nCat_e, nCat_k, nCat_k2, sNil, sSeq, sFrz, sBrk, sCnt, sExp_e, sExp_k, sRet_e, sRet_k, sRetN_e, sRetN_k, sRetU, sIf_e, sSet_e, sSet_k, sSetN_e, sSetN_k, gSet, gsNil, gsCons_e, gsCons_k, nxK, gTupD, gLstD, sAsg_e, sAsg_k, sAug_e, sAug_k, iL_e, iL_k, iT_e, iT_k, iR1_e, iR1_k, iR2_e, iR2_k, iZ_e, iZ_k, iR3_e, iR3_k, cCh_e, cCh_k, cCh_k2, cCh_k3, nRan_e, nRan_k, r1F_e, r1F_k, r2F_e, r2F_k, r2F_k2, r3F_e, r3F_k, r3F_k2, r3F_k3, intP, sFor_e, run_e, runK_rt, runK_rn, runK_nx, fin, outs, cCall_e, cCall_k, cCall_k2, nCall_e, nCall_k, nCall_k2, callM, sls, lents, wbk, lk, pvD, pvDs, pvs, Sl.dat, Sl.put, gSubD_e, gSubD_k, cM_e, cM_k, cMr_e, cMr_k, cMr_k2, isTy_str, isTy_lst, cGet2_e, cGet2_k, cGet2_k2, cGet2_k3, isDic_d, iRv_e, iRv_k, get2_d, nDic0, pNil, keyD, pCons_e, pCons_k, pCons_k2, pCons_k3, nDic_e, nDic_k, nLc_e, nLc_k, lcB_ok, unAll, backAll, noAdr, setAll, setAllF, List.map_cons, List.map_nil, hOne, cYes, List.all_cons, List.all_nil, Bool.and_true, Bool.true_and, Bool.and_self, Option.map_none, ofO, Rt.d, add_i, mns_i, mul_r, mul_l, div_i, mod_i, neg_i, lt_i, le_i, gt_i, ge_i, int_i, abs_i, len_l, len_t, get_l, get_t, toT_l, toT_t, eq_i, ne_i, eq_s, ne_s, rg_len, isN_non, isN_int, notN_non, notN_int, pow18, isi_int, isi_bool, max_ii, max_l, max_t, sum_l, sum_t, toL_l, toL_t, sl_l, sl_t, sg1, sg2, sg3, sg4, sg5, ss2, ss3, ss4, ss5, List.getElem?_cons_zero, List.getElem?_cons_succ, List.set_cons_zero, List.set_cons_succ, List.length_cons, List.length_nil, List.length_map, List.length_range, List.replicate, List.cons_append, List.nil_append, Option.bind_some, Option.map_some, Option.isSome_some, Option.bind_none, if_true, if_false, reduceIte, decide_eq_true_eq, Bool.false_eq_true, reduceCtorEq, decide_true, decide_false, Bool.not_true, Bool.not_false, *])
section
variable {d : D} {w : Int} {m : Nat} {S : List St} {x4 x5 x6 x7 : Sl}
theorem nat_draw (hw : Wf d) {n : Nat} (h0 : 0 < n) (h1 : n < 1073741824) : ∃ (x : Nat) (s' : D), mDraw [.bor d, .val (.int (n : Int))] = .ok (.v (.int (x : Int))) [.bor s', .un] ∧ x < n ∧ Wf s' := by
  obtain ⟨x, s', e, l, u, w⟩ := draw_ok hw (many := (n : Int)) (by omega) (by omega)
  obtain ⟨k, rfl⟩ := Int.eq_ofNat_of_zero_le l
  exact ⟨k, s', e, by omega, w⟩
theorem app_S (h : S.length ≤ 1000) (s : St) : gAppend (.lst (S.map stD)) [stD s] = some (.non, .lst ((S ++ [s]).map stD)) := by
  rw [app_l (by rw [List.length_map, sizeLine_eq]; omega), List.map_append]; rfl
theorem ok_one {s : St} (hS : StsOk m 0 S) (hs : StOk m S.length s) : StsOk m 0 (S ++ [s]) :=
  sts_app hS ⟨by rw [Nat.zero_add]; exact hs, trivial⟩
theorem steps_turn (hw : Wf d) (hS : StsOk m 0 S) (hl : S.length ≤ 900) (h2 : 0 < S.length) (w0 : 2 ≤ w) (w1 : w ≤ 1000) (hm : 0 < m) (hm1 : m ≤ 1000) : ∃ (S' : List St) (d' : D) (y5 y6 y7 : Sl),
    s__law_steps_1 [.bor d, .val (.int (m : Int)), .val (.int w), .own (.lst (S.map stD)), x4, x5, x6, x7] = .ok .nx [.bor d', .val (.int (m : Int)), .val (.int w), .own (.lst (S'.map stD)), x4, y5, y6, y7] ∧ Wf d' ∧ StsOk m 0 S' ∧ S.length ≤ S'.length ∧ S'.length ≤ S.length + 2 := by
  have z2 : (2 : Nat) ≤ sizeLine := by rw [sizeLine_eq]; omega
  have z3 : (3 : Nat) ≤ sizeLine := by rw [sizeLine_eq]; omega
  have ll : gLen [.lst (S.map stD)] = some (.int (S.length : Nat)) := by rw [len_l, List.length_map]
  obtain ⟨y, d1, c1, hy, w1'⟩ := nat_draw hw (n := 8) (by omega) (by omega)
  obtain ⟨I, d2, c2, hI, w2⟩ := nat_draw w1' (n := S.length) h2 (by omega)
  obtain ⟨J, d3, c3, hJ, w3⟩ := nat_draw w2 (n := S.length) h2 (by omega)
  have fin : ∀ {s : St}, StOk m S.length s → StsOk m 0 (S ++ [s]) ∧ S.length ≤ (S ++ [s]).length ∧ (S ++ [s]).length ≤ S.length + 2 := fun hs => ⟨ok_one hS hs, by simp, by simp⟩
  have hl' : S.length ≤ 1000 := by omega
  have pk : ∃ (q : Bool) (s' : D), mPick [.bor d3, .val (.tup [.str "sum", .str "minus"])] = .ok (.v (.str (if q then "sum" else "minus"))) [.bor s', .un] ∧ Wf s' := by
    obtain ⟨x, dd, s', e, hx, w⟩ := pick_ok w3 (ds := [.str "sum", .str "minus"]) (by simp) (by simp)
    have := List.mem_of_getElem? hx
    simp only [List.mem_cons, List.not_mem_nil, or_false] at this
    rcases this with rfl | rfl
    · exact ⟨true, s', e, w⟩
    · exact ⟨false, s', e, w⟩
  match y, hy, c1 with
  | 0, _, c1 =>
    obtain ⟨z, d4, c4, _, _, w4⟩ := draw_ok w3 (many := 3 * w) (by omega) (by omega)
    exact ⟨_, _, _, _, _, st_0 ll c1 c2 c3 z2 z3 (mul_l (by decide)) c4 (app_S hl' (.num z)), w4, fin trivial⟩
  | 1, _, c1 =>
    obtain ⟨z, d4, c4, hz, w4⟩ := nat_draw w3 (n := m) hm (by omega)
    exact ⟨_, _, _, _, _, st_1 ll c1 c2 c3 z2 z3 c4 (app_S hl' (.ch z)), w4, fin hz⟩
  | 2, _, c1 =>
    obtain ⟨z, d4, c4, hz, w4⟩ := nat_draw w3 (n := m) hm (by omega)
    exact ⟨_, _, _, _, _, st_2 ll c1 c2 c3 z2 z3 c4 (app_S hl' (.ch z)), w4, fin hz⟩
  | 3, _, c1 =>
    obtain ⟨q, d4, c4, w4⟩ := pk
    cases q
    · exact ⟨_, _, _, _, _, st_3 ll c1 c2 c3 z2 z3 c4 (app_S hl' (.sub I J)), w4, fin ⟨hI, hJ⟩⟩
    · exact ⟨_, _, _, _, _, st_3 ll c1 c2 c3 z2 z3 c4 (app_S hl' (.add I J)), w4, fin ⟨hI, hJ⟩⟩
  | 4, _, c1 =>
    obtain ⟨q, d4, c4, w4⟩ := pk
    cases q
    · exact ⟨_, _, _, _, _, st_4 ll c1 c2 c3 z2 z3 c4 (app_S hl' (.sub I J)), w4, fin ⟨hI, hJ⟩⟩
    · exact ⟨_, _, _, _, _, st_4 ll c1 c2 c3 z2 z3 c4 (app_S hl' (.add I J)), w4, fin ⟨hI, hJ⟩⟩
  | 5, _, c1 =>
    exact ⟨_, _, _, _, _, st_5 ll c1 c2 c3 z2 z3 (app_S hl' (.sub I J)), w3, fin ⟨hI, hJ⟩⟩
  | 6, _, c1 =>
    obtain ⟨x, dd, d4, c4, hx, w4⟩ := pick_ok w3 (ds := [.int 2, .int (w + 1), .int 100000]) (by simp) (by simp)
    have hv : ∃ v : Int, dd = .int v ∧ 0 < v ∧ v ≤ 100000 := by
      have := List.mem_of_getElem? hx
      simp only [List.mem_cons, List.not_mem_nil, or_false] at this
      rcases this with rfl | rfl | rfl
      · exact ⟨_, rfl, by omega, by omega⟩
      · exact ⟨_, rfl, by omega, by omega⟩
      · exact ⟨_, rfl, by omega, by omega⟩
    obtain ⟨v, rfl, v0, v1⟩ := hv
    obtain ⟨z, d5, c5, _, _, w5⟩ := draw_ok w4 (many := v) v0 (by omega)
    exact ⟨_, _, _, _, _, st_6 ll c1 c2 c3 z2 z3 c4 c5 (app_S hl' (.tim I z)), w5, fin hI⟩
  | 7, _, c1 =>
    obtain ⟨T, c4, hT, hT2⟩ := twin_ok hS hI w0
    have ap : gExtend (.lst (S.map stD)) [.lst (T.map stD)] = some (.non, .lst ((S ++ T).map stD)) := by
      rw [List.map_append]
      exact if_pos (by simp only [List.length_map, sizeLine_eq]; omega)
    exact ⟨_, _, _, _, _, st_7 ll c1 c2 c3 z2 z3 c4 ap, w3, sts_app hS (by rw [Nat.zero_add]; exact hT), by simp, by simp; omega⟩
  | n + 8, h, _ => exact absurd h (by omega)
theorem iso_steps {e m k n : Int} {d d1 d2 d3 d4 : D} {L : List D} {x4 x5 x6 x7 : Sl} (c1 : mDraw [.bor d, .val (.int 100000)] = .ok (.v (.int e)) [.bor d1, .un]) (c2 : mDraw [.bor d1, .val (.int m)] = .ok (.v (.int k)) [.bor d2, .un]) (c3 : mDraw [.bor d2, .val (.int 9)] = .ok (.v (.int n)) [.bor d3, .un]) (z2 : (2 : Nat) ≤ sizeLine) (rr : L3.inR (4 + n) = true)
    (lp : forL (gSet 4) s__law_steps_1 (rangeD 0 (4 + n)) [.bor d3, .val (.int m), .val (.int w), .own (.lst [.tup [.str "number", .int e], .tup [.str "channel", .int k]]), .un, .un, .un, .un] = .ok .nx [.bor d4, .val (.int m), .val (.int w), .own (.lst L), x4, x5, x6, x7]) :
    m__law_steps [.bor d, .val (.int m), .val (.int w)] = .ok (.n (.lst L)) [.bor d4, .un, .un] := by
  unfold m__law_steps g__law_steps
  walk_at "ev"
theorem steps_loop (n : Nat) (hn : n ≤ 12) (hw : Wf d) (hS : StsOk m 0 S) (hl : S.length = 2) (w0 : 2 ≤ w) (w1 : w ≤ 1000) (hm : 0 < m) (hm1 : m ≤ 1000) : ∃ (S' : List St) (d' : D) (y4 y5 y6 y7 : Sl),
    forL (gSet 4) s__law_steps_1 (rangeD 0 (n : Int)) [.bor d, .val (.int (m : Int)), .val (.int w), .own (.lst (S.map stD)), x4, x5, x6, x7] = .ok .nx [.bor d', .val (.int (m : Int)), .val (.int w), .own (.lst (S'.map stD)), y4, y5, y6, y7] ∧ Wf d' ∧ StsOk m 0 S' ∧ 2 ≤ S'.length ∧ S'.length ≤ 100 := by
  have key : L3.W (forL (gSet 4) s__law_steps_1 (rangeD 0 (n : Int)) [.bor d, .val (.int (m : Int)), .val (.int w), .own (.lst (S.map stD)), x4, x5, x6, x7])
      (fun fl ρ => fl = .nx ∧ ∃ (S' : List St) (d' : D) (y4 y5 y6 y7 : Sl), ρ = [.bor d', .val (.int (m : Int)), .val (.int w), .own (.lst (S'.map stD)), y4, y5, y6, y7] ∧ Wf d' ∧ StsOk m 0 S' ∧ 2 ≤ S'.length ∧ S'.length ≤ 100) := by
    refine forL_all (I := fun k ρ => k ≤ n ∧ ∃ (S' : List St) (d' : D) (y4 y5 y6 y7 : Sl), ρ = [.bor d', .val (.int (m : Int)), .val (.int w), .own (.lst (S'.map stD)), y4, y5, y6, y7] ∧ Wf d' ∧ StsOk m 0 S' ∧ 2 ≤ S'.length ∧ S'.length ≤ 2 + 2 * k) ⟨by omega, S, d, x4, x5, x6, x7, rfl, hw, hS, by omega, by omega⟩ ?_ ?_
    · rintro ρ ⟨h, S', d', y4, y5, y6, y7, rfl, a1, a2, a3, a4⟩
      exact ⟨rfl, S', d', y4, y5, y6, y7, rfl, a1, a2, a3, by omega⟩
    · rintro k ρ e h3 ⟨h, S', d', y4, y5, y6, y7, rfl, a1, a2, a3, a4⟩
      obtain ⟨rfl, hk⟩ := ran_nat h3
      refine ⟨_, rfl, ?_⟩
      obtain ⟨S2, d2, z5, z6, z7, t, b1, b2, b3, b4⟩ := steps_turn (x4 := .val (.int (k : Int))) (x5 := y5) (x6 := y6) (x7 := y7) a1 a2 (by omega) (by omega) w0 w1 hm hm1
      show L3.W (s__law_steps_1 [.bor d', .val (.int (m : Int)), .val (.int w), .own (.lst (S'.map stD)), .val (.int (k : Int)), y5, y6, y7]) _
      rw [t]
      exact ⟨by omega, S2, d2, _, z5, z6, z7, rfl, b1, b2, by omega, by omega⟩
  obtain ⟨fl, ρ, e, rfl, S', d', y4, y5, y6, y7, rfl, h⟩ := key.ok
  exact ⟨S', d', y4, y5, y6, y7, e, h⟩
theorem steps_ok (hw : Wf d) (w0 : 2 ≤ w) (w1 : w ≤ 1000) (hm : 0 < m) (hm1 : m ≤ 1000) : ∃ (S : List St) (d' : D), m__law_steps [.bor d, .val (.int (m : Int)), .val (.int w)] = .ok (.n (.lst (S.map stD))) [.bor d', .un, .un] ∧ Wf d' ∧ StsOk m 0 S ∧ 2 ≤ S.length ∧ S.length ≤ 100 := by
  have z2 : (2 : Nat) ≤ sizeLine := by rw [sizeLine_eq]; omega
  obtain ⟨e, d1, c1, _, _, w1'⟩ := draw_ok hw (many := 100000) (by decide) (by decide)
  obtain ⟨k, d2, c2, hk, w2⟩ := nat_draw w1' (n := m) hm (by omega)
  obtain ⟨n, d3, c3, hn, w3⟩ := nat_draw w2 (n := 9) (by omega) (by omega)
  obtain ⟨S, d4, x4, x5, x6, x7, lp, h⟩ := steps_loop (m := m) (S := [.num e, .ch k]) (x4 := .un) (x5 := .un) (x6 := .un) (x7 := .un) (4 + n) (by omega) w3 ⟨trivial, hk, trivial⟩ rfl w0 w1 hm hm1
  exact ⟨S, d4, iso_steps c1 c2 c3 z2 (show L3.inR (4 + (n : Int)) = true from inR_nat (n := 4 + n) (by omega)) lp, h⟩
end
end K11
namespace K11
open PySem PySem.Spec PyProof.Rows L2 L3
local macro_rules | `(tactic| walk_at "ev") => `(tactic| simp (config := {decide := true}) only [W_ok, bind_ok, thn_nx, thn_rt, thn_rn, thn_bk, thn_ct, cVar, cK, c1_e, c1_k, c2_e, c2_k, c2_k2, cB_e, cB_k, cAnd_e, cOr_e, cNot_e, cNot_k, cIte_e, iteK_t, iteK_f, iteK, okB, okV, cAndV_e, cOrV_e, cNotV_e, cNotV_k, cBv_e, aNil, aCons_e, aCons_k, aCons_k2, cTup_e, cTup_k, nLst_e, nLst_k, vN_e, vN_k, cN_e, cN_k, nN_e, nN_k, oNone, oSome_e, oSome_k, cSl_e, cSl_k, cSl_k2, cSl_k3, nSl_e, nSl_k, nSl_k2, nSl_k3, nCat_e, nCat_k, nCat_k2, sNil, sSeq, sFrz, sBrk, sCnt, sExp_e, sExp_k, sRet_e, sRet_k, sRetN_e, sRetN_k, sRetU, sIf_e, sSet_e, sSet_k, sSetN_e, sSetN_k, gSet, gsNil, gsCons_e, gsCons_k, nxK, gTupD, gLstD, sAsg_e, sAsg_k, sAug_e, sAug_k, iL_e, iL_k, iT_e, iT_k, iR1_e, iR1_k, iR2_e, iR2_k, iZ_e, iZ_k, iR3_e, iR3_k, cCh_e, cCh_k, cCh_k2, cCh_k3, nRan_e, nRan_k, r1F_e, r1F_k, r2F_e, r2F_k, r2F_k2, r3F_e, r3F_k, r3F_k2, r3F_k3, intP, sFor_e, run_e, runK_rt, runK_rn, runK_nx, fin, outs, cCall_e, cCall_k, cCall_k2, nCall_e, nCall_k, nCall_k2, callM, sls, lents, wbk, lk, pvD, pvDs, pvs, Sl.dat, Sl.put, gSubD_e, gSubD_k, cM_e, cM_k, cMr_e, cMr_k, cMr_k2, isTy_str, isTy_lst, cGet2_e, cGet2_k, cGet2_k2, cGet2_k3, isDic_d, iRv_e, iRv_k, get2_d, nDic0, pNil, keyD, pCons_e, pCons_k, pCons_k2, pCons_k3, nDic_e, nDic_k, nLc_e, nLc_k, lcB_ok, unAll, backAll, noAdr, setAll, setAllF, List.map_cons, List.map_nil, hOne, cYes, List.all_cons, List.all_nil, Bool.and_true, Bool.true_and, Bool.and_self, Option.map_none, ofO, Rt.d, add_i, mns_i, mul_r, mul_l, div_i, mod_i, neg_i, lt_i, le_i, gt_i, ge_i, int_i, abs_i, len_l, len_t, get_l, get_t, toT_l, toT_t, eq_i, ne_i, eq_s, ne_s, rg_len, isN_non, isN_int, notN_non, notN_int, pow18, isi_int, isi_bool, max_ii, max_l, max_t, sum_l, sum_t, toL_l, toL_t, sl_l, sl_t, sg1, sg2, sg3, sg4, sg5, ss2, ss3, ss4, ss5, List.getElem?_cons_zero, List.getElem?_cons_succ, List.set_cons_zero, List.set_cons_succ, List.length_cons, List.length_nil, List.length_map, List.length_range, List.replicate, List.cons_append, List.nil_append, Option.bind_some, Option.map_some, Option.isSome_some, Option.bind_none, if_true, if_false, reduceIte, decide_eq_true_eq, Bool.false_eq_true, reduceCtorEq, decide_true, decide_false, Bool.not_true, Bool.not_false, *])
local macro_rules | `(tactic| walk_at "evc") => `(tactic| simp (config := {decide := true}) only [at0, at1, at2, at3, set0, set1, set2, ran0, ran1, ran2, ran3, maxI_one, maxI_cons, asI_nil, asI_cons, add_l, add_t, app_l, line_le, line_lt, forL_nil, forL_cons, forL_k, lp_nx, lp_ct, lp_bk, lp_rt, lp_rn, sub_ok, lcL_nil, lcL_cons, lcH_some, lcL_k, lcL_k2, L3.cutD, HT.sIx, List.take_succ_cons, List.take_zero, List.drop_succ_cons, List.drop_zero, List.sum_cons, List.sum_nil, Nat.reduceAdd, Int.reduceSub, Int.reduceAdd, int_lit, Int.reduceToNat, Nat.reduceSub, Nat.min_def, Nat.reduceLeDiff, Int.reduceLT, W_ok, bind_ok, thn_nx, thn_rt, thn_rn, thn_bk, thn_ct, cVar, cK, c1_e, c1_k, c2_e, c2_k, c2_k2, cB_e, cB_k, cAnd_e, cOr_e, cNot_e, cNot_k, cIte_e, iteK_t, iteK_f, iteK, okB, okV, cAndV_e, cOrV_e, cNotV_e, cNotV_k, cBv_e, aNil, aCons_e, aCons_k, aCons_k2, cTup_e, cTup_k, nLst_e, nLst_k, vN_e, vN_k, cN_e, cN_k, nN_e, nN_k, oNone, oSome_e, oSome_k, cSl_e, cSl_k, cSl_k2, cSl_k3, nSl_e, nSl_k, nSl_k2, nSl_k3, nCat_e, nCat_k, nCat_k2, sNil, sSeq, sFrz, sBrk, sCnt, sExp_e, sExp_k, sRet_e, sRet_k, sRetN_e, sRetN_k, sRetU, sIf_e, sSet_e, sSet_k, sSetN_e, sSetN_k, gSet, gsNil, gsCons_e, gsCons_k, nxK, gTupD, gLstD, sAsg_e, sAsg_k, sAug_e, sAug_k, iL_e, iL_k, iT_e, iT_k, iR1_e, iR1_k, iR2_e, iR2_k, iZ_e, iZ_k, iR3_e, iR3_k, cCh_e, cCh_k, cCh_k2, cCh_k3, nRan_e, nRan_k, r1F_e, r1F_k, r2F_e, r2F_k, r2F_k2, r3F_e, r3F_k, r3F_k2, r3F_k3, intP, sFor_e, run_e, runK_rt, runK_rn, runK_nx, fin, outs, cCall_e, cCall_k, cCall_k2, nCall_e, nCall_k, nCall_k2, callM, sls, lents, wbk, lk, pvD, pvDs, pvs, Sl.dat, Sl.put, gSubD_e, gSubD_k, cM_e, cM_k, cMr_e, cMr_k, cMr_k2, isTy_str, isTy_lst, cGet2_e, cGet2_k, cGet2_k2, cGet2_k3, isDic_d, iRv_e, iRv_k, get2_d, nDic0, pNil, keyD, pCons_e, pCons_k, pCons_k2, pCons_k3, nDic_e, nDic_k, nLc_e, nLc_k, lcB_ok, unAll, backAll, noAdr, setAll, setAllF, List.map_cons, List.map_nil, hOne, cYes, List.all_cons, List.all_nil, Bool.and_true, Bool.true_and, Bool.and_self, Option.map_none, ofO, Rt.d, add_i, mns_i, mul_r, mul_l, div_i, mod_i, neg_i, lt_i, le_i, gt_i, ge_i, int_i, abs_i, len_l, len_t, get_l, get_t, toT_l, toT_t, eq_i, ne_i, eq_s, ne_s, rg_len, isN_non, isN_int, notN_non, notN_int, pow18, isi_int, isi_bool, max_ii, max_l, max_t, sum_l, sum_t, toL_l, toL_t, sl_l, sl_t, sg1, sg2, sg3, sg4, sg5, ss2, ss3, ss4, ss5, List.getElem?_cons_zero, List.getElem?_cons_succ, List.set_cons_zero, List.set_cons_succ, List.length_cons, List.length_nil, List.length_map, List.length_range, List.replicate, List.cons_append, List.nil_append, Option.bind_some, Option.map_some, Option.isSome_some, Option.bind_none, if_true, if_false, reduceIte, decide_eq_true_eq, Bool.false_eq_true, reduceCtorEq, decide_true, decide_false, Bool.not_true, Bool.not_false, *])
section
variable {names : List Str} {w : Int} {Ps : List (Str → Int)} {S : List St} {B : List Fm} {d : D}
theorem loop2 (h : Al names w Ps S B) {q0 q1 q2 q5 q10 x11 q12 q13 q14 q15 q16 q17 q18 q19 q20 : Sl} : ∃ y10 y11 : Sl,
    forL (gSet 10) s_law_2 (rangeD 0 (S.length : Int)) [q0, q1, q2, .val (.int w), .val (.lst (names.map D.str)), q5, .val (.lst (S.map stD)), .val (.lst (B.map (rwD names w Ps))), .val (.lst (B.map (fDp names))), .own (.lst []), q10, x11, q12, q13, q14, q15, q16, q17, q18, q19, q20] =
      .ok .nx [q0, q1, q2, .val (.int w), .val (.lst (names.map D.str)), q5, .val (.lst (S.map stD)), .val (.lst (B.map (rwD names w Ps))), .val (.lst (B.map (fDp names))), .own (.lst (B.map (fDp names))), y10, y11, q12, q13, q14, q15, q16, q17, q18, q19, q20] := by
  have key : W (forL (gSet 10) s_law_2 (rangeD 0 (S.length : Int)) [q0, q1, q2, .val (.int w), .val (.lst (names.map D.str)), q5, .val (.lst (S.map stD)), .val (.lst (B.map (rwD names w Ps))), .val (.lst (B.map (fDp names))), .own (.lst []), q10, x11, q12, q13, q14, q15, q16, q17, q18, q19, q20])
      (fun fl ρ => fl = .nx ∧ ∃ y10 y11 : Sl, ρ = [q0, q1, q2, .val (.int w), .val (.lst (names.map D.str)), q5, .val (.lst (S.map stD)), .val (.lst (B.map (rwD names w Ps))), .val (.lst (B.map (fDp names))), .own (.lst (B.map (fDp names))), y10, y11, q12, q13, q14, q15, q16, q17, q18, q19, q20]) := by
    refine forL_all (I := fun k ρ => ∃ y10 y11 : Sl, ρ = [q0, q1, q2, .val (.int w), .val (.lst (names.map D.str)), q5, .val (.lst (S.map stD)), .val (.lst (B.map (rwD names w Ps))), .val (.lst (B.map (fDp names))), .own (.lst ((B.take k).map (fDp names))), y10, y11, q12, q13, q14, q15, q16, q17, q18, q19, q20]) ⟨_, _, rfl⟩ ?_ ?_
    · rintro ρ ⟨y10, y11, rfl⟩
      rw [ran_len, ← h.len, List.take_length]
      exact ⟨rfl, _, _, rfl⟩
    · rintro k ρ e hd ⟨y10, y11, rfl⟩
      obtain ⟨rfl, hk⟩ := ran_nat hd
      exact ⟨_, rfl, W_of (law2_turn h hk) ⟨_, _, rfl⟩⟩
  obtain ⟨fl, ρ, e, rfl, y10, y11, rfl⟩ := key.ok
  exact ⟨_, _, e⟩
theorem loop4 (h : Al names w Ps S B) {q0 q1 q2 q3 q4 q5 q6 q8 q10 q11 q12 q13 q14 q15 q16 q17 q18 q19 q20 : Sl} : ∃ y12 y13 : Sl,
    forL (gSet 12) s_law_4 (rangeD 0 (S.length : Int)) [q0, q1, q2, q3, q4, q5, q6, .val (.lst (B.map (rwD names w Ps))), q8, .own (.lst (B.map (fDp names))), q10, q11, q12, q13, q14, q15, q16, q17, q18, q19, q20] =
      .ok .nx [q0, q1, q2, q3, q4, q5, q6, .val (.lst (B.map (rwD names w Ps))), q8, .own (.lst (B.map (fDp names))), q10, q11, y12, y13, q14, q15, q16, q17, q18, q19, q20] := by
  have key : W (forL (gSet 12) s_law_4 (rangeD 0 (S.length : Int)) [q0, q1, q2, q3, q4, q5, q6, .val (.lst (B.map (rwD names w Ps))), q8, .own (.lst (B.map (fDp names))), q10, q11, q12, q13, q14, q15, q16, q17, q18, q19, q20])
      (fun fl ρ => fl = .nx ∧ ∃ y12 y13 : Sl, ρ = [q0, q1, q2, q3, q4, q5, q6, .val (.lst (B.map (rwD names w Ps))), q8, .own (.lst (B.map (fDp names))), q10, q11, y12, y13, q14, q15, q16, q17, q18, q19, q20]) := by
    refine forL_all (I := fun k ρ => ∃ y12 y13 : Sl, ρ = [q0, q1, q2, q3, q4, q5, q6, .val (.lst (B.map (rwD names w Ps))), q8, .own (.lst (B.map (fDp names))), q10, q11, y12, y13, q14, q15, q16, q17, q18, q19, q20]) ⟨_, _, rfl⟩ ?_ ?_
    · rintro ρ ⟨y12, y13, rfl⟩
      exact ⟨rfl, _, _, rfl⟩
    · rintro k ρ e hd ⟨y12, y13, rfl⟩
      obtain ⟨rfl, hk⟩ := ran_nat hd
      obtain ⟨z, e⟩ := law4_turn h hk (q0 := q0) (q1 := q1) (q2 := q2) (q3 := q3) (q4 := q4) (q5 := q5) (q6 := q6) (q8 := q8) (q10 := q10) (q11 := q11) (q13 := y13) (q14 := q14) (q15 := q15) (q16 := q16) (q17 := q17) (q18 := q18) (q19 := q19) (q20 := q20)
      exact ⟨_, rfl, W_of e ⟨_, _, rfl⟩⟩
  obtain ⟨fl, ρ, e, rfl, y12, y13, rfl⟩ := key.ok
  exact ⟨_, _, e⟩
theorem loop6 (hw : Wf d) (h : Al names w Ps S B) {q0 q2 q8 q10 q11 q12 q13 x14 x15 x16 q17 q18 q19 q20 : Sl} : ∃ (d' : D) (y10 y14 y15 y16 : Sl),
    forL (gSet 10) s_law_6 (rangeD 0 (Ps.length : Int)) [q0, .own d, q2, .val (.int w), .val (.lst (names.map D.str)), .val (.lst (Ps.map (ptD names))), .val (.lst (S.map stD)), .val (.lst (B.map (rwD names w Ps))), q8, .own (.lst (B.map (fDp names))), q10, q11, q12, q13, x14, x15, x16, q17, q18, q19, q20] =
      .ok .nx [q0, .own d', q2, .val (.int w), .val (.lst (names.map D.str)), .val (.lst (Ps.map (ptD names))), .val (.lst (S.map stD)), .val (.lst (B.map (rwD names w Ps))), q8, .own (.lst (B.map (fDp names))), y10, q11, q12, q13, y14, y15, y16, q17, q18, q19, q20] ∧ Wf d' := by
  have key : W (forL (gSet 10) s_law_6 (rangeD 0 (Ps.length : Int)) [q0, .own d, q2, .val (.int w), .val (.lst (names.map D.str)), .val (.lst (Ps.map (ptD names))), .val (.lst (S.map stD)), .val (.lst (B.map (rwD names w Ps))), q8, .own (.lst (B.map (fDp names))), q10, q11, q12, q13, x14, x15, x16, q17, q18, q19, q20])
      (fun fl ρ => fl = .nx ∧ ∃ (d' : D) (y10 y14 y15 y16 : Sl), ρ = [q0, .own d', q2, .val (.int w), .val (.lst (names.map D.str)), .val (.lst (Ps.map (ptD names))), .val (.lst (S.map stD)), .val (.lst (B.map (rwD names w Ps))), q8, .own (.lst (B.map (fDp names))), y10, q11, q12, q13, y14, y15, y16, q17, q18, q19, q20] ∧ Wf d') := by
    refine forL_all (I := fun k ρ => ∃ (d' : D) (y10 y14 y15 y16 : Sl), ρ = [q0, .own d', q2, .val (.int w), .val (.lst (names.map D.str)), .val (.lst (Ps.map (ptD names))), .val (.lst (S.map stD)), .val (.lst (B.map (rwD names w Ps))), q8, .own (.lst (B.map (fDp names))), y10, q11, q12, q13, y14, y15, y16, q17, q18, q19, q20] ∧ Wf d') ⟨_, _, _, _, _, rfl, hw⟩ ?_ ?_
    · rintro ρ ⟨d', y10, y14, y15, y16, rfl, w'⟩
      exact ⟨rfl, _, _, _, _, _, rfl, w'⟩
    · rintro k ρ e hd ⟨d', y10, y14, y15, y16, rfl, w'⟩
      obtain ⟨rfl, hk⟩ := ran_nat hd
      obtain ⟨d2, z15, z16, e, w2⟩ := law6_turn w' h hk (q0 := q0) (q2 := q2) (q8 := q8) (q11 := q11) (q12 := q12) (q13 := q13) (x14 := y14) (x15 := y15) (x16 := y16) (q17 := q17) (q18 := q18) (q19 := q19) (q20 := q20)
      exact ⟨_, rfl, W_of e ⟨_, _, _, _, _, rfl, w2⟩⟩
  obtain ⟨fl, ρ, e, rfl, d', y10, y14, y15, y16, rfl, w'⟩ := key.ok
  exact ⟨_, _, _, _, _, e, w'⟩
theorem loop9 (hw : Wf d) (h : Al names w Ps S B) {q0 q11 q12 q13 x10 x14 q15 q16 x17 x18 x19 q20 : Sl} : ∃ (d' : D) (y10 y14 y15 y17 y18 y19 : Sl),
    forL (gSet 15) s_law_9 (rangeD 0 (S.length : Int)) [q0, .own d, .val (.int names.length), .val (.int w), .val (.lst (names.map D.str)), .val (.lst (Ps.map (ptD names))), .val (.lst (S.map stD)), .val (.lst (B.map (rwD names w Ps))), .val (.lst (B.map (fDp names))), .own (.lst (B.map (fDp names))), x10, q11, q12, q13, x14, q15, q16, x17, x18, x19, q20] =
      .ok .nx [q0, .own d', .val (.int names.length), .val (.int w), .val (.lst (names.map D.str)), .val (.lst (Ps.map (ptD names))), .val (.lst (S.map stD)), .val (.lst (B.map (rwD names w Ps))), .val (.lst (B.map (fDp names))), .own (.lst (B.map (fDp names))), y10, q11, q12, q13, y14, y15, q16, y17, y18, y19, q20] := by
  have key : W (forL (gSet 15) s_law_9 (rangeD 0 (S.length : Int)) [q0, .own d, .val (.int names.length), .val (.int w), .val (.lst (names.map D.str)), .val (.lst (Ps.map (ptD names))), .val (.lst (S.map stD)), .val (.lst (B.map (rwD names w Ps))), .val (.lst (B.map (fDp names))), .own (.lst (B.map (fDp names))), x10, q11, q12, q13, x14, q15, q16, x17, x18, x19, q20])
      (fun fl ρ => fl = .nx ∧ ∃ (d' : D) (y10 y14 y15 y17 y18 y19 : Sl), ρ = [q0, .own d', .val (.int names.length), .val (.int w), .val (.lst (names.map D.str)), .val (.lst (Ps.map (ptD names))), .val (.lst (S.map stD)), .val (.lst (B.map (rwD names w Ps))), .val (.lst (B.map (fDp names))), .own (.lst (B.map (fDp names))), y10, q11, q12, q13, y14, y15, q16, y17, y18, y19, q20]) := by
    refine forL_all (I := fun k ρ => ∃ (d' : D) (y10 y14 y15 y17 y18 y19 : Sl), ρ = [q0, .own d', .val (.int names.length), .val (.int w), .val (.lst (names.map D.str)), .val (.lst (Ps.map (ptD names))), .val (.lst (S.map stD)), .val (.lst (B.map (rwD names w Ps))), .val (.lst (B.map (fDp names))), .own (.lst (B.map (fDp names))), y10, q11, q12, q13, y14, y15, q16, y17, y18, y19, q20] ∧ Wf d') ⟨_, _, _, _, _, _, _, rfl, hw⟩ ?_ ?_
    · rintro ρ ⟨d', y10, y14, y15, y17, y18, y19, rfl, w'⟩
      exact ⟨rfl, _, _, _, _, _, _, _, rfl⟩
    · rintro k ρ e hd ⟨d', y10, y14, y15, y17, y18, y19, rfl, w'⟩
      obtain ⟨rfl, hk⟩ := ran_nat hd
      refine ⟨_, rfl, ?_⟩
      refine W.imp (law9_turn w' h hk) fun fl ρ ⟨r1, d2, z10, z14, z17, z18, z19, r2, w2⟩ => ?_
      subst r1 r2
      exact ⟨_, _, _, _, _, _, _, rfl, w2⟩
  obtain ⟨fl, ρ, e, rfl, d', y10, y14, y15, y17, y18, y19, rfl⟩ := key.ok
  exact ⟨_, _, _, _, _, _, _, e⟩
theorem same_B (N : Nm names w) (hB : B.length ≤ 1000) : m__law_same 6 [.val (.tup (B.map (fDp names))), .val (.tup (B.map (fDp names)))] = .ok (.v (.bl true)) [.un, .un] := by
  refine same_ok 5 _ ?_
  have mono : ∀ (n : Nat) (d : D), sdB n d = true → sdB (n + 1) d = true := by
    intro n
    induction n with
    | zero => intro d h; cases d <;> simp_all [sdB]
    | succ n ih =>
      intro d h
      cases d with
      | tup ds =>
        rw [sdB, Bool.and_eq_true, List.all_eq_true] at h ⊢
        exact ⟨h.1, fun x hx => ih x (h.2 x hx)⟩
      | _ => simp_all [sdB]
  rw [sdB, Bool.and_eq_true, List.all_eq_true]
  refine ⟨decide_eq_true (by rw [List.length_map]; omega), fun x hx => ?_⟩
  obtain ⟨a, _, rfl⟩ := List.mem_map.mp hx
  exact mono _ _ (fD_sd N)
end
end K11
namespace K11
open PySem PySem.Spec PyProof.Rows L2 L3
local macro_rules | `(tactic| walk_at "ev") => `(tactic| simp (config := {decide := true}) only [W_ok, bind_ok, thn_nx, thn_rt, thn_rn, thn_bk, thn_ct, cVar, cK, c1_e, c1_k, c2_e, c2_k, c2_k2, cB_e, cB_k, cAnd_e, cOr_e, cNot_e, cNot_k, cIte_e, iteK_t, iteK_f, iteK, okB, okV, cAndV_e, cOrV_e, cNotV_e, cNotV_k, cBv_e, aNil, aCons_e, aCons_k, aCons_k2, cTup_e, cTup_k, nLst_e, nLst_k, vN_e, vN_k, cN_e, cN_k, nN_e, nN_k, oNone, oSome_e, oSome_k, cSl_e, cSl_k, cSl_k2, cSl_k3, nSl_e, nSl_k, nSl_k2, nSl_k3, nCat_e, nCat_k, nCat_k2, sNil, sSeq, sFrz, sBrk, sCnt, sExp_e, sExp_k, sRet_e, sRet_k, sRetN_e, sRetN_k, sRetU, sIf_e, sSet_e, sSet_k, sSetN_e, sSetN_k, gSet, gsNil, gsCons_e, gsCons_k, nxK, gTupD, gLstD, sAsg_e, sAsg_k, sAug_e, sAug_k, iL_e, iL_k, iT_e, iT_k, iR1_e, iR1_k, iR2_e, iR2_k, iZ_e, iZ_k, iR3_e, iR3_k, cCh_e, cCh_k, cCh_k2, cCh_k3, nRan_e, nRan_k, r1F_e, r1F_k, r2F_e, r2F_k, r2F_k2, r3F_e, r3F_k, r3F_k2, r3F_k3, intP, sFor_e, run_e, runK_rt, runK_rn, runK_nx, fin, outs, cCall_e, cCall_k, cCall_k2, nCall_e, nCall_k, nCall_k2, callM, sls, lents, wbk, lk, pvD, pvDs, pvs, Sl.dat, Sl.put, gSubD_e, gSubD_k, cM_e, cM_k, cMr_e, cMr_k, cMr_k2, isTy_str, isTy_lst, cGet2_e, cGet2_k, cGet2_k2, cGet2_k3, isDic_d, iRv_e, iRv_k, get2_d, nDic0, pNil, keyD, pCons_e, pCons_k, pCons_k2, pCons_k3, nDic_e, nDic_k, nLc_e, nLc_k, lcB_ok, unAll, backAll, noAdr, setAll, setAllF, List.map_cons, List.map_nil, hOne, cYes, List.all_cons, List.all_nil, Bool.and_true, Bool.true_and, Bool.and_self, Option.map_none, ofO, Rt.d, add_i, mns_i, mul_r, mul_l, div_i, mod_i, neg_i, lt_i, le_i, gt_i, ge_i, int_i, abs_i, len_l, len_t, get_l, get_t, toT_l, toT_t, eq_i, ne_i, eq_s, ne_s, rg_len, isN_non, isN_int, notN_non, notN_int, pow18, isi_int, isi_bool, max_ii, max_l, max_t, sum_l, sum_t, toL_l, toL_t, sl_l, sl_t, sg1, sg2, sg3, sg4, sg5, ss2, ss3, ss4, ss5, List.getElem?_cons_zero, List.getElem?_cons_succ, List.set_cons_zero, List.set_cons_succ, List.length_cons, List.length_nil, List.length_map, List.length_range, List.replicate, List.cons_append, List.nil_append, Option.bind_some, Option.map_some, Option.isSome_some, Option.bind_none, if_true, if_false, reduceIte, decide_eq_true_eq, Bool.false_eq_true, reduceCtorEq, decide_true, decide_false, Bool.not_true, Bool.not_false, *])
local macro_rules | `(tactic| walk_at "evc") => `(tactic| simp (config := {decide := true}) only [at0, at1, at2, at3, set0, set1, set2, ran0, ran1, ran2, ran3, maxI_one, maxI_cons, asI_nil, asI_cons, add_l, add_t, app_l, line_le, line_lt, forL_nil, forL_cons, forL_k, lp_nx, lp_ct, lp_bk, lp_rt, lp_rn, sub_ok, lcL_nil, lcL_cons, lcH_some, lcL_k, lcL_k2, L3.cutD, HT.sIx, List.take_succ_cons, List.take_zero, List.drop_succ_cons, List.drop_zero, List.sum_cons, List.sum_nil, Nat.reduceAdd, Int.reduceSub, Int.reduceAdd, int_lit, Int.reduceToNat, Nat.reduceSub, Nat.min_def, Nat.reduceLeDiff, Int.reduceLT, W_ok, bind_ok, thn_nx, thn_rt, thn_rn, thn_bk, thn_ct, cVar, cK, c1_e, c1_k, c2_e, c2_k, c2_k2, cB_e, cB_k, cAnd_e, cOr_e, cNot_e, cNot_k, cIte_e, iteK_t, iteK_f, iteK, okB, okV, cAndV_e, cOrV_e, cNotV_e, cNotV_k, cBv_e, aNil, aCons_e, aCons_k, aCons_k2, cTup_e, cTup_k, nLst_e, nLst_k, vN_e, vN_k, cN_e, cN_k, nN_e, nN_k, oNone, oSome_e, oSome_k, cSl_e, cSl_k, cSl_k2, cSl_k3, nSl_e, nSl_k, nSl_k2, nSl_k3, nCat_e, nCat_k, nCat_k2, sNil, sSeq, sFrz, sBrk, sCnt, sExp_e, sExp_k, sRet_e, sRet_k, sRetN_e, sRetN_k, sRetU, sIf_e, sSet_e, sSet_k, sSetN_e, sSetN_k, gSet, gsNil, gsCons_e, gsCons_k, nxK, gTupD, gLstD, sAsg_e, sAsg_k, sAug_e, sAug_k, iL_e, iL_k, iT_e, iT_k, iR1_e, iR1_k, iR2_e, iR2_k, iZ_e, iZ_k, iR3_e, iR3_k, cCh_e, cCh_k, cCh_k2, cCh_k3, nRan_e, nRan_k, r1F_e, r1F_k, r2F_e, r2F_k, r2F_k2, r3F_e, r3F_k, r3F_k2, r3F_k3, intP, sFor_e, run_e, runK_rt, runK_rn, runK_nx, fin, outs, cCall_e, cCall_k, cCall_k2, nCall_e, nCall_k, nCall_k2, callM, sls, lents, wbk, lk, pvD, pvDs, pvs, Sl.dat, Sl.put, gSubD_e, gSubD_k, cM_e, cM_k, cMr_e, cMr_k, cMr_k2, isTy_str, isTy_lst, cGet2_e, cGet2_k, cGet2_k2, cGet2_k3, isDic_d, iRv_e, iRv_k, get2_d, nDic0, pNil, keyD, pCons_e, pCons_k, pCons_k2, pCons_k3, nDic_e, nDic_k, nLc_e, nLc_k, lcB_ok, unAll, backAll, noAdr, setAll, setAllF, List.map_cons, List.map_nil, hOne, cYes, List.all_cons, List.all_nil, Bool.and_true, Bool.true_and, Bool.and_self, Option.map_none, ofO, Rt.d, add_i, mns_i, mul_r, mul_l, div_i, mod_i, neg_i, lt_i, le_i, gt_i, ge_i, int_i, abs_i, len_l, len_t, get_l, get_t, toT_l, toT_t, eq_i, ne_i, eq_s, ne_s, rg_len, isN_non, isN_int, notN_non, notN_int, pow18, isi_int, isi_bool, max_ii, max_l, max_t, sum_l, sum_t, toL_l, toL_t, sl_l, sl_t, sg1, sg2, sg3, sg4, sg5, ss2, ss3, ss4, ss5, List.getElem?_cons_zero, List.getElem?_cons_succ, List.set_cons_zero, List.set_cons_succ, List.length_cons, List.length_nil, List.length_map, List.length_range, List.replicate, List.cons_append, List.nil_append, Option.bind_some, Option.map_some, Option.isSome_some, Option.bind_none, if_true, if_false, reduceIte, decide_eq_true_eq, Bool.false_eq_true, reduceCtorEq, decide_true, decide_false, Bool.not_true, Bool.not_false, *])
section
theorem law_f {sc d0 d1 d2 d4 d5 d6 d7 d8 d9 NA PT : D} {SL TL FL : List D} {y z M A w SN PN : Int} {a10 a11 b12 b13 e10 e14 e15 e16 f10 f14 f15 f17 f18 f19 : Sl}
    (c1 : mBegin [.val sc] = .ok (.n d0) [.un]) (c2 : mDraw [.bor d0, .val (.int 6)] = .ok (.v (.int y)) [.bor d1, .un]) (hm : 1 + y = M)
    (g1 : gGet (.tup [.int 15, .int 10, .int 4, .int 2, .int 1, .int 1]) (.int (M - 1)) = some (.int A))
    (c3 : mDraw [.bor d1, .val (.int A)] = .ok (.v (.int z)) [.bor d2, .un]) (c4 : mRare [.bor d2, .val (.int 4)] = .ok (.v (.bl false)) [.bor d4, .un]) (hw : 2 + z = w)
    (c5 : m__law_channels [.bor d4, .val (.int M)] = .ok (.n NA) [.bor d5, .un])
    (c6 : m__law_rows_of_words [.bor d5, .val (.int M), .val (.int w)] = .ok (.n PT) [.bor d6, .un, .un])
    (c7 : m__law_steps [.bor d6, .val (.int M), .val (.int w)] = .ok (.n (.lst SL)) [.bor d7, .un, .un])
    (c8 : m__law_table [.val (.lst SL), .val PT, .val (.int w)] = .ok (.n (.lst TL)) [.un, .un, .un])
    (c9 : lcL [20] hOne cYes e_law_1 TL [] [.val sc, .own d7, .val (.int M), .val (.int w), .val NA, .val PT, .val (.lst SL), .val (.lst TL), .un, .un, .un, .un, .un, .un, .un, .un, .un, .un, .un, .un, .un] = .ok FL [.val sc, .own d7, .val (.int M), .val (.int w), .val NA, .val PT, .val (.lst SL), .val (.lst TL), .un, .un, .un, .un, .un, .un, .un, .un, .un, .un, .un, .un, .un])
    (n1 : gLen [.lst SL] = some (.int SN)) (n2 : gLen [PT] = some (.int PN)) (r1 : L3.inR SN = true) (r2 : L3.inR PN = true)
    (l2 : forL (gSet 10) s_law_2 (rangeD 0 SN) [.val sc, .own d7, .val (.int M), .val (.int w), .val NA, .val PT, .val (.lst SL), .val (.lst TL), .val (.lst FL), .own (.lst []), .un, .un, .un, .un, .un, .un, .un, .un, .un, .un, .un] = .ok .nx [.val sc, .own d7, .val (.int M), .val (.int w), .val NA, .val PT, .val (.lst SL), .val (.lst TL), .val (.lst FL), .own (.lst FL), a10, a11, .un, .un, .un, .un, .un, .un, .un, .un, .un])
    (l4 : forL (gSet 12) s_law_4 (rangeD 0 SN) [.val sc, .own d7, .val (.int M), .val (.int w), .val NA, .val PT, .val (.lst SL), .val (.lst TL), .val (.lst FL), .own (.lst FL), a10, a11, .un, .un, .un, .un, .un, .un, .un, .un, .un] = .ok .nx [.val sc, .own d7, .val (.int M), .val (.int w), .val NA, .val PT, .val (.lst SL), .val (.lst TL), .val (.lst FL), .own (.lst FL), a10, a11, b12, b13, .un, .un, .un, .un, .un, .un, .un])
    (l6 : forL (gSet 10) s_law_6 (rangeD 0 PN) [.val sc, .own d7, .val (.int M), .val (.int w), .val NA, .val PT, .val (.lst SL), .val (.lst TL), .val (.lst FL), .own (.lst FL), a10, a11, b12, b13, .un, .un, .un, .un, .un, .un, .un] = .ok .nx [.val sc, .own d8, .val (.int M), .val (.int w), .val NA, .val PT, .val (.lst SL), .val (.lst TL), .val (.lst FL), .own (.lst FL), e10, a11, b12, b13, e14, e15, e16, .un, .un, .un, .un])
    (l9 : forL (gSet 15) s_law_9 (rangeD 0 SN) [.val sc, .own d8, .val (.int M), .val (.int w), .val NA, .val PT, .val (.lst SL), .val (.lst TL), .val (.lst FL), .own (.lst FL), e10, a11, b12, b13, e14, e15, e16, .un, .un, .un, .un] = .ok .nx [.val sc, .own d9, .val (.int M), .val (.int w), .val NA, .val PT, .val (.lst SL), .val (.lst TL), .val (.lst FL), .own (.lst FL), f10, a11, b12, b13, f14, f15, e16, f17, f18, f19, .un])
    (t1 : gToT [.lst FL] = some (.tup FL)) (sm : m__law_same 6 [.val (.tup FL), .val (.tup FL)] = .ok (.v (.bl true)) [.un, .un]) :
    L3.W (m_law [.val sc]) (fun r cs => r = .v (.bl true)) := by
  have z0 : (0 : Nat) ≤ sizeLine := Nat.zero_le _
  unfold m_law g_law
  walk_at "ev"
theorem law_t {sc d0 d1 d2 d3 d4 d5 d6 d7 d8 d9 NA PT : D} {SL TL FL : List D} {y z z2 M A w SN PN : Int} {a10 a11 b12 b13 e10 e14 e15 e16 f10 f14 f15 f17 f18 f19 : Sl}
    (c1 : mBegin [.val sc] = .ok (.n d0) [.un]) (c2 : mDraw [.bor d0, .val (.int 6)] = .ok (.v (.int y)) [.bor d1, .un]) (hm : 1 + y = M)
    (g1 : gGet (.tup [.int 15, .int 10, .int 4, .int 2, .int 1, .int 1]) (.int (M - 1)) = some (.int A))
    (c3 : mDraw [.bor d1, .val (.int A)] = .ok (.v (.int z)) [.bor d2, .un]) (c4 : mRare [.bor d2, .val (.int 4)] = .ok (.v (.bl true)) [.bor d3, .un]) (c4b : mDraw [.bor d3, .val (.int 15)] = .ok (.v (.int z2)) [.bor d4, .un]) (hw : 2 + z2 = w)
    (c5 : m__law_channels [.bor d4, .val (.int M)] = .ok (.n NA) [.bor d5, .un])
    (c6 : m__law_rows_of_words [.bor d5, .val (.int M), .val (.int w)] = .ok (.n PT) [.bor d6, .un, .un])
    (c7 : m__law_steps [.bor d6, .val (.int M), .val (.int w)] = .ok (.n (.lst SL)) [.bor d7, .un, .un])
    (c8 : m__law_table [.val (.lst SL), .val PT, .val (.int w)] = .ok (.n (.lst TL)) [.un, .un, .un])
    (c9 : lcL [20] hOne cYes e_law_1 TL [] [.val sc, .own d7, .val (.int M), .val (.int w), .val NA, .val PT, .val (.lst SL), .val (.lst TL), .un, .un, .un, .un, .un, .un, .un, .un, .un, .un, .un, .un, .un] = .ok FL [.val sc, .own d7, .val (.int M), .val (.int w), .val NA, .val PT, .val (.lst SL), .val (.lst TL), .un, .un, .un, .un, .un, .un, .un, .un, .un, .un, .un, .un, .un])
    (n1 : gLen [.lst SL] = some (.int SN)) (n2 : gLen [PT] = some (.int PN)) (r1 : L3.inR SN = true) (r2 : L3.inR PN = true)
    (l2 : forL (gSet 10) s_law_2 (rangeD 0 SN) [.val sc, .own d7, .val (.int M), .val (.int w), .val NA, .val PT, .val (.lst SL), .val (.lst TL), .val (.lst FL), .own (.lst []), .un, .un, .un, .un, .un, .un, .un, .un, .un, .un, .un] = .ok .nx [.val sc, .own d7, .val (.int M), .val (.int w), .val NA, .val PT, .val (.lst SL), .val (.lst TL), .val (.lst FL), .own (.lst FL), a10, a11, .un, .un, .un, .un, .un, .un, .un, .un, .un])
    (l4 : forL (gSet 12) s_law_4 (rangeD 0 SN) [.val sc, .own d7, .val (.int M), .val (.int w), .val NA, .val PT, .val (.lst SL), .val (.lst TL), .val (.lst FL), .own (.lst FL), a10, a11, .un, .un, .un, .un, .un, .un, .un, .un, .un] = .ok .nx [.val sc, .own d7, .val (.int M), .val (.int w), .val NA, .val PT, .val (.lst SL), .val (.lst TL), .val (.lst FL), .own (.lst FL), a10, a11, b12, b13, .un, .un, .un, .un, .un, .un, .un])
    (l6 : forL (gSet 10) s_law_6 (rangeD 0 PN) [.val sc, .own d7, .val (.int M), .val (.int w), .val NA, .val PT, .val (.lst SL), .val (.lst TL), .val (.lst FL), .own (.lst FL), a10, a11, b12, b13, .un, .un, .un, .un, .un, .un, .un] = .ok .nx [.val sc, .own d8, .val (.int M), .val (.int w), .val NA, .val PT, .val (.lst SL), .val (.lst TL), .val (.lst FL), .own (.lst FL), e10, a11, b12, b13, e14, e15, e16, .un, .un, .un, .un])
    (l9 : forL (gSet 15) s_law_9 (rangeD 0 SN) [.val sc, .own d8, .val (.int M), .val (.int w), .val NA, .val PT, .val (.lst SL), .val (.lst TL), .val (.lst FL), .own (.lst FL), e10, a11, b12, b13, e14, e15, e16, .un, .un, .un, .un] = .ok .nx [.val sc, .own d9, .val (.int M), .val (.int w), .val NA, .val PT, .val (.lst SL), .val (.lst TL), .val (.lst FL), .own (.lst FL), f10, a11, b12, b13, f14, f15, e16, f17, f18, f19, .un])
    (t1 : gToT [.lst FL] = some (.tup FL)) (sm : m__law_same 6 [.val (.tup FL), .val (.tup FL)] = .ok (.v (.bl true)) [.un, .un]) :
    L3.W (m_law [.val sc]) (fun r cs => r = .v (.bl true)) := by
  have z0 : (0 : Nat) ≤ sizeLine := Nat.zero_le _
  unfold m_law g_law
  walk_at "ev"
end
end K11
namespace K11
open PySem PySem.Spec PyProof.Rows L2 L3
local macro_rules | `(tactic| walk_at "ev") => `(tactic| simp (config := {decide := true}) only [W_ok, bind_ok, thn_nx, thn_rt, thn_rn, thn_bk, thn_ct, cVar, cK, c1_e, c1_k, c2_e, c2_k, c2_k2, cB_e, cB_k, cAnd_e, cOr_e, cNot_e, cNot_k, cIte_e, iteK_t, iteK_f, iteK, okB, okV, cAndV_e, cOrV_e, cNotV_e, cNotV_k, cBv_e, aNil, aCons_e, aCons_k, aCons_k2, cTup_e, cTup_k, nLst_e, nLst_k, vN_e, vN_k, cN_e, cN_k, nN_e, nN_k, oNone, oSome_e, oSome_k, cSl_e, cSl_k, cSl_k2, cSl_k3, nSl_e, nSl_k, nSl_k2, nSl_k3, nCat_e, nCat_k, nCat_k2, sNil, sSeq, sFrz, sBrk, sCnt, sExp_e, sExp_k, sRet_e, sRet_k, sRetN_e, sRetN_k, sRetU, sIf_e, sSet_e, sSet_k, sSetN_e, sSetN_k, gSet, gsNil, gsCons_e, gsCons_k, nxK, gTupD, gLstD, sAsg_e, sAsg_k, sAug_e, sAug_k, iL_e, iL_k, iT_e, iT_k, iR1_e, iR1_k, iR2_e, iR2_k, iZ_e, iZ_k, iR3_e, iR3_k, cCh_e, cCh_k, cCh_k2, cCh_k3, nRan_e, nRan_k, r1F_e, r1F_k, r2F_e, r2F_k, r2F_k2, r3F_e, r3F_k, r3F_k2, r3F_k3, intP, sFor_e, run_e, runK_rt, runK_rn, runK_nx, fin, outs, cCall_e, cCall_k, cCall_k2, nCall_e, nCall_k, nCall_k2, callM, sls, lents, wbk, lk, pvD, pvDs, pvs, Sl.dat, Sl.put, gSubD_e, gSubD_k, cM_e, cM_k, cMr_e, cMr_k, cMr_k2, isTy_str, isTy_lst, cGet2_e, cGet2_k, cGet2_k2, cGet2_k3, isDic_d, iRv_e, iRv_k, get2_d, nDic0, pNil, keyD, pCons_e, pCons_k, pCons_k2, pCons_k3, nDic_e, nDic_k, nLc_e, nLc_k, lcB_ok, unAll, backAll, noAdr, setAll, setAllF, List.map_cons, List.map_nil, hOne, cYes, List.all_cons, List.all_nil, Bool.and_true, Bool.true_and, Bool.and_self, Option.map_none, ofO, Rt.d, add_i, mns_i, mul_r, mul_l, div_i, mod_i, neg_i, lt_i, le_i, gt_i, ge_i, int_i, abs_i, len_l, len_t, get_l, get_t, toT_l, toT_t, eq_i, ne_i, eq_s, ne_s, rg_len, isN_non, isN_int, notN_non, notN_int, pow18, isi_int, isi_bool, max_ii, max_l, max_t, sum_l, sum_t, toL_l, toL_t, sl_l, sl_t, sg1, sg2, sg3, sg4, sg5, ss2, ss3, ss4, ss5, List.getElem?_cons_zero, List.getElem?_cons_succ, List.set_cons_zero, List.set_cons_succ, List.length_cons, List.length_nil, List.length_map, List.length_range, List.replicate, List.cons_append, List.nil_append, Option.bind_some, Option.map_some, Option.isSome_some, Option.bind_none, if_true, if_false, reduceIte, decide_eq_true_eq, Bool.false_eq_true, reduceCtorEq, decide_true, decide_false, Bool.not_true, Bool.not_false, *])
local macro_rules | `(tactic| walk_at "evc") => `(tactic| simp (config := {decide := true}) only [at0, at1, at2, at3, set0, set1, set2, ran0, ran1, ran2, ran3, maxI_one, maxI_cons, asI_nil, asI_cons, add_l, add_t, app_l, line_le, line_lt, forL_nil, forL_cons, forL_k, lp_nx, lp_ct, lp_bk, lp_rt, lp_rn, sub_ok, lcL_nil, lcL_cons, lcH_some, lcL_k, lcL_k2, L3.cutD, HT.sIx, List.take_succ_cons, List.take_zero, List.drop_succ_cons, List.drop_zero, List.sum_cons, List.sum_nil, Nat.reduceAdd, Int.reduceSub, Int.reduceAdd, int_lit, Int.reduceToNat, Nat.reduceSub, Nat.min_def, Nat.reduceLeDiff, Int.reduceLT, W_ok, bind_ok, thn_nx, thn_rt, thn_rn, thn_bk, thn_ct, cVar, cK, c1_e, c1_k, c2_e, c2_k, c2_k2, cB_e, cB_k, cAnd_e, cOr_e, cNot_e, cNot_k, cIte_e, iteK_t, iteK_f, iteK, okB, okV, cAndV_e, cOrV_e, cNotV_e, cNotV_k, cBv_e, aNil, aCons_e, aCons_k, aCons_k2, cTup_e, cTup_k, nLst_e, nLst_k, vN_e, vN_k, cN_e, cN_k, nN_e, nN_k, oNone, oSome_e, oSome_k, cSl_e, cSl_k, cSl_k2, cSl_k3, nSl_e, nSl_k, nSl_k2, nSl_k3, nCat_e, nCat_k, nCat_k2, sNil, sSeq, sFrz, sBrk, sCnt, sExp_e, sExp_k, sRet_e, sRet_k, sRetN_e, sRetN_k, sRetU, sIf_e, sSet_e, sSet_k, sSetN_e, sSetN_k, gSet, gsNil, gsCons_e, gsCons_k, nxK, gTupD, gLstD, sAsg_e, sAsg_k, sAug_e, sAug_k, iL_e, iL_k, iT_e, iT_k, iR1_e, iR1_k, iR2_e, iR2_k, iZ_e, iZ_k, iR3_e, iR3_k, cCh_e, cCh_k, cCh_k2, cCh_k3, nRan_e, nRan_k, r1F_e, r1F_k, r2F_e, r2F_k, r2F_k2, r3F_e, r3F_k, r3F_k2, r3F_k3, intP, sFor_e, run_e, runK_rt, runK_rn, runK_nx, fin, outs, cCall_e, cCall_k, cCall_k2, nCall_e, nCall_k, nCall_k2, callM, sls, lents, wbk, lk, pvD, pvDs, pvs, Sl.dat, Sl.put, gSubD_e, gSubD_k, cM_e, cM_k, cMr_e, cMr_k, cMr_k2, isTy_str, isTy_lst, cGet2_e, cGet2_k, cGet2_k2, cGet2_k3, isDic_d, iRv_e, iRv_k, get2_d, nDic0, pNil, keyD, pCons_e, pCons_k, pCons_k2, pCons_k3, nDic_e, nDic_k, nLc_e, nLc_k, lcB_ok, unAll, backAll, noAdr, setAll, setAllF, List.map_cons, List.map_nil, hOne, cYes, List.all_cons, List.all_nil, Bool.and_true, Bool.true_and, Bool.and_self, Option.map_none, ofO, Rt.d, add_i, mns_i, mul_r, mul_l, div_i, mod_i, neg_i, lt_i, le_i, gt_i, ge_i, int_i, abs_i, len_l, len_t, get_l, get_t, toT_l, toT_t, eq_i, ne_i, eq_s, ne_s, rg_len, isN_non, isN_int, notN_non, notN_int, pow18, isi_int, isi_bool, max_ii, max_l, max_t, sum_l, sum_t, toL_l, toL_t, sl_l, sl_t, sg1, sg2, sg3, sg4, sg5, ss2, ss3, ss4, ss5, List.getElem?_cons_zero, List.getElem?_cons_succ, List.set_cons_zero, List.set_cons_succ, List.length_cons, List.length_nil, List.length_map, List.length_range, List.replicate, List.cons_append, List.nil_append, Option.bind_some, Option.map_some, Option.isSome_some, Option.bind_none, if_true, if_false, reduceIte, decide_eq_true_eq, Bool.false_eq_true, reduceCtorEq, decide_true, decide_false, Bool.not_true, Bool.not_false, *])
section
variable {names : List Str} {w : Int} {Ps : List (Str → Int)} {S : List St} {B : List Fm} {d : D}
theorem many_ok {m : Nat} (h0 : 0 < m) (h6 : m ≤ 6) : ∃ A : Int, gGet (.tup [.int 15, .int 10, .int 4, .int 2, .int 1, .int 1]) (.int ((m : Int) - 1)) = some (.int A) ∧ 0 < A ∧ A ≤ 15 := by
  match m, h0, h6 with
  | 1, _, _ => exact ⟨15, rfl, by decide, by decide⟩
  | 2, _, _ => exact ⟨10, rfl, by decide, by decide⟩
  | 3, _, _ => exact ⟨4, rfl, by decide, by decide⟩
  | 4, _, _ => exact ⟨2, rfl, by decide, by decide⟩
  | 5, _, _ => exact ⟨1, rfl, by decide, by decide⟩
  | 6, _, _ => exact ⟨1, rfl, by decide, by decide⟩
  | n + 7, _, h => exact absurd h (by omega)
theorem dues_ok (N : Nm names w) (hP : Pt names w Ps) (hB : ∀ a ∈ B, Gf w a) (hl : B.length ≤ 1000) {q0 q1 q2 q5 q6 q7 q8 q9 q10 q11 q12 q13 q14 q15 q16 q17 q18 q19 : Sl} :
    lcL [20] hOne cYes e_law_1 (B.map (rwD names w Ps)) [] [q0, q1, q2, .val (.int w), .val (.lst (names.map D.str)), q5, q6, q7, q8, q9, q10, q11, q12, q13, q14, q15, q16, q17, q18, q19, .un] = .ok (B.map (fDp names)) [q0, q1, q2, .val (.int w), .val (.lst (names.map D.str)), q5, q6, q7, q8, q9, q10, q11, q12, q13, q14, q15, q16, q17, q18, q19, .un] := by
  have := lcL_map (is := [20]) (h := hOne) (c := cYes) (e := e_law_1) (ρ := [q0, q1, q2, .val (.int w), .val (.lst (names.map D.str)), q5, q6, q7, q8, q9, q10, q11, q12, q13, q14, q15, q16, q17, q18, q19, .un]) (rwD names w Ps) (fDp names) B [] (by rw [sizeLine_eq]; simp; omega) fun a ha => by
    have e := due_ok N hP (hB a ha)
    clear N hP hB hl ha
    generalize rwD names w Ps a = R at *
    generalize fDp names a = F at *
    generalize D.lst (names.map D.str) = NA at *
    exact ⟨[R], _, [q0, q1, q2, .val (.int w), .val NA, q5, q6, q7, q8, q9, q10, q11, q12, q13, q14, q15, q16, q17, q18, q19, .val R], rfl, rfl, by
      show e_law_1 [q0, q1, q2, .val (.int w), .val NA, q5, q6, q7, q8, q9, q10, q11, q12, q13, q14, q15, q16, q17, q18, q19, .val R] = _
      unfold e_law_1
      walk_at "ev", rfl⟩
  rw [this, List.nil_append]
theorem rest {sc d0 d1 d2 d4 : D} {A y z : Int} {d3 : D} {z2 : Int} (m : Nat) (hm0 : 0 < m) (hm6 : m ≤ 6) (w0 : 2 ≤ w) (w1 : w ≤ 1000) (wd : Wf d4)
    (c1 : mBegin [.val sc] = .ok (.n d0) [.un]) (c2 : mDraw [.bor d0, .val (.int 6)] = .ok (.v (.int y)) [.bor d1, .un]) (hm : 1 + y = (m : Int))
    (g1 : gGet (.tup [.int 15, .int 10, .int 4, .int 2, .int 1, .int 1]) (.int ((m : Int) - 1)) = some (.int A))
    (c3 : mDraw [.bor d1, .val (.int A)] = .ok (.v (.int z)) [.bor d2, .un])
    (hb : (mRare [.bor d2, .val (.int 4)] = .ok (.v (.bl true)) [.bor d3, .un] ∧ mDraw [.bor d3, .val (.int 15)] = .ok (.v (.int z2)) [.bor d4, .un] ∧ 2 + z2 = w) ∨ (mRare [.bor d2, .val (.int 4)] = .ok (.v (.bl false)) [.bor d4, .un] ∧ 2 + z = w)) :
    L3.W (m_law [.val sc]) (fun r cs => r = .v (.bl true)) := by
  obtain ⟨names, d5, c5, rfl, hn, w5⟩ := chan_ok wd hm6
  obtain ⟨N, L⟩ := names_ok hn hm6 hm0 w0 w1
  obtain ⟨fs, d6, c6, hf, w6⟩ := rows_ok w5 hm6 w0 w1
  obtain ⟨S, d7, c7, w7, hS, s2, s100⟩ := steps_ok w6 w0 w1 hm0 (by omega)
  have hP := pts_of N hf
  have ep : fs.map (rD names.length) = (fs.map (toP names)).map (ptD names) := (pts_data N.nd).symm
  rw [ep] at c6
  generalize fs.map (toP names) = Ps at *
  have c8 := table_ok N hP hS (by omega)
  have al : Al names w Ps S (runF w names [] S) := ⟨N, L, hP, hS, by omega, s2, rfl⟩
  generalize runF w names [] S = B at *
  have bl : B.length ≤ 1000 := by rw [al.len]; omega
  obtain ⟨a10, a11, l2⟩ := loop2 al (q0 := .val sc) (q1 := .own d7) (q2 := .val (.int names.length)) (q5 := .val (.lst (Ps.map (ptD names)))) (q10 := .un) (x11 := .un) (q12 := .un) (q13 := .un) (q14 := .un) (q15 := .un) (q16 := .un) (q17 := .un) (q18 := .un) (q19 := .un) (q20 := .un)
  obtain ⟨b12, b13, l4⟩ := loop4 al (q0 := .val sc) (q1 := .own d7) (q2 := .val (.int names.length)) (q3 := .val (.int w)) (q4 := .val (.lst (names.map D.str))) (q5 := .val (.lst (Ps.map (ptD names)))) (q6 := .val (.lst (S.map stD))) (q8 := .val (.lst (B.map (fDp names)))) (q10 := a10) (q11 := a11) (q12 := .un) (q13 := .un) (q14 := .un) (q15 := .un) (q16 := .un) (q17 := .un) (q18 := .un) (q19 := .un) (q20 := .un)
  obtain ⟨d8, e10, e14, e15, e16, l6, w8⟩ := loop6 w7 al (q0 := .val sc) (q2 := .val (.int names.length)) (q8 := .val (.lst (B.map (fDp names)))) (q10 := a10) (q11 := a11) (q12 := b12) (q13 := b13) (x14 := .un) (x15 := .un) (x16 := .un) (q17 := .un) (q18 := .un) (q19 := .un) (q20 := .un)
  obtain ⟨d9, f10, f14, f15, f17, f18, f19, l9⟩ := loop9 w8 al (q0 := .val sc) (q11 := a11) (q12 := b12) (q13 := b13) (x10 := e10) (x14 := e14) (q15 := e15) (q16 := e16) (x17 := .un) (x18 := .un) (x19 := .un) (q20 := .un)
  have c9 := dues_ok N hP al.good bl (q0 := .val sc) (q1 := .own d7) (q2 := .val (.int names.length)) (q5 := .val (.lst (Ps.map (ptD names)))) (q6 := .val (.lst (S.map stD))) (q7 := .val (.lst (B.map (rwD names w Ps)))) (q8 := .un) (q9 := .un) (q10 := .un) (q11 := .un) (q12 := .un) (q13 := .un) (q14 := .un) (q15 := .un) (q16 := .un) (q17 := .un) (q18 := .un) (q19 := .un)
  have sm := same_B N bl
  have n1 : gLen [.lst (S.map stD)] = some (.int (S.length : Nat)) := by rw [len_l, List.length_map]
  have n2 : gLen [.lst (Ps.map (ptD names))] = some (.int (Ps.length : Nat)) := by rw [len_l, List.length_map]
  have r1 := inR_nat (n := S.length) (by omega)
  have r2 := inR_nat (n := Ps.length) (by have := hP.le; omega)
  rcases hb with ⟨c4, c4b, hw⟩ | ⟨c4, hw⟩
  · exact law_t c1 c2 hm g1 c3 c4 c4b hw c5 c6 c7 c8 c9 n1 n2 r1 r2 l2 l4 l6 l9 rfl sm
  · exact law_f c1 c2 hm g1 c3 c4 hw c5 c6 c7 c8 c9 n1 n2 r1 r2 l2 l4 l6 l9 rfl sm
theorem law_true (ns : List Int) (h : ns.length ≤ 63) : ∃ cs, m_law [.val (.lst (ns.map .int))] = .ok (.v (.bl true)) cs := by
  suffices hs : L3.W (m_law [.val (.lst (ns.map .int))]) (fun r cs => r = .v (.bl true)) by
    obtain ⟨r, cs, e, rfl⟩ := hs.ok
    exact ⟨cs, e⟩
  obtain ⟨d0, e0, w0⟩ := begin_ok h
  obtain ⟨y, d1, c2, hy, w1⟩ := nat_draw w0 (n := 6) (by omega) (by omega)
  obtain ⟨A, g1, hA, hA2⟩ := many_ok (m := 1 + y) (by omega) (by omega)
  obtain ⟨z, d2, c3, lz, uz, w2⟩ := draw_ok w1 (many := A) hA (by omega)
  obtain ⟨b, d3, c4, w3⟩ := rare_ok w2 (many := 4) (by decide) (by decide)
  have hm : 1 + (y : Int) = ((1 + y : Nat) : Int) := by omega
  cases b
  · exact rest (d3 := d3) (z2 := 0) (1 + y) (by omega) (by omega) (by omega) (by omega) w3 e0 c2 hm g1 c3 (.inr ⟨c4, rfl⟩)
  · obtain ⟨z2, d4, c5, l2, u2, w4⟩ := draw_ok w3 (many := 15) (by decide) (by decide)
    exact rest (1 + y) (by omega) (by omega) (by omega) (by omega) w4 e0 c2 hm g1 c3 (.inl ⟨c4, c5, rfl⟩)
end
end K11
open PySem PySem.W PyProof.Rows
set_option maxHeartbeats 0 in
theorem PySem.Challenge.cw_ticksurety_k11_whole_forms_equal_exactly_holds : PySem.Challenge.rw_ticksurety_k11_whole_forms_equal_exactly.Holds := by
  w_on; o_law; k_head; (case hw => w_witness2)
  k_fill
  refine L3.law_end (l := PySem.Challenge.rw_ticksurety_k11_whole_forms_equal_exactly) (n := 63) (k := 8) (x := "script") (m := K11.m_law) rfl (by decide) rfl ⟨⟨rfl, by decide, by decide⟩, rfl⟩ (fun w h Y => PySem.W.kIn_of Y) ?K ?F K11.law_true
  case K => exact fun _ => rfl
  case F =>
    intro w mg fa h KX G hmg
    refine' K11.all_mk KX G hmg ?aC_SuretyError ?aC_NoSuch ?aC_NotOfKind ?xL_NoSuch ?sa_NoSuch ?ga_NoSuch ?gg_NoSuch ?nb0_NoSuch ?ai_NoSuch ?ty_NoSuch ?li_NoSuch ?ci_NoSuch ?ki_NoSuch ?kC_NoSuch ?hC_NoSuch ?eC_NoSuch ?tC_NoSuch ?iC_NoSuch ?sb_NoSuch_NoSuch ?hn ?ht ?ha_NoSuch ?hm_NoSuch ?iC_NotOfKind ?tC_NotOfKind ?sb_NoSuch_NotOfKind ?nq_NoSuch_NotOfKind ?iC_SuretyError ?tC_SuretyError ?sb_NoSuch_SuretyError ?a0 ?l0 ?c0 ?k0 ?a1 ?l1 ?c1 ?k1 ?a2 ?l2 ?c2 ?k2 ?a3 ?l3 ?c3 ?k3 ?a4 ?l4 ?c4 ?k4 ?a5 ?l5 ?c5 ?k5 ?a6 ?l6 ?c6 ?k6 ?a7 ?l7 ?c7 ?k7 ?a8 ?l8 ?c8 ?k8 ?a9 ?l9 ?c9 ?k9 ?a10 ?l10 ?c10 ?k10 ?a11 ?l11 ?c11 ?k11 ?a12 ?l12 ?c12 ?k12 ?a13 ?l13 ?c13 ?k13 ?a14 ?l14 ?c14 ?k14 ?a15 ?l15 ?c15 ?k15 ?a16 ?l16 ?c16 ?k16 ?a17 ?l17 ?c17 ?k17 ?a18 ?l18 ?c18 ?k18 ?a19 ?l19 ?c19 ?k19 ?a20 ?l20 ?c20 ?k20 ?a21 ?l21 ?c21 ?k21 ?a22 ?l22 ?c22 ?k22 ?z0 ?z1 ?z2 ?z3 ?z4 ?z5 ?z6 ?z7 ?z8 ?z9 ?z10 ?z11 ?z12 ?z13 ?z14 ?z15
    (case aC_SuretyError => k_is)
    (case aC_NoSuch => k_is)
    (case aC_NotOfKind => k_is)
    (case xL_NoSuch => k_is)
    (case sa_NoSuch => k_is)
    (case ga_NoSuch => k_is)
    (case gg_NoSuch => k_is)
    (case nb0_NoSuch => k_is)
    (case ai_NoSuch => k_is)
    (case ty_NoSuch => k_is)
    (case li_NoSuch => k_is)
    (case ci_NoSuch => k_is)
    (case ki_NoSuch => k_is)
    (case kC_NoSuch => k_is)
    (case hC_NoSuch => k_is)
    (case eC_NoSuch => k_is)
    (case tC_NoSuch => k_is)
    (case iC_NoSuch => k_is)
    (case sb_NoSuch_NoSuch => k_is)
    (case hn => k_is)
    (case ht => k_is)
    (case ha_NoSuch => k_is)
    (case hm_NoSuch => k_is)
    (case iC_NotOfKind => k_is)
    (case tC_NotOfKind => k_is)
    (case sb_NoSuch_NotOfKind => k_is)
    (case nq_NoSuch_NotOfKind => first | rfl | decide | k_is)
    (case iC_SuretyError => k_is)
    (case tC_SuretyError => k_is)
    (case sb_NoSuch_SuretyError => k_is)
    (case a0 => k_is)
    (case l0 => k_is)
    (case c0 => k_is)
    (case k0 => k_is)
    (case a1 => k_is)
    (case l1 => k_is)
    (case c1 => k_is)
    (case k1 => k_is)
    (case a2 => k_is)
    (case l2 => k_is)
    (case c2 => k_is)
    (case k2 => k_is)
    (case a3 => k_is)
    (case l3 => k_is)
    (case c3 => k_is)
    (case k3 => k_is)
    (case a4 => k_is)
    (case l4 => k_is)
    (case c4 => k_is)
    (case k4 => k_is)
    (case a5 => k_is)
    (case l5 => k_is)
    (case c5 => k_is)
    (case k5 => k_is)
    (case a6 => k_is)
    (case l6 => k_is)
    (case c6 => k_is)
    (case k6 => k_is)
    (case a7 => k_is)
    (case l7 => k_is)
    (case c7 => k_is)
    (case k7 => k_is)
    (case a8 => k_is)
    (case l8 => k_is)
    (case c8 => k_is)
    (case k8 => k_is)
    (case a9 => k_is)
    (case l9 => k_is)
    (case c9 => k_is)
    (case k9 => k_is)
    (case a10 => k_is)
    (case l10 => k_is)
    (case c10 => k_is)
    (case k10 => k_is)
    (case a11 => k_is)
    (case l11 => k_is)
    (case c11 => k_is)
    (case k11 => k_is)
    (case a12 => k_is)
    (case l12 => k_is)
    (case c12 => k_is)
    (case k12 => k_is)
    (case a13 => k_is)
    (case l13 => k_is)
    (case c13 => k_is)
    (case k13 => k_is)
    (case a14 => k_is)
    (case l14 => k_is)
    (case c14 => k_is)
    (case k14 => k_is)
    (case a15 => k_is)
    (case l15 => k_is)
    (case c15 => k_is)
    (case k15 => k_is)
    (case a16 => k_is)
    (case l16 => k_is)
    (case c16 => k_is)
    (case k16 => k_is)
    (case a17 => k_is)
    (case l17 => k_is)
    (case c17 => k_is)
    (case k17 => k_is)
    (case a18 => k_is)
    (case l18 => k_is)
    (case c18 => k_is)
    (case k18 => k_is)
    (case a19 => k_is)
    (case l19 => k_is)
    (case c19 => k_is)
    (case k19 => k_is)
    (case a20 => k_is)
    (case l20 => k_is)
    (case c20 => k_is)
    (case k20 => k_is)
    (case a21 => k_is)
    (case l21 => k_is)
    (case c21 => k_is)
    (case k21 => k_is)
    (case a22 => k_is)
    (case l22 => k_is)
    (case c22 => k_is)
    (case k22 => k_is)
    (case z0 => k_is)
    (case z1 => k_is)
    (case z2 => k_is)
    (case z3 => k_is)
    (case z4 => k_is)
    (case z5 => k_is)
    (case z6 => k_is)
    (case z7 => k_is)
    (case z8 => k_is)
    (case z9 => k_is)
    (case z10 => k_is)
    (case z11 => k_is)
    (case z12 => k_is)
    (case z13 => k_is)
    (case z14 => k_is)
    (case z15 => k_is)
