import PyProof.Rows.All
import Wide.All
import OpenK.AllK
import Wide.FinOn
import HandS.ForMost
import HandS.IsInst
import HandS.TupAny
import HandS.TupMul
import HandS.Wide
import HandS.EndOwn
import HandS.Flow
import HandS.Style
import HandS.Deep
import PyProof.StrBlock2
import HandS.More
import HandS.Conv
import HandS.SetFor
import HandS.TupLen
import HandS.SortOrd
import KE.LtData
import KE.KDictPairs
import HandS.AnyAll
import PyProof.WalksPairs
import PyProof.GenCompT
import PyProof.SumAny
import PyProof.Rows.StrJoinRep
import PyProof.StrLaws
import PyProof.FitsReplace
import HandS.EndTab
import PySem.Challenge.RW_aswritten_k07_norm_of_sums_of_rows
set_option Elab.async false
set_option linter.all false
set_option maxRecDepth 100000
set_option maxHeartbeats 2000000
/-! L3: a second layer over the hand layer: tuples as plain data, lists and dicts in a store, the rest of the heap framed. -/
namespace L3
open PySem PySem.Spec PyProof.Rows L2

/-- a value as data: tuples inline, anything that may change by its address -/
inductive D where
  | non | bl (b : Bool) | int (i : Int) | str (x : Str) | ty (n : String) | loc (a : Addr) | tup (ds : List D) | rol (ds : List D)
  deriving Inhabited

/-- a list that is never written: the script, a list of the module's own top -/
def RoL (K : PySem.W.Frag) (H : Hp) (a : Addr) (xs : List V) : Prop :=
  (∃ o, H a = some (.frz o (.lst xs))) ∨
    ∃ (o : Obj) (its : Array Value) (n : Nat), K.lookup a = some o ∧ o.cls = .type "list" ∧ o.dict = none ∧ o.data = .seq its n ∧ its.size ≤ sizeLine ∧ Vals xs its.toList
theorem RoL.sq {K : PySem.W.Frag} {H : Hp} {a : Addr} {xs : List V} (h : RoL K H a xs) : SqL K H a xs := by
  rcases h with ⟨o, h⟩ | h
  · exact .inl (.inr ⟨o, h⟩)
  · exact .inr h
section
variable (K : PySem.W.Frag) (H : Hp)
mutual
inductive Dv : V → D → Prop
  | non : Dv .non .non
  | bl (b : Bool) : Dv (.bl b) (.bl b)
  | int (i : Int) : Dv (.int i) (.int i)
  | str (x : Str) : Dv (.str x) (.str x)
  | ty (n : String) : Dv (.ty n) (.ty n)
  | loc (a : Addr) : Dv (.ref a) (.loc a)
  | tup {a : Addr} {vs : List V} {ds : List D} : H a = some (.tup vs) → Dvs vs ds → Dv (.ref a) (.tup ds)
  | rol {a : Addr} {vs : List V} {ds : List D} : RoL K H a vs → Dvs vs ds → Dv (.ref a) (.rol ds)
inductive Dvs : List V → List D → Prop
  | nil : Dvs [] []
  | cons {v : V} {d : D} {vs : List V} {ds : List D} : Dv v d → Dvs vs ds → Dvs (v :: vs) (d :: ds)
end
end

/-- the tuples and the lists that are never written stay -/
structure Ext (H H' : Hp) : Prop where
  tup : ∀ a xs, H a = some (.tup xs) → H' a = some (.tup xs)
  rol : ∀ a o xs, H a = some (.frz o (.lst xs)) → H' a = some (.frz o (.lst xs))
theorem Ext.refl {H : Hp} : Ext H H := ⟨fun _ _ h => h, fun _ _ _ h => h⟩
theorem Ext.trans {H H1 H2 : Hp} (a : Ext H H1) (b : Ext H1 H2) : Ext H H2 := ⟨fun c xs h => b.tup c xs (a.tup c xs h), fun c o xs h => b.rol c o xs (a.rol c o xs h)⟩
theorem Ext.roL {K : PySem.W.Frag} {H H' : Hp} {a : Addr} {xs : List V} (e : Ext H H') (h : RoL K H a xs) : RoL K H' a xs := by
  rcases h with ⟨o, h⟩ | h
  · exact .inl ⟨o, e.rol _ _ _ h⟩
  · exact .inr h
/-- what is no tuple, no list that is never written -/
def NoT : HO → Prop
  | .tup _ => False
  | .frz _ _ => False
  | _ => True
theorem Ext.of {H H' : Hp} (h : ∀ a w, H a = some w → ¬ NoT w → H' a = some w) : Ext H H' := by
  exact ⟨fun a xs r => h a _ r fun z => z, fun a o xs e => h a _ e fun z => z⟩
theorem Ext.new {H : Hp} {p : Addr} {o : HO} (h : H p = none) : Ext H (upd H p o) := .of fun a w e _ => by
  rw [upd_ne (ne_of_none e h)]
  exact e
theorem Ext.write {H : Hp} {p : Addr} {o u : HO} (h : H p = some u) (n : NoT u) : Ext H (upd H p o) := .of fun a w e t => by
  have hne : a ≠ p := fun z => by
    rw [z, h] at e
    cases e
    exact t n
  rw [upd_ne hne]
  exact e

section
variable {K : PySem.W.Frag} {H H' : Hp}
mutual
theorem Dv.ext (e : Ext H H') : ∀ {d : D} {v : V}, Dv K H v d → Dv K H' v d
  | .non, _, h => by cases h; exact .non
  | .bl b, _, h => by cases h; exact .bl b
  | .int i, _, h => by cases h; exact .int i
  | .str x, _, h => by cases h; exact .str x
  | .ty n, _, h => by cases h; exact .ty n
  | .loc a, _, h => by cases h; exact .loc a
  | .tup ds, _, h => by
    cases h with
    | tup hs ha => exact .tup (e.tup _ _ hs) (Dvs.ext e ha)
  | .rol ds, _, h => by
    cases h with
    | rol hs ha => exact .rol (e.roL hs) (Dvs.ext e ha)
theorem Dvs.ext (e : Ext H H') : ∀ {ds : List D} {vs : List V}, Dvs K H vs ds → Dvs K H' vs ds
  | [], _, h => by cases h; exact .nil
  | d :: ds, _, h => by
    cases h with
    | cons h1 h2 => exact .cons (Dv.ext e h1) (Dvs.ext e h2)
end
theorem Dvs.length : ∀ {vs : List V} {ds : List D}, Dvs K H vs ds → vs.length = ds.length
  | [], _, h => by cases h; rfl
  | v :: vs, _, h => by
    cases h with
    | cons h1 h2 => simp [Dvs.length h2]
theorem Dvs.get : ∀ {vs : List V} {ds : List D} {i : Nat} {d : D}, Dvs K H vs ds → ds[i]? = some d → ∃ v, vs[i]? = some v ∧ Dv K H v d
  | _, _, i, d, .nil, e => by simp at e
  | _, _, 0, d, .cons h1 h2, e => by
    simp at e
    subst e
    exact ⟨_, rfl, h1⟩
  | _, _, i + 1, d, .cons h1 h2, e => by
    obtain ⟨v, h, q⟩ := Dvs.get (i := i) h2 (by simpa using e)
    exact ⟨v, by simpa using h, q⟩
theorem Dvs.get' {vs : List V} {ds : List D} {i : Nat} {v : V} (h : Dvs K H vs ds) (e : vs[i]? = some v) : ∃ d, ds[i]? = some d ∧ Dv K H v d := by
  cases q : ds[i]? with
  | none =>
    have h1 := List.getElem?_eq_none_iff.mp q
    have h2 := (List.getElem?_eq_some_iff.mp e).1
    rw [h.length] at h2
    omega
  | some d =>
    obtain ⟨v', e', r⟩ := h.get q
    rw [e] at e'
    cases e'
    exact ⟨d, rfl, r⟩
theorem Dvs.append : ∀ {vs ws : List V} {ds es : List D}, Dvs K H vs ds → Dvs K H ws es → Dvs K H (vs ++ ws) (ds ++ es)
  | _, _, _, _, .nil, h => h
  | _, _, _, _, .cons a b, h => .cons a (Dvs.append b h)
theorem Dvs.set {v : V} {d : D} (r : Dv K H v d) : ∀ {vs : List V} {ds : List D} (i : Nat), Dvs K H vs ds → Dvs K H (vs.set i v) (ds.set i d)
  | _, _, _, .nil => .nil
  | _, _, 0, .cons _ t => .cons r t
  | _, _, i + 1, .cons q t => .cons q (Dvs.set r i t)
theorem Dvs.take : ∀ {vs : List V} {ds : List D} (n : Nat), Dvs K H vs ds → Dvs K H (vs.take n) (ds.take n)
  | _, _, 0, _ => .nil
  | _, _, _ + 1, .nil => .nil
  | _, _, n + 1, .cons r t => .cons r (Dvs.take n t)
theorem Dvs.drop : ∀ {vs : List V} {ds : List D} (n : Nat), Dvs K H vs ds → Dvs K H (vs.drop n) (ds.drop n)
  | _, _, 0, r => r
  | _, _, _ + 1, .nil => .nil
  | _, _, n + 1, .cons _ t => Dvs.drop n t
theorem Dvs.reverse : ∀ {vs : List V} {ds : List D}, Dvs K H vs ds → Dvs K H vs.reverse ds.reverse
  | _, _, .nil => .nil
  | _, _, .cons r t => by
    rw [List.reverse_cons, List.reverse_cons]
    exact (Dvs.reverse t).append (.cons r .nil)
theorem Dvs.ints : ∀ {vs : List V} {ns : List Int}, Dvs K H vs (ns.map D.int) → vs = ns.map V.int
  | _, [], h => by cases h; rfl
  | _, n :: ns, h => by
    cases h with
    | cons h1 h2 =>
      cases h1
      rw [Dvs.ints h2]
      rfl
theorem Dvs.of_ints : ∀ {ns : List Int}, Dvs K H (ns.map V.int) (ns.map D.int)
  | [] => .nil
  | n :: ns => .cons (.int n) Dvs.of_ints
theorem Dvs.strs : ∀ {vs : List V} {ns : List Str}, Dvs K H vs (ns.map D.str) → vs = ns.map V.str
  | _, [], h => by cases h; rfl
  | _, n :: ns, h => by
    cases h with
    | cons h1 h2 =>
      cases h1
      rw [Dvs.strs h2]
      rfl
theorem Dvs.of_strs : ∀ {ns : List Str}, Dvs K H (ns.map V.str) (ns.map D.str)
  | [] => .nil
  | n :: ns => .cons (.str n) Dvs.of_strs
theorem Dvs.bls : ∀ {vs : List V} {ns : List Bool}, Dvs K H vs (ns.map D.bl) → vs = ns.map V.bl
  | _, [], h => by cases h; rfl
  | _, n :: ns, h => by
    cases h with
    | cons h1 h2 =>
      cases h1
      rw [Dvs.bls h2]
      rfl
end

/-- a key as data -/
def kD : Key → D
  | .inl i => .int i
  | .inr x => .str x
theorem Dv.key {K : PySem.W.Frag} {H : Hp} {k : Key} {v : V} (h : Dv K H v (kD k)) : v = kV k := by
  cases k <;> (cases h; rfl)
theorem Dv.of_key {K : PySem.W.Frag} {H : Hp} (k : Key) : Dv K H (kV k) (kD k) := by
  cases k
  · exact .int _
  · exact .str _
theorem Dvs.keys {K : PySem.W.Frag} {H : Hp} : ∀ {ks : List Key} {vs : List V}, Dvs K H vs (ks.map kD) → vs = ks.map kV
  | [], _, h => by cases h; rfl
  | k :: ks, _, h => by
    cases h with
    | cons h1 h2 =>
      rw [h1.key, Dvs.keys h2]
      rfl
theorem Dvs.of_keys {K : PySem.W.Frag} {H : Hp} : ∀ (ks : List Key), Dvs K H (ks.map kV) (ks.map kD)
  | [] => .nil
  | k :: ks => .cons (.of_key k) (Dvs.of_keys ks)

/-- what may stand at an address of the store -/
inductive MO where
  | lst (ds : List D)
  | dK (kvs : List (Key × D))
  | dT (kvs : List (List Key × D))
  | set (S : Int → Bool) (n : Nat)
  | ins (C : Addr) (fs : List (Str × D))
  | tbl
  | fK (kvs : List (Key × D))
  | fT (kvs : List (List Key × D))
abbrev Sto := Addr → Option MO
def up (S : Sto) (a : Addr) (o : MO) : Sto := fun b => if b = a then some o else S b
def rm (S : Sto) (a : Addr) : Sto := fun b => if b = a then none else S b
@[simp] theorem up_same {S : Sto} {a : Addr} {o : MO} : up S a o a = some o := by unfold up; rw [if_pos rfl]
theorem up_ne {S : Sto} {a b : Addr} {o : MO} (h : b ≠ a) : up S a o b = S b := by unfold up; rw [if_neg h]
@[simp] theorem up_up {S : Sto} {a : Addr} {o u : MO} : up (up S a o) a u = up S a u := by
  funext b; unfold up; split <;> rfl
theorem up_eq {S : Sto} {a : Addr} {o : MO} (h : S a = some o) : up S a o = S := by
  funext b; unfold up; split
  · next e => rw [e, h]
  · rfl
theorem up_comm {S : Sto} {a b : Addr} {o u : MO} (h : a ≠ b) : up (up S a o) b u = up (up S b u) a o := by
  funext c; unfold up
  by_cases h1 : c = a
  · subst h1; simp [h]
  · simp [h1]
def KVr (K : PySem.W.Frag) (H : Hp) {κ : Type} : List (κ × D) → List (κ × V) → Prop := Paired fun p q => p.1 = q.1 ∧ Dv K H q.2 p.2
def MOh (K : PySem.W.Frag) (H : Hp) : MO → HO → Prop
  | .lst ds, .lst vs => Dvs K H vs ds
  | .dK kvs, .dK kws => KVr K H kvs kws
  | .dT kvs, .dT kws => KVr K H kvs kws
  | .set S n, .set S' n' => S = S' ∧ n = n'
  | .ins C fs, .ins C' _ ws => C = C' ∧ KVr K H fs ws
  | .tbl, .tbl ps => TriplesOk ps.toList
  | .fK kvs, .frz _ (.dK kws) => KVr K H kvs kws
  | .fT kvs, .frz _ (.dT kws) => KVr K H kvs kws
  | _, _ => False
theorem KVr.ext {K : PySem.W.Frag} {H H' : Hp} {κ : Type} (e : Ext H H') {kvs : List (κ × D)} {kws : List (κ × V)} (h : KVr K H kvs kws) : KVr K H' kvs kws :=
  Paired.mapP h fun _ _ q => ⟨q.1, q.2.ext e⟩
theorem MOh.ext {K : PySem.W.Frag} {H H' : Hp} (e : Ext H H') {m : MO} {o : HO} (h : MOh K H m o) : MOh K H' m o := by
  cases m with
  | lst ds => cases o <;> first | exact h.elim | exact Dvs.ext e h
  | dK ds => cases o <;> first | exact h.elim | exact KVr.ext e h
  | dT ds => cases o <;> first | exact h.elim | exact KVr.ext e h
  | set _ _ => cases o <;> first | exact h.elim | exact h
  | ins _ _ => cases o <;> first | exact h.elim | exact ⟨h.1, KVr.ext e h.2⟩
  | tbl => cases o <;> first | exact h.elim | exact h
  | fK _ =>
    cases o with
    | frz _ u => cases u <;> first | exact h.elim | exact KVr.ext e h
    | _ => exact h.elim
  | fT _ =>
    cases o with
    | frz _ u => cases u <;> first | exact h.elim | exact KVr.ext e h
    | _ => exact h.elim
/-- the store is held by the heap -/
def SRel (K : PySem.W.Frag) (S : Sto) (H : Hp) : Prop := ∀ a o, S a = some o → ∃ u, H a = some u ∧ MOh K H o u
/-- what a step leaves: the tuples; all that the store does not tell of -/
structure Step (S : Sto) (H : Hp) (S' : Sto) (H' : Hp) : Prop where
  ext : Ext H H'
  lk : ∀ a o u, H a = some (.frz o u) → H' a = some (.frz o u)
  fr : ∀ a u, S a = none → H a = some u → H' a = some u ∧ S' a = none
theorem Step.refl {S : Sto} {H : Hp} : Step S H S H := ⟨.refl, fun _ _ _ h => h, fun _ _ h h' => ⟨h', h⟩⟩
theorem Step.trans {S S1 S2 : Sto} {H H1 H2 : Hp} (a : Step S H S1 H1) (b : Step S1 H1 S2 H2) : Step S H S2 H2 :=
  ⟨a.ext.trans b.ext, fun c o u h => b.lk c o u (a.lk c o u h), fun c u h h' => let ⟨h1, h2⟩ := a.fr c u h h'; b.fr c u h2 h1⟩
/-- a new object -/
theorem Step.new {S : Sto} {H : Hp} {p : Addr} {o : HO} {m : MO} (h : H p = none) : Step S H (up S p m) (upd H p o) :=
  ⟨.new h, fun a q u h2 => by rw [upd_ne (ne_of_none h2 h)]; exact h2, fun a u h1 h2 => by
    have hne : a ≠ p := ne_of_none h2 h
    rw [upd_ne hne, up_ne hne]
    exact ⟨h2, h1⟩⟩
/-- a new object that the store is not told of (a tuple) -/
theorem Step.hid {S : Sto} {H : Hp} {p : Addr} {o : HO} (h : H p = none) : Step S H S (upd H p o) :=
  ⟨.new h, fun a q u h2 => by rw [upd_ne (ne_of_none h2 h)]; exact h2, fun a u h1 h2 => by
    rw [upd_ne (ne_of_none h2 h)]
    exact ⟨h2, h1⟩⟩
/-- an object of the store is written -/
theorem Step.write {S : Sto} {H : Hp} {p : Addr} {o u : HO} {m m' : MO} (hS : S p = some m) (h : H p = some u) (n : NoT u) : Step S H (up S p m') (upd H p o) :=
  ⟨.write h n, fun a q w h2 => by
    have hne : a ≠ p := fun z => by
      rw [z, h] at h2
      cases h2
      exact n
    rw [upd_ne hne]
    exact h2, fun a w h1 h2 => by
    have hne : a ≠ p := fun z => by rw [z, hS] at h1; cases h1
    rw [upd_ne hne, up_ne hne]
    exact ⟨h2, h1⟩⟩
/-- forgetting -/
theorem Step.less {S S' S2 : Sto} {H H' : Hp} (a : Step S H S' H') (l : ∀ a o, S2 a = some o → S' a = some o) : Step S H S2 H' :=
  ⟨a.ext, a.lk, fun c u h h' => by
    obtain ⟨h1, h2⟩ := a.fr c u h h'
    refine ⟨h1, ?_⟩
    cases q : S2 c with
    | none => rfl
    | some o =>
      rw [l c o q] at h2
      cases h2⟩
theorem SRel.ext {K : PySem.W.Frag} {S : Sto} {H H' : Hp} (h : SRel K S H) (e : Ext H H') (k : ∀ a o, S a = some o → ∀ u, H a = some u → H' a = some u) : SRel K S H' := fun a o q => by
  obtain ⟨u, h1, h2⟩ := h a o q
  exact ⟨u, k a o q u h1, h2.ext e⟩
theorem SRel.less {K : PySem.W.Frag} {S S' : Sto} {H : Hp} (h : SRel K S H) (l : ∀ a o, S' a = some o → S a = some o) : SRel K S' H := fun a o q => h a o (l a o q)
theorem SRel.new {K : PySem.W.Frag} {S : Sto} {H : Hp} {p : Addr} {o : HO} {m : MO} (h : SRel K S H) (hp : H p = none) (n : MOh K (upd H p o) m o) : SRel K (up S p m) (upd H p o) := fun a u q => by
  by_cases e : a = p
  · subst e
    rw [up_same] at q
    cases q
    exact ⟨o, upd_same, n⟩
  · rw [up_ne e] at q
    obtain ⟨w, h1, h2⟩ := h a u q
    exact ⟨w, by rw [upd_ne e]; exact h1, h2.ext (.new hp)⟩
theorem SRel.hid {K : PySem.W.Frag} {S : Sto} {H : Hp} {p : Addr} {o : HO} (h : SRel K S H) (hp : H p = none) : SRel K S (upd H p o) :=
  h.ext (.new hp) fun a _ _ u h1 => by rw [upd_ne (ne_of_none h1 hp)]; exact h1
theorem SRel.write {K : PySem.W.Frag} {S : Sto} {H : Hp} {p : Addr} {o u : HO} {m : MO} (h : SRel K S H) (hp : H p = some u) (nt : NoT u) (n : MOh K (upd H p o) m o) : SRel K (up S p m) (upd H p o) := fun a w q => by
  by_cases e : a = p
  · subst e
    rw [up_same] at q
    cases q
    exact ⟨o, upd_same, n⟩
  · rw [up_ne e] at q
    obtain ⟨w, h1, h2⟩ := h a w q
    exact ⟨w, by rw [upd_ne e]; exact h1, h2.ext (.write hp nt)⟩
theorem SRel.fresh {K : PySem.W.Frag} {S : Sto} {H : Hp} (h : SRel K S H) {p : Addr} (hp : H p = none) : S p = none := by
  cases q : S p with
  | none => rfl
  | some o =>
    obtain ⟨u, h1, _⟩ := h p o q
    rw [hp] at h1
    cases h1

/-! ### the frame's names -/
abbrev St3 := List (Option D)
structure Slots (K : PySem.W.Frag) (H : Hp) (τ : St3) (σ : L2.St) : Prop where
  len : τ.length = σ.length
  get : ∀ (i : Nat) (d : D), τ[i]? = some (some d) → ∃ v, σ[i]? = some (some v) ∧ Dv K H v d
theorem Slots.ext {K : PySem.W.Frag} {H H' : Hp} {τ : St3} {σ : L2.St} (h : Slots K H τ σ) (e : Ext H H') : Slots K H' τ σ :=
  ⟨h.len, fun i d q => let ⟨v, h1, h2⟩ := h.get i d q; ⟨v, h1, h2.ext e⟩⟩
theorem Slots.set {K : PySem.W.Frag} {H : Hp} {τ : St3} {σ : L2.St} {v : V} {d : D} (h : Slots K H τ σ) (i : Nat) (r : Dv K H v d) : Slots K H (τ.set i (some d)) (σ.set i (some v)) := by
  refine ⟨by simp [h.len], fun j e q => ?_⟩
  by_cases hj : i = j
  · subst hj
    have hi : i < τ.length := by
      have := (List.getElem?_eq_some_iff.mp q).1
      simpa using this
    rw [List.getElem?_set_self hi] at q
    cases q
    exact ⟨v, by rw [List.getElem?_set_self (by rw [← h.len]; exact hi)], r⟩
  · rw [List.getElem?_set_ne hj] at q
    obtain ⟨w, h1, h2⟩ := h.get j e q
    exact ⟨w, by rw [List.getElem?_set_ne hj]; exact h1, h2⟩
theorem Slots.forget {K : PySem.W.Frag} {H : Hp} {τ τ' : St3} {σ : L2.St} (h : Slots K H τ σ) (l : τ'.length = τ.length) (w : ∀ (i : Nat) (d : D), τ'[i]? = some (some d) → τ[i]? = some (some d)) : Slots K H τ' σ :=
  ⟨l.trans h.len, fun i d q => h.get i d (w i d q)⟩
/-- names and store at a heap -/
structure Rel (K : PySem.W.Frag) (τ : St3) (S : Sto) (σ : L2.St) (H : Hp) : Prop where
  sl : Slots K H τ σ
  st : SRel K S H
theorem Rel.new {K : PySem.W.Frag} {τ : St3} {S : Sto} {σ : L2.St} {H : Hp} {p : Addr} {o : HO} {m : MO} (h : Rel K τ S σ H) (hp : H p = none) (n : MOh K (upd H p o) m o) : Rel K τ (up S p m) σ (upd H p o) :=
  ⟨h.sl.ext (.new hp), h.st.new hp n⟩
theorem Rel.hid {K : PySem.W.Frag} {τ : St3} {S : Sto} {σ : L2.St} {H : Hp} {p : Addr} {o : HO} (h : Rel K τ S σ H) (hp : H p = none) : Rel K τ S σ (upd H p o) :=
  ⟨h.sl.ext (.new hp), h.st.hid hp⟩
theorem Rel.write {K : PySem.W.Frag} {τ : St3} {S : Sto} {σ : L2.St} {H : Hp} {p : Addr} {o u : HO} {m : MO} (h : Rel K τ S σ H) (hp : H p = some u) (nt : NoT u) (n : MOh K (upd H p o) m o) : Rel K τ (up S p m) σ (upd H p o) :=
  ⟨h.sl.ext (.write hp nt), h.st.write hp nt n⟩

/-! ### readings -/
abbrev VK3 := D → Sto → Prop
abbrev TE3 := St3 → Sto → VK3 → Prop
abbrev TT3 := St3 → Sto → (Bool → Sto → Prop) → Prop
abbrev TA3 := St3 → Sto → (List D → Sto → Prop) → Prop
structure Ends3 where
  nx : St3 → Sto → Prop
  rt : VK3
  bk : St3 → Sto → Prop := fun _ _ => False
  ct : St3 → Sto → Prop := fun _ _ => False
abbrev TS3 := Ends3 → St3 → Sto → Prop
/-- what follows an expression -/
def Cont (K : PySem.W.Frag) (S : Sto) (H : Hp) (P : VK3) (Q : VK) : Prop :=
  ∀ d S' v H', P d S' → Step S H S' H' → SRel K S' H' → Dv K H' v d → Q v H'
theorem Cont.step {K : PySem.W.Frag} {S S1 : Sto} {H H1 : Hp} {P : VK3} {Q : VK} (c : Cont K S H P Q) (s : Step S H S1 H1) : Cont K S1 H1 P Q := fun d S' v H' p s' r q => c d S' v H' p (s.trans s') r q
def lift (K : PySem.W.Frag) (t : TE3) : TE := fun σ H Q => ∃ τ S P, Rel K τ S σ H ∧ t τ S P ∧ Cont K S H P Q
def liftT (K : PySem.W.Frag) (t : TT3) : TT := fun σ H Q => ∃ τ S P, Rel K τ S σ H ∧ t τ S P ∧ ∀ b S' H', P b S' → Step S H S' H' → SRel K S' H' → Q b H'
def liftA (K : PySem.W.Frag) (t : TA3) : TA := fun σ H Q => ∃ τ S P, Rel K τ S σ H ∧ t τ S P ∧ ∀ ds S' vs H', P ds S' → Step S H S' H' → SRel K S' H' → Dvs K H' vs ds → Q vs H'
theorem Rel.at {K : PySem.W.Frag} {τ : St3} {S S' : Sto} {σ : L2.St} {H H' : Hp} (R : Rel K τ S σ H) (s : Step S H S' H') (r : SRel K S' H') : Rel K τ S' σ H' := ⟨R.sl.ext s.ext, r⟩
structure EndsLe (K : PySem.W.Frag) (S : Sto) (H : Hp) (D3 : Ends3) (D : Ends) : Prop where
  nx : ∀ τ' S' σ' H', D3.nx τ' S' → Step S H S' H' → Rel K τ' S' σ' H' → D.nx σ' H'
  rt : ∀ d S' v H', D3.rt d S' → Step S H S' H' → SRel K S' H' → Dv K H' v d → D.rt v H'
  bk : ∀ τ' S' σ' H', D3.bk τ' S' → Step S H S' H' → Rel K τ' S' σ' H' → D.bk σ' H'
  ct : ∀ τ' S' σ' H', D3.ct τ' S' → Step S H S' H' → Rel K τ' S' σ' H' → D.ct σ' H'
def liftS (K : PySem.W.Frag) (t : TS3) : TS := fun D σ H => ∃ τ S D3, Rel K τ S σ H ∧ t D3 τ S ∧ EndsLe K S H D3 D
theorem EndsLe.step {K : PySem.W.Frag} {S S1 : Sto} {H H1 : Hp} {D3 : Ends3} {D : Ends} (e : EndsLe K S H D3 D) (s : Step S H S1 H1) : EndsLe K S1 H1 D3 D :=
  ⟨fun _ _ _ _ h s' r => e.nx _ _ _ _ h (s.trans s') r, fun _ _ _ _ h s' r q => e.rt _ _ _ _ h (s.trans s') r q, fun _ _ _ _ h s' r => e.bk _ _ _ _ h (s.trans s') r, fun _ _ _ _ h s' r => e.ct _ _ _ _ h (s.trans s') r⟩

theorem PE.weak {X : Cx} {e : Expr} {t t' : TE} (h : PE X e t) (w : ∀ σ H Q, t' σ H Q → t σ H Q) : PE X e t' := ⟨fun pins s σ H Q I q => h.run pins s σ H Q I (w σ H Q q)⟩
theorem PT.weak {X : Cx} {e : Expr} {t t' : TT} (h : PT X e t) (w : ∀ σ H Q, t' σ H Q → t σ H Q) : PT X e t' := ⟨fun pins s σ H Q I q => h.run pins s σ H Q I (w σ H Q q)⟩
theorem PW.weak {X : Cx} {e : Expr} {t t' : TT} (h : PW X e t) (w : ∀ σ H Q, t' σ H Q → t σ H Q) : PW X e t' := ⟨fun wh pins s σ H Q I q => h.run wh pins s σ H Q I (w σ H Q q)⟩
theorem PA.weak {X : Cx} {e : List Expr} {t t' : TA} (h : PA X e t) (w : ∀ σ H Q, t' σ H Q → t σ H Q) : PA X e t' := ⟨fun pos pins s σ H Q I q => h.run pos pins s σ H Q I (w σ H Q q)⟩
theorem PS.weak {X : Cx} {st : Stmt} {t t' : TS} (h : PS X st t) (w : ∀ D σ H, t' D σ H → t D σ H) : PS X st t' := ⟨fun pins s σ H D I q => h.run pins s σ H D I (w D σ H q)⟩
theorem PSs.weak {X : Cx} {st : List Stmt} {t t' : TS} (h : PSs X st t) (w : ∀ D σ H, t' D σ H → t D σ H) : PSs X st t' := ⟨fun pins s σ H D I q => h.run pins s σ H D I (w D σ H q)⟩

abbrev PE3 (X : Cx) (e : Expr) (t : TE3) : Prop := PE X e (lift X.K t)
abbrev PT3 (X : Cx) (e : Expr) (t : TT3) : Prop := PT X e (liftT X.K t)
abbrev PW3 (X : Cx) (e : Expr) (t : TT3) : Prop := PW X e (liftT X.K t)
abbrev PA3 (X : Cx) (e : List Expr) (t : TA3) : Prop := PA X e (liftA X.K t)
abbrev PS3 (X : Cx) (st : Stmt) (t : TS3) : Prop := PS X st (liftS X.K t)
abbrev PSs3 (X : Cx) (st : List Stmt) (t : TS3) : Prop := PSs X st (liftS X.K t)
end L3
/-! L3Expr: expressions. -/
namespace L3
open PySem PySem.Spec PyProof.Rows L2
variable {X : Cx}

/-! ### names, constants -/
def tVar3 (i : Nat) : TE3 := fun τ S Q => match τ[i]? with
  | some (some d) => Q d S
  | _ => False
@[simp] def tC3 (d : D) : TE3 := fun _ S Q => Q d S
theorem pv3 (i : Nat) {x : Str} {pos : Pos} (hN : X.N[i]? = some x := by rfl) (hv : Vis X.env.scope x := by first | exact Or.inl rfl | exact Or.inr (Or.inl rfl) | exact Or.inr (Or.inr rfl)) (hd : (x == ("__debug__" : Str)) = false := by decide)
    (hcd : (x == ("__classdict__" : Str)) = false := by decide) : PE3 X (.Name x pos) (tVar3 i) := by
  refine PE.weak (pe_var hN hv hd hcd) fun σ H Q ⟨τ, S, P, R, h, c⟩ => ?_
  unfold tVar3 at h
  split at h
  · next d e =>
    obtain ⟨v, h1, h2⟩ := R.sl.get i d e
    exact ⟨v, h1, c d S v H h .refl R.st h2⟩
  · exact h.elim
theorem pe3_c {e : Expr} {v : V} {d : D} (h : PE X e (tC v)) (r : ∀ H, Dv X.K H v d) : PE3 X e (tC3 d) :=
  PE.weak h fun σ H Q ⟨τ, S, P, R, q, c⟩ => c d S v H q .refl R.st (r H)
theorem pe3_int {i j pos} : PE3 X (.Constant (.int i) j pos) (tC3 (.int i)) := pe3_c pe_int fun _ => .int i
theorem pe3_bl {b j pos} : PE3 X (.Constant (.bool b) j pos) (tC3 (.bl b)) := pe3_c pe_bl fun _ => .bl b
theorem pe3_non {j pos} : PE3 X (.Constant .none j pos) (tC3 .non) := pe3_c pe_non fun _ => .non
theorem pe3_str {x j pos} : PE3 X (.Constant (.str x) j pos) (tC3 (.str x)) := pe3_c pe_str fun _ => .str x
/-- a built-in class as a value -/
theorem pe3_ty {x : Str} {n : String} {pos : Pos} (hg : Gl X x) (hm : X.mg x = none) (hv : bootBuiltins x = some (.type n)) (hn : x ≠ "__name__" := by decide) (hd : (x == ("__debug__" : Str)) = false := by decide) : PE3 X (.Name x pos) (tC3 (.ty n)) :=
  pe3_c (pe_bltn (v := .ty n) hg hm hv rfl hn hd) fun _ => .ty n
/-- a constant of the module's top -/
theorem pe3_glob {x : Str} {v : V} {d : D} {u : Value} {pos : Pos} (hg : Gl X x) (hm : X.mg x = some u) (r : RelV v u) (rd : ∀ H, Dv X.K H v d) (hd : (x == ("__debug__" : Str)) = false := by decide) : PE3 X (.Name x pos) (tC3 d) :=
  pe3_c (pe_glob hg hm r hd) rd

/-! ### argument lists, displays -/
@[simp] def tNil3 : TA3 := fun _ S Q => Q [] S
@[simp] def tCons3 (ta : TE3) (tr : TA3) : TA3 := fun τ S Q => ta τ S fun x S1 => tr τ S1 fun xs S2 => Q (x :: xs) S2
theorem pa3_nil : PA3 X [] tNil3 := PA.weak pa_nil fun σ H Q ⟨τ, S, P, R, h, c⟩ => c [] S [] H h .refl R.st .nil
theorem pa3_cons {e : Expr} {es : List Expr} {te : TE3} {t : TA3} (ha : PE3 X e te) (hr : PA3 X es t) (hs : starEach (e :: es) X.env = (false, eval e X.env) :: starEach es X.env := by rfl) : PA3 X (e :: es) (tCons3 te t) := by
  refine PA.weak (pa_cons ha hr hs) fun σ H Q ⟨τ, S, P, R, h, c⟩ => ?_
  refine ⟨τ, S, _, R, h, fun x S1 v H1 h1 s1 r1 d1 => ?_⟩
  refine ⟨τ, S1, _, R.at s1 r1, h1, fun xs S2 vs H2 h2 s2 r2 d2 => ?_⟩
  exact c _ S2 _ H2 h2 (s1.trans s2) r2 (.cons (d1.ext s2.ext) d2)
@[simp] def tTup3 (t : TA3) : TE3 := fun τ S Q => t τ S fun ds S1 => ds.length ≤ sizeLine ∧ Q (.tup ds) S1
@[simp] def tLst3 (t : TA3) : TE3 := fun τ S Q => t τ S fun ds S1 => ds.length ≤ sizeLine ∧ ∀ p, S1 p = none → Q (.loc p) (up S1 p (.lst ds))
theorem pe3_tup {es : List Expr} {t : TA3} {x1 pos} (h : PA3 X es t) : PE3 X (.Tuple es x1 pos) (tTup3 t) := by
  refine PE.weak (pe_tup h) fun σ H Q ⟨τ, S, P, R, h, c⟩ => ?_
  refine ⟨τ, S, _, R, h, fun xs S1 vs H1 h1 s1 r1 d1 => ⟨by rw [d1.length]; exact h1.1, fun p hp => ?_⟩⟩
  exact c _ S1 _ _ h1.2 (s1.trans (.hid hp)) (r1.hid hp) (.tup upd_same (d1.ext (.new hp)))
theorem pe3_lst {es : List Expr} {t : TA3} {pos} (h : PA3 X es t) : PE3 X (.List es pos) (tLst3 t) := by
  refine PE.weak (pe_lst h) fun σ H Q ⟨τ, S, P, R, h, c⟩ => ?_
  refine ⟨τ, S, _, R, h, fun xs S1 vs H1 h1 s1 r1 d1 => ⟨by rw [d1.length]; exact h1.1, fun p hp => ?_⟩⟩
  exact c _ _ _ _ (h1.2 p (r1.fresh hp)) (s1.trans (.new hp)) (r1.new hp (d1.ext (.new hp))) (.loc p)

/-! ### operations by values -/
def Op3 (K : PySem.W.Frag) (r : R2) (o : D → D → Sto → VK3 → Prop) : Prop :=
  ∀ S H x y vx vy P Q, SRel K S H → Dv K H vx x → Dv K H vy y → o x y S P → Cont K S H P Q → r vx vy H Q
@[simp] def tOp3 (o : D → D → Sto → VK3 → Prop) (ta tb : TE3) : TE3 := fun τ S Q => ta τ S fun x S1 => tb τ S1 fun y S2 => o x y S2 Q
theorem lift_op {K : PySem.W.Frag} {r : R2} {o : D → D → Sto → VK3 → Prop} {ta tb : TE3} (h3 : Op3 K r o) (σ : L2.St) (H : Hp) (Q : VK) (h : lift K (tOp3 o ta tb) σ H Q) : tOp r (lift K ta) (lift K tb) σ H Q := by
  obtain ⟨τ, S, P, R, h, c⟩ := h
  refine ⟨τ, S, _, R, h, fun x S1 vx H1 h1 s1 r1 d1 => ?_⟩
  refine ⟨τ, S1, _, R.at s1 r1, h1, fun y S2 vy H2 h2 s2 r2 d2 => ?_⟩
  exact h3 S2 H2 x y vx vy P Q r2 (d1.ext s2.ext) d2 h2 (c.step (s1.trans s2))
section
variable {a b : Expr} {ta tb : TE3} {pos : Pos} {r : R2} {o : D → D → Sto → VK3 → Prop}
theorem pe3_op {op : Operator} (ho : OpR X (binaryOp op) r) (h3 : Op3 X.K r o) (ha : PE3 X a ta) (hb : PE3 X b tb) : PE3 X (.BinOp a op b pos) (tOp3 o ta tb) :=
  PE.weak (pe_op ho ha hb) (lift_op h3)
theorem pe3_cmp {op : CmpOp} (ho : OpR X (compareOp op) r) (h3 : Op3 X.K r o) (ha : PE3 X a ta) (hb : PE3 X b tb) (hm : behindInMarks op b = false) : PE3 X (.Compare a [op] [b] pos) (tOp3 o ta tb) :=
  PE.weak (pe_cmpR ho ha hb hm) (lift_op h3)
/-- a value that is a bool, as a test -/
def tTest3 (t : TE3) : TT3 := fun τ S Q => t τ S fun x S' => match x with
  | .bl k => Q k S'
  | _ => False
theorem lift_test {K : PySem.W.Frag} {t : TE3} {t' : TE} (w : ∀ σ H Q, lift K t σ H Q → t' σ H Q) (σ : L2.St) (H : Hp) (Q : Bool → Hp → Prop) (h : liftT K (tTest3 t) σ H Q) : tTest t' σ H Q := by
  obtain ⟨τ, S, P, R, h, c⟩ := h
  refine w σ H _ ⟨τ, S, _, R, h, fun x S1 v H1 h1 s1 r1 d1 => ?_⟩
  cases d1 with
  | bl k => exact ⟨k, rfl, c k S1 H1 h1 s1 r1⟩
  | _ => exact h1.elim
theorem pt3_cmp {op : CmpOp} (ho : OpR X (compareOp op) r) (h3 : Op3 X.K r o) (ha : PE3 X a ta) (hb : PE3 X b tb) (hm : behindInMarks op b = false) : PT3 X (.Compare a [op] [b] pos) (tTest3 (tOp3 o ta tb)) :=
  PT.weak (pt_cmpR ho ha hb hm) (lift_test (lift_op h3))
end
/-- one-place operations -/
def Un3 (K : PySem.W.Frag) (r : V → Hp → VK → Prop) (o : D → Sto → VK3 → Prop) : Prop :=
  ∀ S H x vx P Q, SRel K S H → Dv K H vx x → o x S P → Cont K S H P Q → r vx H Q
@[simp] def tUn3 (o : D → Sto → VK3 → Prop) (ta : TE3) : TE3 := fun τ S Q => ta τ S fun x S1 => o x S1 Q
theorem pe3_un {a : Expr} {ta : TE3} {pos : Pos} {op : UnaryOp} {r : V → Hp → VK → Prop} {o : D → Sto → VK3 → Prop} (ho : UnR X (unaryOp op) r) (h3 : Un3 X.K r o) (ha : PE3 X a ta) : PE3 X (.UnaryOp op a pos) (tUn3 o ta) :=
  PE.weak (pe_un ho ha) fun σ H Q ⟨τ, S, P, R, h, c⟩ => ⟨τ, S, _, R, h, fun x S1 v H1 h1 s1 r1 d1 => h3 S1 H1 x v P Q r1 d1 h1 (c.step s1)⟩
/-- calls by values -/
def Call3 (K : PySem.W.Frag) (r : List V → Hp → VK → Prop) (o : List D → Sto → VK3 → Prop) : Prop :=
  ∀ S H ds vs P Q, SRel K S H → Dvs K H vs ds → o ds S P → Cont K S H P Q → r vs H Q
@[simp] def tCall3 (o : List D → Sto → VK3 → Prop) (ta : TA3) : TE3 := fun τ S Q => ta τ S fun ds S1 => o ds S1 Q
theorem lift_call {K : PySem.W.Frag} {r : List V → Hp → VK → Prop} {o : List D → Sto → VK3 → Prop} {ta : TA3} (h3 : Call3 K r o) (σ : L2.St) (H : Hp) (Q : VK) (h : lift K (tCall3 o ta) σ H Q) : tCB r (liftA K ta) σ H Q := by
  obtain ⟨τ, S, P, R, h, c⟩ := h
  exact ⟨τ, S, _, R, h, fun ds S1 vs H1 h1 s1 r1 d1 => h3 S1 H1 ds vs P Q r1 d1 h1 (c.step s1)⟩
section
variable {e : Expr} {es : List Expr} {t : TA3} {x : Str} {p pos : Pos} {r : List V → Hp → VK → Prop} {o : List D → Sto → VK3 → Prop}
theorem pe3_callB {id : String} (hc : CallR X (.builtin id) r) (h3 : Call3 X.K r o) (hg : Gl X x) (hm : X.mg x = none) (hv : bootBuiltins x = some (.builtin id)) (ha : PA3 X (e :: es) t) (hn : x ≠ "__name__" := by decide) (hdb : (x == ("__debug__" : Str)) = false := by decide)
    (he : starEach (e :: es) X.env = (false, eval e X.env) :: starEach es X.env := by rfl) (hpl : (backTo pos (starEach es X.env)).any (·.1) = false := by rfl) : PE3 X (.Call (.Name x p) (e :: es) [] pos) (tCall3 o t) :=
  PE.weak (pe_callB hc hg hm hv ha hn hdb he hpl) (lift_call h3)
theorem pe3_callTy {T : String} (hc : CallR X (.type T) r) (h3 : Call3 X.K r o) (hg : Gl X x) (hm : X.mg x = none) (hv : bootBuiltins x = some (.type T)) (ha : PA3 X (e :: es) t) (hn : x ≠ "__name__" := by decide) (hdb : (x == ("__debug__" : Str)) = false := by decide)
    (he : starEach (e :: es) X.env = (false, eval e X.env) :: starEach es X.env := by rfl) (hpl : (backTo pos (starEach es X.env)).any (·.1) = false := by rfl) : PE3 X (.Call (.Name x p) (e :: es) [] pos) (tCall3 o t) :=
  PE.weak (pe_callTy hc hg hm hv ha hn hdb he hpl) (lift_call h3)
end

/-! ### tests -/
@[simp] def tAnd3 (t u : TT3) : TT3 := fun τ S Q => t τ S fun c S1 => if c = true then u τ S1 Q else Q false S1
@[simp] def tOr3 (t u : TT3) : TT3 := fun τ S Q => t τ S fun c S1 => if c = true then Q true S1 else u τ S1 Q
@[simp] def tNot3 (t : TT3) : TT3 := fun τ S Q => t τ S fun c S1 => Q (!c) S1
section
variable {a b : Expr} {rest : List Expr} {ta tb : TT3} {pos : Pos}
theorem pw3_and1 (ha : PT3 X a ta) : PW3 X (.BoolOp .And [a] pos) ta := pw_and1 ha
theorem pw3_or1 (ha : PT3 X a ta) : PW3 X (.BoolOp .Or [a] pos) ta := pw_or1 ha
theorem pw3_and (ha : PT3 X a ta) (hb : PW3 X (.BoolOp .And (b :: rest) pos) tb) : PW3 X (.BoolOp .And (a :: b :: rest) pos) (tAnd3 ta tb) := by
  refine PW.weak (pw_and ha hb) fun σ H Q ⟨τ, S, P, R, h, c⟩ => ⟨τ, S, _, R, h, fun k S1 H1 h1 s1 r1 => ?_⟩
  cases k with
  | true => exact iteT ⟨τ, S1, P, R.at s1 r1, h1, fun b S2 H2 p s2 r2 => c b S2 H2 p (s1.trans s2) r2⟩
  | false => exact iteF (c _ S1 H1 h1 s1 r1)
theorem pw3_or (ha : PT3 X a ta) (hb : PW3 X (.BoolOp .Or (b :: rest) pos) tb) : PW3 X (.BoolOp .Or (a :: b :: rest) pos) (tOr3 ta tb) := by
  refine PW.weak (pw_or ha hb) fun σ H Q ⟨τ, S, P, R, h, c⟩ => ⟨τ, S, _, R, h, fun k S1 H1 h1 s1 r1 => ?_⟩
  cases k with
  | false => exact iteF ⟨τ, S1, P, R.at s1 r1, h1, fun b S2 H2 p s2 r2 => c b S2 H2 p (s1.trans s2) r2⟩
  | true => exact iteT (c _ S1 H1 h1 s1 r1)
theorem pt3_w (h : PW3 X a ta) : PT3 X a ta := h.pt
theorem pt3_not (ha : PT3 X a ta) : PT3 X (.UnaryOp .Not a pos) (tNot3 ta) :=
  PT.weak (pt_not ha) fun σ H Q ⟨τ, S, P, R, h, c⟩ => ⟨τ, S, _, R, h, fun k S1 H1 h1 s1 r1 => c _ S1 H1 h1 s1 r1⟩
end
/-- a value that is a bool, as a test (a call of a def that hands back a bool ..) -/
theorem pt3_val {e : Expr} {t : TE3} (h : PE3 X e t) (he : ∀ whole, isTrue e X.env whole = (do let v ← whole; standAt e.pos; holding [v] (truthy v)) := by intro _; rfl) : PT3 X e (tTest3 t) :=
  PT.weak (pt_val h he) (lift_test fun _ _ _ q => q)
/-- truth of any value -/
def truD (S : Sto) : D → (Bool → Prop) → Prop
  | .non, Q => Q false
  | .bl b, Q => Q b
  | .int i, Q => Q (i != 0)
  | .str y, Q => y.length ≤ sizeLine ∧ Q ((y.length : Int) != 0)
  | .tup ds, Q => Q (!ds.isEmpty)
  | .rol ds, Q => Q (!ds.isEmpty)
  | .loc a, Q => match S a with
    | some (.lst ds) => Q (!ds.isEmpty)
    | some (.dK kvs) => Q (!kvs.isEmpty)
    | _ => False
  | .ty _, _ => False
@[simp] def tTru3 (t : TE3) : TT3 := fun τ S Q => t τ S fun x S' => truD S' x fun k => Q k S'
theorem isEmpty_len {α β : Type} {xs : List α} {ys : List β} (h : xs.length = ys.length) : xs.isEmpty = ys.isEmpty := by
  cases xs <;> cases ys <;> simp_all
theorem truV_of {K : PySem.W.Frag} {S : Sto} {H : Hp} {d : D} {v : V} {Q : Bool → Prop} (r : SRel K S H) (dv : Dv K H v d) (h : truD S d Q) : ∃ k, TruV K v H k ∧ Q k := by
  cases dv with
  | non => exact ⟨_, rfl, h⟩
  | bl b => exact ⟨_, rfl, h⟩
  | int i => exact ⟨_, rfl, h⟩
  | str x => exact ⟨_, ⟨h.1, rfl⟩, h.2⟩
  | ty n => exact h.elim
  | tup h1 h2 => exact ⟨_, .inr (.inl ⟨_, .of h1, rfl⟩), by rw [isEmpty_len h2.length]; exact h⟩
  | rol h1 h2 => exact ⟨_, .inl ⟨_, h1.sq, rfl⟩, by rw [isEmpty_len h2.length]; exact h⟩
  | loc a =>
    unfold truD at h
    dsimp only at h
    split at h
    · next ds e =>
      obtain ⟨u, h1, h2⟩ := r a _ e
      cases u <;> first | exact h2.elim | exact ⟨_, .inl ⟨_, .of h1, rfl⟩, by rw [isEmpty_len (Dvs.length h2)]; exact h⟩
    · next kvs e =>
      obtain ⟨u, h1, h2⟩ := r a _ e
      cases u <;> first | exact h2.elim | exact ⟨_, .inr (.inr ⟨_, h1, rfl⟩), by rw [← isEmpty_len (Paired.length h2)]; exact h⟩
    · exact h.elim
theorem pt3_tru {e : Expr} {t : TE3} (h : PE3 X e t) (he : ∀ whole, isTrue e X.env whole = (do let v ← whole; standAt e.pos; holding [v] (truthy v)) := by intro _; rfl) : PT3 X e (tTru3 t) :=
  PT.weak (pt_truth h he) fun σ H Q ⟨τ, S, P, R, h, c⟩ => ⟨τ, S, _, R, h, fun x S1 v H1 h1 s1 r1 d1 =>
    let ⟨k, a, b⟩ := truV_of r1 d1 h1
    ⟨k, a, c k S1 H1 b s1 r1⟩⟩
@[simp] def tIf3 (t : TT3) (ta tb : TE3) : TE3 := fun τ S Q => t τ S fun c S1 => if c = true then ta τ S1 Q else tb τ S1 Q
theorem pe3_ifExp {c a b : Expr} {tc : TT3} {ta tb : TE3} {pos : Pos} (hc : PT3 X c tc) (ha : PE3 X a ta) (hb : PE3 X b tb) : PE3 X (.IfExp c a b pos) (tIf3 tc ta tb) := by
  refine PE.weak (pe_ifExp hc ha hb) fun σ H Q ⟨τ, S, P, R, h, c⟩ => ⟨τ, S, _, R, h, fun k S1 H1 h1 s1 r1 => ?_⟩
  cases k with
  | true => exact iteT ⟨τ, S1, P, R.at s1 r1, h1, c.step s1⟩
  | false => exact iteF ⟨τ, S1, P, R.at s1 r1, h1, c.step s1⟩
/-- and, or, not of bools, as values -/
def tAndV3 (ta tb : TE3) : TE3 := fun τ S Q => ta τ S fun x S1 => match x with
  | .bl c => if c = true then tb τ S1 Q else Q (.bl false) S1
  | _ => False
def tOrV3 (ta tb : TE3) : TE3 := fun τ S Q => ta τ S fun x S1 => match x with
  | .bl c => if c = true then Q (.bl true) S1 else tb τ S1 Q
  | _ => False
def tNotV3 (ta : TE3) : TE3 := fun τ S Q => ta τ S fun x S1 => match x with
  | .bl c => Q (.bl (!c)) S1
  | _ => False
section
variable {a b : Expr} {rest : List Expr} {ta tb : TE3} {pos : Pos}
theorem pe3_one {op} (h : PE3 X a ta) : PE3 X (.BoolOp op [a] pos) ta := pe_one h
theorem pe3_and (ha : PE3 X a ta) (hb : PE3 X (.BoolOp .And (b :: rest) pos) tb) : PE3 X (.BoolOp .And (a :: b :: rest) pos) (tAndV3 ta tb) := by
  refine PE.weak (pe_and ha hb) fun σ H Q ⟨τ, S, P, R, h, c⟩ => ⟨τ, S, _, R, h, fun x S1 v H1 h1 s1 r1 d1 => ?_⟩
  cases d1 with
  | bl k =>
    refine ⟨k, rfl, ?_⟩
    cases k with
    | true => exact iteT ⟨τ, S1, P, R.at s1 r1, h1, c.step s1⟩
    | false => exact iteF (c _ S1 _ H1 h1 s1 r1 (.bl _))
  | _ => exact h1.elim
theorem pe3_or (ha : PE3 X a ta) (hb : PE3 X (.BoolOp .Or (b :: rest) pos) tb) : PE3 X (.BoolOp .Or (a :: b :: rest) pos) (tOrV3 ta tb) := by
  refine PE.weak (pe_or ha hb) fun σ H Q ⟨τ, S, P, R, h, c⟩ => ⟨τ, S, _, R, h, fun x S1 v H1 h1 s1 r1 d1 => ?_⟩
  cases d1 with
  | bl k =>
    refine ⟨k, rfl, ?_⟩
    cases k with
    | false => exact iteF ⟨τ, S1, P, R.at s1 r1, h1, c.step s1⟩
    | true => exact iteT (c _ S1 _ H1 h1 s1 r1 (.bl _))
  | _ => exact h1.elim
theorem pe3_not (ha : PE3 X a ta) : PE3 X (.UnaryOp .Not a pos) (tNotV3 ta) := by
  refine PE.weak (pe_not ha) fun σ H Q ⟨τ, S, P, R, h, c⟩ => ⟨τ, S, _, R, h, fun x S1 v H1 h1 s1 r1 d1 => ?_⟩
  cases d1 with
  | bl k => exact ⟨k, rfl, c _ S1 _ H1 h1 s1 r1 (.bl _)⟩
  | _ => exact h1.elim
end
end L3
/-! L3Ops: operators by values. -/
namespace L3
open PySem PySem.Spec PyProof.Rows L2
variable {X : Cx}

theorem Cont.here {K : PySem.W.Frag} {S : Sto} {H : Hp} {P : VK3} {Q : VK} {d : D} {v : V} (c : Cont K S H P Q) (r : SRel K S H) (p : P d S) (q : Dv K H v d) : Q v H := c d S v H p .refl r q
theorem Cont.lst {K : PySem.W.Frag} {S : Sto} {H : Hp} {P : VK3} {Q : VK} {ds : List D} {vs : List V} (c : Cont K S H P Q) (r : SRel K S H) (q : Dvs K H vs ds) (p : ∀ l, S l = none → P (.loc l) (up S l (.lst ds))) : ∀ l, H l = none → Q (.ref l) (upd H l (.lst vs)) := fun l hl =>
  c _ _ _ _ (p l (r.fresh hl)) (.new hl) (r.new hl (q.ext (.new hl))) (.loc l)
theorem Cont.tup {K : PySem.W.Frag} {S : Sto} {H : Hp} {P : VK3} {Q : VK} {ds : List D} {vs : List V} (c : Cont K S H P Q) (r : SRel K S H) (q : Dvs K H vs ds) (p : P (.tup ds) S) : ∀ l, H l = none → Q (.ref l) (upd H l (.tup vs)) := fun l hl =>
  c _ _ _ _ p (.hid hl) (r.hid hl) (.tup upd_same (q.ext (.new hl)))
theorem lst_at {K : PySem.W.Frag} {S : Sto} {H : Hp} {a : Addr} {ds : List D} (r : SRel K S H) (e : S a = some (.lst ds)) : ∃ vs, H a = some (.lst vs) ∧ Dvs K H vs ds := by
  obtain ⟨u, h1, h2⟩ := r a _ e
  cases u <;> first | exact h2.elim | exact ⟨_, h1, h2⟩
/-- the list at a is written -/
theorem Cont.set {K : PySem.W.Frag} {S : Sto} {H : Hp} {P : VK3} {Q : VK} {a : Addr} {ds es : List D} {ws : List V} {d : D} {v : V} (c : Cont K S H P Q) (r : SRel K S H) (e : S a = some (.lst ds)) (q : Dvs K H ws es) (p : P d (up S a (.lst es))) (dv : Dv K H v d) : Q v (upd H a (.lst ws)) := by
  obtain ⟨vs, h1, h2⟩ := lst_at r e
  exact c _ _ _ _ p (.write e h1 trivial) (r.write h1 trivial (q.ext (.write h1 trivial))) (dv.ext (.write h1 trivial))

/-! ### arithmetic -/
def oAdd : D → D → Sto → VK3 → Prop
  | .int i, .int j, S, Q => Q (.int (i + j)) S
  | .str i, .str j, S, Q => i.length + j.length ≤ sizeLine ∧ Q (.str (i ++ j)) S
  | .tup xs, .tup ys, S, Q => xs.length + ys.length ≤ sizeLine ∧ Q (.tup (xs ++ ys)) S
  | .loc a, .loc b, S, Q => match S a, S b with
    | some (.lst xs), some (.lst ys) => xs.length + ys.length ≤ sizeLine ∧ ∀ p, S p = none → Q (.loc p) (up S p (.lst (xs ++ ys)))
    | _, _ => False
  | _, _, _, _ => False
theorem op3_add : Op3 X.K (fun x y H Q => (rI0 fun i j => .int (i + j)) x y H Q ∨ (∃ i j, x = .str i ∧ y = .str j ∧ i.length + j.length ≤ sizeLine ∧ Q (.str (i ++ j)) H) ∨ rCatA X.K x y H Q ∨ rCat x y H Q) oAdd := by
  intro S H x y vx vy P Q r dx dy h c
  cases dx <;> cases dy <;> first | exact h.elim | skip
  · exact .inl ⟨_, _, rfl, rfl, c.here r h (.int _)⟩
  · exact .inr (.inl ⟨_, _, rfl, rfl, h.1, c.here r h.2 (.str _)⟩)
  · next a b =>
    unfold oAdd at h
    dsimp only at h
    split at h
    · next xs ys e1 e2 =>
      obtain ⟨vs, h1, d1⟩ := lst_at r e1
      obtain ⟨ws, h2, d2⟩ := lst_at r e2
      exact .inr (.inr (.inr ⟨_, _, vs, ws, rfl, rfl, h1, h2, by rw [d1.length, d2.length]; exact h.1, c.lst r (d1.append d2) h.2⟩))
    · exact h.elim
  · next a vs ds h1 d1 b ws es h2 d2 =>
    refine .inr (.inr (.inl ⟨_, _, vs, ws, rfl, rfl, .of h1, .of h2, by rw [d1.length, d2.length]; exact h.1, fun e => ?_, fun _ e => ?_, fun _ _ => c.tup r (d1.append d2) h.2⟩))
    · subst e
      cases d1
      exact c.here r h.2 (.tup h2 d2)
    · subst e
      cases d2
      refine c.here r h.2 (.tup h1 ?_)
      rw [List.append_nil]
      exact d1
theorem opr_add : OpR X (binaryOp .Add) (fun x y H Q => (rI0 fun i j => .int (i + j)) x y H Q ∨ (∃ i j, x = .str i ∧ y = .str j ∧ i.length + j.length ≤ sizeLine ∧ Q (.str (i ++ j)) H) ∨ rCatA X.K x y H Q ∨ rCat x y H Q) :=
  op_add.or (op_add_str.or (op_catA.or op_cat))
/-- ints in, under C, an int out -/
def oI (C : Int → Int → Prop) (g : Int → Int → Int) : D → D → Sto → VK3 → Prop
  | .int i, .int j, S, Q => C i j ∧ Q (.int (g i j)) S
  | _, _, _, _ => False
def oI0 (g : Int → Int → Int) : D → D → Sto → VK3 → Prop
  | .int i, .int j, S, Q => Q (.int (g i j)) S
  | _, _, _, _ => False
theorem op3_I {K : PySem.W.Frag} {C : Int → Int → Prop} {g : Int → Int → Int} : Op3 K (rI C fun i j => .int (g i j)) (oI C g) := by
  intro S H x y vx vy P Q r dx dy h c
  cases dx <;> cases dy <;> first | exact h.elim | skip
  exact ⟨_, _, rfl, rfl, h.1, c.here r h.2 (.int _)⟩
theorem op3_I0 {K : PySem.W.Frag} {g : Int → Int → Int} : Op3 K (rI0 fun i j => .int (g i j)) (oI0 g) := by
  intro S H x y vx vy P Q r dx dy h c
  cases dx <;> cases dy <;> first | exact h.elim | skip
  exact ⟨_, _, rfl, rfl, c.here r h (.int _)⟩
abbrev oSub := oI0 fun i j => i - j
abbrev oFdiv := oI CDivW fun i j => i / j
abbrev oMod := oI (fun _ j => 0 < j) fun i j => i % j
abbrev oPow := oI CPow fun i j => i ^ j.toNat
/-- a product that the machine reckons -/
def MulC (i j : Int) : Prop := CMul i j ∨ CMulW i j
theorem op_mulA : OpR X (binaryOp .Mult) (rI MulC fun i j => .int (i * j)) := opI fun _ _ _ _ _ _ _ hc q => mul_int q (hc.elim CMul.ok CMulW.ok)
def rRepS : R2 := fun x y H Q => ∃ (z : Str) (n : Int), x = .str z ∧ y = .int n ∧ MulOk z n ∧ Q (.str (Txt.mul z n)) H
theorem op_repS : OpR X (binaryOp .Mult) rRepS := by
  intro pins s σ H x y v u Q I rx ry h
  obtain ⟨z, n, rfl, rfl, hok, q⟩ := h
  obtain ⟨t, rfl⟩ := rx
  obtain ⟨t', rfl⟩ := ry
  exact SB.mul hok fun t2 k => ⟨.str _, H, I.tok _, ⟨_, rfl⟩, q⟩
def oMul : D → D → Sto → VK3 → Prop
  | .int i, .int j, S, Q => MulC i j ∧ Q (.int (i * j)) S
  | .str z, .int n, S, Q => MulOk z n ∧ Q (.str (Txt.mul z n)) S
  | .loc a, .int k, S, Q => match S a with
    | some (.lst xs) => -(2 ^ 63) ≤ k ∧ k < 2 ^ 63 ∧ xs.length * k.toNat ≤ sizeLine ∧ ∀ p, S p = none → Q (.loc p) (up S p (.lst (List.replicate k.toNat xs).flatten))
    | _ => False
  | _, _, _, _ => False
theorem Dvs.rep {K : PySem.W.Frag} {H : Hp} {vs : List V} {ds : List D} (h : Dvs K H vs ds) : ∀ n : Nat, Dvs K H (List.replicate n vs).flatten (List.replicate n ds).flatten
  | 0 => .nil
  | n + 1 => by
    rw [List.replicate_succ, List.replicate_succ, List.flatten_cons, List.flatten_cons]
    exact h.append (Dvs.rep h n)
theorem opr_mul : OpR X (binaryOp .Mult) (fun x y H Q => (rI MulC fun i j => .int (i * j)) x y H Q ∨ rRepS x y H Q ∨ rRep x y H Q) := op_mulA.or (op_repS.or op_rep)
theorem op3_mul : Op3 X.K (fun x y H Q => (rI MulC fun i j => .int (i * j)) x y H Q ∨ rRepS x y H Q ∨ rRep x y H Q) oMul := by
  intro S H x y vx vy P Q r dx dy h c
  cases dx <;> cases dy <;> first | exact h.elim | skip
  · exact .inl ⟨_, _, rfl, rfl, h.1, c.here r h.2 (.int _)⟩
  · exact .inr (.inl ⟨_, _, rfl, rfl, h.1, c.here r h.2 (.str _)⟩)
  · unfold oMul at h
    dsimp only at h
    split at h
    · next xs e1 =>
      obtain ⟨vs, h1, d1⟩ := lst_at r e1
      exact .inr (.inr ⟨_, _, vs, rfl, rfl, h1, h.1, h.2.1, by rw [d1.length]; exact h.2.2.1, c.lst r (d1.rep _) h.2.2.2⟩)
    · exact h.elim
def oNeg : D → Sto → VK3 → Prop
  | .int i, S, Q => Q (.int (-i)) S
  | _, _, _ => False
theorem un3_neg {K : PySem.W.Frag} : Un3 K (rU fun i => .int (-i)) oNeg := by
  intro S H x vx P Q r dx h c
  cases dx <;> first | exact h.elim | skip
  exact ⟨_, rfl, c.here r h (.int _)⟩
section
variable {a b : Expr} {ta tb : TE3} {pos : Pos}
theorem pe3_add (ha : PE3 X a ta) (hb : PE3 X b tb) : PE3 X (.BinOp a .Add b pos) (tOp3 oAdd ta tb) := pe3_op opr_add op3_add ha hb
theorem pe3_sub (ha : PE3 X a ta) (hb : PE3 X b tb) : PE3 X (.BinOp a .Sub b pos) (tOp3 oSub ta tb) := pe3_op op_sub op3_I0 ha hb
theorem pe3_mul (ha : PE3 X a ta) (hb : PE3 X b tb) : PE3 X (.BinOp a .Mult b pos) (tOp3 oMul ta tb) := pe3_op opr_mul op3_mul ha hb
theorem pe3_fdiv (ha : PE3 X a ta) (hb : PE3 X b tb) : PE3 X (.BinOp a .FloorDiv b pos) (tOp3 oFdiv ta tb) := pe3_op op_fdivW op3_I ha hb
theorem pe3_mod (ha : PE3 X a ta) (hb : PE3 X b tb) : PE3 X (.BinOp a .Mod b pos) (tOp3 oMod ta tb) := pe3_op op_mod op3_I ha hb
theorem pe3_pow (ha : PE3 X a ta) (hb : PE3 X b tb) : PE3 X (.BinOp a .Pow b pos) (tOp3 oPow ta tb) := pe3_op op_pow op3_I ha hb
theorem pe3_neg (ha : PE3 X a ta) : PE3 X (.UnaryOp .USub a pos) (tUn3 oNeg ta) := pe3_un un_neg un3_neg ha
end

/-! ### order of ints -/
def oB (g : Int → Int → Bool) : D → D → Sto → VK3 → Prop
  | .int i, .int j, S, Q => Q (.bl (g i j)) S
  | _, _, _, _ => False
theorem op3_B {K : PySem.W.Frag} {g : Int → Int → Bool} : Op3 K (rI0 fun i j => .bl (g i j)) (oB g) := by
  intro S H x y vx vy P Q r dx dy h c
  cases dx <;> cases dy <;> first | exact h.elim | skip
  exact ⟨_, _, rfl, rfl, c.here r h (.bl _)⟩
abbrev oLt := oB fun i j => decide (i < j)
abbrev oLe := oB fun i j => decide (i ≤ j)
abbrev oGt := oB fun i j => decide (j < i)
abbrev oGe := oB fun i j => decide (j ≤ i)

/-! ### equality of data -/
mutual
@[simp] def D.eqv : D → D → Bool
  | .non, .non => true
  | .bl a, .bl b => a == b
  | .bl a, .int j => (if a then 1 else 0) == j
  | .int i, .bl b => i == (if b then 1 else 0)
  | .int i, .int j => i == j
  | .str x, .str y => x == y
  | .rol xs, .rol ys => eqvAll xs ys
  | .tup xs, .tup ys => eqvAll xs ys
  | _, _ => false
@[simp] def eqvAll : List D → List D → Bool
  | [], [] => true
  | x :: xs, y :: ys => D.eqv x y && eqvAll xs ys
  | _, _ => false
end
mutual
/-- plain data: no addresses, texts that can be laid -/
def D.lay : D → Bool
  | .non | .bl _ | .int _ => true
  | .str x => PyData.strOk x
  | .tup xs | .rol xs => layAll xs
  | .ty _ | .loc _ => false
def layAll : List D → Bool
  | [] => true
  | x :: xs => D.lay x && layAll xs
end
mutual
def D.dep : D → Nat
  | .tup xs | .rol xs => depAll xs + 1
  | _ => 0
def depAll : List D → Nat
  | [] => 0
  | x :: xs => max (D.dep x) (depAll xs)
end
mutual
def D.py : D → PyData
  | .non => .none
  | .bl b => .bool b
  | .int i => .int i
  | .str x => .str x
  | .tup xs => .tuple (pyAll xs)
  | .rol xs => .list (pyAll xs)
  | .ty _ => .none
  | .loc _ => .none
def pyAll : List D → List PyData
  | [] => []
  | x :: xs => D.py x :: pyAll xs
end
mutual
theorem Dp.of {K : PySem.W.Frag} {H : Hp} : ∀ {d : D} {v : V}, Dv K H v d → d.lay = true → Dp K H v d.py
  | .non, _, h, _ => by cases h; exact .non
  | .bl b, _, h, _ => by cases h; exact .bl b
  | .int i, _, h, _ => by cases h; exact .int i
  | .str x, _, h, _ => by cases h; exact .str x
  | .ty n, _, _, l => by simp [D.lay] at l
  | .loc n, _, _, l => by simp [D.lay] at l
  | .tup ds, _, h, l => by
    cases h with
    | tup h1 h2 =>
      rw [D.py]
      exact .tup (.of h1) (DpAll.of h2 (by rw [D.lay] at l; exact l))
  | .rol ds, _, h, l => by
    cases h with
    | rol h1 h2 =>
      rw [D.py]
      exact .lst h1.sq (DpAll.of h2 (by rw [D.lay] at l; exact l))
theorem DpAll.of {K : PySem.W.Frag} {H : Hp} : ∀ {ds : List D} {vs : List V}, Dvs K H vs ds → layAll ds = true → DpAll K H vs (pyAll ds)
  | [], _, h, _ => by cases h; rw [pyAll]; exact .nil
  | d :: ds, _, h, l => by
    cases h with
    | cons h1 h2 =>
      rw [layAll, Bool.and_eq_true] at l
      rw [pyAll]
      exact .cons (Dp.of h1 l.1) (DpAll.of h2 l.2)
end
mutual
theorem py_eqv : ∀ (d e : D), d.lay = true → e.lay = true → PyData.eqv d.py e.py = D.eqv d e
  | d, .ty _, _, h => by simp [D.lay] at h
  | d, .loc _, _, h => by simp [D.lay] at h
  | .ty _, e, h, _ => by simp [D.lay] at h
  | .loc _, e, h, _ => by simp [D.lay] at h
  | .tup xs, .tup ys, h1, h2 => by
    rw [D.py, D.py, PyData.eqv, D.eqv]
    exact py_eqvAll xs ys (by rw [D.lay] at h1; exact h1) (by rw [D.lay] at h2; exact h2)
  | .rol xs, .rol ys, h1, h2 => by
    rw [D.py, D.py, PyData.eqv, D.eqv]
    exact py_eqvAll xs ys (by rw [D.lay] at h1; exact h1) (by rw [D.lay] at h2; exact h2)
  | .non, .non, _, _ | .non, .bl _, _, _ | .non, .int _, _, _ | .non, .str _, _, _ | .non, .tup _, _, _ | .non, .rol _, _, _ => by simp [D.py, PyData.eqv, D.eqv]
  | .bl _, .non, _, _ | .bl _, .bl _, _, _ | .bl _, .int _, _, _ | .bl _, .str _, _, _ | .bl _, .tup _, _, _ | .bl _, .rol _, _, _ => by simp [D.py, PyData.eqv, D.eqv]
  | .int _, .non, _, _ | .int _, .bl _, _, _ | .int _, .int _, _, _ | .int _, .str _, _, _ | .int _, .tup _, _, _ | .int _, .rol _, _, _ => by simp [D.py, PyData.eqv, D.eqv]
  | .str _, .non, _, _ | .str _, .bl _, _, _ | .str _, .int _, _, _ | .str _, .str _, _, _ | .str _, .tup _, _, _ | .str _, .rol _, _, _ => by simp [D.py, PyData.eqv, D.eqv]
  | .tup _, .non, _, _ | .tup _, .bl _, _, _ | .tup _, .int _, _, _ | .tup _, .str _, _, _ | .tup _, .rol _, _, _ => by simp [D.py, PyData.eqv, D.eqv]
  | .rol _, .non, _, _ | .rol _, .bl _, _, _ | .rol _, .int _, _, _ | .rol _, .str _, _, _ | .rol _, .tup _, _, _ => by simp [D.py, PyData.eqv, D.eqv]
theorem py_eqvAll : ∀ (ds es : List D), layAll ds = true → layAll es = true → PyData.eqvAll (pyAll ds) (pyAll es) = eqvAll ds es
  | [], [], _, _ => by simp [pyAll, PyData.eqvAll, eqvAll]
  | [], _ :: _, _, _ => by simp [pyAll, PyData.eqvAll, eqvAll]
  | _ :: _, [], _, _ => by simp [pyAll, PyData.eqvAll, eqvAll]
  | d :: ds, e :: es, h1, h2 => by
    rw [layAll, Bool.and_eq_true] at h1 h2
    rw [pyAll, pyAll, PyData.eqvAll, eqvAll, py_eqv d e h1.1 h2.1, py_eqvAll ds es h1.2 h2.2]
end
mutual
theorem py_lay : ∀ d : D, d.lay = true → d.py.canLay0 = true
  | .non, _ | .bl _, _ | .int _, _ => by simp [D.py, PyData.canLay0]
  | .str x, h => by
    rw [D.py, PyData.canLay0]
    rw [D.lay] at h
    exact h
  | .ty _, h | .loc _, h => by simp [D.lay] at h
  | .tup xs, h | .rol xs, h => by
    rw [D.py, PyData.canLay0]
    rw [D.lay] at h
    exact py_layAll xs h
theorem py_layAll : ∀ ds : List D, layAll ds = true → PyData.canLayAll0 (pyAll ds) = true
  | [], _ => by simp [pyAll, PyData.canLayAll0]
  | d :: ds, h => by
    rw [layAll, Bool.and_eq_true] at h
    rw [pyAll, PyData.canLayAll0, py_lay d h.1, py_layAll ds h.2]
    rfl
end
mutual
theorem py_dep : ∀ d : D, d.py.depth = d.dep
  | .non | .bl _ | .int _ | .str _ | .ty _ | .loc _ => by simp [D.py, PyData.depth, D.dep]
  | .tup xs | .rol xs => by rw [D.py, PyData.depth, D.dep, py_depAll xs]
theorem py_depAll : ∀ ds : List D, PyData.depthAll (pyAll ds) = depAll ds
  | [] => by simp [pyAll, PyData.depthAll, depAll]
  | d :: ds => by rw [pyAll, PyData.depthAll, depAll, py_dep d, py_depAll ds]
end
/-- data that == reads -/
def D.plain (d : D) : Prop := d.lay = true ∧ d.dep ≤ 64
theorem D.plain.shaped {d : D} (h : d.plain) : SeqAt.shaped d.py = true := by
  unfold SeqAt.shaped
  rw [py_lay d h.1, py_dep d]
  simp [h.2]
/-- a list of the store as data -/
def unl (S : Sto) : D → D
  | .loc a => match S a with
    | some (.lst ds) => .rol ds
    | _ => .loc a
  | d => d
theorem unl_dp {K : PySem.W.Frag} {S : Sto} {H : Hp} {d : D} {v : V} (r : SRel K S H) (dv : Dv K H v d) (l : (unl S d).lay = true) : Dp K H v (unl S d).py := by
  cases dv with
  | loc a =>
    unfold unl at l ⊢
    dsimp only at l ⊢
    split
    · next ds e =>
      rw [e] at l
      obtain ⟨vs, h1, h2⟩ := lst_at r e
      rw [D.py]
      exact .lst (.of h1) (DpAll.of h2 (by simpa [D.lay] using l))
    · next hn =>
      split at l
      · next ds e => exact (hn ds e).elim
      · simp [D.lay] at l
  | tup h1 h2 => exact Dp.of (.tup h1 h2) l
  | rol h1 h2 => exact Dp.of (.rol h1 h2) l
  | non => exact Dp.of .non l
  | bl b => exact Dp.of (.bl b) l
  | int i => exact Dp.of (.int i) l
  | str x => exact Dp.of (.str x) l
  | ty n => exact Dp.of (.ty n) l
/-- what == says of two scalars -/
def scD : D → D → Option Bool
  | .non, .non => some true
  | .int i, .int j => some (decide (i = j))
  | .bl a, .bl b => some (decide (a = b))
  | .str x, .str y => some (decide (x = y))
  | .non, .int _ => some false | .int _, .non => some false | .non, .bl _ => some false | .bl _, .non => some false | .non, .str _ => some false | .str _, .non => some false
  | .int _, .str _ => some false | .str _, .int _ => some false | .bl _, .str _ => some false | .str _, .bl _ => some false
  | _, _ => none
def oEqG (f : Bool → Bool) (x y : D) (S : Sto) (Q : VK3) : Prop := match scD x y with
  | some k => Q (.bl (f k)) S
  | none => (unl S x).plain ∧ (unl S y).plain ∧ Q (.bl (f (D.eqv (unl S x) (unl S y)))) S
abbrev oEq := oEqG id
abbrev oNe := oEqG not
theorem scD_of {K : PySem.W.Frag} {H : Hp} {x y : D} {vx vy : V} {k : Bool} (dx : Dv K H vx x) (dy : Dv K H vy y) (h : scD x y = some k) : scal vx vy = true ∧ decide (vx = vy) = k := by
  cases dx <;> cases dy <;> first
    | (simp only [scD, Option.some.injEq] at h; subst h; exact ⟨rfl, by simp⟩)
    | (simp [scD] at h)
theorem op3_eq {K : PySem.W.Frag} : Op3 K (fun x y H Q => rEq x y H Q ∨ rEqD K x y H Q) oEq := by
  intro S H x y vx vy P Q r dx dy h c
  unfold oEq oEqG at h
  split at h
  · next k e =>
    obtain ⟨h1, h2⟩ := scD_of dx dy e
    exact .inl ⟨h1, by rw [h2]; exact c.here r h (.bl _)⟩
  · refine .inr ⟨_, _, unl_dp r dx h.1.1, unl_dp r dy h.2.1.1, h.1.shaped, h.2.1.shaped, ?_⟩
    rw [py_eqv _ _ h.1.1 h.2.1.1]
    exact c.here r h.2.2 (.bl _)
theorem op3_ne {K : PySem.W.Frag} : Op3 K (fun x y H Q => rNe x y H Q ∨ rNeD K x y H Q) oNe := by
  intro S H x y vx vy P Q r dx dy h c
  unfold oNe oEqG at h
  split at h
  · next k e =>
    obtain ⟨h1, h2⟩ := scD_of dx dy e
    exact .inl ⟨h1, by rw [h2]; exact c.here r h (.bl _)⟩
  · refine .inr ⟨_, _, unl_dp r dx h.1.1, unl_dp r dy h.2.1.1, h.1.shaped, h.2.1.shaped, ?_⟩
    rw [py_eqv _ _ h.1.1 h.2.1.1]
    exact c.here r h.2.2 (.bl _)
theorem opr_eq (hu : X.A.units + 66 < cLine) : OpR X (compareOp .Eq) (fun x y H Q => rEq x y H Q ∨ rEqD X.K x y H Q) := op_eq.or (op_eqD (by omega))
theorem opr_ne (hu : X.A.units + 66 < cLine) : OpR X (compareOp .NotEq) (fun x y H Q => rNe x y H Q ∨ rNeD X.K x y H Q) := op_ne.or (op_neD (by omega))

/-! ### is None -/
def isN : D → Bool
  | .non => true
  | _ => false
theorem isN_of {K : PySem.W.Frag} {H : Hp} {x : D} {vx : V} (dx : Dv K H vx x) : decide (vx = .non) = isN x := by
  cases dx <;> simp [isN]
def oIsN (f : Bool → Bool) (x y : D) (S : Sto) (Q : VK3) : Prop := match y with
  | .non => Q (.bl (f (isN x))) S
  | .bl b => match x with
    | .bl a => Q (.bl (f (decide (a = b)))) S
    | _ => False
  | _ => False
theorem op3_is {K : PySem.W.Frag} : Op3 K (fun x y H Q => (y = .non ∧ Q (.bl (decide (x = .non))) H) ∨ rIsB x y H Q) (oIsN id) := by
  intro S H x y vx vy P Q r dx dy h c
  cases dy <;> first | exact h.elim | skip
  · exact .inl ⟨rfl, by rw [isN_of dx]; exact c.here r h (.bl _)⟩
  · cases dx <;> first | exact h.elim | skip
    exact .inr ⟨_, _, rfl, rfl, c.here r h (.bl _)⟩
theorem op3_isnot {K : PySem.W.Frag} : Op3 K (fun x y H Q => (y = .non ∧ Q (.bl (!decide (x = .non))) H) ∨ rNotB x y H Q) (oIsN not) := by
  intro S H x y vx vy P Q r dx dy h c
  cases dy <;> first | exact h.elim | skip
  · exact .inl ⟨rfl, by rw [isN_of dx]; exact c.here r h (.bl _)⟩
  · cases dx <;> first | exact h.elim | skip
    exact .inr ⟨_, _, rfl, rfl, c.here r h (.bl _)⟩
theorem opr_is : OpR X (compareOp .Is) (fun x y H Q => (y = .non ∧ Q (.bl (decide (x = .non))) H) ∨ rIsB x y H Q) := op_isN.or op_isBl
theorem opr_isnot : OpR X (compareOp .IsNot) (fun x y H Q => (y = .non ∧ Q (.bl (!decide (x = .non))) H) ∨ rNotB x y H Q) := op_notN.or op_notBl

/-! ### dicts: keys -/
def D.key : D → Option Key
  | .int i => some (.inl i)
  | .str x => some (.inr x)
  | _ => none
@[simp] def keysOf : List D → Option (List Key)
  | [] => some []
  | d :: ds => match d.key, keysOf ds with
    | some k, some ks => some (k :: ks)
    | _, _ => none
def D.tkey : D → Option (List Key)
  | .tup ds => keysOf ds
  | _ => none
theorem key_of {K : PySem.W.Frag} {H : Hp} {d : D} {v : V} {k : Key} (dv : Dv K H v d) (h : d.key = some k) : v = kV k := by
  cases dv <;> simp [D.key] at h <;> (subst h; rfl)
theorem keys_of {K : PySem.W.Frag} {H : Hp} : ∀ {ds : List D} {vs : List V} {ks : List Key}, Dvs K H vs ds → keysOf ds = some ks → vs = ks.map kV
  | [], _, _, h, e => by
    cases h
    simp [keysOf] at e
    subst e
    rfl
  | d :: ds, _, ks, h, e => by
    cases h with
    | cons h1 h2 =>
      unfold keysOf at e
      split at e
      · next k ks' e1 e2 =>
        cases e
        rw [key_of h1 e1, keys_of h2 e2]
        rfl
      · cases e
theorem tkey_of {K : PySem.W.Frag} {H : Hp} {d : D} {v : V} {ks : List Key} (dv : Dv K H v d) (h : d.tkey = some ks) : ∃ b, v = .ref b ∧ H b = some (.tup (ks.map kV)) := by
  cases dv with
  | tup h1 h2 => exact ⟨_, rfl, by rw [← keys_of h2 h]; exact h1⟩
  | _ => cases h
@[simp] theorem keysOf_map (ks : List Key) : keysOf (ks.map kD) = some ks := by
  induction ks with
  | nil => rfl
  | cons k ks ih => cases k <;> simp [keysOf, kD, D.key, ih]
@[simp] theorem tkey_map (ks : List Key) : (D.tup (ks.map kD)).tkey = some ks := keysOf_map ks
@[simp] theorem key_kD (k : Key) : (kD k).key = some k := by cases k <;> rfl
/-- look-up in an association list -/
def look {κ : Type} [DecidableEq κ] {β : Type} (kvs : List (κ × β)) (k : κ) : Option β := (kvs.find? fun kv => decide (kv.1 = k)).map (·.2)
def put {κ : Type} [DecidableEq κ] {β : Type} (kvs : List (κ × β)) (k : κ) (v : β) : List (κ × β) :=
  if (kvs.any fun kv => decide (kv.1 = k)) = true then kvs.map (fun kv => if kv.1 = k then (kv.1, v) else kv) else kvs ++ [(k, v)]
theorem KVr.look {K : PySem.W.Frag} {H : Hp} {κ : Type} [DecidableEq κ] {k : κ} : ∀ {kvs : List (κ × D)} {kws : List (κ × V)}, KVr K H kvs kws → match L3.look kvs k with
    | some d => ∃ v, valV kws k = some v ∧ Dv K H v d
    | none => valV kws k = none
  | _, _, .nil => rfl
  | p :: kvs, q :: kws, .cons r t => by
    have ih := KVr.look (k := k) t
    by_cases e : p.1 = k
    · have e' : q.1 = k := by rw [← r.1]; exact e
      simp only [L3.look, valV, List.find?_cons, e, e', decide_true, Option.map_some]
      exact ⟨_, rfl, r.2⟩
    · have e' : ¬ q.1 = k := by rw [← r.1]; exact e
      simp only [L3.look, valV, List.find?_cons, e, e', decide_false] at ih ⊢
      exact ih
theorem KVr.any {K : PySem.W.Frag} {H : Hp} {κ : Type} [DecidableEq κ] {k : κ} : ∀ {kvs : List (κ × D)} {kws : List (κ × V)}, KVr K H kvs kws → (kvs.any fun kv => decide (kv.1 = k)) = (kws.any fun kv => decide (kv.1 = k))
  | _, _, .nil => rfl
  | p :: kvs, q :: kws, .cons r t => by rw [List.any_cons, List.any_cons, KVr.any t, r.1]
theorem KVr.put {K : PySem.W.Frag} {H : Hp} {κ : Type} [DecidableEq κ] {k : κ} {d : D} {v : V} (dv : Dv K H v d) {kvs : List (κ × D)} {kws : List (κ × V)} (h : KVr K H kvs kws) : KVr K H (L3.put kvs k d) (putK kws k v) := by
  have mp : ∀ {kvs : List (κ × D)} {kws : List (κ × V)}, KVr K H kvs kws → KVr K H (kvs.map fun kv => if kv.1 = k then (kv.1, d) else kv) (kws.map fun kv => if kv.1 = k then (kv.1, v) else kv) := by
    intro kvs kws h
    induction h with
    | nil => exact .nil
    | @cons p q _ _ r t ih =>
      rw [List.map_cons, List.map_cons]
      refine .cons ?_ ih
      by_cases e : p.1 = k
      · rw [if_pos e, if_pos (by rw [← r.1]; exact e)]
        exact ⟨r.1, dv⟩
      · rw [if_neg e, if_neg (by rw [← r.1]; exact e)]
        exact r
  have ap : ∀ {kvs : List (κ × D)} {kws : List (κ × V)}, KVr K H kvs kws → KVr K H (kvs ++ [(k, d)]) (kws ++ [(k, v)]) := by
    intro kvs kws h
    induction h with
    | nil => exact .cons ⟨rfl, dv⟩ .nil
    | cons r t ih => exact .cons r ih
  unfold L3.put putK
  rw [h.any]
  split
  · exact mp h
  · exact ap h
/-- what the dict at a holds at a key: Q of it -/
def dGet (o : Option MO) (y : D) (Q : Option D → Prop) : Prop := match o with
  | some (.dK kvs) | some (.fK kvs) => match y.key with
    | some k => Q (look kvs k)
    | none => False
  | some (.dT kvs) | some (.fT kvs) => match y.tkey with
    | some k => Q (look kvs k)
    | none => False
  | _ => False
theorem dGet_of {K : PySem.W.Frag} {S : Sto} {H : Hp} {a : Addr} {y : D} {vy : V} {Q : Option D → Prop} (r : SRel K S H) (dy : Dv K H vy y) (h : dGet (S a) y Q) : ∃ o ov, DGet H a vy ov ∧ Q o ∧ match o with
    | some d => ∃ v, ov = some v ∧ Dv K H v d
    | none => ov = none := by
  have fin : ∀ {κ : Type} [DecidableEq κ] {k : κ} {kvs : List (κ × D)} {kws : List (κ × V)}, KVr K H kvs kws → match L3.look kvs k with
      | some d => ∃ v, valV kws k = some v ∧ Dv K H v d
      | none => valV kws k = none := fun h => h.look
  unfold dGet at h
  split at h
  · next kvs e =>
    obtain ⟨u, h1, h2⟩ := r a _ e
    split at h
    · next k ek =>
      cases u <;> first | exact h2.elim | exact ⟨_, _, .inl ⟨_, k, .inl h1, key_of dy ek, rfl⟩, h, fin h2⟩
    · exact h.elim
  · next kvs e =>
    obtain ⟨u, h1, h2⟩ := r a _ e
    split at h
    · next k ek =>
      cases u with
      | frz o u => cases u <;> first | exact h2.elim | exact ⟨_, _, .inl ⟨_, k, .inr ⟨_, h1⟩, key_of dy ek, rfl⟩, h, fin h2⟩
      | _ => exact h2.elim
    · exact h.elim
  · next kvs e =>
    obtain ⟨u, h1, h2⟩ := r a _ e
    split at h
    · next k ek =>
      obtain ⟨b, eb, hb⟩ := tkey_of dy ek
      cases u <;> first | exact h2.elim | exact ⟨_, _, .inr ⟨_, k, b, .inl h1, eb, hb, rfl⟩, h, fin h2⟩
    · exact h.elim
  · next kvs e =>
    obtain ⟨u, h1, h2⟩ := r a _ e
    split at h
    · next k ek =>
      obtain ⟨b, eb, hb⟩ := tkey_of dy ek
      cases u with
      | frz o u => cases u <;> first | exact h2.elim | exact ⟨_, _, .inr ⟨_, k, b, .inr ⟨_, h1⟩, eb, hb, rfl⟩, h, fin h2⟩
      | _ => exact h2.elim
    · exact h.elim
  · exact h.elim

/-! ### in -/
def D.flat : D → Bool
  | .non | .bl _ | .int _ | .str _ => true
  | _ => false
/-- x in y, f of it -/
def oInG (f : Bool → Bool) : D → D → Sto → VK3 → Prop
  | .str s, .str t, S, Q => Q (.bl (f (!(Builtin.Str.occurrences t s 0 t.length 1).isEmpty))) S
  | x, .tup ds, S, Q => x.flat = true ∧ ds.all D.flat = true ∧ Q (.bl (f (ds.any fun y => D.eqv y x))) S
  | x, .rol ds, S, Q => x.flat = true ∧ ds.all D.flat = true ∧ Q (.bl (f (ds.any fun y => D.eqv y x))) S
  | x, .loc a, S, Q => match S a with
    | some (.lst ds) => x.plain ∧ (D.rol ds).plain ∧ Q (.bl (f (ds.any fun y => D.eqv y x))) S
    | o => dGet o x fun r => Q (.bl (f r.isSome)) S
  | _, _, _, _ => False
abbrev oIn := oInG id
abbrev oNotIn := oInG not
theorem flat_of {K : PySem.W.Frag} {H : Hp} {x : D} {vx : V} (dx : Dv K H vx x) (h : x.flat = true) : flatV vx = true := by
  cases dx <;> first | rfl | simp [D.flat] at h
theorem eqV_of {K : PySem.W.Frag} {H : Hp} {x y : D} {vx vy : V} (dx : Dv K H vx x) (dy : Dv K H vy y) (h : x.flat = true) (h' : y.flat = true) : eqV vx vy = D.eqv x y := by
  cases dx <;> first
    | (simp [D.flat] at h; done)
    | (cases dy <;> first
        | (simp [D.flat] at h'; done)
        | simp [eqV, D.eqv])
theorem inV_of {K : PySem.W.Frag} {H : Hp} {x : D} {vx : V} (dx : Dv K H vx x) (h : x.flat = true) : ∀ {ds : List D} {vs : List V}, Dvs K H vs ds → ds.all D.flat = true → vs.all flatV = true ∧ inV vx vs = ds.any fun y => D.eqv y x
  | [], _, q, _ => by
    cases q
    exact ⟨rfl, rfl⟩
  | d :: ds, _, q, l => by
    cases q with
    | cons q1 q2 =>
      rw [List.all_cons, Bool.and_eq_true] at l
      obtain ⟨i1, i2⟩ := inV_of dx h q2 l.2
      unfold inV at i2 ⊢
      rw [List.all_cons, List.any_cons, List.any_cons, i1, i2, flat_of q1 l.1, eqV_of q1 dx l.1 h]
      exact ⟨rfl, rfl⟩
theorem any_py {x : D} (hx : x.lay = true) : ∀ {ds : List D}, layAll ds = true → ((pyAll ds).any fun z => PyData.eqv z x.py) = ds.any fun y => D.eqv y x
  | [], _ => by rw [pyAll]; rfl
  | d :: ds, l => by
    rw [layAll, Bool.and_eq_true] at l
    rw [pyAll, List.any_cons, List.any_cons, py_eqv d x l.1 hx, any_py hx l.2]
def rInA (K : PySem.W.Frag) : R2 := fun x y H Q => (∃ i j, x = .str i ∧ y = .str j ∧ Q (.bl (!(Builtin.Str.occurrences j i 0 j.length 1).isEmpty)) H) ∨ rIn K false x y H Q ∨ rInD K x y H Q ∨ ∃ a o, y = .ref a ∧ DGet H a x o ∧ Q (.bl o.isSome) H
def rNotInA (K : PySem.W.Frag) : R2 := fun x y H Q => (∃ i j, x = .str i ∧ y = .str j ∧ Q (.bl (!(!(Builtin.Str.occurrences j i 0 j.length 1).isEmpty))) H) ∨ rIn K true x y H Q ∨ rNotInD K x y H Q ∨ ∃ a o, y = .ref a ∧ DGet H a x o ∧ Q (.bl (!o.isSome)) H
theorem op_inDict (hu : X.A.units + 66 < cLine) : OpR X (compareOp .In) (fun x y H Q => ∃ a o, y = .ref a ∧ DGet H a x o ∧ Q (.bl o.isSome) H) := by
  intro pins s σ H x y v u Q I rx ry h
  obtain ⟨a, o, rfl, g, q⟩ := h
  obtain rfl : u = Value.ref a := ry
  exact d_in (by omega) I g rx fun s' I' => ⟨.bl _, H, I', rfl, q⟩
theorem op_notInDict (hu : X.A.units + 66 < cLine) : OpR X (compareOp .NotIn) (fun x y H Q => ∃ a o, y = .ref a ∧ DGet H a x o ∧ Q (.bl (!o.isSome)) H) := by
  intro pins s σ H x y v u Q I rx ry h
  obtain ⟨a, o, rfl, g, q⟩ := h
  obtain rfl : u = Value.ref a := ry
  exact d_notIn (by omega) I g rx fun s' I' => ⟨.bl _, H, I', rfl, q⟩
theorem opr_in (hu : X.A.units + 66 < cLine) : OpR X (compareOp .In) (rInA X.K) := op_in_str.or (op_in_seq.or ((op_inD (by omega)).or (op_inDict hu)))
theorem opr_notIn (hu : X.A.units + 66 < cLine) : OpR X (compareOp .NotIn) (rNotInA X.K) := op_notIn_str.or (op_notIn_seq.or ((op_notInD (by omega)).or (op_notInDict hu)))
theorem isSome_of {K : PySem.W.Frag} {H : Hp} {o : Option D} {ov : Option V} (h : match o with
    | some d => ∃ v, ov = some v ∧ Dv K H v d
    | none => ov = none) : ov.isSome = o.isSome := by
  cases o with
  | none => rw [h]; rfl
  | some d => obtain ⟨v, e, _⟩ := h; rw [e]; rfl
theorem in_core {K : PySem.W.Frag} {f : Bool → Bool} {S : Sto} {H : Hp} {x y : D} {vx vy : V} {P : VK3} {Q : VK} (r : SRel K S H) (dx : Dv K H vx x) (dy : Dv K H vy y) (h : oInG f x y S P) (c : Cont K S H P Q) :
    (∃ i j, vx = .str i ∧ vy = .str j ∧ Q (.bl (f (!(Builtin.Str.occurrences j i 0 j.length 1).isEmpty))) H) ∨ (∃ p xs, vy = .ref p ∧ (SqL K H p xs ∨ SqT K H p xs) ∧ flatV vx = true ∧ xs.all flatV = true ∧ Q (.bl (f (inV vx xs))) H) ∨
      (∃ d ds, Dp K H vx d ∧ Dp K H vy (.list ds) ∧ SeqAt.shaped d = true ∧ SeqAt.shaped (.list ds) = true ∧ Q (.bl (f (ds.any fun z => PyData.eqv z d))) H) ∨ ∃ a o, vy = .ref a ∧ DGet H a vx o ∧ Q (.bl (f o.isSome)) H := by
  cases dy with
  | str t =>
    cases dx <;> first | exact h.elim | exact .inl ⟨_, _, rfl, rfl, c.here r h (.bl _)⟩
  | tup h1 h2 =>
    next ds => 
    have h' : x.flat = true ∧ ds.all D.flat = true ∧ P (.bl (f (ds.any fun y => D.eqv y x))) S := by cases dx <;> exact h
    obtain ⟨q1, q2, q3⟩ := h'
    obtain ⟨i1, i2⟩ := inV_of dx q1 h2 q2
    exact .inr (.inl ⟨_, _, rfl, .inr (.of h1), flat_of dx q1, i1, by rw [i2]; exact c.here r q3 (.bl _)⟩)
  | rol h1 h2 =>
    next ds => 
    have h' : x.flat = true ∧ ds.all D.flat = true ∧ P (.bl (f (ds.any fun y => D.eqv y x))) S := by cases dx <;> exact h
    obtain ⟨q1, q2, q3⟩ := h'
    obtain ⟨i1, i2⟩ := inV_of dx q1 h2 q2
    exact .inr (.inl ⟨_, _, rfl, .inl h1.sq, flat_of dx q1, i1, by rw [i2]; exact c.here r q3 (.bl _)⟩)
  | loc a =>
    have h' : match S a with
      | some (.lst ds) => x.plain ∧ (D.rol ds).plain ∧ P (.bl (f (ds.any fun y => D.eqv y x))) S
      | o => dGet o x fun r => P (.bl (f r.isSome)) S := by cases dx <;> exact h
    clear h
    split at h'
    · next ds e =>
      obtain ⟨q1, q2, q3⟩ := h'
      obtain ⟨vs, h1, h2⟩ := lst_at r e
      refine .inr (.inr (.inl ⟨x.py, pyAll ds, Dp.of dx q1.1, .lst (.of h1) (DpAll.of h2 (by simpa [D.lay] using q2.1)), q1.shaped, by have := q2.shaped; rw [D.py] at this; exact this, ?_⟩))
      rw [any_py q1.1 (by simpa [D.lay] using q2.1)]
      exact c.here r q3 (.bl _)
    · obtain ⟨o, ov, g, q, m⟩ := dGet_of r dx h'
      exact .inr (.inr (.inr ⟨a, ov, rfl, g, by rw [isSome_of m]; exact c.here r q (.bl _)⟩))
  | non => cases dx <;> exact h.elim
  | bl _ => cases dx <;> exact h.elim
  | int _ => cases dx <;> exact h.elim
  | ty _ => cases dx <;> exact h.elim
theorem op3_in {K : PySem.W.Frag} : Op3 K (rInA K) oIn := fun S H x y vx vy P Q r dx dy h c => in_core (f := id) r dx dy h c
theorem op3_notIn {K : PySem.W.Frag} : Op3 K (rNotInA K) oNotIn := fun S H x y vx vy P Q r dx dy h c => in_core (f := not) r dx dy h c
end L3
/-! L3Stmt: targets, statements, loops, comprehensions, defs. -/
namespace L3
open PySem PySem.Spec PyProof.Rows L2
variable {X : Cx}

/-! ### the block's own names -/
theorem wipe_get (σ : L2.St) : ∀ (vs : List Nat) (j : Nat), (wipe σ vs)[j]? = if j ∈ vs then (σ[j]?).map (fun _ => none) else σ[j]?
  | [], j => by simp [wipe]
  | v :: vs, j => by
    unfold wipe
    by_cases e : v = j
    · subst e
      have ih := wipe_get σ vs v
      by_cases h : v < (wipe σ vs).length
      · rw [List.getElem?_set_self h]
        have h' : v < σ.length := by rw [wipe_length] at h; exact h
        simp [List.getElem?_eq_getElem h']
      · have h' : ¬ v < σ.length := by rw [wipe_length] at h; exact h
        rw [List.getElem?_eq_none (by simpa using h), List.getElem?_eq_none (by simpa using h')]
        simp
    · rw [List.getElem?_set_ne e, wipe_get σ vs j]
      have : j ∈ v :: vs ↔ j ∈ vs := by simp [Ne.symm e]
      simp only [this]
theorem wipe_set {σ : L2.St} {vs : List Nat} {i : Nat} (hi : i ∈ vs) (x : Option V) : wipe (σ.set i x) vs = wipe σ vs := by
  apply List.ext_getElem?
  intro j
  rw [wipe_get, wipe_get]
  by_cases e : i = j
  · subst e
    simp only [hi, if_true]
    by_cases h : i < σ.length
    · rw [List.getElem?_set_self h, List.getElem?_eq_getElem h]
      rfl
    · rw [List.getElem?_eq_none (by simpa using h), List.getElem?_eq_none (by simpa using h)]
  · rw [List.getElem?_set_ne e]
theorem wipe_wipe (σ : L2.St) (vs : List Nat) : wipe (wipe σ vs) vs = wipe σ vs := by
  apply List.ext_getElem?
  intro j
  rw [wipe_get, wipe_get]
  by_cases h : j ∈ vs
  · simp [h, Function.comp_def]
  · simp [h]
@[simp] def wipe3 (τ : St3) : List Nat → St3
  | [] => τ
  | v :: vs => (wipe3 τ vs).set v none
theorem Slots.wipe {K : PySem.W.Frag} {H : Hp} {τ : St3} {σ : L2.St} (h : Slots K H τ σ) : ∀ vs : List Nat, Slots K H (wipe3 τ vs) (L2.wipe σ vs)
  | [] => h
  | v :: vs => by
    have ih := Slots.wipe h vs
    refine ⟨by show ((wipe3 τ vs).set v none).length = ((L2.wipe σ vs).set v none).length; simp [ih.len], fun i d q => ?_⟩
    have q' : ((wipe3 τ vs).set v none)[i]? = some (some d) := q
    show ∃ w, ((L2.wipe σ vs).set v none)[i]? = some (some w) ∧ _
    by_cases e : v = i
    · subst e
      by_cases hl : v < (wipe3 τ vs).length
      · rw [List.getElem?_set_self hl] at q'
        cases q'
      · rw [List.getElem?_eq_none (by simpa using hl)] at q'
        cases q'
    · rw [List.getElem?_set_ne e] at q' ⊢
      exact ih.get i d q'

/-! ### targets -/
abbrev TG3 := D → St3 → Sto → (St3 → Sto → Prop) → Prop
abbrev TGs3 := List D → St3 → Sto → (St3 → Sto → Prop) → Prop
/-- vs: the slots that may be stored -/
def liftG (K : PySem.W.Frag) (vs : List Nat) (t : TG3) : TG := fun v σ H Q => ∃ d τ S P, Dv K H v d ∧ Rel K τ S σ H ∧ t d τ S P ∧
  ∀ τ' S' σ' H', P τ' S' → Step S H S' H' → Rel K τ' S' σ' H' → wipe σ' vs = wipe σ vs → Q σ' H'
def liftGs (K : PySem.W.Frag) (vs : List Nat) (t : TGs3) : TGs := fun us σ H Q => ∃ ds τ S P, Dvs K H us ds ∧ Rel K τ S σ H ∧ t ds τ S P ∧
  ∀ τ' S' σ' H', P τ' S' → Step S H S' H' → Rel K τ' S' σ' H' → wipe σ' vs = wipe σ vs → Q σ' H'
theorem PG.weak {tg : Expr} {t t' : TG} (h : PG X tg t) (w : ∀ v σ H Q, t' v σ H Q → t v σ H Q) : PG X tg t' := ⟨fun pins s σ H v u Q I r q => h.run pins s σ H v u Q I r (w v σ H Q q)⟩
theorem PGs.weak {tg : List Expr} {t t' : TGs} (h : PGs X tg t) (w : ∀ v σ H Q, t' v σ H Q → t v σ H Q) : PGs X tg t' := ⟨fun pins s σ H v u Q I r q => h.run pins s σ H v u Q I r (w v σ H Q q)⟩
abbrev PG3 (X : Cx) (vs : List Nat) (tg : Expr) (t : TG3) : Prop := PG X tg (liftG X.K vs t)
abbrev PGs3 (X : Cx) (vs : List Nat) (tg : List Expr) (t : TGs3) : Prop := PGs X tg (liftGs X.K vs t)
@[simp] def gName3 (i : Nat) : TG3 := fun d τ S Q => Q (τ.set i (some d)) S
theorem pg3_name {vs : List Nat} {i : Nat} {x : Str} {pos : Pos} (hN : X.N.Nodup) (hi : X.N[i]? = some x) (hx : Loc X.env.scope x) (hv : i ∈ vs) (hf : X.fn x = true ∨ X.env.scope.names.lookup x = some .local := by first | exact .inl rfl | exact .inr rfl | assumption) : PG3 X vs (.Name x pos) (gName3 i) :=
  PG.weak (pg_name hN hi hx hf) fun v σ H Q ⟨d, τ, S, P, dv, R, h, c⟩ => c _ _ _ _ h .refl ⟨R.sl.set i dv, R.st⟩ (wipe_set hv _)
def gNil3 : TGs3 := fun ds τ S Q => match ds with
  | [] => Q τ S
  | _ => False
def gCons3 (t : TG3) (u : TGs3) : TGs3 := fun ds τ S Q => match ds with
  | d :: r => t d τ S fun τ' S' => u r τ' S' Q
  | [] => False
theorem pgs3_nil {vs : List Nat} : PGs3 X vs [] gNil3 := by
  refine PGs.weak pgs_nil fun us σ H Q ⟨ds, τ, S, P, dv, R, h, c⟩ => ?_
  cases dv with
  | nil => exact ⟨rfl, c _ _ _ _ h .refl R rfl⟩
  | cons _ _ => exact h.elim
theorem pgs3_cons {vs : List Nat} {e : Expr} {es : List Expr} {t : TG3} {u : TGs3} (h1 : PG3 X vs e t) (h2 : PGs3 X vs es u)
    (hs : (assignEach (e :: es) X.env).map (·.2) = assign e X.env :: (assignEach es X.env).map (·.2) := by rfl) : PGs3 X vs (e :: es) (gCons3 t u) := by
  refine PGs.weak (pgs_cons h1 h2 hs) fun us σ H Q ⟨ds, τ, S, P, dv, R, h, c⟩ => ?_
  cases dv with
  | nil => exact h.elim
  | cons q1 q2 =>
    refine ⟨_, _, rfl, _, τ, S, _, q1, R, h, fun τ' S' σ' H' p s r w => ?_⟩
    exact ⟨_, τ', S', P, q2.ext s.ext, r, p, fun τ2 S2 σ2 H2 p2 s2 r2 w2 => c τ2 S2 σ2 H2 p2 (s.trans s2) r2 (w2.trans w)⟩
def gTup3 (n : Nat) (t : TGs3) : TG3 := fun d τ S Q => match d with
  | .tup ds => ds.length = n ∧ t ds τ S Q
  | _ => False
theorem pg3_tup {vs : List Nat} {es : List Expr} {k : Nat} {pos : Pos} {t : TGs3} {n : Nat} (hc : X.calm = true) (h : PGs3 X vs es t)
    (hn : (assignEach es X.env).length = n := by rfl) (hst : (assignEach es X.env).findIdx? (·.1) = none := by rfl) : PG3 X vs (.Tuple es k pos) (gTup3 n t) := by
  refine PG.weak (pg_tup hc h hn hst) fun v σ H Q ⟨d, τ, S, P, dv, R, h, c⟩ => ?_
  cases dv with
  | tup h1 h2 => exact ⟨_, _, rfl, .of h1, by rw [h2.length]; exact h.1, _, τ, S, P, h2, R, h.2, c⟩
  | _ => exact h.elim

/-! ### stores to a[i] -/
def oSet (o i v : D) (S : Sto) (Q : Sto → Prop) : Prop := match o with
  | .loc a => match S a with
    | some (.lst ds) => match i with
      | .int k => match ixN ds.length k with
        | some j => Q (up S a (.lst (ds.set j v)))
        | none => False
      | _ => False
    | some (.dK kvs) => match i.key with
      | some k => kvs.length < sizeLine ∧ Q (up S a (.dK (put kvs k v)))
      | none => False
    | some (.dT kvs) => match i.tkey with
      | some k => kvs.length < sizeLine ∧ Q (up S a (.dT (put kvs k v)))
      | none => False
    | _ => False
  | _ => False
def rSetD : V → V → V → Hp → (Hp → Prop) → Prop := fun o i v H Q => ∃ a H', o = .ref a ∧ DPut H a i v H' ∧ Q H'
theorem set_dict (hu : X.A.units + 66 < cLine) : PSet X rSetD := by
  intro pins s σ H o i v ov iv u Q I ro ri rv h
  obtain ⟨a, H', rfl, g, q⟩ := h
  obtain rfl : ov = Value.ref a := ro
  exact d_setItem (by omega) I g ri rv fun s' I' => ⟨H', I', q⟩
theorem PSet.or {t t' : TSet} (h : PSet X t) (h' : PSet X t') : PSet X (fun o i v H Q => t o i v H Q ∨ t' o i v H Q) := by
  intro pins s σ H o i v ov iv u Q I ro ri rv q
  rcases q with q | q
  · exact h pins s σ H o i v ov iv u Q I ro ri rv q
  · exact h' pins s σ H o i v ov iv u Q I ro ri rv q
theorem set_of {K : PySem.W.Frag} {S : Sto} {H : Hp} {o i v : D} {vo vi vv : V} {P : Sto → Prop} {Q : Hp → Prop} (r : SRel K S H) (do' : Dv K H vo o) (di : Dv K H vi i) (dv : Dv K H vv v) (h : oSet o i v S P)
    (c : ∀ S' H', P S' → Step S H S' H' → SRel K S' H' → Q H') : rSetL vo vi vv H Q ∨ rSetD vo vi vv H Q := by
  unfold oSet at h
  cases do' <;> first | exact h.elim | skip
  next a =>
  dsimp only at h
  split at h
  · next ds e =>
    obtain ⟨vs, h1, h2⟩ := lst_at r e
    cases di <;> first | exact h.elim | skip
    next k =>
    dsimp only at h
    split at h
    · next j ej =>
      exact .inl ⟨a, vs, k, j, rfl, rfl, h1, by rw [h2.length]; exact ej, c _ _ h (.write e h1 trivial) (r.write h1 trivial ((h2.set dv j).ext (.write h1 trivial)))⟩
    · exact h.elim
  · next kvs e =>
    obtain ⟨u, h1, h2⟩ := r a _ e
    split at h
    · next k ek =>
      cases u <;> first | exact h2.elim | skip
      next kws =>
      exact .inr ⟨a, _, rfl, .inl ⟨kws, k, h1, key_of di ek, by rw [← Paired.length h2]; exact h.1, rfl⟩, c _ _ h.2 (.write e h1 trivial) (r.write h1 trivial (KVr.ext (.write h1 trivial) (KVr.put dv h2)))⟩
    · exact h.elim
  · next kvs e =>
    obtain ⟨u, h1, h2⟩ := r a _ e
    split at h
    · next k ek =>
      cases u <;> first | exact h2.elim | skip
      next kws =>
      obtain ⟨b, eb, hb⟩ := tkey_of di ek
      exact .inr ⟨a, _, rfl, .inr ⟨kws, k, b, h1, eb, hb, by rw [← Paired.length h2]; exact h.1, rfl⟩, c _ _ h.2 (.write e h1 trivial) (r.write h1 trivial (KVr.ext (.write h1 trivial) (KVr.put dv h2)))⟩
    · exact h.elim
  · exact h.elim
@[simp] def gSub3 (to ti : TE3) : TG3 := fun v τ S Q => to τ S fun o S1 => ti τ S1 fun i S2 => oSet o i v S2 fun S3 => Q τ S3
theorem pg3_sub {vs : List Nat} {o i : Expr} {pos : Pos} {to ti : TE3} (hu : X.A.units + 66 < cLine) (ho : PE3 X o to) (hi : PE3 X i ti)
    (ha : ∀ v, assign (.Subscript o i pos) X.env v = (do
      let ov ← holding [v] (eval o X.env)
      let iv ← holding [v, ov] (eval i X.env)
      standAt pos
      holding [v, ov, iv] (setItem ov iv v)
      release [v, ov, iv] []) := by intro _; rfl) : PG3 X vs (.Subscript o i pos) (gSub3 to ti) := by
  refine PG.weak (pg_sub ho hi (PSet.or set_list (set_dict hu)) ha) fun v σ H Q ⟨d, τ, S, P, dv, R, h, c⟩ => ?_
  refine ⟨τ, S, _, R, h, fun o S1 vo H1 h1 s1 r1 d1 => ?_⟩
  refine ⟨τ, S1, _, R.at s1 r1, h1, fun i S2 vi H2 h2 s2 r2 d2 => ?_⟩
  exact set_of r2 (d1.ext s2.ext) d2 (dv.ext (s1.trans s2).ext) h2 fun S3 H3 p s3 r3 => c τ S3 σ H3 p ((s1.trans s2).trans s3) (R.at ((s1.trans s2).trans s3) r3) rfl

/-! ### plain statements -/
section
variable {st : Stmt} {rest : List Stmt} {t u : TS3} {e : Expr} {te : TE3} {pos : Pos}
@[simp] def tNext3 : TS3 := fun D τ S => D.nx τ S
@[simp] def tSeq3 (t u : TS3) : TS3 := fun D τ S => t { D with nx := u D } τ S
theorem pss3_nil : PSs3 X [] tNext3 := PSs.weak pss_nil fun D σ H ⟨τ, S, D3, R, h, e⟩ => e.nx _ _ _ _ h .refl R
theorem pss3_cons (h1 : PS3 X st t) (h2 : PSs3 X rest u) : PSs3 X (st :: rest) (tSeq3 t u) := by
  refine PSs.weak (pss_cons h1 h2) fun D σ H ⟨τ, S, D3, R, h, e⟩ => ⟨τ, S, _, R, h, ?_⟩
  exact ⟨fun τ' S' σ' H' q s r => ⟨τ', S', D3, r, q, e.step s⟩, e.rt, e.bk, e.ct⟩
theorem pss3_one (h1 : PS3 X st t) : PSs3 X [st] t := pss_one h1
@[simp] def tBreak3 : TS3 := fun D τ S => D.bk τ S
@[simp] def tCont3 : TS3 := fun D τ S => D.ct τ S
theorem ps3_pass : PS3 X (.Pass pos) tNext3 := PS.weak ps_pass fun D σ H ⟨τ, S, D3, R, h, e⟩ => e.nx _ _ _ _ h .refl R
theorem ps3_break : PS3 X (.Break pos) tBreak3 := PS.weak ps_break fun D σ H ⟨τ, S, D3, R, h, e⟩ => e.bk _ _ _ _ h .refl R
theorem ps3_continue : PS3 X (.Continue pos) tCont3 := PS.weak ps_continue fun D σ H ⟨τ, S, D3, R, h, e⟩ => e.ct _ _ _ _ h .refl R
@[simp] def tDrop3 (te : TE3) : TS3 := fun D τ S => te τ S fun _ S1 => D.nx τ S1
theorem ps3_expr (he : PE3 X e te) (hs : swapsWith e none pos.line X.env = pure false := by rfl) : PS3 X (.Expr e pos) (tDrop3 te) :=
  PS.weak (ps_expr he hs) fun D σ H ⟨τ, S, D3, R, h, e⟩ => ⟨τ, S, _, R, h, fun d S1 v H1 h1 s1 r1 _ => e.nx _ _ _ _ h1 s1 (R.at s1 r1)⟩
@[simp] def tRet3 (te : TE3) : TS3 := fun D τ S => te τ S D.rt
theorem ps3_ret (he : PE3 X e te) : PS3 X (.Return (some e) pos) (tRet3 te) :=
  PS.weak (ps_ret he) fun D σ H ⟨τ, S, D3, R, h, e⟩ => ⟨τ, S, _, R, h, fun d S1 v H1 h1 s1 r1 d1 => e.rt _ _ _ _ h1 s1 r1 d1⟩
@[simp] def tRetN3 : TS3 := fun D _ S => D.rt .non S
theorem ps3_retN : PS3 X (.Return none pos) tRetN3 :=
  PS.weak ps_retN fun D σ H ⟨τ, S, D3, R, h, e⟩ => e.rt _ _ _ _ h .refl R.st .non
@[simp] def tIfS3 (c : TT3) (t u : TS3) : TS3 := fun D τ S => c τ S fun b S1 => if b = true then t D τ S1 else u D τ S1
theorem ps3_if {c : Expr} {a b : List Stmt} {tc : TT3} (hc : PT3 X c tc) (ha : PSs3 X a t) (hb : PSs3 X b u) : PS3 X (.If c a b pos) (tIfS3 tc t u) := by
  refine PS.weak (ps_if hc ha hb) fun D σ H ⟨τ, S, D3, R, h, e⟩ => ⟨τ, S, _, R, h, fun k S1 H1 h1 s1 r1 => ?_⟩
  cases k with
  | true => exact iteT ⟨τ, S1, D3, R.at s1 r1, h1, e.step s1⟩
  | false => exact iteF ⟨τ, S1, D3, R.at s1 r1, h1, e.step s1⟩
@[simp] def tAsg3 (te : TE3) (g : TG3) : TS3 := fun D τ S => te τ S fun d S1 => g d τ S1 D.nx
theorem ps3_asg {vs : List Nat} {tg : Expr} {g : TG3} (he : PE3 X e te) (hg : PG3 X vs tg g) (hs : swapsWithSole [tg] e pos.line X.env = pure false := by rfl) (hw : swappedStores [tg] e X.env = pure none := by rfl)
    (h1 : (assignEach [tg] X.env).map (·.2) = [assign tg X.env] := by rfl) : PS3 X (.Assign [tg] e pos) (tAsg3 te g) :=
  PS.weak (ps_asg he hg hs hw h1) fun D σ H ⟨τ, S, D3, R, h, e⟩ => ⟨τ, S, _, R, h, fun d S1 v H1 h1 s1 r1 d1 =>
    ⟨d, τ, S1, _, d1, R.at s1 r1, h1, fun τ' S' σ' H' q s' r' _ => e.nx _ _ _ _ q (s1.trans s') r'⟩⟩
theorem ps3_set {i : Nat} {x : Str} {pos' : Pos} (hN : X.N.Nodup) (hi : X.N[i]? = some x) (hx : Loc X.env.scope x) (he : PE3 X e te) (hs : swapsWith e (some (.Name x pos')) pos.line X.env = pure false := by rfl) (hf : X.fn x = true ∨ X.env.scope.names.lookup x = some .local := by first | exact .inl rfl | exact .inr rfl | assumption) :
    PS3 X (.Assign [.Name x pos'] e pos) (tAsg3 te (gName3 i)) :=
  PS.weak (ps_set hN hi hx he hs hf) fun D σ H ⟨τ, S, D3, R, h, e⟩ => ⟨τ, S, _, R, h, fun d S1 v H1 h1 s1 r1 d1 =>
    e.nx _ _ _ _ h1 s1 ⟨(R.sl.ext s1.ext).set i d1, r1⟩⟩
/-- a, b = x, y with plain local names -/
def tPar3 (i j : Nat) (ta : TA3) : TS3 := fun D τ S => ta τ S fun ds S1 => match ds with
  | [v, w] => D.nx ((τ.set i (some v)).set j (some w)) S1
  | _ => False
theorem ps3_par {i j : Nat} {x y : Str} {a b : Expr} {ta : TA3} {px py pt : Pos} {kt k2 pt2} (hc : X.calm = true) (hN : X.N.Nodup) (hi : X.N[i]? = some x) (hj : X.N[j]? = some y) (hij : i ≠ j)
    (hx : X.env.scope.names.lookup x = some .local) (hy : X.env.scope.names.lookup y = some .local) (ha : PA3 X [a, b] ta)
    (hw : swappedStores [.Tuple [.Name x px, .Name y py] kt pt] (.Tuple [a, b] k2 pt2) X.env = pure (some [x, y]))
    (hs : swapsWithSole [.Tuple [.Name x px, .Name y py] kt pt] (.Tuple [a, b] k2 pt2) pos.line X.env = pure false := by rfl) :
    PS3 X (.Assign [.Tuple [.Name x px, .Name y py] kt pt] (.Tuple [a, b] k2 pt2) pos) (tPar3 i j ta) := by
  refine PS.weak (ps_par hc hN hi hj hij hx hy ha hw hs) fun D σ H ⟨τ, S, D3, R, h, e⟩ => ⟨τ, S, _, R, h, fun ds S1 vs H1 h1 s1 r1 d1 => ?_⟩
  cases d1 with
  | nil => exact h1.elim
  | cons q1 d2 =>
    cases d2 with
    | nil => exact h1.elim
    | cons q2 d3 =>
      cases d3 with
      | cons _ _ => exact h1.elim
      | nil => exact ⟨_, _, rfl, e.nx _ _ _ _ h1 s1 ⟨((R.sl.ext s1.ext).set i q1).set j q2, r1⟩⟩
def tParT3 (i j l : Nat) (ta : TA3) : TS3 := fun D τ S => ta τ S fun ds S1 => match ds with
  | [v, w, u] => D.nx (((τ.set i (some v)).set j (some w)).set l (some u)) S1
  | _ => False
theorem ps3_parT {i j l : Nat} {x y z : Str} {a b c : Expr} {ta : TA3} {px py pz pt : Pos} {kt k2 pt2} (hc : X.calm = true) (hN : X.N.Nodup) (hi : X.N[i]? = some x) (hj : X.N[j]? = some y) (hl : X.N[l]? = some z) (hij : i ≠ j) (hil : i ≠ l) (hjl : j ≠ l)
    (hx : X.env.scope.names.lookup x = some .local) (hy : X.env.scope.names.lookup y = some .local) (hz : X.env.scope.names.lookup z = some .local) (ha : PA3 X [a, b, c] ta)
    (hw : swappedStores [.Tuple [.Name x px, .Name y py, .Name z pz] kt pt] (.Tuple [a, b, c] k2 pt2) X.env = pure (some [x, y, z]))
    (hs : swapsWithSole [.Tuple [.Name x px, .Name y py, .Name z pz] kt pt] (.Tuple [a, b, c] k2 pt2) pos.line X.env = pure false := by rfl) :
    PS3 X (.Assign [.Tuple [.Name x px, .Name y py, .Name z pz] kt pt] (.Tuple [a, b, c] k2 pt2) pos) (tParT3 i j l ta) := by
  refine PS.weak (ps_par3 hc hN hi hj hl hij hil hjl hx hy hz ha hw hs) fun D σ H ⟨τ, S, D3, R, h, e⟩ => ⟨τ, S, _, R, h, fun ds S1 vs H1 h1 s1 r1 d1 => ?_⟩
  cases d1 with
  | nil => exact h1.elim
  | cons q1 d2 =>
    cases d2 with
    | nil => exact h1.elim
    | cons q2 d3 =>
      cases d3 with
      | nil => exact h1.elim
      | cons q3 d4 =>
        cases d4 with
        | cons _ _ => exact h1.elim
        | nil => exact ⟨_, _, _, rfl, e.nx _ _ _ _ h1 s1 ⟨(((R.sl.ext s1.ext).set i q1).set j q2).set l q3, r1⟩⟩
/-- name op= e -/
def tAug3 (i : Nat) (te : TE3) (o : D → D → Sto → VK3 → Prop) : TS3 := fun D τ S => match τ[i]? with
  | some (some x) => te τ S fun y S1 => o x y S1 fun z S2 => D.nx (τ.set i (some z)) S2
  | _ => False
theorem ps3_aug {i : Nat} {x : Str} {op : Operator} {r : R2} {o : D → D → Sto → VK3 → Prop} {pos' : Pos} (hN : X.N.Nodup) (hi : X.N[i]? = some x) (hx : Loc X.env.scope x) (he : PE3 X e te) (ho : OpR X (inplaceOp op) r) (h3 : Op3 X.K r o)
    (hf : X.fn x = true ∨ X.env.scope.names.lookup x = some .local := by first | exact .inl rfl | exact .inr rfl | assumption) : PS3 X (.AugAssign (.Name x pos') op e pos) (tAug3 i te o) := by
  refine PS.weak (ps_aug hN hi hx he (fun pins s σ H x y v u Q I rx ry h => ho pins s σ H x y v u Q I rx ry h) hf) fun D σ H ⟨τ, S, D3, R, h, e⟩ => ?_
  unfold tAug3 at h
  split at h
  · next d ed =>
    obtain ⟨v, h1, h2⟩ := R.sl.get i d ed
    refine ⟨v, h1, τ, S, _, R, h, fun y S1 vy H1 p1 s1 r1 d1 => ?_⟩
    exact h3 S1 H1 d y v vy _ _ r1 (h2.ext s1.ext) d1 p1 fun z S2 vz H2 p2 s2 r2 d2 => e.nx _ _ _ _ p2 (s1.trans s2) ⟨(R.sl.ext (s1.trans s2).ext).set i d2, r2⟩
  · exact h.elim
end
/-- += : ints, texts, lists (in place) -/
def oIAdd : D → D → Sto → VK3 → Prop
  | .int i, .int j, S, Q => Q (.int (i + j)) S
  | .str i, .str j, S, Q => i.length + j.length ≤ sizeLine ∧ Q (.str (i ++ j)) S
  | .loc a, .loc b, S, Q => match S a, S b with
    | some (.lst xs), some (.lst ys) => xs.length + ys.length ≤ sizeLine ∧ Q (.loc a) (up S a (.lst (xs ++ ys)))
    | _, _ => False
  | _, _, _, _ => False
theorem opr_iadd : OpR X (inplaceOp .Add) (fun x y H Q => (rI0 fun i j => .int (i + j)) x y H Q ∨ (∃ i j, x = .str i ∧ y = .str j ∧ i.length + j.length ≤ sizeLine ∧ Q (.str (i ++ j)) H) ∨ rExt2 x y H Q) := iop_add.or (iop_add_str.or iop_ext)
theorem op3_iadd {K : PySem.W.Frag} : Op3 K (fun x y H Q => (rI0 fun i j => .int (i + j)) x y H Q ∨ (∃ i j, x = .str i ∧ y = .str j ∧ i.length + j.length ≤ sizeLine ∧ Q (.str (i ++ j)) H) ∨ rExt2 x y H Q) oIAdd := by
  intro S H x y vx vy P Q r dx dy h c
  cases dx <;> cases dy <;> first | exact h.elim | skip
  · exact .inl ⟨_, _, rfl, rfl, c.here r h (.int _)⟩
  · exact .inr (.inl ⟨_, _, rfl, rfl, h.1, c.here r h.2 (.str _)⟩)
  · next a b =>
    unfold oIAdd at h
    dsimp only at h
    split at h
    · next xs ys e1 e2 =>
      obtain ⟨vs, h1, d1⟩ := lst_at r e1
      obtain ⟨ws, h2, d2⟩ := lst_at r e2
      exact .inr (.inr ⟨_, _, vs, ws, rfl, rfl, h1, h2, by rw [d1.length, d2.length]; exact h.1, c.set r e1 (d1.append d2) h.2 (.loc a)⟩)
    · exact h.elim

/-! ### what is walked -/
abbrev TI3 := St3 → Sto → (List D → (Sto → Prop) → Sto → Prop) → Prop
/-- the iterator J yields ds, while ok holds of the store -/
structure ItOk (K : PySem.W.Frag) (S1 : Sto) (H1 : Hp) (ds : List D) (ok : Sto → Prop) (J : It) : Prop where
  go : ∀ i S H, Step S1 H1 S H → SRel K S H → ok S → i < ds.length → J.go i H
  stop : ∀ i S H, Step S1 H1 S H → SRel K S H → ok S → ds.length ≤ i → J.stop i H
  yld : ∀ i S H x H', Step S1 H1 S H → SRel K S H → ok S → i < ds.length → J.yld i H x H' → ∃ d, ds[i]? = some d ∧ Step S H S H' ∧ SRel K S H' ∧ Dv K H' x d
def liftI (K : PySem.W.Frag) (w : TI3) : TI := fun σ H R => ∃ τ S P, Rel K τ S σ H ∧ w τ S P ∧ ∀ ds ok S1 J H1, P ds ok S1 → Step S H S1 H1 → SRel K S1 H1 → ItOk K S1 H1 ds ok J → R J H1
abbrev PI3 (X : Cx) (tg iter : Expr) (w : TI3) : Prop := PI X tg iter (liftI X.K w)
theorem PI.weak {tg e : Expr} {t t' : TI} (h : PI X tg e t) (w : ∀ σ H Q, t' σ H Q → t σ H Q) : PI X tg e t' := ⟨fun pins s σ H Q I q => h.run pins s σ H Q I (w σ H Q q)⟩
theorem Step.same {S : Sto} {H : Hp} : Step S H S H := .refl
/-- a list, a tuple, a list that is never written -/
def iSeq3 (te : TE3) : TI3 := fun τ S R => te τ S fun d S1 => match d with
  | .tup ds => R ds (fun _ => True) S1
  | .rol ds => R ds (fun _ => True) S1
  | .loc a => match S1 a with
    | some (.lst ds) => R ds (fun S' => S' a = some (.lst ds)) S1
    | some (.fK kvs) => R (kvs.map fun p => kD p.1) (fun S' => S' a = some (.fK kvs)) S1
    | some (.fT kvs) => R (kvs.map fun p => .tup (p.1.map kD)) (fun S' => S' a = some (.fT kvs)) S1
    | _ => False
  | _ => False
/-- two ways to walk -/
theorem PI.or {tg e : Expr} {t t' : TI} (h : PI X tg e t) (h' : PI X tg e t') : PI X tg e (fun σ H R => t σ H R ∨ t' σ H R) := ⟨fun pins s σ H Q I q => by
  rcases q with q | q
  · exact h.run pins s σ H Q I q
  · exact h'.run pins s σ H Q I q⟩
theorem it_tup {K : PySem.W.Frag} {S1 : Sto} {H1 : Hp} {a : Addr} {vs : List V} {ds : List D} (h1 : H1 a = some (.tup vs)) (h2 : Dvs K H1 vs ds) : ItOk K S1 H1 ds (fun _ => True) (Itt K a) := by
  have at_ : ∀ {S H}, Step S1 H1 S H → SqT K H a vs := fun s => .of (s.ext.tup _ _ h1)
  refine ⟨fun i S H s r _ hi => ?_, fun i S H s r _ hi => ⟨vs, at_ s, by rw [h2.length]; exact hi⟩, fun i S H x H' s r _ hi y => ?_⟩
  · obtain ⟨v, e, _⟩ := h2.get (List.getElem?_eq_getElem hi)
    exact ⟨vs, v, at_ s, e⟩
  · obtain ⟨e, y⟩ := y
    subst e
    obtain ⟨d, e, dv⟩ := h2.get' (y vs (at_ s))
    exact ⟨d, e, .refl, r, dv.ext s.ext⟩
theorem it_lst {K : PySem.W.Frag} {S1 : Sto} {H1 : Hp} {a : Addr} {ds : List D} : ItOk K S1 H1 ds (fun S' => S' a = some (.lst ds)) (Itl K a) := by
  refine ⟨fun i S H s r o hi => ?_, fun i S H s r o hi => ?_, fun i S H x H' s r o hi y => ?_⟩
  · obtain ⟨vs, h1, h2⟩ := lst_at r o
    obtain ⟨v, e, _⟩ := h2.get (List.getElem?_eq_getElem hi)
    exact ⟨vs, v, .of h1, e⟩
  · obtain ⟨vs, h1, h2⟩ := lst_at r o
    exact ⟨vs, .of h1, by rw [h2.length]; exact hi⟩
  · obtain ⟨e, y⟩ := y
    subst e
    obtain ⟨vs, h1, h2⟩ := lst_at r o
    obtain ⟨d, e, dv⟩ := h2.get' (y vs (.of h1))
    exact ⟨d, e, .refl, r, dv⟩
theorem it_rol {K : PySem.W.Frag} {S1 : Sto} {H1 : Hp} {a : Addr} {vs : List V} {ds : List D} (h1 : RoL K H1 a vs) (h2 : Dvs K H1 vs ds) : ItOk K S1 H1 ds (fun _ => True) (Itl K a) := by
  have at_ : ∀ {S H}, Step S1 H1 S H → SqL K H a vs := fun s => (s.ext.roL h1).sq
  refine ⟨fun i S H s r _ hi => ?_, fun i S H s r _ hi => ⟨vs, at_ s, by rw [h2.length]; exact hi⟩, fun i S H x H' s r _ hi y => ?_⟩
  · obtain ⟨v, e, _⟩ := h2.get (List.getElem?_eq_getElem hi)
    exact ⟨vs, v, at_ s, e⟩
  · obtain ⟨e, y⟩ := y
    subst e
    obtain ⟨d, e, dv⟩ := h2.get' (y vs (at_ s))
    exact ⟨d, e, .refl, r, dv.ext s.ext⟩
/-- a list or a tuple, by what it is (HandS walks the one or the other) -/
theorem kvr_len {K : PySem.W.Frag} {H : Hp} {κ : Type} {kvs : List (κ × D)} {kws : List (κ × V)} (h : KVr K H kvs kws) : kvs.length = kws.length := Paired.length h
theorem kvr_get {K : PySem.W.Frag} {H : Hp} {κ : Type} : ∀ {kvs : List (κ × D)} {kws : List (κ × V)}, KVr K H kvs kws → ∀ (i : Nat) (k : κ) (v : V), kws[i]? = some (k, v) → ∃ d, kvs[i]? = some (k, d) ∧ Dv K H v d
  | _, _, .nil, i, k, v, h => by simp at h
  | p :: ps, _, .cons a r, 0, k, v, h => by
    simp at h
    subst h
    exact ⟨p.2, by rw [List.getElem?_cons_zero]; exact congrArg some (Prod.ext a.1 rfl), a.2⟩
  | p :: ps, _, .cons a r, i + 1, k, v, h => by
    obtain ⟨d, e, x⟩ := kvr_get r i k v (by simpa using h)
    exact ⟨d, by simpa using e, x⟩
theorem it_keysK {K : PySem.W.Frag} {S1 : Sto} {H1 : Hp} {a : Addr} {od : Obj} {kvs : List (Key × D)} {kws : List (Key × V)} (h1 : H1 a = some (.frz od (.dK kws))) : ItOk K S1 H1 (kvs.map fun p => kD p.1) (fun S' => S' a = some (.fK kvs)) (Itk a od kws) := by
  have at_ : ∀ {S H}, Step S1 H1 S H → SRel K S H → S a = some (.fK kvs) → H a = some (.frz od (.dK kws)) ∧ KVr K H kvs kws := fun s r o => by
    have e := s.lk _ _ _ h1
    obtain ⟨u, e1, e2⟩ := r a _ o
    rw [e] at e1
    cases e1
    exact ⟨e, e2⟩
  refine ⟨fun i S H s r o hi => ?_, fun i S H s r o hi => ?_, fun i S H x H' s r o hi y => ?_⟩
  · obtain ⟨e, k⟩ := at_ s r o
    rw [List.length_map, kvr_len k] at hi
    exact ⟨e, hi⟩
  · obtain ⟨e, k⟩ := at_ s r o
    rw [List.length_map, kvr_len k] at hi
    exact ⟨e, hi⟩
  · obtain ⟨e, k⟩ := at_ s r o
    obtain ⟨eh, key, v, g, ex⟩ := y
    subst eh
    subst ex
    obtain ⟨d, g', _⟩ := kvr_get k i key v g
    exact ⟨kD key, by rw [List.getElem?_map, g']; rfl, .refl, r, .of_key key⟩
theorem it_keysT {K : PySem.W.Frag} {S1 : Sto} {H1 : Hp} {a : Addr} {od : Obj} {kvs : List (List Key × D)} {kws : List (List Key × V)} (h1 : H1 a = some (.frz od (.dT kws))) : ItOk K S1 H1 (kvs.map fun p => .tup (p.1.map kD)) (fun S' => S' a = some (.fT kvs)) (Itkt a od kws) := by
  have at_ : ∀ {S H}, Step S1 H1 S H → SRel K S H → S a = some (.fT kvs) → H a = some (.frz od (.dT kws)) ∧ KVr K H kvs kws := fun s r o => by
    have e := s.lk _ _ _ h1
    obtain ⟨u, e1, e2⟩ := r a _ o
    rw [e] at e1
    cases e1
    exact ⟨e, e2⟩
  refine ⟨fun i S H s r o hi => ?_, fun i S H s r o hi => ?_, fun i S H x H' s r o hi y => ?_⟩
  · obtain ⟨e, k⟩ := at_ s r o
    rw [List.length_map, kvr_len k] at hi
    exact ⟨e, hi⟩
  · obtain ⟨e, k⟩ := at_ s r o
    rw [List.length_map, kvr_len k] at hi
    exact ⟨e, hi⟩
  · obtain ⟨e, k⟩ := at_ s r o
    obtain ⟨eh, key, v, q, g, ex, hq⟩ := y
    subst eh
    subst ex
    obtain ⟨d, g', _⟩ := kvr_get k i key v g
    exact ⟨.tup (key.map kD), by rw [List.getElem?_map, g']; rfl, .refl, r, .tup hq (.of_keys key)⟩
def iEither (K : PySem.W.Frag) (tl : TE) : TI := fun σ H R => tl σ H fun x H1 => ∃ a, x = .ref a ∧ (((∃ xs, SqL K H1 a xs) ∧ R (Itl K a) H1) ∨ ((∃ xs, SqT K H1 a xs) ∧ R (Itt K a) H1) ∨
  (∃ o kvs, H1 a = some (.frz o (.dK kvs)) ∧ R (Itk a o kvs) H1) ∨ ∃ o kvs, H1 a = some (.frz o (.dT kvs)) ∧ R (Itkt a o kvs) H1)
theorem pi_either {tg l : Expr} {tl : TE} (hl : PE X l tl) : PI X tg l (iEither X.K tl) := by
  refine ⟨fun pins s σ H R I h => ?_⟩
  refine thn (hl.run pins s σ H _ I h) fun v s1 ⟨x, H1, I1, r1, q1⟩ => ?_
  obtain ⟨a, e, ⟨⟨xs, hq⟩, q⟩ | ⟨⟨xs, hq⟩, q⟩ | ⟨od, kws, hd, q⟩ | ⟨od, kws, hd, q⟩⟩ := q1
  · subst e
    cases r1
    obtain ⟨its, rv, p, hz⟩ := I1.list hq
    refine wpAny_pyIter_list p.isList ?_
    refine ⟨s1.heap.objs.size, [s1.heap.objs.size], _, _, H1, rfl, I1.kept (t' := s1.toks) fun b o e => Heap.get?_push_of_some _ e, turn_list a _, ⟨_, Heap.get?_push_size _ rfl, rfl, rfl⟩, fun b hb => ?_, q⟩
    have e : b = s1.heap.objs.size := by simpa using hb
    subst e
    exact I1.fpOk (Nat.le_refl _) (I1.hok.fresh (Nat.le_refl _))
  · subst e
    cases r1
    obtain ⟨its, rv, p, hz⟩ := I1.tuple hq
    refine wpAny_pyIter_tuple (show s1.heap.IsTuple a its.toArray from p) ?_
    refine ⟨s1.heap.objs.size, [s1.heap.objs.size], _, _, H1, rfl, I1.kept (t' := s1.toks) fun b o e => Heap.get?_push_of_some _ e, turn_tuple a _, ⟨_, Heap.get?_push_size _ rfl, rfl, rfl⟩, fun b hb => ?_, q⟩
    have e : b = s1.heap.objs.size := by simpa using hb
    subst e
    exact I1.fpOk (Nat.le_refl _) (I1.hok.fresh (Nat.le_refl _))
  · subst e
    cases r1
    obtain ⟨hs, hgd, hx, es, ep, vs, hdt, hsz, kv, hm⟩ := I1.frzK hd
    refine iter_keys hs hgd hx hdt (pi_one (tk := s1.toks) I1 _ (turn_keys _ hdt) ⟨_, Heap.get?_push_size _ rfl, rfl, ?_⟩ q)
    rw [hsz] <;> rfl
  · subst e
    cases r1
    obtain ⟨hs, hgd, hx, es, ep, hdt, hsz, ent⟩ := I1.frzT hd
    refine iter_keys hs hgd hx hdt (pi_one (tk := s1.toks) I1 _ (turn_keysT _ hdt) ⟨_, Heap.get?_push_size _ rfl, rfl, ?_⟩ q)
    rw [hsz] <;> rfl
theorem pi3_seq {tg e : Expr} {te : TE3} (h : PE3 X e te) : PI3 X tg e (iSeq3 te) := by
  refine PI.weak (pi_either h) fun σ H R ⟨τ, S, P, Rl, h, c⟩ => ⟨τ, S, _, Rl, h, fun d S1 v H1 h1 s1 r1 d1 => ?_⟩
  cases d1 with
  | tup q1 q2 => exact ⟨_, rfl, .inr (.inl ⟨⟨_, .of q1⟩, c _ _ S1 _ H1 h1 s1 r1 (it_tup q1 q2)⟩)⟩
  | rol q1 q2 => exact ⟨_, rfl, .inl ⟨⟨_, q1.sq⟩, c _ _ S1 _ H1 h1 s1 r1 (it_rol q1 q2)⟩⟩
  | loc a =>
    dsimp only at h1
    split at h1
    · next ds e =>
      obtain ⟨vs, q1, q2⟩ := lst_at r1 e
      exact ⟨a, rfl, .inl ⟨⟨vs, .of q1⟩, c _ _ S1 _ H1 h1 s1 r1 it_lst⟩⟩
    · next kvs e =>
      obtain ⟨u, e1, e2⟩ := r1 a _ e
      cases u with
      | frz o u =>
        cases u with
        | dK kws => exact ⟨a, rfl, .inr (.inr (.inl ⟨o, kws, e1, c _ _ S1 _ H1 h1 s1 r1 (it_keysK e1)⟩))⟩
        | _ => exact e2.elim
      | _ => exact e2.elim
    · next kvs e =>
      obtain ⟨u, e1, e2⟩ := r1 a _ e
      cases u with
      | frz o u =>
        cases u with
        | dT kws => exact ⟨a, rfl, .inr (.inr (.inr ⟨o, kws, e1, c _ _ S1 _ H1 h1 s1 r1 (it_keysT e1)⟩))⟩
        | _ => exact e2.elim
      | _ => exact e2.elim
    · exact h1.elim
  | _ => exact h1.elim
/-- lo, lo + 1, .. -/
def rng (lo : Int) : Nat → List D
  | 0 => []
  | n + 1 => .int lo :: rng (lo + 1) n
theorem rng_length : ∀ (n : Nat) (lo : Int), (rng lo n).length = n
  | 0, _ => rfl
  | n + 1, lo => by rw [rng, List.length_cons, rng_length n]
theorem rng_get : ∀ (n : Nat) (lo : Int) (i : Nat), i < n → (rng lo n)[i]? = some (.int (lo + i))
  | 0, _, _, h => absurd h (Nat.not_lt_zero _)
  | n + 1, lo, 0, _ => by simp [rng]
  | n + 1, lo, i + 1, h => by
    rw [rng, List.getElem?_cons_succ, rng_get n (lo + 1) i (by omega)]
    congr 2
    omega
theorem it_rng {K : PySem.W.Frag} {S1 : Sto} {H1 : Hp} {lo : Int} {n : Nat} : ItOk K S1 H1 (rng lo n) (fun _ => True) (Itr lo n) := by
  refine ⟨fun i S H s r o hi => by rw [rng_length] at hi; exact hi, fun i S H s r o hi => by rw [rng_length] at hi; exact hi, fun i S H x H' s r o hi y => ?_⟩
  obtain ⟨e, y⟩ := y
  subst e
  subst y
  rw [rng_length] at hi
  exact ⟨_, rng_get n lo i hi, .refl, r, .int _⟩
def iRng3 (ta : TA3) : TI3 := fun τ S R => ta τ S fun ds S1 => match ds with
  | [.int j] => -(2 ^ 62) ≤ j ∧ j < 2 ^ 62 ∧ R (rng 0 j.toNat) (fun _ => True) S1
  | _ => False
def iRng23 (ta : TA3) : TI3 := fun τ S R => ta τ S fun ds S1 => match ds with
  | [.int i, .int j] => (-(2 ^ 62) ≤ i ∧ i < 2 ^ 62 ∧ -(2 ^ 62) ≤ j ∧ j < 2 ^ 62) ∧ R (rng i (j - i).toNat) (fun _ => True) S1
  | _ => False
theorem pi3_range1 {tg a : Expr} {ta : TA3} {p pos : Pos} (hg : Gl X "range") (hm : X.mg "range" = none) (ha : PA3 X [a] ta) (hs : starEach [a] X.env = [(false, eval a X.env)] := by rfl) : PI3 X tg (.Call (.Name "range" p) [a] [] pos) (iRng3 ta) := by
  refine PI.weak (pi_range1 hg hm ha hs) fun σ H R ⟨τ, S, P, Rl, h, c⟩ => ⟨τ, S, _, Rl, h, fun ds S1 vs H1 h1 s1 r1 d1 => ?_⟩
  cases d1 with
  | nil => exact h1.elim
  | cons q1 q2 =>
    cases q2 with
    | cons _ _ => cases q1 <;> exact h1.elim
    | nil =>
      cases q1 <;> first | exact h1.elim | exact ⟨_, rfl, h1.1, h1.2.1, c _ _ S1 _ H1 h1.2.2 s1 r1 it_rng⟩
theorem pi3_range2 {tg a b : Expr} {ta : TA3} {p pos : Pos} (hg : Gl X "range") (hm : X.mg "range" = none) (ha : PA3 X [a, b] ta) (hs : starEach [a, b] X.env = [(false, eval a X.env), (false, eval b X.env)] := by rfl) (hs2 : starEach [b] X.env = [(false, eval b X.env)] := by rfl) :
    PI3 X tg (.Call (.Name "range" p) [a, b] [] pos) (iRng23 ta) := by
  refine PI.weak (pi_range2 hg hm ha hs hs2) fun σ H R ⟨τ, S, P, Rl, h, c⟩ => ⟨τ, S, _, Rl, h, fun ds S1 vs H1 h1 s1 r1 d1 => ?_⟩
  cases d1 with
  | nil => exact h1.elim
  | cons q1 q2 =>
    cases q2 with
    | nil => cases q1 <;> exact h1.elim
    | cons q2 q3 =>
      cases q3 with
      | cons _ _ => cases q1 <;> first | exact h1.elim | (cases q2 <;> exact h1.elim)
      | nil => cases q1 <;> first | exact h1.elim | (cases q2 <;> first | exact h1.elim | exact ⟨_, _, rfl, h1.1, c _ _ S1 _ H1 h1.2 s1 r1 it_rng⟩)

/-! ### a dict locked -/
def lkO : MO → Option MO
  | .dK k => some (.fK k)
  | .dT k => some (.fT k)
  | _ => none
/-- the dict at an address is walked within: read, not written -/
def tLk3 (t : TE3) : TE3 := fun τ S Q => ∃ a m f, S a = some m ∧ lkO m = some f ∧ t τ (up S a f) fun d S' => S' a = some f ∧ Q d (up S' a m)
def sLk3 (t : TS3) : TS3 := fun D τ S => ∃ a m f, S a = some m ∧ lkO m = some f ∧
  t ⟨fun τ' S' => S' a = some f ∧ D.nx τ' (up S' a m), fun d S' => S' a = some f ∧ D.rt d (up S' a m), fun τ' S' => S' a = some f ∧ D.bk τ' (up S' a m), fun τ' S' => S' a = some f ∧ D.ct τ' (up S' a m)⟩ τ (up S a f)
structure LkOk (K : PySem.W.Frag) (S : Sto) (H : Hp) (a : Addr) (m f : MO) (u : HO) : Prop where
  at_ : H a = some u
  mu : Mut (some u)
  nt : NoT u
  frz : ∀ od, MOh K (upd H a (.frz od u)) f (.frz od u)
  back : ∀ od S2 H2, Step (up S a f) (upd H a (.frz od u)) S2 H2 → SRel K S2 H2 → S2 a = some f → H2 a = some (.frz od u) ∧ Step S H (up S2 a m) (upd H2 a u) ∧ SRel K (up S2 a m) (upd H2 a u) ∧ Ext H2 (upd H2 a u)
theorem lk_ok {K : PySem.W.Frag} {S : Sto} {H : Hp} {a : Addr} {m f : MO} (r : SRel K S H) (e : S a = some m) (l : lkO m = some f) : ∃ u, LkOk K S H a m f u := by
  obtain ⟨u, h1, h2⟩ := r a m e
  have hu : Mut (some u) ∧ NoT u ∧ (∀ od, MOh K H f (.frz od u)) ∧ (∀ od H2, MOh K H2 f (.frz od u) → MOh K H2 m u) ∧ (∀ xs, u ≠ .lst xs) := by
    cases m <;> first
      | (cases l; done)
      | (cases l; cases u <;> first | exact h2.elim | exact ⟨trivial, trivial, fun _ => h2, fun _ _ h => h, fun _ z => by cases z⟩)
  obtain ⟨mu, nt, hf, hb, hl⟩ := hu
  refine ⟨u, h1, mu, nt, fun od => (hf od).ext (.write h1 nt), fun od S2 H2 s r2 e2 => ?_⟩
  have k : H2 a = some (.frz od u) := s.lk _ _ _ upd_same
  have ex : Ext H2 (upd H2 a u) := by
    refine ⟨fun b xs q => ?_, fun b o xs q => ?_⟩
    · rw [upd_ne (fun z => by rw [z, k] at q; cases q)]
      exact q
    · rw [upd_ne (fun z => by rw [z, k] at q; cases q; exact hl _ rfl)]
      exact q
  have ne : ∀ b w, H b = some w → w ≠ u ∨ b ≠ a → b ≠ a ∨ w = u := fun b w q _ => by
    by_cases z : b = a
    · subst z
      rw [h1] at q
      exact .inr (Option.some.inj q).symm
    · exact .inl z
  refine ⟨k, ⟨?_, fun b o w q => ?_, fun b w q1 q2 => ?_⟩, ?_, ex⟩
  · exact .of fun b w q nw => by
      have hne : b ≠ a := fun z => by
        subst z
        rw [h1] at q
        cases q
        exact nw nt
      have q' : upd H a (.frz od u) b = some w := by rw [upd_ne hne]; exact q
      rw [upd_ne hne]
      cases w with
      | tup xs => exact s.ext.tup _ _ q'
      | frz o x => exact s.lk _ _ _ q'
      | _ => exact (nw trivial).elim
  · have hne : b ≠ a := fun z => by
      subst z
      rw [h1] at q
      cases q
      exact nt
    rw [upd_ne hne]
    exact s.lk _ _ _ (by rw [upd_ne hne]; exact q)
  · have hne : b ≠ a := fun z => by rw [z, e] at q1; cases q1
    obtain ⟨k1, k2⟩ := s.fr b w (by rw [up_ne hne]; exact q1) (by rw [upd_ne hne]; exact q2)
    rw [upd_ne hne, up_ne hne]
    exact ⟨k1, k2⟩
  · intro b w q
    by_cases z : b = a
    · subst z
      rw [up_same] at q
      cases q
      obtain ⟨x, x1, x2⟩ := r2 b _ e2
      rw [k] at x1
      cases x1
      exact ⟨u, upd_same, (hb od H2 x2).ext ex⟩
    · rw [up_ne z] at q
      obtain ⟨x, x1, x2⟩ := r2 b _ q
      exact ⟨x, by rw [upd_ne z]; exact x1, x2.ext ex⟩
theorem pe3_lk {e : Expr} {t : TE3} (h : PE3 X e t) : PE3 X e (tLk3 t) := by
  refine PE.weak (pe_lock h) fun σ H Q ⟨τ, S, P, R, q, c⟩ => ?_
  obtain ⟨a, m, f, e1, e2, q⟩ := q
  obtain ⟨u, L⟩ := lk_ok R.st e1 e2
  refine ⟨a, u, L.at_, L.mu, fun od => ⟨τ, up S a f, _, R.write L.at_ L.nt (L.frz od), q, fun d S2 v H2 q2 s2 r2 d2 => ?_⟩⟩
  obtain ⟨k1, k2, k3, k4⟩ := L.back od S2 H2 s2 r2 q2.1
  exact ⟨k1, c _ _ _ _ q2.2 k2 k3 (d2.ext k4)⟩
theorem ps3_lk {st : Stmt} {t : TS3} (h : PS3 X st t) : PS3 X st (sLk3 t) := by
  refine PS.weak (ps_lock h) fun D σ H ⟨τ, S, D3, R, q, e⟩ => ?_
  obtain ⟨a, m, f, e1, e2, q⟩ := q
  obtain ⟨u, L⟩ := lk_ok R.st e1 e2
  refine ⟨a, u, L.at_, L.mu, fun od => ⟨τ, up S a f, _, R.write L.at_ L.nt (L.frz od), q, ?_⟩⟩
  have cont : ∀ (q : St3 → Sto → Prop) (q' : L2.St → Hp → Prop), (∀ τ' S' σ' H', q τ' S' → Step S H S' H' → Rel X.K τ' S' σ' H' → q' σ' H') →
      ∀ τ2 S2 σ2 H2, (S2 a = some f ∧ q τ2 (up S2 a m)) → Step (up S a f) (upd H a (.frz od u)) S2 H2 → Rel X.K τ2 S2 σ2 H2 → H2 a = some (.frz od u) ∧ q' σ2 (upd H2 a u) := fun q q' hq τ2 S2 σ2 H2 q2 s2 R2 => by
    obtain ⟨k1, k2, k3, k4⟩ := L.back od S2 H2 s2 R2.st q2.1
    exact ⟨k1, hq _ _ _ _ q2.2 k2 ⟨R2.sl.ext k4, k3⟩⟩
  exact ⟨cont _ _ e.nx, fun d S2 v H2 q2 s2 r2 d2 => by
    obtain ⟨k1, k2, k3, k4⟩ := L.back od S2 H2 s2 r2 q2.1
    exact ⟨k1, e.rt _ _ _ _ q2.2 k2 k3 (d2.ext k4)⟩, cont _ _ e.bk, cont _ _ e.ct⟩

/-! ### for -/
def tFor3 (wi : TI3) (g : TG3) (tb : TS3) : TS3 := fun D τ S => wi τ S fun ds ok S1 => ∃ W : Nat → St3 → Sto → Prop, W 0 τ S1 ∧ (∀ i τ S, i ≤ ds.length → W i τ S → ok S) ∧
  (∀ i x τ S, ds[i]? = some x → W i τ S → g x τ S fun τ2 S2 => tb { D with nx := W (i + 1), ct := W (i + 1), bk := D.nx } τ2 S2) ∧ ∀ τ S, W ds.length τ S → D.nx τ S
theorem ps3_for {vs : List Nat} {tg iter : Expr} {body : List Stmt} {wi : TI3} {g : TG3} {tb : TS3} {pos : Pos} (hp : PassesOwn (model X.prog X.w) X.A X.env X.xe) (hc : X.calm = true) (hi : PI3 X tg iter wi) (hg : PG3 X vs tg g) (hb : PSs3 X body tb)
    (hs : ∀ x, foldedSetIterable iter X.env x = pure x := by intro _; rfl) : PS3 X (.For tg iter body [] pos) (tFor3 wi g tb) := by
  refine PS.weak (ps_for hp hc hi hg hb hs) fun D σ H ⟨τ, S, D3, R, h, e⟩ => ⟨τ, S, _, R, h, fun ds ok S1 J H1 h1 s1 r1 it => ?_⟩
  obtain ⟨W, w0, wok, turn, done⟩ := h1
  refine ⟨fun i m σ' H' => m = ds.length - i ∧ i ≤ ds.length ∧ ∃ τ' S', W i τ' S' ∧ Rel X.K τ' S' σ' H' ∧ Step S1 H1 S' H', ⟨_, rfl, Nat.zero_le _, τ, S1, w0, R.at s1 r1, .refl⟩, ?_⟩
  rintro i m σ' H' ⟨rfl, hi', τ', S', w, R', s'⟩
  have o := wok i τ' S' hi' w
  by_cases hlt : i < ds.length
  · refine .inr ⟨it.go i S' H' s' R'.st o hlt, fun σ2 H2 => ∃ τ2 S2, W (i + 1) τ2 S2 ∧ Rel X.K τ2 S2 σ2 H2 ∧ Step S1 H1 S2 H2, fun σ2 H2 ⟨τ2, S2, w2, R2, s2⟩ => ⟨_, by omega, rfl, hlt, τ2, S2, w2, R2, s2⟩, fun x H2 y => ?_⟩
    obtain ⟨d, ed, s2, r2, dv⟩ := it.yld i S' H' x H2 s' R'.st o hlt y
    refine ⟨d, τ', S', _, dv, R'.at s2 r2, turn i d τ' S' ed w, fun τ3 S3 σ3 H3 q s3 R3 _ => ⟨τ3, S3, _, R3, q, ?_⟩⟩
    have ss : Step S1 H1 S3 H3 := (s'.trans s2).trans s3
    exact ⟨fun τ4 S4 σ4 H4 q4 s4 R4 => ⟨τ4, S4, q4, R4, ss.trans s4⟩, fun d4 S4 v4 H4 q4 s4 r4 dv4 => e.rt _ _ _ _ q4 ((s1.trans ss).trans s4) r4 dv4,
      fun τ4 S4 σ4 H4 q4 s4 R4 => e.nx _ _ _ _ q4 ((s1.trans ss).trans s4) R4, fun τ4 S4 σ4 H4 q4 s4 R4 => ⟨τ4, S4, q4, R4, ss.trans s4⟩⟩
  · have ei : i = ds.length := by omega
    subst ei
    exact .inl ⟨it.stop _ S' H' s' R'.st o (Nat.le_refl _), e.nx _ _ _ _ (done τ' S' w) (s1.trans s') R'⟩

/-! ### while -/
def tWhile3 (c : TT3) (tb : TS3) : TS3 := fun D τ S => ∃ W : Nat → St3 → Sto → Prop, (∃ m, W m τ S) ∧ ∀ m τ S, W m τ S →
  c τ S fun b S1 => if b = true then tb { D with nx := fun τ' S' => ∃ m', m' < m ∧ W m' τ' S', ct := fun τ' S' => ∃ m', m' < m ∧ W m' τ' S', bk := D.nx } τ S1 else D.nx τ S1
theorem ps3_while {c : Expr} {body : List Stmt} {tc : TT3} {tb : TS3} {pos : Pos} (hp : PassesOwn (model X.prog X.w) X.A X.env X.xe) (hc : PT3 X c tc) (hb : PSs3 X body tb) : PS3 X (.While c body [] pos) (tWhile3 tc tb) := by
  refine PS.weak (ps_while hp hc hb) fun D σ H ⟨τ, S, D3, R, h, e⟩ => ?_
  obtain ⟨W, ⟨m0, w0⟩, turn⟩ := h
  refine ⟨fun m σ' H' => ∃ τ' S', W m τ' S' ∧ Rel X.K τ' S' σ' H' ∧ Step S H S' H', ⟨m0, τ, S, w0, R, .refl⟩, ?_⟩
  rintro m σ' H' ⟨τ', S', w, R', s'⟩
  refine ⟨τ', S', _, R', turn m τ' S' w, fun b S1 H1 q s1 r1 => ?_⟩
  cases b with
  | true =>
    refine iteT ⟨fun σ2 H2 => ∃ m' τ2 S2, m' < m ∧ W m' τ2 S2 ∧ Rel X.K τ2 S2 σ2 H2 ∧ Step S H S2 H2, fun σ2 H2 ⟨m', τ2, S2, hm, w2, R2, s2⟩ => ⟨m', hm, τ2, S2, w2, R2, s2⟩, τ', S1, _, R'.at s1 r1, q, ?_⟩
    have ss : Step S H S1 H1 := s'.trans s1
    exact ⟨fun τ4 S4 σ4 H4 ⟨m', hm, q4⟩ s4 R4 => ⟨m', τ4, S4, hm, q4, R4, ss.trans s4⟩, fun d4 S4 v4 H4 q4 s4 r4 dv4 => e.rt _ _ _ _ q4 (ss.trans s4) r4 dv4,
      fun τ4 S4 σ4 H4 q4 s4 R4 => e.nx _ _ _ _ q4 (ss.trans s4) R4, fun τ4 S4 σ4 H4 ⟨m', hm, q4⟩ s4 R4 => ⟨m', τ4, S4, hm, q4, R4, ss.trans s4⟩⟩
  | false => exact iteF (e.nx _ _ _ _ q (s'.trans s1) (R'.at s1 r1))

/-! ### list comprehensions -/
def liftTs (K : PySem.W.Frag) (t : TT3) : TT := liftT K t
theorem PTs.weak {e : List Expr} {t t' : TT} (h : PTs X e t) (w : ∀ σ H Q, t' σ H Q → t σ H Q) : PTs X e t' := ⟨fun pins s σ H Q I q => h.run pins s σ H Q I (w σ H Q q)⟩
abbrev PTs3 (X : Cx) (e : List Expr) (t : TT3) : Prop := PTs X e (liftT X.K t)
@[simp] def tYes3 : TT3 := fun _ S Q => Q true S
theorem pts3_nil : PTs3 X [] tYes3 := PTs.weak pts_nil fun σ H Q ⟨τ, S, P, R, h, c⟩ => c true S H h .refl R.st
theorem pts3_one {c : Expr} {t : TT3} (h : PT3 X c t) : PTs3 X [c] t := pts_one h
def tLc3 (wi : TI3) (g : TG3) (tt : TT3) (te : TE3) (vs : List Nat) : TE3 := fun τ S Q => wi τ S fun ds ok S1 => ds.length ≤ sizeLine ∧ ∃ W : Nat → List D → Sto → Prop, W 0 [] S1 ∧ (∀ i acc S, i ≤ ds.length → W i acc S → ok S) ∧
  (∀ i x acc S, ds[i]? = some x → W i acc S → g x (wipe3 τ vs) S fun τ2 S2 => tt τ2 S2 fun b S3 => if b = true then te τ2 S3 fun y S4 => W (i + 1) (acc ++ [y]) S4 else W (i + 1) acc S3) ∧
  ∀ acc S, W ds.length acc S → ∀ p, S p = none → Q (.loc p) (up S p (.lst acc))
theorem lc_lift {K : PySem.W.Frag} {wi : TI3} {g : TG3} {tt : TT3} {te : TE3} {vs : List Nat} (σ : L2.St) (H : Hp) (Q : VK) (h : lift K (tLc3 wi g tt te vs) σ H Q) : tLc (liftI K wi) (liftG K vs g) (liftT K tt) (lift K te) vs σ H Q := by
  obtain ⟨τ, S, P, R, h, c⟩ := h
  refine ⟨τ, S, _, R, h, fun ds ok S1 J H1 h1 s1 r1 it p hp => ?_⟩
  obtain ⟨hl, W, w0, wok, turn, done⟩ := h1
  have hS1 : S1 p = none := r1.fresh hp
  refine ⟨fun i m H' => m = ds.length - i ∧ i ≤ ds.length ∧ ∃ acc S', acc.length ≤ i ∧ W i acc S' ∧ SRel K S' H' ∧ Step S1 H1 S' H' ∧ S' p = none ∧ ∃ us, H' p = some (.lst us) ∧ Dvs K H' us acc,
    ⟨_, rfl, Nat.zero_le _, [], S1, Nat.le_refl _, w0, r1.hid hp, .hid hp, hS1, [], upd_same, .nil⟩, ?_⟩
  rintro i m H' ⟨rfl, hi, acc, S', hacc, w, r', s', free, us, eus, dus⟩
  have o := wok i acc S' hi w
  have R' : Rel K (wipe3 τ vs) S' (wipe σ vs) H' := ⟨(R.sl.ext (s1.trans s').ext).wipe vs, r'⟩
  by_cases hlt : i < ds.length
  · refine .inr ⟨it.go i S' H' s' r' o hlt, fun H2 => ∃ acc S2, acc.length ≤ i + 1 ∧ W (i + 1) acc S2 ∧ SRel K S2 H2 ∧ Step S1 H1 S2 H2 ∧ S2 p = none ∧ ∃ us, H2 p = some (.lst us) ∧ Dvs K H2 us acc,
      fun H2 ⟨acc2, S2, q1, q2, q3, q4, q5, q6⟩ => ⟨_, by omega, rfl, hlt, acc2, S2, q1, q2, q3, q4, q5, q6⟩, fun x H2 y => ?_⟩
    obtain ⟨d, ed, s2, r2, dv⟩ := it.yld i S' H' x H2 s' r' o hlt y
    have R2 := R'.at s2 r2
    refine ⟨d, wipe3 τ vs, S', _, dv, R2, turn i d acc S' ed w, fun τ3 S3 σ3 H3 q s3 R3 wp => ⟨?_, τ3, S3, _, R3, q, fun b S4 H4 q4 s4 r4 => ?_⟩⟩
    · rw [wp, wipe_wipe]
    · have s24 : Step S' H' S4 H4 := (s2.trans s3).trans s4
      obtain ⟨eus4, free4⟩ := s24.fr p _ free eus
      cases b with
      | false =>
        rw [if_neg Bool.false_ne_true] at q4
        exact iteF ⟨acc, S4, by omega, q4, r4, s'.trans s24, free4, us, eus4, dus.ext s24.ext⟩
      | true =>
        rw [if_pos rfl] at q4
        refine iteT ⟨τ3, S4, _, R3.at s4 r4, q4, fun z S5 vz H5 q5 s5 r5 d5 => ?_⟩
        have s25 := s24.trans s5
        obtain ⟨eus5, free5⟩ := s25.fr p _ free eus
        have e5 : Ext H5 (upd H5 p (.lst (us ++ [vz]))) := .write eus5 trivial
        refine ⟨us, eus5, by rw [dus.length]; omega, acc ++ [z], S5, by simp; omega, q5, ?_, ?_, free5, _, upd_same, ?_⟩
        · exact r5.ext e5 fun a o' ea u hu => by
            have : a ≠ p := fun z => by rw [z, free5] at ea; cases ea
            rw [upd_ne this]
            exact hu
        · refine ⟨((s'.trans s25).ext).trans e5, fun a o' u hu => ?_, fun a u ha hu => ?_⟩
          · have hne : a ≠ p := fun z => by rw [z, hp] at hu; cases hu
            rw [upd_ne hne]
            exact (s'.trans s25).lk a o' u hu
          have hne : a ≠ p := fun z => by rw [z, hp] at hu; cases hu
          obtain ⟨k1, k2⟩ := (s'.trans s25).fr a u ha hu
          rw [upd_ne hne]
          exact ⟨k1, k2⟩
        · exact ((dus.ext s25.ext).append (.cons d5 .nil)).ext e5
  · have ei : i = ds.length := by omega
    subst ei
    refine .inl ⟨it.stop _ S' H' s' r' o (Nat.le_refl _), c _ _ _ _ (done acc S' w p free) ?_ ?_ (.loc p)⟩
    · refine ⟨(s1.trans s').ext, (s1.trans s').lk, fun a u ha hu => ?_⟩
      obtain ⟨k1, k2⟩ := s1.fr a u ha hu
      obtain ⟨k3, k4⟩ := s'.fr a u k2 k1
      rw [up_ne (ne_of_none k1 hp)]
      exact ⟨k3, k4⟩
    · intro a o' ea
      by_cases e : a = p
      · subst e
        rw [up_same] at ea
        cases ea
        exact ⟨_, eus, dus⟩
      · rw [up_ne e] at ea
        exact r' a o' ea

section
variable {elt tg iter : Expr} {ifs : List Expr} {scope : Scope} {own : List (Str × Nat)} {pos : Pos} {wi : TI3} {g : TG3} {tt : TT3} {te : TE3}
theorem pe3_lc (hc : X.calm = true) (hN : X.N.Nodup) (hi : PI3 X tg iter wi) (ok : BlkOk X.N X.env.scope scope own)
    (hg : ∀ (s : Shared) (H : Hp) (C : Addr) (cl : List (Str × Addr)) (fp : List Addr), PG3 (X.blk s H scope (compEnvC scope cl C X.env) fp) (own.map (·.2)) tg g)
    (ht : ∀ (s : Shared) (H : Hp) (C : Addr) (cl : List (Str × Addr)) (fp : List Addr), PTs3 (X.blk s H scope (compEnvC scope cl C X.env) fp) ifs tt)
    (he : ∀ (s : Shared) (H : Hp) (C : Addr) (cl : List (Str × Addr)) (fp : List Addr), PE3 (X.blk s H scope (compEnvC scope cl C X.env) fp) elt te)
    (hs : ∀ x, foldedSetIterable iter X.env x = pure x := by intro _; rfl) : PE3 X (.ListComp elt [⟨tg, iter, ifs, 0⟩] scope pos) (tLc3 wi g tt te (own.map (·.2))) :=
  PE.weak (pe_lc hc hN hi ok hg ht he hs) lc_lift
theorem ps3_setLc {i : Nat} {y : Str} {py spos : Pos} (hc : X.calm = true) (hN : X.N.Nodup) (hy : X.N[i]? = some y) (hyl : X.env.scope.names.lookup y = some .local)
    (hsw : swapsWith (.ListComp elt [⟨tg, iter, ifs, 0⟩] scope pos) (some (.Name y py)) spos.line X.env = pure true) (hi : PI3 X tg iter wi) (ok : BlkOk X.N X.env.scope scope own)
    (hg : ∀ (s : Shared) (H : Hp) (C : Addr) (cl : List (Str × Addr)) (fp : List Addr), PG3 (X.blk s H scope (compEnvC scope cl C X.env) fp) (own.map (·.2)) tg g)
    (ht : ∀ (s : Shared) (H : Hp) (C : Addr) (cl : List (Str × Addr)) (fp : List Addr), PTs3 (X.blk s H scope (compEnvC scope cl C X.env) fp) ifs tt)
    (he : ∀ (s : Shared) (H : Hp) (C : Addr) (cl : List (Str × Addr)) (fp : List Addr), PE3 (X.blk s H scope (compEnvC scope cl C X.env) fp) elt te)
    (hs : ∀ x, foldedSetIterable iter X.env x = pure x := by intro _; rfl) : PS3 X (.Assign [.Name y py] (.ListComp elt [⟨tg, iter, ifs, 0⟩] scope pos) spos) (tAsg3 (tLc3 wi g tt te (own.map (·.2))) (gName3 i)) :=
  PS.weak (ps_setLc hc hN hy hyl hsw hi ok hg ht he hs) fun D σ H ⟨τ, S, D3, R, h, e⟩ => lc_lift σ H _ ⟨τ, S, _, R, h, fun d S1 v H1 h1 s1 r1 d1 =>
    e.nx _ _ _ _ h1 s1 ⟨(R.sl.ext s1.ext).set i d1, r1⟩⟩
end

/-! ### defs -/
abbrev Sp3 := List D → Sto → VK3 → Prop
/-- a promise over data, as one over the heap -/
def spL (K : PySem.W.Frag) (sp : Sp3) : Sp := fun vs H Q _ => ∃ ds S P, Dvs K H vs ds ∧ SRel K S H ∧ sp ds S P ∧ Cont K S H P Q
def start3 (N : List Str) (ds : List D) : St3 := ds.map some ++ List.replicate (N.length - ds.length) none
theorem slots_start {K : PySem.W.Frag} {H : Hp} {N : List Str} {ds : List D} {vs : List V} (h : Dvs K H vs ds) : Slots K H (start3 N ds) (start N vs) := by
  have hl := h.length
  refine ⟨by simp [start3, L2.start, hl], fun i d q => ?_⟩
  unfold start3 at q
  unfold L2.start
  by_cases hi : i < ds.length
  · rw [List.getElem?_append_left (by simpa using hi)] at q
    rw [List.getElem?_append_left (by simpa [hl] using hi)]
    rw [List.getElem?_map] at q
    cases e : ds[i]? with
    | none => rw [e] at q; cases q
    | some d' =>
      rw [e] at q
      cases q
      obtain ⟨v, ev, dv⟩ := h.get e
      exact ⟨v, by rw [List.getElem?_map, ev]; rfl, dv⟩
  · rw [List.getElem?_append_right (by simpa using hi)] at q
    rw [List.getElem?_replicate] at q
    split at q <;> cases q
/-- S is part of S' -/
def Sub (S S' : Sto) : Prop := ∀ a o, S a = some o → S' a = some o
theorem Sub.refl (S : Sto) : Sub S S := fun _ _ h => h
theorem Sub.trans {S S1 S2 : Sto} (a : Sub S S1) (b : Sub S1 S2) : Sub S S2 := fun c o h => b c o (a c o h)
theorem Sub.new {S S' : Sto} {p : Addr} {o : MO} (h : Sub S S') (hp : S' p = none) : Sub S (up S' p o) := fun a u e => by
  have := h a u e
  rw [up_ne (fun z => by rw [z, hp] at this; cases this)]
  exact this
/-- what is wanted, of any part of the store -/
def Fg (P : VK3) : VK3 := fun d S => ∃ S', Sub S' S ∧ P d S'
section
variable {P : Program} {w : World} {K : PySem.W.Frag} {mg : Str → Option Value} {base : Heap}
theorem hu_of3 {A : Around} {k : Nat} (hr : Room k A) : A.units + 66 < cLine := by have := hr.un; omega
/-- THE RULE for a def -/
theorem Fun.ok3 {x qual : Str} {st : Stmt} {f : Addr} {fd : FuncData} {N ps : List Str} {k : Nat} {sp : Sp3} (F : Fun K x qual st f fd) (S : FnScope N ps (defScope st)) (len : ∀ ds S P, sp ds S P → ds.length = ps.length)
    (hbody : ∀ (cdv : Value) (A : Around) (outer : List Env) (s : Shared) (H : Hp) (E : XK) (ds : List D) (S : Sto) (Q : VK3), Room k (A.deeper (envOfC qual (defScope st) s.heap.objs.size f cdv)) → sp ds S Q →
      ∃ t, PSs3 (cxOf CX0 P w K mg base N qual (defScope st) f cdv A outer s H E).nox (defBody st) t ∧ t { nx := fun _ S' => Fg Q .non S', rt := Fg Q } (start3 N ds) S) : FnOk P w K mg base CX0 (k + 1) f fd ps (spL K sp) := by
  refine F.ok S (fun vs H Q E ⟨ds, S, P, h1, h2, h3, _⟩ => h1.length.trans (len _ _ _ h3)) fun cdv A outer s H vs Q E hr h => ?_
  obtain ⟨ds, S, P, h1, h2, h3, c⟩ := h
  obtain ⟨t, ht, q⟩ := hbody cdv A outer s H E ds S P hr h3
  have fin : ∀ d S' v H', Fg P d S' → Step S H S' H' → SRel K S' H' → Dv K H' v d → Q v H' := fun d S' v H' ⟨S2, l, p⟩ s r dv => c d S2 v H' p (s.less l) (r.less l) dv
  exact ⟨_, ht, start3 N ds, S, _, ⟨slots_start h1, h2⟩, q, ⟨fun τ' S' σ' H' p s r => fin _ _ _ _ p s r.st .non, fin, fun _ _ _ _ z => z.elim, fun _ _ _ _ z => z.elim⟩⟩
end
section
variable {k : Nat} {f : Addr} {fd : FuncData} {ps : List Str} {sp : Sp3} {x : Str} {p pos : Pos} {e : Expr} {es : List Expr} {t : TA3}
theorem pe3_call (F : FnOk X.prog X.w X.K X.mg X.base CX0 k f fd ps (spL X.K sp)) (hr : Room k X.A) (hg : Gl X x) (hm : X.mg x = some (.ref f)) (hk : PySem.W.keepIn X.K (.ref f) = true) (hb : Binds X.K fd ps [])
    (ha : PA3 X (e :: es) t) (hdb : (x == ("__debug__" : Str)) = false := by decide) (he : starEach (e :: es) X.env = (false, eval e X.env) :: starEach es X.env := by rfl) (hpl : (backTo pos (starEach es X.env)).any (·.1) = false := by rfl) :
    PE3 X (.Call (.Name x p) (e :: es) [] pos) (tCall3 sp t) :=
  PE.weak (pe_call F hr hg hm hk hb .nil pass0 ha hdb he hpl) fun σ H Q ⟨τ, S, P, R, h, c⟩ => ⟨τ, S, _, R, h, fun ds S1 vs H1 h1 s1 r1 d1 => by
    show spL X.K sp (vs ++ []) H1 Q E0
    rw [List.append_nil]
    exact ⟨ds, S1, P, d1, r1, h1, c.step s1⟩⟩
theorem pe3_call0 (F : FnOk X.prog X.w X.K X.mg X.base CX0 k f fd ps (spL X.K sp)) (hr : Room k X.A) (hg : Gl X x) (hm : X.mg x = some (.ref f)) (hk : PySem.W.keepIn X.K (.ref f) = true) (hb : Binds X.K fd ps [])
    (hdb : (x == ("__debug__" : Str)) = false := by decide) : PE3 X (.Call (.Name x p) [] [] pos) (tCall3 sp tNil3) :=
  PE.weak (pe_call0 F hr hg hm hk hb .nil pass0 hdb) fun σ H Q ⟨τ, S, P, R, h, c⟩ => ⟨[], S, P, .nil, R.st, h, c⟩
end
end L3
/-! L3Call: built-in functions, methods of lists, dicts, texts; subscripts, slices. -/
namespace L3
open PySem PySem.Spec PyProof.Rows L2
variable {X : Cx}

/-! ### one argument, by what it is -/
/-- a list or tuple or list that is never written -/
def seqD (S : Sto) : D → Option (List D)
  | .tup ds => some ds
  | .rol ds => some ds
  | .loc a => match S a with
    | some (.lst ds) => some ds
    | _ => none
  | _ => none
theorem seqD_of {K : PySem.W.Frag} {S : Sto} {H : Hp} {d : D} {v : V} {ds : List D} (r : SRel K S H) (dv : Dv K H v d) (h : seqD S d = some ds) : ∃ a vs, v = .ref a ∧ (SqL K H a vs ∨ SqT K H a vs) ∧ Dvs K H vs ds := by
  cases dv with
  | tup h1 h2 =>
    cases h
    exact ⟨_, _, rfl, .inr (.of h1), h2⟩
  | rol h1 h2 =>
    cases h
    exact ⟨_, _, rfl, .inl h1.sq, h2⟩
  | loc a =>
    unfold seqD at h
    dsimp only at h
    split at h
    · next e =>
      cases h
      obtain ⟨vs, h1, h2⟩ := lst_at r e
      exact ⟨a, vs, rfl, .inl (.of h1), h2⟩
    · cases h
  | _ => cases h
theorem one_of {K : PySem.W.Frag} {H : Hp} {vs : List V} {d : D} (h : Dvs K H vs [d]) : ∃ v, vs = [v] ∧ Dv K H v d := by
  cases h with
  | cons a b => cases b; exact ⟨_, rfl, a⟩
theorem two_of {K : PySem.W.Frag} {H : Hp} {vs : List V} {d e : D} (h : Dvs K H vs [d, e]) : ∃ v w, vs = [v, w] ∧ Dv K H v d ∧ Dv K H w e := by
  cases h with
  | cons a b =>
    obtain ⟨w, rfl, c⟩ := one_of b
    exact ⟨_, _, rfl, a, c⟩
def oLen : List D → Sto → VK3 → Prop
  | [.str z], S, Q => z.length ≤ sizeLine ∧ Q (.int z.length) S
  | [.loc a], S, Q => match S a with
    | some (.lst ds) => Q (.int ds.length) S
    | some (.dK kvs) => Q (.int kvs.length) S
    | some (.dT kvs) => Q (.int kvs.length) S
    | _ => False
  | [.tup ds], S, Q => Q (.int ds.length) S
  | [.rol ds], S, Q => Q (.int ds.length) S
  | _, _, _ => False

def rLen (K : PySem.W.Frag) : List V → Hp → VK → Prop := fun xs H Q => (∃ x n, xs = [x] ∧ LenV K x H n ∧ Q (.int n) H) ∨ (∃ a kvs, xs = [V.ref a] ∧ H a = some (.dK kvs) ∧ Q (.int kvs.length) H) ∨ rLenT xs H Q
theorem call3_len : CallR X (.builtin "len") (rLen X.K) := call_len.or (call_lenD.or call_len_dT)
theorem c3_len {K : PySem.W.Frag} : Call3 K (rLen K) oLen := by
  intro S H ds vs P Q r dv h c
  unfold oLen at h
  split at h
  · obtain ⟨v, rfl, d⟩ := one_of dv
    cases d
    exact .inl ⟨_, _, rfl, ⟨h.1, rfl⟩, c.here r h.2 (.int _)⟩
  · obtain ⟨v, rfl, d⟩ := one_of dv
    cases d
    split at h
    · next ds e =>
      obtain ⟨us, h1, h2⟩ := lst_at r e
      exact .inl ⟨_, _, rfl, .inl ⟨us, .of h1, rfl⟩, by rw [h2.length]; exact c.here r h (.int _)⟩
    · next kvs e =>
      obtain ⟨u, h1, h2⟩ := r _ _ e
      cases u <;> first | exact h2.elim | exact .inr (.inl ⟨_, _, rfl, h1, by rw [← Paired.length h2]; exact c.here r h (.int _)⟩)
    · next kvs e =>
      obtain ⟨u, h1, h2⟩ := r _ _ e
      cases u <;> first | exact h2.elim | exact .inr (.inr ⟨_, _, rfl, h1, by rw [← Paired.length h2]; exact c.here r h (.int _)⟩)
    · exact h.elim
  · obtain ⟨v, rfl, d⟩ := one_of dv
    cases d with
    | tup h1 h2 => exact .inl ⟨_, _, rfl, .inr ⟨_, .of h1, rfl⟩, by rw [h2.length]; exact c.here r h (.int _)⟩
  · obtain ⟨v, rfl, d⟩ := one_of dv
    cases d with
    | rol h1 h2 => exact .inl ⟨_, _, rfl, .inl ⟨_, h1.sq, rfl⟩, by rw [h2.length]; exact c.here r h (.int _)⟩
  · exact h.elim
def oInt : List D → Sto → VK3 → Prop
  | [.int i], S, Q => Q (.int i) S
  | [.bl k], S, Q => Q (.int (if k then 1 else 0)) S
  | _, _, _ => False
theorem c3_int {K : PySem.W.Frag} : Call3 K (fun xs H Q => (∃ i, xs = [.int i] ∧ Q (.int i) H) ∨ ∃ k, xs = [.bl k] ∧ Q (.int (if k then 1 else 0)) H) oInt := by
  intro S H ds vs P Q r dv h c
  unfold oInt at h
  split at h
  · obtain ⟨v, rfl, d⟩ := one_of dv
    cases d
    exact .inl ⟨_, rfl, c.here r h (.int _)⟩
  · obtain ⟨v, rfl, d⟩ := one_of dv
    cases d
    exact .inr ⟨_, rfl, c.here r h (.int _)⟩
  · exact h.elim
def oAbs : List D → Sto → VK3 → Prop
  | [.int i], S, Q => Q (.int (if i < 0 then -i else i)) S
  | _, _, _ => False
theorem c3_abs {K : PySem.W.Frag} : Call3 K (fun xs H Q => ∃ i, xs = [.int i] ∧ Q (.int (if i < 0 then -i else i)) H) oAbs := by
  intro S H ds vs P Q r dv h c
  unfold oAbs at h
  split at h
  · obtain ⟨v, rfl, d⟩ := one_of dv
    cases d
    exact ⟨_, rfl, c.here r h (.int _)⟩
  · exact h.elim
/-- the ints of a list -/
def intsD : List D → Option (List Int)
  | [] => some []
  | .int i :: r => (intsD r).map (i :: ·)
  | _ :: _ => none
theorem intsD_of : ∀ {ds : List D} {ns : List Int}, intsD ds = some ns → ds = ns.map D.int
  | [], _, h => by cases h; rfl
  | d :: ds, ns, h => by
    cases d <;> simp only [intsD, Option.map_eq_some_iff, reduceCtorEq] at h
    obtain ⟨m, h1, rfl⟩ := h
    rw [intsD_of h1]
    rfl
@[simp] theorem intsD_map (ns : List Int) : intsD (ns.map D.int) = some ns := by
  induction ns with
  | nil => rfl
  | cons n r ih => simp [intsD, ih]
def blsD : List D → Option (List Bool)
  | [] => some []
  | .bl i :: r => (blsD r).map (i :: ·)
  | _ :: _ => none
theorem blsD_of : ∀ {ds : List D} {ns : List Bool}, blsD ds = some ns → ds = ns.map D.bl
  | [], _, h => by cases h; rfl
  | d :: ds, ns, h => by
    cases d <;> simp only [blsD, Option.map_eq_some_iff, reduceCtorEq] at h
    obtain ⟨m, h1, rfl⟩ := h
    rw [blsD_of h1]
    rfl
@[simp] theorem blsD_map (ns : List Bool) : blsD (ns.map D.bl) = some ns := by
  induction ns with
  | nil => rfl
  | cons n r ih => simp [blsD, ih]
def strsD : List D → Option (List Str)
  | [] => some []
  | .str i :: r => (strsD r).map (i :: ·)
  | _ :: _ => none
theorem strsD_of : ∀ {ds : List D} {ns : List Str}, strsD ds = some ns → ds = ns.map D.str
  | [], _, h => by cases h; rfl
  | d :: ds, ns, h => by
    cases d <;> simp only [strsD, Option.map_eq_some_iff, reduceCtorEq] at h
    obtain ⟨m, h1, rfl⟩ := h
    rw [strsD_of h1]
    rfl
@[simp] theorem strsD_map (ns : List Str) : strsD (ns.map D.str) = some ns := by
  induction ns with
  | nil => rfl
  | cons n r ih => simp [strsD, ih]
/-- a list (or one that is never written) -/
def lstD (S : Sto) : D → Option (List D)
  | .rol ds => some ds
  | .loc a => match S a with
    | some (.lst ds) => some ds
    | _ => none
  | _ => none
theorem lstD_of {K : PySem.W.Frag} {S : Sto} {H : Hp} {d : D} {v : V} {ds : List D} (r : SRel K S H) (dv : Dv K H v d) (h : lstD S d = some ds) : ∃ a vs, v = .ref a ∧ SqL K H a vs ∧ Dvs K H vs ds := by
  cases dv with
  | rol h1 h2 =>
    cases h
    exact ⟨_, _, rfl, h1.sq, h2⟩
  | loc a =>
    unfold lstD at h
    dsimp only at h
    split at h
    · next e =>
      cases h
      obtain ⟨vs, h1, h2⟩ := lst_at r e
      exact ⟨a, vs, rfl, .of h1, h2⟩
    · cases h
  | _ => cases h
/-- of a list of ints: f of them -/
def oInts (f : List Int → (Int → Prop) → Prop) : List D → Sto → VK3 → Prop
  | [d], S, Q => match lstD S d with
    | some ds => match intsD ds with
      | some ns => f ns fun i => Q (.int i) S
      | none => False
    | none => False
  | _, _, _ => False
theorem ints_one {K : PySem.W.Frag} {f : List Int → (Int → Prop) → Prop} {S : Sto} {H : Hp} {ds : List D} {vs : List V} {P : VK3} (r : SRel K S H) (dv : Dvs K H vs ds) (h : oInts f ds S P) : ∃ a ns, vs = [.ref a] ∧ SqL K H a (ns.map V.int) ∧ f ns fun i => P (.int i) S := by
  unfold oInts at h
  split at h
  · obtain ⟨v, rfl, d⟩ := one_of dv
    split at h
    · next e1 =>
      split at h
      · next e2 =>
        obtain ⟨a, us, rfl, h1, h2⟩ := lstD_of r d e1
        rw [intsD_of e2] at h2
        rw [h2.ints] at h1
        exact ⟨a, _, rfl, h1, h⟩
      · exact h.elim
    · exact h.elim
  · exact h.elim
abbrev oSum := oInts fun ns Q => Q ns.sum
theorem c3_sum {K : PySem.W.Frag} : Call3 K (rSum K) oSum := by
  intro S H ds vs P Q r dv h c
  obtain ⟨a, ns, rfl, h1, h2⟩ := ints_one r dv h
  exact ⟨a, ns, rfl, h1, c.here r h2 (.int _)⟩
/-- a list's greatest, two ints' -/
def oMax : List D → Sto → VK3 → Prop
  | [.int i, .int j], S, Q => Q (.int (if j > i then j else i)) S
  | ds, S, Q => oInts (fun ns Q => 0 < ns.length ∧ ∀ m, m ∈ ns → (∀ y, y ∈ ns → y ≤ m) → Q m) ds S Q
def oMin : List D → Sto → VK3 → Prop
  | [.int i, .int j], S, Q => Q (.int (if j < i then j else i)) S
  | ds, S, Q => oInts (fun ns Q => 0 < ns.length ∧ ∀ m, m ∈ ns → (∀ y, y ∈ ns → m ≤ y) → Q m) ds S Q
theorem c3_max {K : PySem.W.Frag} : Call3 K (fun xs H Q => (∃ i j, xs = [.int i, .int j] ∧ Q (.int (if j > i then j else i)) H) ∨ rMax K xs H Q) oMax := by
  intro S H ds vs P Q r dv h c
  unfold oMax at h
  split at h
  · obtain ⟨v, w, rfl, d1, d2⟩ := two_of dv
    cases d1
    cases d2
    exact .inl ⟨_, _, rfl, c.here r h (.int _)⟩
  · obtain ⟨a, ns, rfl, h1, h2⟩ := ints_one r dv h
    exact .inr ⟨a, ns, rfl, h1, h2.1, fun m hm hy => c.here r (h2.2 m hm hy) (.int _)⟩
theorem c3_min {K : PySem.W.Frag} : Call3 K (fun xs H Q => (∃ i j, xs = [.int i, .int j] ∧ Q (.int (if j < i then j else i)) H) ∨ rMin K xs H Q) oMin := by
  intro S H ds vs P Q r dv h c
  unfold oMin at h
  split at h
  · obtain ⟨v, w, rfl, d1, d2⟩ := two_of dv
    cases d1
    cases d2
    exact .inl ⟨_, _, rfl, c.here r h (.int _)⟩
  · obtain ⟨a, ns, rfl, h1, h2⟩ := ints_one r dv h
    exact .inr ⟨a, ns, rfl, h1, h2.1, fun m hm hy => c.here r (h2.2 m hm hy) (.int _)⟩
/-- any, all of a list of truth values -/
def oBls (f : List Bool → Bool) : List D → Sto → VK3 → Prop
  | [d], S, Q => match lstD S d with
    | some ds => match blsD ds with
      | some bs => Q (.bl (f bs)) S
      | none => False
    | none => False
  | _, _, _ => False
theorem bls_one {K : PySem.W.Frag} {f : List Bool → Bool} {S : Sto} {H : Hp} {ds : List D} {vs : List V} {P : VK3} (r : SRel K S H) (dv : Dvs K H vs ds) (h : oBls f ds S P) : ∃ a bs, vs = [.ref a] ∧ SqL K H a (bs.map V.bl) ∧ P (.bl (f bs)) S := by
  unfold oBls at h
  split at h
  · obtain ⟨v, rfl, d⟩ := one_of dv
    split at h
    · next e1 =>
      split at h
      · next e2 =>
        obtain ⟨a, us, rfl, h1, h2⟩ := lstD_of r d e1
        rw [blsD_of e2] at h2
        rw [h2.bls] at h1
        exact ⟨a, _, rfl, h1, h⟩
      · exact h.elim
    · exact h.elim
  · exact h.elim
abbrev oAny := oBls fun bs => bs.any id
abbrev oAll := oBls fun bs => bs.all id
theorem c3_any {K : PySem.W.Frag} : Call3 K (rAny K) oAny := by
  intro S H ds vs P Q r dv h c
  obtain ⟨a, ns, rfl, h1, h2⟩ := bls_one r dv h
  exact ⟨a, ns, rfl, h1, c.here r h2 (.bl _)⟩
theorem c3_all {K : PySem.W.Frag} : Call3 K (rAll K) oAll := by
  intro S H ds vs P Q r dv h c
  obtain ⟨a, ns, rfl, h1, h2⟩ := bls_one r dv h
  exact ⟨a, ns, rfl, h1, c.here r h2 (.bl _)⟩
/-- tuple(x), list(x) of a sequence -/
def oTuple : List D → Sto → VK3 → Prop
  | [d], S, Q => match seqD S d with
    | some ds => Q (.tup ds) S
    | none => False
  | _, _, _ => False
def oList : List D → Sto → VK3 → Prop
  | [d], S, Q => match seqD S d with
    | some ds => ∀ p, S p = none → Q (.loc p) (up S p (.lst ds))
    | none => False
  | _, _, _ => False
theorem c3_tuple {K : PySem.W.Frag} : Call3 K (fun xs H Q => ∃ p ys, xs = [.ref p] ∧ ((SqL K H p ys ∧ ∀ l, H l = none → Q (.ref l) (upd H l (.tup ys))) ∨ (SqT K H p ys ∧ Q (.ref p) H))) oTuple := by
  intro S H ds vs P Q r dv h c
  unfold oTuple at h
  split at h
  · next d =>
    obtain ⟨v, rfl, dd⟩ := one_of dv
    split at h
    · next e1 =>
      cases dd with
      | tup h1 h2 =>
        cases e1
        exact ⟨_, _, rfl, .inr ⟨.of h1, c.here r h (.tup h1 h2)⟩⟩
      | rol h1 h2 =>
        cases e1
        exact ⟨_, _, rfl, .inl ⟨h1.sq, c.tup r h2 h⟩⟩
      | loc a =>
        unfold seqD at e1
        dsimp only at e1
        split at e1
        · next e =>
          cases e1
          obtain ⟨us, h1, h2⟩ := lst_at r e
          exact ⟨_, _, rfl, .inl ⟨.of h1, c.tup r h2 h⟩⟩
        · cases e1
      | _ => cases e1
    · exact h.elim
  · exact h.elim
theorem c3_list {K : PySem.W.Frag} : Call3 K (fun xs H Q => ∃ p ys, xs = [.ref p] ∧ (SqL K H p ys ∨ SqT K H p ys) ∧ ∀ l, H l = none → Q (.ref l) (upd H l (.lst ys))) oList := by
  intro S H ds vs P Q r dv h c
  unfold oList at h
  split at h
  · next d =>
    obtain ⟨v, rfl, dd⟩ := one_of dv
    split at h
    · next e1 =>
      obtain ⟨a, us, rfl, h1, h2⟩ := seqD_of r dd e1
      exact ⟨a, us, rfl, h1, c.lst r h2 h⟩
    · exact h.elim
  · exact h.elim

/-! ### isinstance -/
def tyN (S : Sto) : D → Option String
  | .non => some "NoneType"
  | .bl _ => some "bool"
  | .int _ => some "int"
  | .str _ => some "str"
  | .tup _ => some "tuple"
  | .rol _ => some "list"
  | .loc a => match S a with
    | some (.lst _) => some "list"
    | some (.dK _) => some "dict"
    | some (.dT _) => some "dict"
    | _ => none
  | .ty _ => none
theorem tyN_of {K : PySem.W.Frag} {S : Sto} {H : Hp} {d : D} {v : V} {t : String} (r : SRel K S H) (dv : Dv K H v d) (h : tyN S d = some t) : TyX K H v (.type t) := by
  cases dv with
  | non => cases h; exact .base .non
  | bl b => cases h; exact .base (.bl b)
  | int b => cases h; exact .base (.int b)
  | str b => cases h; exact .base (.str b)
  | ty _ => cases h
  | tup h1 _ => cases h; exact .base (.tup h1)
  | rol h1 _ =>
    cases h
    rcases h1 with ⟨o, h1⟩ | ⟨o, its, n, h1, h2, _⟩
    · exact .base (.frz h1)
    · exact .kList h1 h2
  | loc a =>
    unfold tyN at h
    dsimp only at h
    split at h
    · next e =>
      cases h
      obtain ⟨us, h1, h2⟩ := lst_at r e
      exact .base (.lst h1)
    · next e =>
      cases h
      obtain ⟨u, h1, h2⟩ := r _ _ e
      cases u <;> first | exact h2.elim | exact .base (.dK h1)
    · next e =>
      cases h
      obtain ⟨u, h1, h2⟩ := r _ _ e
      cases u <;> first | exact h2.elim | exact .base (.dT h1)
    · cases h
/-- the built-in classes that are asked of -/
def isiT (t T : String) : Option Bool := match t, T with
  | "NoneType", "int" | "NoneType", "str" | "NoneType", "tuple" | "NoneType", "bool" | "NoneType", "list" | "NoneType", "dict" => some false
  | "bool", "int" => some true
  | "bool", "bool" => some true
  | "bool", "str" | "bool", "tuple" | "bool", "list" | "bool", "dict" => some false
  | "int", "int" => some true
  | "int", "bool" | "int", "str" | "int", "tuple" | "int", "list" | "int", "dict" => some false
  | "str", "str" => some true
  | "str", "bool" | "str", "int" | "str", "tuple" | "str", "list" | "str", "dict" => some false
  | "tuple", "tuple" => some true
  | "tuple", "bool" | "tuple", "int" | "tuple", "str" | "tuple", "list" | "tuple", "dict" => some false
  | "list", "list" => some true
  | "list", "bool" | "list", "int" | "list", "str" | "list", "tuple" | "list", "dict" => some false
  | "dict", "dict" => some true
  | "dict", "bool" | "dict", "int" | "dict", "str" | "dict", "tuple" | "dict", "list" => some false
  | _, _ => none
theorem isiT_kit {t T : String} {b : Bool} (h : isiT t T = some b) : kitB t T = some b := by
  unfold isiT at h
  split at h <;> first
    | (cases h; decide +kernel)
    | cases h
def oIsi : List D → Sto → VK3 → Prop
  | [d, .ty T], S, Q => match tyN S d with
    | some t => match isiT t T with
      | some b => Q (.bl b) S
      | none => False
    | none => False
  | _, _, _ => False
theorem c3_isi {K : PySem.W.Frag} : Call3 K (rIsi K) oIsi := by
  intro S H ds vs P Q r dv h c
  unfold oIsi at h
  split at h
  · obtain ⟨v, w, rfl, d1, d2⟩ := two_of dv
    cases d2
    split at h
    · next e1 =>
      split at h
      · next e2 => exact ⟨_, _, _, _, _, rfl, .ty _, tyN_of r d1 e1, kit_ty (isiT_kit e2), c.here r h (.bl _)⟩
      · exact h.elim
    · exact h.elim
  · exact h.elim

/-! ### the calls -/
section
variable {e : Expr} {es : List Expr} {t : TA3} {p pos : Pos}
theorem pe3_len (hm : X.mg "len" = none) (hg : Gl X "len") (ha : PA3 X (e :: es) t) (he : starEach (e :: es) X.env = (false, eval e X.env) :: starEach es X.env := by rfl) (hpl : (backTo pos (starEach es X.env)).any (·.1) = false := by rfl) : PE3 X (.Call (.Name "len" p) (e :: es) [] pos) (tCall3 oLen t) :=
  pe3_callB call3_len c3_len hg hm PySem.boot_len ha (by decide) (by decide) he hpl
theorem pe3_intc (hm : X.mg "int" = none) (hg : Gl X "int") (ha : PA3 X (e :: es) t) (he : starEach (e :: es) X.env = (false, eval e X.env) :: starEach es X.env := by rfl) (hpl : (backTo pos (starEach es X.env)).any (·.1) = false := by rfl) : PE3 X (.Call (.Name "int" p) (e :: es) [] pos) (tCall3 oInt t) :=
  pe3_callTy call_int1 c3_int hg hm (by decide +kernel) ha (by decide) (by decide) he hpl
theorem pe3_abs (hm : X.mg "abs" = none) (hg : Gl X "abs") (ha : PA3 X (e :: es) t) (he : starEach (e :: es) X.env = (false, eval e X.env) :: starEach es X.env := by rfl) (hpl : (backTo pos (starEach es X.env)).any (·.1) = false := by rfl) : PE3 X (.Call (.Name "abs" p) (e :: es) [] pos) (tCall3 oAbs t) :=
  pe3_callB call_abs c3_abs hg hm (by decide +kernel) ha (by decide) (by decide) he hpl
theorem pe3_sum (hc : X.calm = true) (hm : X.mg "sum" = none) (hg : Gl X "sum") (ha : PA3 X (e :: es) t) (he : starEach (e :: es) X.env = (false, eval e X.env) :: starEach es X.env := by rfl) (hpl : (backTo pos (starEach es X.env)).any (·.1) = false := by rfl) : PE3 X (.Call (.Name "sum" p) (e :: es) [] pos) (tCall3 oSum t) :=
  pe3_callB (cr_sum hc) c3_sum hg hm (by decide +kernel) ha (by decide) (by decide) he hpl
theorem pe3_max (hc : X.calm = true) (hm : X.mg "max" = none) (hg : Gl X "max") (ha : PA3 X (e :: es) t) (he : starEach (e :: es) X.env = (false, eval e X.env) :: starEach es X.env := by rfl) (hpl : (backTo pos (starEach es X.env)).any (·.1) = false := by rfl) : PE3 X (.Call (.Name "max" p) (e :: es) [] pos) (tCall3 oMax t) :=
  pe3_callB ((call_max2 hc).or (cr_max hc)) c3_max hg hm (by decide +kernel) ha (by decide) (by decide) he hpl
theorem pe3_min (hc : X.calm = true) (hm : X.mg "min" = none) (hg : Gl X "min") (ha : PA3 X (e :: es) t) (he : starEach (e :: es) X.env = (false, eval e X.env) :: starEach es X.env := by rfl) (hpl : (backTo pos (starEach es X.env)).any (·.1) = false := by rfl) : PE3 X (.Call (.Name "min" p) (e :: es) [] pos) (tCall3 oMin t) :=
  pe3_callB ((call_min2 hc).or (cr_min hc)) c3_min hg hm (by decide +kernel) ha (by decide) (by decide) he hpl
theorem pe3_any (hc : X.calm = true) (hm : X.mg "any" = none) (hg : Gl X "any") (ha : PA3 X (e :: es) t) (he : starEach (e :: es) X.env = (false, eval e X.env) :: starEach es X.env := by rfl) (hpl : (backTo pos (starEach es X.env)).any (·.1) = false := by rfl) : PE3 X (.Call (.Name "any" p) (e :: es) [] pos) (tCall3 oAny t) :=
  pe3_callB (cr_any hc) c3_any hg hm (by decide +kernel) ha (by decide) (by decide) he hpl
theorem pe3_all (hc : X.calm = true) (hm : X.mg "all" = none) (hg : Gl X "all") (ha : PA3 X (e :: es) t) (he : starEach (e :: es) X.env = (false, eval e X.env) :: starEach es X.env := by rfl) (hpl : (backTo pos (starEach es X.env)).any (·.1) = false := by rfl) : PE3 X (.Call (.Name "all" p) (e :: es) [] pos) (tCall3 oAll t) :=
  pe3_callB (cr_all hc) c3_all hg hm (by decide +kernel) ha (by decide) (by decide) he hpl
theorem pe3_tuple (hm : X.mg "tuple" = none) (hg : Gl X "tuple") (ha : PA3 X (e :: es) t) (he : starEach (e :: es) X.env = (false, eval e X.env) :: starEach es X.env := by rfl) (hpl : (backTo pos (starEach es X.env)).any (·.1) = false := by rfl) : PE3 X (.Call (.Name "tuple" p) (e :: es) [] pos) (tCall3 oTuple t) :=
  pe3_callTy call_tuple_of c3_tuple hg hm (by decide +kernel) ha (by decide) (by decide) he hpl
theorem pe3_list (hm : X.mg "list" = none) (hg : Gl X "list") (ha : PA3 X (e :: es) t) (he : starEach (e :: es) X.env = (false, eval e X.env) :: starEach es X.env := by rfl) (hpl : (backTo pos (starEach es X.env)).any (·.1) = false := by rfl) : PE3 X (.Call (.Name "list" p) (e :: es) [] pos) (tCall3 oList t) :=
  pe3_callTy call_list_of c3_list hg hm (by decide +kernel) ha (by decide) (by decide) he hpl
theorem pe3_isi (hm : X.mg "isinstance" = none) (hg : Gl X "isinstance") (ha : PA3 X (e :: es) t) (he : starEach (e :: es) X.env = (false, eval e X.env) :: starEach es X.env := by rfl) (hpl : (backTo pos (starEach es X.env)).any (·.1) = false := by rfl) : PE3 X (.Call (.Name "isinstance" p) (e :: es) [] pos) (tCall3 oIsi t) :=
  pe3_callB call_isi c3_isi hg hm (by decide +kernel) ha (by decide) (by decide) he hpl
end
end L3
/-! L3Meth: subscripts, slices, methods. -/
namespace L3
open PySem PySem.Spec PyProof.Rows L2
variable {X : Cx}

/-! ### a[b] -/
def rIxD : R2 := fun x y H Q => ∃ a z, x = .ref a ∧ DGet H a y (some z) ∧ Q z H
theorem ix_dict (hu : X.A.units + 66 < cLine) : IxR X rIxD := by
  intro value slice pins s σ H x y v u Q I rx ry h hs
  obtain ⟨a, z, rfl, g, q⟩ := h
  obtain rfl : v = Value.ref a := rx
  have hT := dict_typeIs I g
  have got : wpAny (model X.prog X.w) X.A (getItem (.ref a) u) (EP X pins σ Q) X.xe s := d_getItem (by omega) I g ry fun w' s' I' r' => ⟨z, H, I', r', q⟩
  have fin : wpAny (model X.prog X.w) X.A (subscripted slice false (.ref a) u) (fun r s₃ => wpAny (model X.prog X.w) X.A (letTemporaryGo value (.ref a) r >>= fun _ => pure r) (EP X pins σ Q) X.xe s₃) X.xe s := by
    rw [hs]
    refine wpAny_operating (wpAny_mono got (fun r s₃ h₃ => ?_) fun _ _ x => x)
    exact wpAny_bind (wpAny_letTemporaryGo (wpAny_pure h₃))
  unfold subscriptTail
  refine wpAny_bind ?_
  rw [getitemInPython_of_ne hT.not_modules]
  refine wpAny_bind (wpAny_specialOf hT PySem.F.slot_dict_getitem.lookup ?_)
  first
    | exact wpAny_pure (wpAny_bind fin)
    | exact wpAny_pure fin
    | exact wpAny_bind fin
    | exact fin
/-- of what stands at an address -/
def oIxL (o : Option MO) (y : D) (S : Sto) (Q : VK3) : Prop := match o with
  | some (.lst ds) => match y with
    | .int i => match atI ds i with
      | some d => Q d S
      | none => False
    | _ => False
  | o => dGet o y fun r => match r with
    | some d => Q d S
    | none => False
def oIx : D → D → Sto → VK3 → Prop
  | .tup ds, .int i, S, Q => match atI ds i with
    | some d => Q d S
    | none => False
  | .rol ds, .int i, S, Q => match atI ds i with
    | some d => Q d S
    | none => False
  | .str z, .int i, S, Q => z.length ≤ sizeLine ∧ match atI z.cps.toList i with
    | some c => Q (.str ⟨#[c]⟩) S
    | none => False
  | .loc a, y, S, Q => oIxL (S a) y S Q
  | _, _, _, _ => False
theorem atI_of {K : PySem.W.Frag} {H : Hp} {vs : List V} {ds : List D} {i : Int} {d : D} (h : Dvs K H vs ds) (e : atI ds i = some d) : ∃ v, atI vs i = some v ∧ Dv K H v d := by
  unfold atI at e ⊢
  rw [h.length]
  cases q : ixN ds.length i with
  | none => rw [q] at e; cases e
  | some j =>
    rw [q] at e
    exact h.get e
theorem opx_ix (hu : X.A.units + 66 < cLine) : IxR X (fun x y H Q => rIx X.K x y H Q ∨ rIxD x y H Q) := ix_seq.or (ix_dict hu)
theorem op3_ix {K : PySem.W.Frag} : Op3 K (fun x y H Q => rIx K x y H Q ∨ rIxD x y H Q) oIx := by
  intro S H x y vx vy P Q r dx dy h c
  cases dx with
  | tup h1 h2 =>
    cases dy <;> first | exact h.elim | skip
    unfold oIx at h
    dsimp only at h
    split at h
    · next e =>
      obtain ⟨v, ev, dv⟩ := atI_of h2 e
      exact .inl (.inr (.inl ⟨_, _, _, v, rfl, rfl, .of h1, ev, c.here r h dv⟩))
    · exact h.elim
  | rol h1 h2 =>
    cases dy <;> first | exact h.elim | skip
    unfold oIx at h
    dsimp only at h
    split at h
    · next e =>
      obtain ⟨v, ev, dv⟩ := atI_of h2 e
      exact .inl (.inl ⟨_, _, _, v, rfl, rfl, h1.sq, ev, c.here r h dv⟩)
    · exact h.elim
  | str z =>
    cases dy <;> first | exact h.elim | skip
    unfold oIx at h
    dsimp only at h
    obtain ⟨hz, h⟩ := h
    split at h
    · next e => exact .inl (.inr (.inr ⟨_, _, _, rfl, rfl, hz, e, c.here r h (.str _)⟩))
    · exact h.elim
  | loc a =>
    have h' : oIxL (S a) y S P := by cases dy <;> exact h
    clear h
    unfold oIxL at h'
    split at h'
    · next ds e =>
      obtain ⟨vs, h1, h2⟩ := lst_at r e
      cases dy <;> first | exact h'.elim | skip
      dsimp only at h'
      split at h'
      · next e =>
        obtain ⟨v, ev, dv⟩ := atI_of h2 e
        exact .inl (.inl ⟨_, _, _, v, rfl, rfl, .of h1, ev, c.here r h' dv⟩)
      · exact h'.elim
    · obtain ⟨o, ov, g, q, m⟩ := dGet_of r dy h'
      cases o with
      | none => exact q.elim
      | some d =>
        obtain ⟨v, rfl, dv⟩ := m
        exact .inr ⟨a, v, rfl, g, c.here r q dv⟩
  | non => cases dy <;> exact h.elim
  | bl _ => cases dy <;> exact h.elim
  | int _ => cases dy <;> exact h.elim
  | ty _ => cases dy <;> exact h.elim
theorem pe3_ix {a b : Expr} {ta tb : TE3} {pos : Pos} (hu : X.A.units + 66 < cLine) (ha : PE3 X a ta) (hb : PE3 X b tb) (hs : PlainIx b := by intro _ _; rfl) : PE3 X (.Subscript a b pos) (tOp3 oIx ta tb) :=
  PE.weak (pe_ix (opx_ix hu) ha hb hs) (lift_op op3_ix)

/-! ### a[lo:hi] -/
abbrev TO3 := St3 → Sto → (Option Int → Sto → Prop) → Prop
def liftO (K : PySem.W.Frag) (t : TO3) : TO := fun σ H Q => ∃ τ S P, Rel K τ S σ H ∧ t τ S P ∧ ∀ o S' H', P o S' → Step S H S' H' → SRel K S' H' → Q o H'
abbrev PO3 (X : Cx) (e : Option Expr) (t : TO3) : Prop := PO X e (liftO X.K t)
theorem PO.weak {e : Option Expr} {t t' : TO} (h : PO X e t) (w : ∀ σ H Q, t' σ H Q → t σ H Q) : PO X e t' := ⟨fun pins s σ H Q I q => h.run pins s σ H Q I (w σ H Q q)⟩
@[simp] def tNoPart3 : TO3 := fun _ S Q => Q none S
def tPart3 (t : TE3) : TO3 := fun τ S Q => t τ S fun x S1 => match x with
  | .int i => Q (some i) S1
  | _ => False
theorem po3_none : PO3 X none tNoPart3 := PO.weak po_none fun σ H Q ⟨τ, S, P, R, h, c⟩ => c none S H h .refl R.st
theorem po3_some {e : Expr} {t : TE3} (h : PE3 X e t) : PO3 X (some e) (tPart3 t) := by
  refine PO.weak (po_some h) fun σ H Q ⟨τ, S, P, R, h, c⟩ => ⟨τ, S, _, R, h, fun d S1 v H1 h1 s1 r1 d1 => ?_⟩
  cases d1 <;> first | exact h1.elim | exact ⟨_, rfl, c _ S1 H1 h1 s1 r1⟩
def cutD {α : Type} (xs : List α) (lo hi : Option Int) : List α := (xs.drop (HT.sIx xs.length 0 lo)).take (HT.sIx xs.length xs.length hi - HT.sIx xs.length 0 lo)
def oSl (d : D) (lo hi : Option Int) (S : Sto) (Q : VK3) : Prop := match d with
  | .tup ds => Q (.tup (cutD ds lo hi)) S
  | .rol ds => ∀ p, S p = none → Q (.loc p) (up S p (.lst (cutD ds lo hi)))
  | .loc a => match S a with
    | some (.lst ds) => ∀ p, S p = none → Q (.loc p) (up S p (.lst (cutD ds lo hi)))
    | _ => False
  | _ => False
theorem cut_of {K : PySem.W.Frag} {H : Hp} {vs : List V} {ds : List D} (h : Dvs K H vs ds) (lo hi : Option Int) : Dvs K H (cutV vs lo hi) (cutD ds lo hi) := by
  unfold cutV cutD
  rw [h.length]
  exact (h.drop _).take _
theorem cut_all {α : Type} {xs : List α} {lo hi : Option Int} (h : HT.sIx xs.length 0 lo = 0 ∧ HT.sIx xs.length xs.length hi = xs.length) : cutD xs lo hi = xs := by
  unfold cutD
  rw [h.1, h.2]
  simp
@[simp] def tSl3 (te : TE3) (tl th : TO3) : TE3 := fun τ S Q => te τ S fun x S1 => tl τ S1 fun l S2 => th τ S2 fun u S3 => oSl x l u S3 Q
theorem pe3_slice {e : Expr} {lo hi : Option Expr} {te : TE3} {tl th : TO3} {pos p2 : Pos} (he : PE3 X e te) (hl : PO3 X lo tl) (hh : PO3 X hi th) : PE3 X (.Subscript e (.Slice lo hi none p2) pos) (tSl3 te tl th) := by
  refine PE.weak (pe_slice (sl_list.or sl_tupA) he hl hh) fun σ H Q ⟨τ, S, P, R, h, c⟩ => ?_
  refine ⟨τ, S, _, R, h, fun d S1 v H1 h1 s1 r1 d1 => ?_⟩
  refine ⟨τ, S1, _, R.at s1 r1, h1, fun l S2 H2 h2 s2 r2 => ?_⟩
  refine ⟨τ, S2, _, R.at (s1.trans s2) r2, h2, fun u S3 H3 h3 s3 r3 => ?_⟩
  have c3 := c.step ((s1.trans s2).trans s3)
  have d3 := d1.ext (s2.trans s3).ext
  cases d3 with
  | tup k1 k2 =>
    refine .inr ⟨_, _, rfl, .of k1, fun e => ?_, fun _ => c3.tup r3 (cut_of k2 l u) h3⟩
    rw [k2.length] at e
    have h4 : P (.tup (cutD _ l u)) S3 := h3
    rw [cut_all e] at h4
    exact c3.here r3 h4 (.tup k1 k2)
  | rol k1 k2 => exact .inl ⟨_, _, rfl, k1.sq, c3.lst r3 (cut_of k2 l u) h3⟩
  | loc a =>
    unfold oSl at h3
    dsimp only at h3
    split at h3
    · next e =>
      obtain ⟨vs, k1, k2⟩ := lst_at r3 e
      exact .inl ⟨_, _, rfl, .of k1, c3.lst r3 (cut_of k2 l u) h3⟩
    · exact h3.elim
  | _ => exact h3.elim

/-! ### methods of lists -/
def isLst (S : Sto) : D → Prop
  | .loc a => ∃ ds, S a = some (.lst ds)
  | _ => False
def Mt3 (K : PySem.W.Frag) (r : V → List V → Hp → VK → Prop) (o : D → List D → Sto → VK3 → Prop) : Prop :=
  ∀ S H x vx ds vs P Q, SRel K S H → Dv K H vx x → Dvs K H vs ds → o x ds S P → Cont K S H P Q → r vx vs H Q
@[simp] def tMt3 (o : D → List D → Sto → VK3 → Prop) (to : TE3) (ta : TA3) : TE3 := fun τ S Q => to τ S fun x S1 => isLst S1 x ∧ ta τ S1 fun ds S2 => o x ds S2 Q
theorem isLst_ty {K : PySem.W.Frag} {S : Sto} {H : Hp} {x : D} {v : V} (r : SRel K S H) (dx : Dv K H v x) (h : isLst S x) : tyV K "list" v H := by
  cases dx <;> first
    | exact h.elim
    | (obtain ⟨ds, e⟩ := h
       obtain ⟨vs, h1, h2⟩ := lst_at r e
       exact .inl ⟨rfl, vs, .of h1⟩)
theorem lift_mt {K : PySem.W.Frag} {r : V → List V → Hp → VK → Prop} {o : D → List D → Sto → VK3 → Prop} {to : TE3} {ta : TA3} (h3 : Mt3 K r o) (σ : L2.St) (H : Hp) (Q : VK) (h : lift K (tMt3 o to ta) σ H Q) : tBM K "list" r (lift K to) (liftA K ta) σ H Q := by
  obtain ⟨τ, S, P, R, h, c⟩ := h
  refine ⟨τ, S, _, R, h, fun x S1 vx H1 ⟨h0, h1⟩ s1 r1 d1 => ⟨isLst_ty r1 d1 h0, τ, S1, _, R.at s1 r1, h1, fun ds S2 vs H2 h2 s2 r2 d2 => ?_⟩⟩
  exact h3 S2 H2 x vx ds vs P Q r2 (d1.ext s2.ext) d2 h2 (c.step (s1.trans s2))
section
variable {o e : Expr} {es : List Expr} {to : TE3} {t : TA3} {name : Str} {apos cpos : Pos} {id : String} {r : V → List V → Hp → VK → Prop} {om : D → List D → Sto → VK3 → Prop}
theorem pe3_lm (slot : Slot "list" name id) (hty : typeOf (.builtin id) = pure (.type "method_descriptor")) (hm : MtR X id r) (h3 : Mt3 X.K r om) (ho : PE3 X o to) (ha : PA3 X (e :: es) t)
    (hbase : attributeBase o name X.env (eval o X.env) = eval o X.env := by rfl)
    (hfew : ((backTo cpos (starEach (e :: es) X.env)).all (fun x => !x.1) && (backToKw cpos (keywordEach [] X.env)).all (fun x => x.1.isSome) && decide ((e :: es).length + ([] : List Keyword).length + (if ([] : List Keyword).isEmpty then 0 else 1) < 30)) = true := by rfl)
    (hline : (apos.endLine == cpos.line) = true := by rfl) (hs : starEach (e :: es) X.env = (false, eval e X.env) :: starEach es X.env := by rfl) (hplain : (backTo cpos (starEach es X.env)).any (·.1) = false := by rfl) :
    PE3 X (.Call (.Attribute o name apos) (e :: es) [] cpos) (tMt3 om to t) :=
  PE.weak (pe_bm PySem.F.plainAttrs_list slot hty hm ho ha hbase hfew hline hs hplain) (lift_mt h3)
end
def oAppend (x : D) (ds : List D) (S : Sto) (Q : VK3) : Prop := match x, ds with
  | .loc a, [d] => match S a with
    | some (.lst xs) => xs.length < sizeLine ∧ Q .non (up S a (.lst (xs ++ [d])))
    | _ => False
  | _, _ => False
theorem m3_append {K : PySem.W.Frag} : Mt3 K rAppend oAppend := by
  intro S H x vx ds vs P Q r dx dv h c
  unfold oAppend at h
  split at h
  · cases dx
    obtain ⟨v, rfl, d⟩ := one_of dv
    split at h
    · next e =>
      obtain ⟨us, h1, h2⟩ := lst_at r e
      exact ⟨_, us, v, rfl, rfl, h1, by rw [h2.length]; exact h.1, c.set r e (h2.append (.cons d .nil)) h.2 .non⟩
    · exact h.elim
  · exact h.elim
def oInsert (x : D) (ds : List D) (S : Sto) (Q : VK3) : Prop := match x, ds with
  | .loc a, [.int i, d] => match S a with
    | some (.lst xs) => xs.length < sizeLine ∧ 0 ≤ i ∧ i < 2 ^ 63 ∧ Q .non (up S a (.lst (xs.take i.toNat ++ [d] ++ xs.drop i.toNat)))
    | _ => False
  | _, _ => False
theorem m3_insert {K : PySem.W.Frag} : Mt3 K (fun x vs H Q => ∃ (l : Addr) (xs : List V) (i : Int) (y : V), x = .ref l ∧ vs = [.int i, y] ∧ H l = some (.lst xs) ∧ xs.length < sizeLine ∧ 0 ≤ i ∧ i < 2 ^ 63 ∧
    Q .non (upd H l (.lst (xs.take i.toNat ++ [y] ++ xs.drop i.toNat)))) oInsert := by
  intro S H x vx ds vs P Q r dx dv h c
  unfold oInsert at h
  split at h
  · cases dx
    obtain ⟨v, w, rfl, d1, d⟩ := two_of dv
    cases d1
    split at h
    · next e =>
      obtain ⟨us, h1, h2⟩ := lst_at r e
      exact ⟨_, us, _, w, rfl, rfl, h1, by rw [h2.length]; exact h.1, h.2.1, h.2.2.1, c.set r e (((h2.take _).append (.cons d .nil)).append (h2.drop _)) h.2.2.2 .non⟩
    · exact h.elim
  · exact h.elim
def oExtend (x : D) (ds : List D) (S : Sto) (Q : VK3) : Prop := match x, ds with
  | .loc a, [.loc b] => match S a, S b with
    | some (.lst xs), some (.lst ys) => xs.length + ys.length ≤ sizeLine ∧ Q .non (up S a (.lst (xs ++ ys)))
    | _, _ => False
  | _, _ => False
theorem m3_extend {K : PySem.W.Frag} : Mt3 K rExtend oExtend := by
  intro S H x vx ds vs P Q r dx dv h c
  unfold oExtend at h
  split at h
  · cases dx
    obtain ⟨v, rfl, d⟩ := one_of dv
    cases d
    split at h
    · next e1 e2 =>
      obtain ⟨us, h1, h2⟩ := lst_at r e1
      obtain ⟨ws, k1, k2⟩ := lst_at r e2
      exact ⟨_, _, us, ws, rfl, rfl, h1, k1, by rw [h2.length, k2.length]; exact h.1, c.set r e1 (h2.append k2) h.2 .non⟩
    · exact h.elim
  · exact h.elim
/-- xs.count(k) of ints -/
def oCount (x : D) (ds : List D) (S : Sto) (Q : VK3) : Prop := match ds with
  | [.int k] => match lstD S x with
    | some xs => match intsD xs with
      | some ns => Q (.int (ns.count k : Nat)) S
      | none => False
    | none => False
  | _ => False
theorem m3_count {K : PySem.W.Frag} : Mt3 K (rCntI K) oCount := by
  intro S H x vx ds vs P Q r dx dv h c
  unfold oCount at h
  split at h
  · obtain ⟨v, rfl, d⟩ := one_of dv
    cases d
    split at h
    · next e1 =>
      split at h
      · next e2 =>
        obtain ⟨a, us, rfl, h1, h2⟩ := lstD_of r dx e1
        rw [intsD_of e2] at h2
        rw [h2.ints] at h1
        exact ⟨a, _, _, rfl, rfl, h1, c.here r h (.int _)⟩
      · exact h.elim
    · exact h.elim
  · exact h.elim
section
variable {o e f : Expr} {to te tf : TE3} {apos cpos : Pos}
theorem pe3_append (ho : PE3 X o to) (he : PE3 X e te)
    (hbase : attributeBase o "append" X.env (eval o X.env) = eval o X.env := by rfl)
    (hfew : ((backTo cpos (starEach [e] X.env)).all (fun x => !x.1) && (backToKw cpos (keywordEach [] X.env)).all (fun x => x.1.isSome) && decide (([e] : List Expr).length + ([] : List Keyword).length + (if ([] : List Keyword).isEmpty then 0 else 1) < 30)) = true := by rfl)
    (hline : (apos.endLine == cpos.line) = true := by rfl) (hs : starEach [e] X.env = (false, eval e X.env) :: starEach [] X.env := by rfl) (hplain : (backTo cpos (starEach [] X.env)).any (·.1) = false := by rfl) :
    PE3 X (.Call (.Attribute o "append" apos) [e] [] cpos) (tMt3 oAppend to (tCons3 te tNil3)) :=
  pe3_lm PySem.F.slot_list_append PySem.F.type_list_append mt_append m3_append ho (pa3_cons he pa3_nil hs) hbase hfew hline hs hplain
theorem pe3_extend (ho : PE3 X o to) (he : PE3 X e te)
    (hbase : attributeBase o "extend" X.env (eval o X.env) = eval o X.env := by rfl)
    (hfew : ((backTo cpos (starEach [e] X.env)).all (fun x => !x.1) && (backToKw cpos (keywordEach [] X.env)).all (fun x => x.1.isSome) && decide (([e] : List Expr).length + ([] : List Keyword).length + (if ([] : List Keyword).isEmpty then 0 else 1) < 30)) = true := by rfl)
    (hline : (apos.endLine == cpos.line) = true := by rfl) (hs : starEach [e] X.env = (false, eval e X.env) :: starEach [] X.env := by rfl) (hplain : (backTo cpos (starEach [] X.env)).any (·.1) = false := by rfl) :
    PE3 X (.Call (.Attribute o "extend" apos) [e] [] cpos) (tMt3 oExtend to (tCons3 te tNil3)) :=
  pe3_lm PySem.F.slot_list_extend PySem.F.type_list_extend mt_extend m3_extend ho (pa3_cons he pa3_nil hs) hbase hfew hline hs hplain
theorem pe3_count (ho : PE3 X o to) (he : PE3 X e te)
    (hbase : attributeBase o "count" X.env (eval o X.env) = eval o X.env := by rfl)
    (hfew : ((backTo cpos (starEach [e] X.env)).all (fun x => !x.1) && (backToKw cpos (keywordEach [] X.env)).all (fun x => x.1.isSome) && decide (([e] : List Expr).length + ([] : List Keyword).length + (if ([] : List Keyword).isEmpty then 0 else 1) < 30)) = true := by rfl)
    (hline : (apos.endLine == cpos.line) = true := by rfl) (hs : starEach [e] X.env = (false, eval e X.env) :: starEach [] X.env := by rfl) (hplain : (backTo cpos (starEach [] X.env)).any (·.1) = false := by rfl) :
    PE3 X (.Call (.Attribute o "count" apos) [e] [] cpos) (tMt3 oCount to (tCons3 te tNil3)) :=
  pe3_lm PySem.F.slot_list_count PySem.F.type_list_count mt_lcount m3_count ho (pa3_cons he pa3_nil hs) hbase hfew hline hs hplain
theorem pe3_insert (ho : PE3 X o to) (he : PE3 X e te) (hf : PE3 X f tf)
    (hbase : attributeBase o "insert" X.env (eval o X.env) = eval o X.env := by rfl)
    (hfew : ((backTo cpos (starEach [e, f] X.env)).all (fun x => !x.1) && (backToKw cpos (keywordEach [] X.env)).all (fun x => x.1.isSome) && decide (([e, f] : List Expr).length + ([] : List Keyword).length + (if ([] : List Keyword).isEmpty then 0 else 1) < 30)) = true := by rfl)
    (hline : (apos.endLine == cpos.line) = true := by rfl) (hs : starEach [e, f] X.env = (false, eval e X.env) :: starEach [f] X.env := by rfl) (hs2 : starEach [f] X.env = (false, eval f X.env) :: starEach [] X.env := by rfl) (hplain : (backTo cpos (starEach [f] X.env)).any (·.1) = false := by rfl) :
    PE3 X (.Call (.Attribute o "insert" apos) [e, f] [] cpos) (tMt3 oInsert to (tCons3 te (tCons3 tf tNil3))) :=
  pe3_lm PySem.F.slot_list_insert PySem.F.type_list_insert mt_insert m3_insert ho (pa3_cons he (pa3_cons hf pa3_nil hs2) hs) hbase hfew hline hs hplain
end

/-! ### methods of dicts -/
def isDic (S : Sto) : D → Prop
  | .loc a => match S a with
    | some (.dK _) | some (.dT _) | some (.fK _) | some (.fT _) => True
    | _ => False
  | _ => False
theorem isDic_of {K : PySem.W.Frag} {S : Sto} {H : Hp} {x : D} {v : V} (r : SRel K S H) (dx : Dv K H v x) (h : isDic S x) : ∃ a, x = .loc a ∧ v = .ref a ∧ IsD H a := by
  cases dx with
  | loc a =>
    refine ⟨a, rfl, rfl, ?_⟩
    unfold isDic at h
    dsimp only at h
    split at h
    · next e =>
      obtain ⟨u, h1, h2⟩ := r _ _ e
      cases u <;> first | exact h2.elim | exact .inl ⟨_, .inl h1⟩
    · next e =>
      obtain ⟨u, h1, h2⟩ := r _ _ e
      cases u <;> first | exact h2.elim | exact .inr ⟨_, .inl h1⟩
    · next e =>
      obtain ⟨u, h1, h2⟩ := r _ _ e
      cases u with
      | frz o u => cases u <;> first | exact h2.elim | exact .inl ⟨_, .inr ⟨_, h1⟩⟩
      | _ => exact h2.elim
    · next e =>
      obtain ⟨u, h1, h2⟩ := r _ _ e
      cases u with
      | frz o u => cases u <;> first | exact h2.elim | exact .inr ⟨_, .inr ⟨_, h1⟩⟩
      | _ => exact h2.elim
    · exact h.elim
  | _ => exact h.elim
/-- d.get(k, x) -/
def tGet3 (td ty tx : TE3) : TE3 := fun τ S Q => td τ S fun x S1 => isDic S1 x ∧ ty τ S1 fun y S2 => tx τ S2 fun z S3 => match x with
  | .loc a => dGet (S3 a) y fun o => Q (o.getD z) S3
  | _ => False
def tGet13 (td ty : TE3) : TE3 := fun τ S Q => td τ S fun x S1 => isDic S1 x ∧ ty τ S1 fun y S2 => match x with
  | .loc a => dGet (S2 a) y fun o => Q (o.getD .non) S2
  | _ => False
section
variable {o e f : Expr} {td ty tx : TE3} {apos cpos : Pos}
theorem getD_of {K : PySem.W.Frag} {H : Hp} {o : Option D} {ov : Option V} {z : D} {vz : V} (dz : Dv K H vz z) (m : match o with
    | some d => ∃ v, ov = some v ∧ Dv K H v d
    | none => ov = none) : Dv K H (ov.getD vz) (o.getD z) := by
  cases o with
  | none =>
    have m' : ov = none := m
    rw [m']
    exact dz
  | some d =>
    obtain ⟨v, e, dv⟩ := m
    rw [e]
    exact dv
theorem pe3_get (hu : X.A.units + 66 < cLine) (ho : PE3 X o td) (he : PE3 X e ty) (hf : PE3 X f tx) (m : M2 X o "get" apos e f cpos := by exact ⟨rfl, rfl, rfl, rfl⟩) : PE3 X (.Call (.Attribute o "get" apos) [e, f] [] cpos) (tGet3 td ty tx) := by
  refine PE.weak (pe_dget2 (by omega) ho he hf m) fun σ H Q ⟨τ, S, P, R, h, c⟩ => ⟨τ, S, _, R, h, fun x S1 vx H1 ⟨h0, h1⟩ s1 r1 d1 => ?_⟩
  obtain ⟨a, rfl, rfl, hd⟩ := isDic_of r1 d1 h0
  refine ⟨a, rfl, hd, τ, S1, _, R.at s1 r1, h1, fun y S2 vy H2 h2 s2 r2 d2 => ?_⟩
  refine ⟨τ, S2, _, R.at (s1.trans s2) r2, h2, fun z S3 vz H3 h3 s3 r3 d3 => ?_⟩
  obtain ⟨ov, o2, g, q, mm⟩ := dGet_of r3 (d2.ext s3.ext) h3
  exact ⟨o2, g, c _ _ _ _ q ((s1.trans s2).trans s3) r3 (getD_of d3 mm)⟩
theorem pe3_get1 (hu : X.A.units + 66 < cLine) (ho : PE3 X o td) (he : PE3 X e ty) (m : M1 X o "get" apos e cpos := by exact ⟨rfl, rfl, rfl, rfl⟩) : PE3 X (.Call (.Attribute o "get" apos) [e] [] cpos) (tGet13 td ty) := by
  refine PE.weak (pe_dget1 (by omega) ho he m) fun σ H Q ⟨τ, S, P, R, h, c⟩ => ⟨τ, S, _, R, h, fun x S1 vx H1 ⟨h0, h1⟩ s1 r1 d1 => ?_⟩
  obtain ⟨a, rfl, rfl, hd⟩ := isDic_of r1 d1 h0
  refine ⟨a, rfl, hd, τ, S1, _, R.at s1 r1, h1, fun y S2 vy H2 h2 s2 r2 d2 => ?_⟩
  obtain ⟨ov, o2, g, q, mm⟩ := dGet_of r2 d2 h2
  exact ⟨o2, g, c _ _ _ _ q (s1.trans s2) r2 (getD_of .non mm)⟩
end
/-- {}: a dict of the kind that is wanted -/
def tDNew3 : TE3 := fun _ S Q => (∀ p, S p = none → Q (.loc p) (up S p (.dK []))) ∨ ∀ p, S p = none → Q (.loc p) (up S p (.dT []))
theorem PE.or {e : Expr} {t t' : TE} (h : PE X e t) (h' : PE X e t') : PE X e (fun σ H Q => t σ H Q ∨ t' σ H Q) := ⟨fun pins s σ H Q I q => by
  rcases q with q | q
  · exact h.run pins s σ H Q I q
  · exact h'.run pins s σ H Q I q⟩
theorem pe3_dnew {pos : Pos} : PE3 X (.Dict [] [] pos) tDNew3 := by
  refine PE.weak (PE.or pe_dnewK pe_dnewT) fun σ H Q ⟨τ, S, P, R, h, c⟩ => ?_
  rcases h with h | h
  · exact .inl fun p hp => c _ _ _ _ (h p (R.st.fresh hp)) (.new hp) (R.st.new hp .nil) (.loc p)
  · exact .inr fun p hp => c _ _ _ _ (h p (R.st.fresh hp)) (.new hp) (R.st.new hp .nil) (.loc p)

/-! ### texts -/
/-- s.join(xs) -/
def oJoin (s x : D) (S : Sto) (Q : VK3) : Prop := match s with
  | .str a => match seqD S x with
    | some ds => match strsD ds with
      | some ys => (ys.map (·.length)).sum + ys.length * a.length ≤ 16777216 ∧ Q (.str (Txt.join a ys)) S
      | none => False
    | none => False
  | _ => False
def isStr : D → Prop
  | .str _ => True
  | _ => False
def tJoin3 (to te : TE3) : TE3 := fun τ S Q => to τ S fun s S1 => isStr s ∧ te τ S1 fun x S2 => oJoin s x S2 Q
theorem pe3_join {o e : Expr} {to te : TE3} {apos pos : Pos} (ho : PE3 X o to) (he : PE3 X e te) (hs : starEach [e] X.env = [(false, eval e X.env)] := by rfl) (hbase : attributeBase o "join" X.env (eval o X.env) = eval o X.env := by rfl) (hline : (apos.endLine == pos.line) = true := by rfl) :
    PE3 X (.Call (.Attribute o "join" apos) [e] [] pos) (tJoin3 to te) := by
  refine PE.weak (pe_join ho he hs hbase hline) fun σ H Q ⟨τ, S, P, R, h, c⟩ => ⟨τ, S, _, R, h, fun s S1 vs H1 ⟨h0, h1⟩ s1 r1 d1 => ?_⟩
  cases d1 <;> first | exact h0.elim | skip
  refine ⟨⟨_, rfl⟩, τ, S1, _, R.at s1 r1, h1, fun x S2 vx H2 h2 s2 r2 d2 => ?_⟩
  unfold oJoin at h2
  dsimp only at h2
  split at h2
  · next e1 =>
    split at h2
    · next e2 =>
      obtain ⟨a, us, rfl, k1, k2⟩ := seqD_of r2 d2 e1
      rw [strsD_of e2] at k2
      rw [k2.strs] at k1
      exact ⟨_, a, _, rfl, rfl, k1, h2.1, c _ _ _ _ h2.2 (s1.trans s2) r2 (.str _)⟩
    · exact h2.elim
  · exact h2.elim
end L3
/-! L3Simp: readings by simp. -/
namespace L3
open PySem PySem.Spec PyProof.Rows L2

/-! ### slots -/
def sget : St3 → Nat → Option D
  | [], _ => none
  | x :: _, 0 => x
  | _ :: r, n + 1 => sget r n
@[simp] theorem sget_zero (x : Option D) (r : St3) : sget (x :: r) 0 = x := rfl
@[simp] theorem sget_succ (x : Option D) (r : St3) (n : Nat) : sget (x :: r) (n + 1) = sget r n := rfl
theorem sget_eq : ∀ (τ : St3) (i : Nat) (d : D), τ[i]? = some (some d) ↔ sget τ i = some d
  | [], i, d => by simp [sget]
  | x :: r, 0, d => by simp [sget]
  | x :: r, i + 1, d => by simpa [sget] using sget_eq r i d
/-- what must be there: Q of it -/
def opt {α : Type} : Option α → (α → Prop) → Prop
  | some x, Q => Q x
  | none, _ => False
@[simp] theorem opt_some {α : Type} (x : α) (Q : α → Prop) : opt (some x) Q = Q x := rfl
@[simp] theorem opt_none {α : Type} (Q : α → Prop) : opt none Q = False := rfl
/-- the list at an address -/
def atL : Option MO → (List D → Prop) → Prop
  | some (.lst ds), Q => Q ds
  | _, _ => False
@[simp] theorem atL_lst (ds : List D) (Q : List D → Prop) : atL (some (.lst ds)) Q = Q ds := rfl
def asB : D → (Bool → Prop) → Prop
  | .bl k, Q => Q k
  | _, _ => False
@[simp] theorem asB_bl (k : Bool) (Q : Bool → Prop) : asB (.bl k) Q = Q k := rfl
def asI : D → (Int → Prop) → Prop
  | .int k, Q => Q k
  | _, _ => False
@[simp] theorem asI_int (k : Int) (Q : Int → Prop) : asI (.int k) Q = Q k := rfl
@[simp] theorem tVar3_eq (i : Nat) (τ : St3) (S : Sto) (Q : VK3) : tVar3 i τ S Q = opt (sget τ i) fun d => Q d S := by
  unfold tVar3
  split
  · next d e =>
    rw [sget_eq] at e
    rw [e]
    rfl
  · next h =>
    cases q : sget τ i with
    | none => rfl
    | some d => exact (h d ((sget_eq τ i d).mpr q)).elim
@[simp] theorem tAug3_eq (i : Nat) (te : TE3) (o : D → D → Sto → VK3 → Prop) (D' : Ends3) (τ : St3) (S : Sto) : tAug3 i te o D' τ S = opt (sget τ i) fun x => te τ S fun y S1 => o x y S1 fun z S2 => D'.nx (τ.set i (some z)) S2 := by
  unfold tAug3
  split
  · next d e =>
    rw [sget_eq] at e
    rw [e]
    rfl
  · next h =>
    cases q : sget τ i with
    | none => rfl
    | some d => exact (h d ((sget_eq τ i d).mpr q)).elim
@[simp] theorem up_at (S : Sto) (a b : Addr) (o : MO) : up S a o b = if b = a then some o else S b := rfl
theorem fg {P : VK3} {d : D} {S : Sto} (h : P d S) : Fg P d S := ⟨S, .refl S, h⟩

/-! ### items -/
@[simp] theorem ixN_lit (n k : Nat) : ixN n (OfNat.ofNat k : Int) = if k < n then some k else none := by
  have e : (OfNat.ofNat k : Int) = (k : Int) := rfl
  rw [e]
  unfold ixN
  rw [if_pos (by omega)]
  by_cases h : k < n
  · rw [if_pos (by omega), if_pos h]
    rfl
  · rw [if_neg (by omega), if_neg h]
@[simp] theorem atI_lit {α : Type} (xs : List α) (k : Nat) : atI xs (OfNat.ofNat k : Int) = xs[k]? := by
  unfold atI
  rw [ixN_lit]
  split
  · rfl
  · next h => exact (List.getElem?_eq_none (by omega)).symm
@[simp] theorem atI_zero {α : Type} (xs : List α) : atI xs 0 = xs[0]? := atI_lit xs 0
@[simp] theorem atI_one {α : Type} (xs : List α) : atI xs 1 = xs[1]? := atI_lit xs 1
@[simp] theorem ixN_zero (n : Nat) : ixN n 0 = if 0 < n then some 0 else none := ixN_lit n 0
@[simp] theorem ixN_one (n : Nat) : ixN n 1 = if 1 < n then some 1 else none := ixN_lit n 1
@[simp] theorem atI_2 {α : Type} (xs : List α) : atI xs 2 = xs[2]? := atI_lit xs 2
@[simp] theorem ixN_2 (n : Nat) : ixN n 2 = if 2 < n then some 2 else none := ixN_lit n 2
@[simp] theorem atI_3 {α : Type} (xs : List α) : atI xs 3 = xs[3]? := atI_lit xs 3
@[simp] theorem ixN_3 (n : Nat) : ixN n 3 = if 3 < n then some 3 else none := ixN_lit n 3
@[simp] theorem atI_4 {α : Type} (xs : List α) : atI xs 4 = xs[4]? := atI_lit xs 4
@[simp] theorem ixN_4 (n : Nat) : ixN n 4 = if 4 < n then some 4 else none := ixN_lit n 4
@[simp] theorem atI_5 {α : Type} (xs : List α) : atI xs 5 = xs[5]? := atI_lit xs 5
@[simp] theorem ixN_5 (n : Nat) : ixN n 5 = if 5 < n then some 5 else none := ixN_lit n 5
@[simp] theorem atI_6 {α : Type} (xs : List α) : atI xs 6 = xs[6]? := atI_lit xs 6
@[simp] theorem ixN_6 (n : Nat) : ixN n 6 = if 6 < n then some 6 else none := ixN_lit n 6
@[simp] theorem atI_7 {α : Type} (xs : List α) : atI xs 7 = xs[7]? := atI_lit xs 7
@[simp] theorem ixN_7 (n : Nat) : ixN n 7 = if 7 < n then some 7 else none := ixN_lit n 7
@[simp] theorem atI_8 {α : Type} (xs : List α) : atI xs 8 = xs[8]? := atI_lit xs 8
@[simp] theorem ixN_8 (n : Nat) : ixN n 8 = if 8 < n then some 8 else none := ixN_lit n 8
@[simp] theorem atI_9 {α : Type} (xs : List α) : atI xs 9 = xs[9]? := atI_lit xs 9
@[simp] theorem ixN_9 (n : Nat) : ixN n 9 = if 9 < n then some 9 else none := ixN_lit n 9
@[simp] theorem atI_10 {α : Type} (xs : List α) : atI xs 10 = xs[10]? := atI_lit xs 10
@[simp] theorem ixN_10 (n : Nat) : ixN n 10 = if 10 < n then some 10 else none := ixN_lit n 10
@[simp] theorem atI_11 {α : Type} (xs : List α) : atI xs 11 = xs[11]? := atI_lit xs 11
@[simp] theorem ixN_11 (n : Nat) : ixN n 11 = if 11 < n then some 11 else none := ixN_lit n 11
@[simp] theorem atI_12 {α : Type} (xs : List α) : atI xs 12 = xs[12]? := atI_lit xs 12
@[simp] theorem ixN_12 (n : Nat) : ixN n 12 = if 12 < n then some 12 else none := ixN_lit n 12

/-! ### tests -/
section
variable (S : Sto) (Q : VK3) (QB : Bool → Sto → Prop) (τ : St3)
@[simp] theorem tTest3_eq (t : TE3) : tTest3 t τ S QB = t τ S fun x S' => asB x fun k => QB k S' := by
  unfold tTest3
  congr 1
  funext x S'
  cases x <;> rfl
@[simp] theorem truD_non (q : Bool → Prop) : truD S .non q = q false := rfl
@[simp] theorem truD_bl (b : Bool) (q : Bool → Prop) : truD S (.bl b) q = q b := rfl
@[simp] theorem truD_int (i : Int) (q : Bool → Prop) : truD S (.int i) q = q (i != 0) := rfl
@[simp] theorem truD_str (y : Str) (q : Bool → Prop) : truD S (.str y) q = (y.length ≤ sizeLine ∧ q ((y.length : Int) != 0)) := rfl
@[simp] theorem truD_tup (ds : List D) (q : Bool → Prop) : truD S (.tup ds) q = q (!ds.isEmpty) := rfl
@[simp] theorem truD_rol (ds : List D) (q : Bool → Prop) : truD S (.rol ds) q = q (!ds.isEmpty) := rfl
def truL : Option MO → (Bool → Prop) → Prop
  | some (.lst ds), q => q (!ds.isEmpty)
  | some (.dK kvs), q => q (!kvs.isEmpty)
  | _, _ => False
@[simp] theorem truL_lst (ds : List D) (q : Bool → Prop) : truL (some (.lst ds)) q = q (!ds.isEmpty) := rfl
@[simp] theorem truL_dK (ds : List (Key × D)) (q : Bool → Prop) : truL (some (.dK ds)) q = q (!ds.isEmpty) := rfl
@[simp] theorem truD_loc (a : Addr) (q : Bool → Prop) : truD S (.loc a) q = truL (S a) q := by
  unfold truD
  dsimp only
  generalize S a = oa
  rcases oa with _ | ma
  · rfl
  · cases ma <;> rfl
@[simp] theorem tAndV3_eq (ta tb : TE3) : tAndV3 ta tb τ S Q = ta τ S fun x S1 => asB x fun c => if c = true then tb τ S1 Q else Q (.bl false) S1 := by
  unfold tAndV3
  congr 1
  funext x S'
  cases x <;> rfl
@[simp] theorem tOrV3_eq (ta tb : TE3) : tOrV3 ta tb τ S Q = ta τ S fun x S1 => asB x fun c => if c = true then Q (.bl true) S1 else tb τ S1 Q := by
  unfold tOrV3
  congr 1
  funext x S'
  cases x <;> rfl
@[simp] theorem tNotV3_eq (ta : TE3) : tNotV3 ta τ S Q = ta τ S fun x S1 => asB x fun c => Q (.bl (!c)) S1 := by
  unfold tNotV3
  congr 1
  funext x S'
  cases x <;> rfl

/-! ### operators -/
@[simp] theorem oAdd_int (i j : Int) : oAdd (.int i) (.int j) S Q = Q (.int (i + j)) S := rfl
@[simp] theorem oAdd_str (i j : Str) : oAdd (.str i) (.str j) S Q = (i.length + j.length ≤ sizeLine ∧ Q (.str (i ++ j)) S) := rfl
@[simp] theorem oAdd_tup (i j : List D) : oAdd (.tup i) (.tup j) S Q = (i.length + j.length ≤ sizeLine ∧ Q (.tup (i ++ j)) S) := rfl
@[simp] theorem oAdd_loc (a b : Addr) : oAdd (.loc a) (.loc b) S Q = atL (S a) fun xs => atL (S b) fun ys => xs.length + ys.length ≤ sizeLine ∧ ∀ p, S p = none → Q (.loc p) (up S p (.lst (xs ++ ys))) := by
  unfold oAdd
  dsimp only
  generalize S a = oa
  generalize S b = ob
  rcases oa with _ | ma
  · rcases ob with _ | mb
    · rfl
    · cases mb <;> rfl
  · rcases ob with _ | mb
    · cases ma <;> rfl
    · cases ma <;> cases mb <;> rfl
@[simp] theorem oI_int (C : Int → Int → Prop) (g : Int → Int → Int) (i j : Int) : oI C g (.int i) (.int j) S Q = (C i j ∧ Q (.int (g i j)) S) := rfl
@[simp] theorem oI0_int (g : Int → Int → Int) (i j : Int) : oI0 g (.int i) (.int j) S Q = Q (.int (g i j)) S := rfl
@[simp] theorem oMul_int (i j : Int) : oMul (.int i) (.int j) S Q = (MulC i j ∧ Q (.int (i * j)) S) := rfl
@[simp] theorem oMul_str (z : Str) (n : Int) : oMul (.str z) (.int n) S Q = (MulOk z n ∧ Q (.str (Txt.mul z n)) S) := rfl
@[simp] theorem oMul_loc (a : Addr) (k : Int) : oMul (.loc a) (.int k) S Q = atL (S a) fun xs => -(2 ^ 63) ≤ k ∧ k < 2 ^ 63 ∧ xs.length * k.toNat ≤ sizeLine ∧ ∀ p, S p = none → Q (.loc p) (up S p (.lst (List.replicate k.toNat xs).flatten)) := by
  unfold oMul
  dsimp only
  generalize S a = oa
  rcases oa with _ | ma
  · rfl
  · cases ma <;> rfl
@[simp] theorem oNeg_int (i : Int) : oNeg (.int i) S Q = Q (.int (-i)) S := rfl
@[simp] theorem oB_int (g : Int → Int → Bool) (i j : Int) : oB g (.int i) (.int j) S Q = Q (.bl (g i j)) S := rfl
@[simp] theorem oEq_ii (f : Bool → Bool) (i j : Int) : oEqG f (.int i) (.int j) S Q = Q (.bl (f (decide (i = j)))) S := rfl
@[simp] theorem oEq_bb (f : Bool → Bool) (i j : Bool) : oEqG f (.bl i) (.bl j) S Q = Q (.bl (f (decide (i = j)))) S := rfl
@[simp] theorem oEq_ss (f : Bool → Bool) (i j : Str) : oEqG f (.str i) (.str j) S Q = Q (.bl (f (decide (i = j)))) S := rfl
@[simp] theorem oEq_nn (f : Bool → Bool) : oEqG f .non .non S Q = Q (.bl (f true)) S := rfl
@[simp] theorem oEq_ni (f : Bool → Bool) (i : Int) : oEqG f .non (.int i) S Q = Q (.bl (f false)) S := rfl
@[simp] theorem oEq_in (f : Bool → Bool) (i : Int) : oEqG f (.int i) .non S Q = Q (.bl (f false)) S := rfl
@[simp] theorem oEq_is (f : Bool → Bool) (i : Int) (s : Str) : oEqG f (.int i) (.str s) S Q = Q (.bl (f false)) S := rfl
@[simp] theorem oEq_si (f : Bool → Bool) (i : Int) (s : Str) : oEqG f (.str s) (.int i) S Q = Q (.bl (f false)) S := rfl
@[simp] theorem oEq_ns (f : Bool → Bool) (s : Str) : oEqG f .non (.str s) S Q = Q (.bl (f false)) S := rfl
@[simp] theorem oEq_sn (f : Bool → Bool) (s : Str) : oEqG f (.str s) .non S Q = Q (.bl (f false)) S := rfl
theorem oEq_tup (f : Bool → Bool) (x : List D) (y : D) : oEqG f (.tup x) y S Q = ((D.tup x).plain ∧ (unl S y).plain ∧ Q (.bl (f (D.eqv (.tup x) (unl S y)))) S) := by cases y <;> rfl
theorem oEq_loc (f : Bool → Bool) (a : Addr) (y : D) : oEqG f (.loc a) y S Q = ((unl S (.loc a)).plain ∧ (unl S y).plain ∧ Q (.bl (f (D.eqv (unl S (.loc a)) (unl S y)))) S) := by cases y <;> rfl
@[simp] theorem unl_loc (a : Addr) {ds : List D} (h : S a = some (.lst ds)) : unl S (.loc a) = .rol ds := by
  unfold unl
  dsimp only
  rw [h]
@[simp] theorem unl_tup (ds : List D) : unl S (.tup ds) = .tup ds := rfl
@[simp] theorem oIs_non (f : Bool → Bool) (x : D) : oIsN f x .non S Q = Q (.bl (f (isN x))) S := rfl
@[simp] theorem oIs_bl (f : Bool → Bool) (a b : Bool) : oIsN f (.bl a) (.bl b) S Q = Q (.bl (f (decide (a = b)))) S := rfl
@[simp] theorem isN_non : isN .non = true := rfl
@[simp] theorem isN_bl (b : Bool) : isN (.bl b) = false := rfl
@[simp] theorem isN_int (b : Int) : isN (.int b) = false := rfl
@[simp] theorem isN_str (b : Str) : isN (.str b) = false := rfl
@[simp] theorem isN_tup (b : List D) : isN (.tup b) = false := rfl
@[simp] theorem isN_rol (b : List D) : isN (.rol b) = false := rfl
@[simp] theorem isN_loc (b : Addr) : isN (.loc b) = false := rfl
@[simp] theorem key_int (i : Int) : (D.int i).key = some (.inl i) := rfl
@[simp] theorem key_str (i : Str) : (D.str i).key = some (.inr i) := rfl
@[simp] theorem tkey_tup (ds : List D) : (D.tup ds).tkey = keysOf ds := rfl
@[simp] theorem dGet_dK (kvs : List (Key × D)) (y : D) (q : Option D → Prop) : dGet (some (.dK kvs)) y q = opt y.key fun k => q (look kvs k) := by
  unfold dGet
  dsimp only
  cases y.key <;> rfl
@[simp] theorem dGet_fK (kvs : List (Key × D)) (y : D) (q : Option D → Prop) : dGet (some (.fK kvs)) y q = opt y.key fun k => q (look kvs k) := by
  unfold dGet
  dsimp only
  cases y.key <;> rfl
@[simp] theorem dGet_dT (kvs : List (List Key × D)) (y : D) (q : Option D → Prop) : dGet (some (.dT kvs)) y q = opt y.tkey fun k => q (look kvs k) := by
  unfold dGet
  dsimp only
  cases y.tkey <;> rfl
@[simp] theorem dGet_fT (kvs : List (List Key × D)) (y : D) (q : Option D → Prop) : dGet (some (.fT kvs)) y q = opt y.tkey fun k => q (look kvs k) := by
  unfold dGet
  dsimp only
  cases y.tkey <;> rfl
/-- x in the thing at an address -/
def inL (f : Bool → Bool) (x : D) (o : Option MO) (q : Bool → Prop) : Prop := match o with
  | some (.lst ds) => x.plain ∧ (D.rol ds).plain ∧ q (f (ds.any fun y => D.eqv y x))
  | o => dGet o x fun r => q (f r.isSome)
@[simp] theorem inL_dK (f : Bool → Bool) (x : D) (kvs : List (Key × D)) (q : Bool → Prop) : inL f x (some (.dK kvs)) q = opt x.key fun k => q (f (look kvs k).isSome) := dGet_dK kvs x fun r => q (f r.isSome)
@[simp] theorem inL_dT (f : Bool → Bool) (x : D) (kvs : List (List Key × D)) (q : Bool → Prop) : inL f x (some (.dT kvs)) q = opt x.tkey fun k => q (f (look kvs k).isSome) := dGet_dT kvs x fun r => q (f r.isSome)
@[simp] theorem inL_fK (f : Bool → Bool) (x : D) (kvs : List (Key × D)) (q : Bool → Prop) : inL f x (some (.fK kvs)) q = opt x.key fun k => q (f (look kvs k).isSome) := dGet_fK kvs x fun r => q (f r.isSome)
@[simp] theorem inL_fT (f : Bool → Bool) (x : D) (kvs : List (List Key × D)) (q : Bool → Prop) : inL f x (some (.fT kvs)) q = opt x.tkey fun k => q (f (look kvs k).isSome) := dGet_fT kvs x fun r => q (f r.isSome)
@[simp] theorem inL_lst (f : Bool → Bool) (x : D) (ds : List D) (q : Bool → Prop) : inL f x (some (.lst ds)) q = (x.plain ∧ (D.rol ds).plain ∧ q (f (ds.any fun y => D.eqv y x))) := rfl
@[simp] theorem oIn_loc (f : Bool → Bool) (x : D) (a : Addr) : oInG f x (.loc a) S Q = inL f x (S a) fun k => Q (.bl k) S := by
  unfold oInG inL
  cases x <;> dsimp only <;> (generalize S a = oa; rcases oa with _ | (_ | _ | _ | _ | _ | _ | _ | _) <;> rfl)
@[simp] theorem oIn_ss (f : Bool → Bool) (s t : Str) : oInG f (.str s) (.str t) S Q = Q (.bl (f (!(Builtin.Str.occurrences t s 0 t.length 1).isEmpty))) S := rfl
theorem oIn_tup (f : Bool → Bool) (x : D) (ds : List D) : oInG f x (.tup ds) S Q = (x.flat = true ∧ ds.all D.flat = true ∧ Q (.bl (f (ds.any fun y => D.eqv y x))) S) := by cases x <;> rfl

/-! ### items, slices -/
@[simp] theorem oIx_tup (ds : List D) (i : Int) : oIx (.tup ds) (.int i) S Q = opt (atI ds i) fun d => Q d S := by
  unfold oIx
  dsimp only
  cases atI ds i <;> rfl
@[simp] theorem oIx_rol (ds : List D) (i : Int) : oIx (.rol ds) (.int i) S Q = opt (atI ds i) fun d => Q d S := by
  unfold oIx
  dsimp only
  cases atI ds i <;> rfl
@[simp] theorem oIx_str (z : Str) (i : Int) : oIx (.str z) (.int i) S Q = (z.length ≤ sizeLine ∧ opt (atI z.cps.toList i) fun c => Q (.str ⟨#[c]⟩) S) := by
  unfold oIx
  dsimp only
  cases atI z.cps.toList i <;> rfl
@[simp] theorem oIx_loc (a : Addr) (y : D) : oIx (.loc a) y S Q = oIxL (S a) y S Q := by cases y <;> rfl
@[simp] theorem oIxL_lst (ds : List D) (i : Int) : oIxL (some (.lst ds)) (.int i) S Q = opt (atI ds i) fun d => Q d S := by
  unfold oIxL
  dsimp only
  cases atI ds i <;> rfl
theorem optm {α : Type} (r : Option α) (q : α → Prop) : (match r with
    | some d => q d
    | none => False) = opt r q := by cases r <;> rfl
@[simp] theorem oIxL_dK (kvs : List (Key × D)) (y : D) : oIxL (some (.dK kvs)) y S Q = opt y.key fun k => opt (look kvs k) fun d => Q d S := by
  unfold oIxL
  dsimp only
  rw [dGet_dK]
  congr 1
  funext k
  cases look kvs k <;> rfl
@[simp] theorem oIxL_dT (kvs : List (List Key × D)) (y : D) : oIxL (some (.dT kvs)) y S Q = opt y.tkey fun k => opt (look kvs k) fun d => Q d S := by
  unfold oIxL
  dsimp only
  rw [dGet_dT]
  congr 1
  funext k
  cases look kvs k <;> rfl
@[simp] theorem oIxL_fK (kvs : List (Key × D)) (y : D) : oIxL (some (.fK kvs)) y S Q = opt y.key fun k => opt (look kvs k) fun d => Q d S := by
  unfold oIxL
  dsimp only
  rw [dGet_fK]
  congr 1
  funext k
  cases look kvs k <;> rfl
@[simp] theorem oIxL_fT (kvs : List (List Key × D)) (y : D) : oIxL (some (.fT kvs)) y S Q = opt y.tkey fun k => opt (look kvs k) fun d => Q d S := by
  unfold oIxL
  dsimp only
  rw [dGet_fT]
  congr 1
  funext k
  cases look kvs k <;> rfl
@[simp] theorem tPart3_eq (t : TE3) (q : Option Int → Sto → Prop) : tPart3 t τ S q = t τ S fun x S1 => asI x fun i => q (some i) S1 := by
  unfold tPart3
  congr 1
  funext x S'
  cases x <;> rfl
@[simp] theorem oSl_tup (ds : List D) (lo hi : Option Int) : oSl (.tup ds) lo hi S Q = Q (.tup (cutD ds lo hi)) S := rfl
@[simp] theorem oSl_rol (ds : List D) (lo hi : Option Int) : oSl (.rol ds) lo hi S Q = ∀ p, S p = none → Q (.loc p) (up S p (.lst (cutD ds lo hi))) := rfl
@[simp] theorem oSl_loc (a : Addr) (lo hi : Option Int) : oSl (.loc a) lo hi S Q = atL (S a) fun ds => ∀ p, S p = none → Q (.loc p) (up S p (.lst (cutD ds lo hi))) := by
  unfold oSl
  dsimp only
  generalize S a = oa
  rcases oa with _ | ma
  · rfl
  · cases ma <;> rfl

/-! ### targets, stores -/
section
variable (q : St3 → Sto → Prop)
@[simp] theorem gNil3_nil : gNil3 [] τ S q = q τ S := rfl
@[simp] theorem gCons3_cons (t : TG3) (u : TGs3) (d : D) (r : List D) : gCons3 t u (d :: r) τ S q = t d τ S fun τ' S' => u r τ' S' q := rfl
@[simp] theorem gTup3_tup (n : Nat) (t : TGs3) (ds : List D) : gTup3 n t (.tup ds) τ S q = (ds.length = n ∧ t ds τ S q) := rfl
end
section
variable (q : Sto → Prop)
/-- a store into the thing at an address -/
def setL (a : Addr) (o : Option MO) (i v : D) (S : Sto) (q : Sto → Prop) : Prop := match o with
  | some (.lst ds) => asI i fun k => opt (ixN ds.length k) fun j => q (up S a (.lst (ds.set j v)))
  | some (.dK kvs) => opt i.key fun k => kvs.length < sizeLine ∧ q (up S a (.dK (put kvs k v)))
  | some (.dT kvs) => opt i.tkey fun k => kvs.length < sizeLine ∧ q (up S a (.dT (put kvs k v)))
  | _ => False
@[simp] theorem setL_lst (a : Addr) (ds : List D) (i v : D) : setL a (some (.lst ds)) i v S q = asI i fun k => opt (ixN ds.length k) fun j => q (up S a (.lst (ds.set j v))) := rfl
@[simp] theorem setL_dK (a : Addr) (kvs : List (Key × D)) (i v : D) : setL a (some (.dK kvs)) i v S q = opt i.key fun k => kvs.length < sizeLine ∧ q (up S a (.dK (put kvs k v))) := rfl
@[simp] theorem setL_dT (a : Addr) (kvs : List (List Key × D)) (i v : D) : setL a (some (.dT kvs)) i v S q = opt i.tkey fun k => kvs.length < sizeLine ∧ q (up S a (.dT (put kvs k v))) := rfl
@[simp] theorem oSet_loc (a : Addr) (i v : D) : oSet (.loc a) i v S q = setL a (S a) i v S q := by
  unfold oSet setL
  dsimp only
  generalize S a = oa
  rcases oa with _ | ma
  · rfl
  · cases ma with
    | lst ds =>
      cases i with
      | int k =>
        dsimp only [asI]
        cases ixN ds.length k <;> rfl
      | _ => rfl
    | dK kvs =>
      dsimp only
      cases i.key <;> rfl
    | dT kvs =>
      dsimp only
      cases i.tkey <;> rfl
    | _ => rfl
end
@[simp] theorem tPar3_eq (i j : Nat) (D' : Ends3) (e f : TE3) : tPar3 i j (tCons3 e (tCons3 f tNil3)) D' τ S = e τ S fun v S1 => f τ S1 fun w S2 => D'.nx ((τ.set i (some v)).set j (some w)) S2 := by
  simp [tPar3]
@[simp] theorem tParT3_eq (i j l : Nat) (D' : Ends3) (e f g : TE3) : tParT3 i j l (tCons3 e (tCons3 f (tCons3 g tNil3))) D' τ S = e τ S fun v S1 => f τ S1 fun w S2 => g τ S2 fun u S3 => D'.nx (((τ.set i (some v)).set j (some w)).set l (some u)) S3 := by
  simp [tParT3]
@[simp] theorem oIAdd_int (i j : Int) : oIAdd (.int i) (.int j) S Q = Q (.int (i + j)) S := rfl
@[simp] theorem oIAdd_str (i j : Str) : oIAdd (.str i) (.str j) S Q = (i.length + j.length ≤ sizeLine ∧ Q (.str (i ++ j)) S) := rfl
@[simp] theorem oIAdd_loc (a b : Addr) : oIAdd (.loc a) (.loc b) S Q = atL (S a) fun xs => atL (S b) fun ys => xs.length + ys.length ≤ sizeLine ∧ Q (.loc a) (up S a (.lst (xs ++ ys))) := by
  unfold oIAdd
  dsimp only
  generalize S a = oa
  generalize S b = ob
  rcases oa with _ | ma
  · rcases ob with _ | mb
    · rfl
    · cases mb <;> rfl
  · rcases ob with _ | mb
    · cases ma <;> rfl
    · cases ma <;> cases mb <;> rfl

/-! ### what is walked -/
section
variable (R : List D → (Sto → Prop) → Sto → Prop)
def walkL (a : Addr) (o : Option MO) (S : Sto) (R : List D → (Sto → Prop) → Sto → Prop) : Prop := match o with
  | some (.lst ds) => R ds (fun S' => S' a = some (.lst ds)) S
  | some (.fK kvs) => R (kvs.map fun p => kD p.1) (fun S' => S' a = some (.fK kvs)) S
  | some (.fT kvs) => R (kvs.map fun p => .tup (p.1.map kD)) (fun S' => S' a = some (.fT kvs)) S
  | _ => False
@[simp] theorem walkL_lst (a : Addr) (ds : List D) : walkL a (some (.lst ds)) S R = R ds (fun S' => S' a = some (.lst ds)) S := rfl
@[simp] theorem walkL_fK (a : Addr) (kvs : List (Key × D)) : walkL a (some (.fK kvs)) S R = R (kvs.map fun p => kD p.1) (fun S' => S' a = some (.fK kvs)) S := rfl
@[simp] theorem walkL_fT (a : Addr) (kvs : List (List Key × D)) : walkL a (some (.fT kvs)) S R = R (kvs.map fun p => .tup (p.1.map kD)) (fun S' => S' a = some (.fT kvs)) S := rfl
def walkD (d : D) (S : Sto) (R : List D → (Sto → Prop) → Sto → Prop) : Prop := match d with
  | .tup ds => R ds (fun _ => True) S
  | .rol ds => R ds (fun _ => True) S
  | .loc a => walkL a (S a) S R
  | _ => False
@[simp] theorem walkD_tup (ds : List D) : walkD (.tup ds) S R = R ds (fun _ => True) S := rfl
@[simp] theorem walkD_rol (ds : List D) : walkD (.rol ds) S R = R ds (fun _ => True) S := rfl
@[simp] theorem walkD_loc (a : Addr) : walkD (.loc a) S R = walkL a (S a) S R := rfl
@[simp] theorem iSeq3_eq (te : TE3) : iSeq3 te τ S R = te τ S fun d S1 => walkD d S1 R := by
  unfold iSeq3 walkD walkL
  congr 1
@[simp] theorem iRng3_eq (e : TE3) : iRng3 (tCons3 e tNil3) τ S R = e τ S fun d S1 => asI d fun j => -(2 ^ 62) ≤ j ∧ j < 2 ^ 62 ∧ R (rng 0 j.toNat) (fun _ => True) S1 := by
  unfold iRng3
  simp only [tCons3, tNil3]
  congr 1
  funext d S1
  cases d <;> rfl
@[simp] theorem iRng23_eq (e f : TE3) : iRng23 (tCons3 e (tCons3 f tNil3)) τ S R = e τ S fun d S1 => f τ S1 fun d' S2 => asI d fun i => asI d' fun j => (-(2 ^ 62) ≤ i ∧ i < 2 ^ 62 ∧ -(2 ^ 62) ≤ j ∧ j < 2 ^ 62) ∧ R (rng i (j - i).toNat) (fun _ => True) S2 := by
  unfold iRng23
  simp only [tCons3, tNil3]
  congr 1
  funext d S1
  congr 1
  funext d' S2
  cases d <;> cases d' <;> rfl
end

/-! ### built-ins -/
@[simp] theorem oLen_str (z : Str) : oLen [.str z] S Q = (z.length ≤ sizeLine ∧ Q (.int z.length) S) := rfl
@[simp] theorem oLen_tup (ds : List D) : oLen [.tup ds] S Q = Q (.int ds.length) S := rfl
@[simp] theorem oLen_rol (ds : List D) : oLen [.rol ds] S Q = Q (.int ds.length) S := rfl
def lenL : Option MO → (Nat → Prop) → Prop
  | some (.lst ds), q => q ds.length
  | some (.dK kvs), q => q kvs.length
  | some (.dT kvs), q => q kvs.length
  | _, _ => False
@[simp] theorem lenL_lst (ds : List D) (q : Nat → Prop) : lenL (some (.lst ds)) q = q ds.length := rfl
@[simp] theorem lenL_dK (ds : List (Key × D)) (q : Nat → Prop) : lenL (some (.dK ds)) q = q ds.length := rfl
@[simp] theorem lenL_dT (ds : List (List Key × D)) (q : Nat → Prop) : lenL (some (.dT ds)) q = q ds.length := rfl
@[simp] theorem oLen_loc (a : Addr) : oLen [.loc a] S Q = lenL (S a) fun n => Q (.int n) S := by
  unfold oLen
  dsimp only
  generalize S a = oa
  rcases oa with _ | ma
  · rfl
  · cases ma <;> rfl
@[simp] theorem oInt_int (i : Int) : oInt [.int i] S Q = Q (.int i) S := rfl
@[simp] theorem oInt_bl (k : Bool) : oInt [.bl k] S Q = Q (.int (if k then 1 else 0)) S := rfl
@[simp] theorem oAbs_int (i : Int) : oAbs [.int i] S Q = Q (.int (if i < 0 then -i else i)) S := rfl
@[simp] theorem lstD_rol (ds : List D) : lstD S (.rol ds) = some ds := rfl
@[simp] theorem lstD_loc (a : Addr) {ds : List D} (h : S a = some (.lst ds)) : lstD S (.loc a) = some ds := by
  unfold lstD
  dsimp only
  rw [h]
@[simp] theorem seqD_tup (ds : List D) : seqD S (.tup ds) = some ds := rfl
@[simp] theorem seqD_rol (ds : List D) : seqD S (.rol ds) = some ds := rfl
@[simp] theorem seqD_loc (a : Addr) {ds : List D} (h : S a = some (.lst ds)) : seqD S (.loc a) = some ds := by
  unfold seqD
  dsimp only
  rw [h]
theorem oInts_eq (f : List Int → (Int → Prop) → Prop) (d : D) : oInts f [d] S Q = opt (lstD S d) fun ds => opt (intsD ds) fun ns => f ns fun i => Q (.int i) S := by
  unfold oInts
  dsimp only
  cases lstD S d with
  | none => rfl
  | some ds =>
    dsimp only [opt]
    cases intsD ds <;> rfl
theorem oBls_eq (f : List Bool → Bool) (d : D) : oBls f [d] S Q = opt (lstD S d) fun ds => opt (blsD ds) fun bs => Q (.bl (f bs)) S := by
  unfold oBls
  dsimp only
  cases lstD S d with
  | none => rfl
  | some ds =>
    dsimp only [opt]
    cases blsD ds <;> rfl
@[simp] theorem oTuple_eq (d : D) : oTuple [d] S Q = opt (seqD S d) fun ds => Q (.tup ds) S := by
  unfold oTuple
  dsimp only
  cases seqD S d <;> rfl
@[simp] theorem oList_eq (d : D) : oList [d] S Q = opt (seqD S d) fun ds => ∀ p, S p = none → Q (.loc p) (up S p (.lst ds)) := by
  unfold oList
  dsimp only
  cases seqD S d <;> rfl
@[simp] theorem oMax_ii (i j : Int) : oMax [.int i, .int j] S Q = Q (.int (if j > i then j else i)) S := rfl
@[simp] theorem oMin_ii (i j : Int) : oMin [.int i, .int j] S Q = Q (.int (if j < i then j else i)) S := rfl
@[simp] theorem oIsi_eq (d : D) (T : String) : oIsi [d, .ty T] S Q = opt (tyN S d) fun t => opt (isiT t T) fun b => Q (.bl b) S := by
  unfold oIsi
  dsimp only
  cases tyN S d with
  | none => rfl
  | some t =>
    dsimp only [opt]
    cases isiT t T <;> rfl
@[simp] theorem tyN_non : tyN S .non = some "NoneType" := rfl
@[simp] theorem tyN_bl (b : Bool) : tyN S (.bl b) = some "bool" := rfl
@[simp] theorem tyN_int (b : Int) : tyN S (.int b) = some "int" := rfl
@[simp] theorem tyN_str (b : Str) : tyN S (.str b) = some "str" := rfl
@[simp] theorem tyN_tup (b : List D) : tyN S (.tup b) = some "tuple" := rfl
@[simp] theorem tyN_rol (b : List D) : tyN S (.rol b) = some "list" := rfl
@[simp] theorem tyN_lst (a : Addr) {ds : List D} (h : S a = some (.lst ds)) : tyN S (.loc a) = some "list" := by
  unfold tyN
  dsimp only
  rw [h]
@[simp] theorem isi_tt : isiT "tuple" "tuple" = some true := rfl
@[simp] theorem isi_ti : isiT "tuple" "int" = some false := rfl
@[simp] theorem isi_ts : isiT "tuple" "str" = some false := rfl
@[simp] theorem isi_tb : isiT "tuple" "bool" = some false := rfl
@[simp] theorem isi_it : isiT "int" "tuple" = some false := rfl
@[simp] theorem isi_ii : isiT "int" "int" = some true := rfl
@[simp] theorem isi_is : isiT "int" "str" = some false := rfl
@[simp] theorem isi_ib : isiT "int" "bool" = some false := rfl
@[simp] theorem isi_st : isiT "str" "tuple" = some false := rfl
@[simp] theorem isi_si : isiT "str" "int" = some false := rfl
@[simp] theorem isi_ss : isiT "str" "str" = some true := rfl
@[simp] theorem isi_sb : isiT "str" "bool" = some false := rfl
@[simp] theorem isi_bt : isiT "bool" "tuple" = some false := rfl
@[simp] theorem isi_bi : isiT "bool" "int" = some true := rfl
@[simp] theorem isi_bs : isiT "bool" "str" = some false := rfl
@[simp] theorem isi_bb : isiT "bool" "bool" = some true := rfl
@[simp] theorem isi_nt : isiT "NoneType" "tuple" = some false := rfl
@[simp] theorem isi_ni : isiT "NoneType" "int" = some false := rfl
@[simp] theorem isi_ns : isiT "NoneType" "str" = some false := rfl
@[simp] theorem isi_nb : isiT "NoneType" "bool" = some false := rfl
@[simp] theorem isi_lt : isiT "list" "tuple" = some false := rfl

/-! ### methods -/
@[simp] theorem isLst_loc (a : Addr) : isLst S (.loc a) = ∃ ds, S a = some (.lst ds) := rfl
@[simp] theorem oAppend_loc (a : Addr) (d : D) : oAppend (.loc a) [d] S Q = atL (S a) fun xs => xs.length < sizeLine ∧ Q .non (up S a (.lst (xs ++ [d]))) := by
  unfold oAppend
  dsimp only
  generalize S a = oa
  rcases oa with _ | ma
  · rfl
  · cases ma <;> rfl
@[simp] theorem oInsert_loc (a : Addr) (i : Int) (d : D) : oInsert (.loc a) [.int i, d] S Q = atL (S a) fun xs => xs.length < sizeLine ∧ 0 ≤ i ∧ i < 2 ^ 63 ∧ Q .non (up S a (.lst (xs.take i.toNat ++ [d] ++ xs.drop i.toNat))) := by
  unfold oInsert
  dsimp only
  generalize S a = oa
  rcases oa with _ | ma
  · rfl
  · cases ma <;> rfl
@[simp] theorem oExtend_loc (a b : Addr) : oExtend (.loc a) [.loc b] S Q = atL (S a) fun xs => atL (S b) fun ys => xs.length + ys.length ≤ sizeLine ∧ Q .non (up S a (.lst (xs ++ ys))) := by
  unfold oExtend
  dsimp only
  generalize S a = oa
  generalize S b = ob
  rcases oa with _ | ma
  · rcases ob with _ | mb
    · rfl
    · cases mb <;> rfl
  · rcases ob with _ | mb
    · cases ma <;> rfl
    · cases ma <;> cases mb <;> rfl
def isDL : Option MO → Prop
  | some (.dK _) | some (.dT _) | some (.fK _) | some (.fT _) => True
  | _ => False
@[simp] theorem isDL_dK (k : List (Key × D)) : isDL (some (.dK k)) = True := rfl
@[simp] theorem isDL_dT (k : List (List Key × D)) : isDL (some (.dT k)) = True := rfl
@[simp] theorem isDL_fK (k : List (Key × D)) : isDL (some (.fK k)) = True := rfl
@[simp] theorem isDL_fT (k : List (List Key × D)) : isDL (some (.fT k)) = True := rfl
@[simp] theorem isDic_loc (a : Addr) : isDic S (.loc a) = isDL (S a) := rfl
def asLoc : D → (Addr → Prop) → Prop
  | .loc a, q => q a
  | _, _ => False
@[simp] theorem asLoc_loc (a : Addr) (q : Addr → Prop) : asLoc (.loc a) q = q a := rfl
@[simp] theorem tGet3_eq (td ty tx : TE3) : tGet3 td ty tx τ S Q = td τ S fun x S1 => isDic S1 x ∧ ty τ S1 fun y S2 => tx τ S2 fun z S3 => asLoc x fun a => dGet (S3 a) y fun o => Q (o.getD z) S3 := by
  unfold tGet3
  congr 1
  funext x S1
  cases x <;> rfl
@[simp] theorem tGet13_eq (td ty : TE3) : tGet13 td ty τ S Q = td τ S fun x S1 => isDic S1 x ∧ ty τ S1 fun y S2 => asLoc x fun a => dGet (S2 a) y fun o => Q (o.getD .non) S2 := by
  unfold tGet13
  congr 1
  funext x S1
  cases x <;> rfl
@[simp] theorem isStr_str (s : Str) : isStr (.str s) = True := rfl
@[simp] theorem oJoin_str (a : Str) (x : D) : oJoin (.str a) x S Q = opt (seqD S x) fun ds => opt (strsD ds) fun ys => (ys.map (·.length)).sum + ys.length * a.length ≤ 16777216 ∧ Q (.str (Txt.join a ys)) S := by
  unfold oJoin
  dsimp only
  cases seqD S x with
  | none => rfl
  | some ds =>
    dsimp only [opt]
    cases strsD ds <;> rfl
@[simp] theorem tJoin3_eq (to te : TE3) : tJoin3 to te τ S Q = to τ S fun s S1 => isStr s ∧ te τ S1 fun x S2 => oJoin s x S2 Q := rfl
end
end L3
/-! L3Lt: data compared by the first place that differs. -/
namespace L3
open PySem PySem.Spec PyProof.Rows L2
open PySem.SeqAt
open PySem.W
mutual
/-- x < y, where the first place that differs can be compared -/
def pLt : PyData → PyData → Option Bool
  | .int a, .int b => some (decide (a < b))
  | .bool a, .bool b => some (decide (b2i a < b2i b))
  | .str x, .str y => some (decide (x.cps.toList < y.cps.toList))
  | .tuple xs, .tuple ys => pLtAll xs ys
  | _, _ => none
def pLtAll : List PyData → List PyData → Option Bool
  | [], [] => some false
  | [], _ :: _ => some true
  | _ :: _, [] => some false
  | x :: xs, y :: ys => if PyData.eqv x y = true then pLtAll xs ys else pLt x y
end
mutual
theorem tk_eqv : ∀ x y : PyData, PyData.eqv x y = true → keyToks x = keyToks y
  | .none, y, h => by cases y <;> first | rfl | simp [PyData.eqv] at h
  | .bool a, y, h => by
    cases y <;> first
      | (simp [PyData.eqv] at h; done)
      | (simp only [PyData.eqv, beq_iff_eq] at h; simp [keyToks, h])
  | .int a, y, h => by
    cases y <;> first
      | (simp [PyData.eqv] at h; done)
      | (simp only [PyData.eqv, beq_iff_eq] at h; simp [keyToks, h])
  | .str a, y, h => by
    cases y <;> first
      | (simp [PyData.eqv] at h; done)
      | (simp only [PyData.eqv, beq_iff_eq] at h; simp [keyToks, h])
  | .list xs, y, h => by
    cases y <;> first
      | (simp [PyData.eqv] at h; done)
      | (simp only [PyData.eqv] at h; simp only [keyToks]; exact tk_eqvAll _ _ h)
  | .tuple xs, y, h => by
    cases y <;> first
      | (simp [PyData.eqv] at h; done)
      | (simp only [PyData.eqv] at h; simp only [keyToks]; exact tk_eqvAll _ _ h)
  | .dict _, y, h => by cases y <;> first | rfl | simp [PyData.eqv] at h
theorem tk_eqvAll : ∀ xs ys : List PyData, PyData.eqvAll xs ys = true → keyToksAll xs = keyToksAll ys
  | [], [], _ => rfl
  | [], _ :: _, h => by simp [PyData.eqvAll] at h
  | _ :: _, [], h => by simp [PyData.eqvAll] at h
  | x :: xs, y :: ys, h => by
    rw [PyData.eqvAll, Bool.and_eq_true] at h
    rw [toks_all_cons, toks_all_cons, tk_eqv x y h.1, tk_eqvAll xs ys h.2]
end
mutual
theorem pLt_eqv : ∀ (x y : PyData) (b : Bool), PyData.eqv x y = true → pLt x y = some b → b = false
  | .int a, y, b, h, k => by
    cases y <;> first | (simp [pLt] at k; done) | (simp only [PyData.eqv, beq_iff_eq] at h; simp [pLt, h] at k; exact k)
  | .bool a, y, b, h, k => by
    cases y <;> first | (simp [pLt] at k; done) | (simp only [PyData.eqv, beq_iff_eq] at h; simp [pLt, h] at k; exact k)
  | .str a, y, b, h, k => by
    cases y <;> first | (simp [pLt] at k; done) | (simp only [PyData.eqv, beq_iff_eq] at h; subst h; simp only [pLt, Option.some.injEq] at k; rw [← k]; exact decide_eq_false (List.lt_irrefl _))
  | .tuple xs, y, b, h, k => by
    cases y <;> first | (simp [pLt] at k; done) | (simp only [PyData.eqv] at h; simp only [pLt] at k; exact pLtAll_eqv _ _ b h k)
  | .none, y, b, h, k => by simp [pLt] at k
  | .list _, y, b, h, k => by simp [pLt] at k
  | .dict _, y, b, h, k => by simp [pLt] at k
theorem pLtAll_eqv : ∀ (xs ys : List PyData) (b : Bool), PyData.eqvAll xs ys = true → pLtAll xs ys = some b → b = false
  | [], [], b, _, k => by simpa [pLtAll] using k.symm
  | [], _ :: _, _, h, _ => by simp [PyData.eqvAll] at h
  | _ :: _, [], _, h, _ => by simp [PyData.eqvAll] at h
  | x :: xs, y :: ys, b, h, k => by
    rw [PyData.eqvAll, Bool.and_eq_true] at h
    rw [pLtAll, if_pos h.1] at k
    exact pLtAll_eqv xs ys b h.2 k
end
theorem lx_ne {p q : Int ⊕ List Nat} (hne : p ≠ q) (l m : List (Int ⊕ List Nat)) : PyProof.Rows.lexLt itemOrd (p :: l) (q :: m) = itemLt p q := lex_diff (O := itemOrd) hne
mutual
theorem tk_lt : ∀ (x y : PyData) (b : Bool), pLt x y = some b → PyData.eqv x y = false → ∀ l m, PyProof.Rows.lexLt itemOrd (keyToks x ++ l) (keyToks y ++ m) = b
  | .int a, y, b, k, h, l, m => by
    cases y with
    | int c =>
      simp only [PyData.eqv, beq_eq_false_iff_ne] at h
      simp only [pLt, Option.some.injEq] at k
      simp only [keyToks, List.cons_append, List.nil_append]
      rw [lx_ne (fun e => h (Sum.inl.inj e)), ← k]
      rfl
    | _ => simp [pLt] at k
  | .bool a, y, b, k, h, l, m => by
    cases y with
    | bool c =>
      simp only [PyData.eqv, beq_eq_false_iff_ne] at h
      simp only [pLt, Option.some.injEq] at k
      simp only [keyToks, List.cons_append, List.nil_append]
      rw [lx_ne (fun e => h (by cases a <;> cases c <;> simp_all)), ← k]
      rfl
    | _ => simp [pLt] at k
  | .str a, y, b, k, h, l, m => by
    cases y with
    | str c =>
      simp only [PyData.eqv, beq_eq_false_iff_ne] at h
      simp only [pLt, Option.some.injEq] at k
      simp only [keyToks, List.cons_append, List.nil_append]
      rw [lx_ne (fun e => h (str_of_cps (Sum.inr.inj e))), ← k]
      rfl
    | _ => simp [pLt] at k
  | .tuple xs, y, b, k, h, l, m => by
    cases y with
    | tuple ys =>
      simp only [PyData.eqv] at h
      simp only [pLt] at k
      simp only [keyToks]
      exact tk_ltAll xs ys b k h l m
    | _ => simp [pLt] at k
  | .none, y, b, k, h, l, m => by simp [pLt] at k
  | .list _, y, b, k, h, l, m => by simp [pLt] at k
  | .dict _, y, b, k, h, l, m => by simp [pLt] at k
theorem tk_ltAll : ∀ (xs ys : List PyData) (b : Bool), pLtAll xs ys = some b → PyData.eqvAll xs ys = false → ∀ l m, PyProof.Rows.lexLt itemOrd (keyToksAll xs ++ l) (keyToksAll ys ++ m) = b
  | [], [], b, _, h, _, _ => by simp [PyData.eqvAll] at h
  | [], y :: ys, b, k, _, l, m => by
    simp only [pLtAll, Option.some.injEq] at k
    simp only [keyToksAll, List.cons_append, List.nil_append]
    rw [lx_ne (by simp), ← k]
    rfl
  | x :: xs, [], b, k, _, l, m => by
    simp only [pLtAll, Option.some.injEq] at k
    simp only [keyToksAll, List.cons_append, List.nil_append]
    rw [lx_ne (by simp), ← k]
    rfl
  | x :: xs, y :: ys, b, k, h, l, m => by
    rw [pLtAll] at k
    rw [PyData.eqvAll] at h
    simp only [keyToksAll, List.cons_append, List.append_assoc]
    rw [lex_self (O := itemOrd)]
    cases e : PyData.eqv x y with
    | true =>
      rw [if_pos e] at k
      rw [e, Bool.true_and] at h
      rw [tk_eqv x y e, lex_pre]
      exact tk_ltAll xs ys b k h l m
    | false =>
      rw [if_neg (by rw [e]; simp)] at k
      exact tk_lt x y b k e _ _
end
theorem pLt_toks {x y : PyData} {b : Bool} (h : pLt x y = some b) : PyProof.Rows.lexLt itemOrd (keyToks x) (keyToks y) = b := by
  cases e : PyData.eqv x y with
  | true =>
    rw [tk_eqv x y e, pLt_eqv x y b e h]
    exact lex_irrefl _
  | false =>
    have z := tk_lt x y b h e [] []
    rwa [List.append_nil, List.append_nil] at z

/-! ### tuples -/
inductive LexAt (A : Around) (s : Shared) : List Value → List Value → Bool → Prop
  | nn : LexAt A s [] [] false
  | nc (b : Value) (bs : List Value) : LexAt A s [] (b :: bs) true
  | cn (a : Value) (as : List Value) : LexAt A s (a :: as) [] false
  | same {a b : Value} {as bs : List Value} {k : Bool} : EqAt A s a b true → LexAt A s as bs k → LexAt A s (a :: as) (b :: bs) k
  | diff {a b : Value} {k : Bool} (as bs : List Value) : EqAt A s a b false → RcLt A s a b k → LexAt A s (a :: as) (b :: bs) k
section
open PySem.AutoSeq1 (wpAny_loadPart')
open PySem.MeetsSeq PySem.MeetsSeq2 PySem.MeetsSeq3 PySem.SeqRoads2
theorem tuple_ltLex (l b : Addr) (xs ys : Array Value) (n n2 : Nat) (dd dd2 : Option Addr) (sl sl2 : Array (Option Value)) (k : Bool) :
    Meets (Builtin.«tuple.__lt__» ⟨[.ref l, .ref b], []⟩)
      (fun A R s => s.heap.get? l = some { cls := .type "tuple", dict := dd, data := .seq xs n, slots := sl } ∧ s.heap.get? b = some { cls := .type "tuple", dict := dd2, data := .seq ys n2, slots := sl2 } ∧
        LexAt A.in1 s xs.toList ys.toList k ∧ R (.ok (.ret (.bool k))) s) :=
  .of_wp fun prog w A R s h => by
    obtain ⟨hp, g, d, tk, os⟩ := s
    obtain ⟨hl, hb, hx, h⟩ := h
    have f2 := AutoSeq1.sub_tuple_tuple
    wp_walk using wpAny_loadPart' hl, wpAny_loadPart' hb, wpAny_forIn_list _ (fun rest c s' => c.1 = none ∧ s' = ⟨hp, g, d, tk, os⟩ ∧ ∃ us vs : List Value, rest = us.zip vs ∧
      LexAt A.in1 ⟨hp, g, d, tk, os⟩ us vs k ∧ us.length + ys.size = vs.length + xs.size) _
    case turn =>
      rintro ⟨y, x⟩ rest c s' ⟨hc, rfl, us, vs, hz, hL, hn⟩
      cases hL with
      | nn => cases hz
      | nc => cases hz
      | cn => cases hz
      | same e r =>
        rw [List.zip_cons_cons] at hz
        injection hz with hyx hrest
        injection hyx with hy hx
        subst hy hx
        refine wpAny_bind (e prog w _ _ ?_)
        wp_walk
        simp only [List.length_cons] at hn
        exact ⟨rfl, rfl, _, _, hrest, r, by omega⟩
      | diff as bs e r =>
        rw [List.zip_cons_cons] at hz
        injection hz with hyx hrest
        injection hyx with hy hx
        subst hy hx
        refine wpAny_bind (e prog w _ _ ?_)
        have hri := r prog w
        wp_walk using hri
        exact ⟨_, rfl, h⟩
    case fin =>
      rintro ⟨b1, b2⟩ s' ⟨hb', rfl, us, vs, hz, hL, hn⟩
      simp only at hb'
      subst hb'
      have hv : k = decide (xs.size < ys.size) := by
        cases hL with
        | nn =>
          simp only [List.length_nil] at hn
          exact (decide_eq_false (by omega)).symm
        | nc =>
          simp only [List.length_nil, List.length_cons] at hn
          exact (decide_eq_true (by omega)).symm
        | cn =>
          simp only [List.length_nil, List.length_cons] at hn
          exact (decide_eq_false (by omega)).symm
        | same => rw [List.zip_cons_cons] at hz; cases hz
        | diff => rw [List.zip_cons_cons] at hz; cases hz
      rw [hv] at h
      wp_walk
      exact ⟨_, rfl, by simpa [Builtin.Tuple.tupleCompareSizes] using h⟩
    case h =>
      exact ⟨rfl, rfl, xs.toList, ys.toList, rfl, hx, by simp [Nat.add_comm]⟩
theorem RcLt.lex {A : Around} {s : Shared} {l b : Addr} {xs ys : Array Value} {k : Bool} (hl : s.heap.IsTuple l xs) (hb : s.heap.IsTuple b ys) (hu : A.units < cLine) (hx : LexAt A.in1 s xs.toList ys.toList k) :
    RcLt A s (.ref l) (.ref b) k := fun prog w E Q h => by
  obtain ⟨⟨cls, dd, data, sl⟩, ho, hc, n, hd⟩ := id hl
  obtain ⟨⟨cls2, dd2, data2, sl2⟩, ho2, hc2, n2, hd2⟩ := id hb
  simp only at hc hd hc2 hd2
  subst hc hd hc2 hd2
  exact richCompare_meets_room (op := .Lt) ⟨_, ho, rfl⟩ ⟨_, ho2, rfl⟩ F.slot_tuple_lt F.entry_tuple_lt (F.args_tuple_lt_2 _ _) (tuple_ltLex l b xs ys n n2 dd dd2 sl sl2 k)
    ⟨ho, ho2, hx, show Value.bool k ≠ Value.notImplemented ∧ Q (.bool k) s from ⟨(fun x => nomatch x), h⟩⟩ hu
end
end L3
/-! L3Sort: sorted of data. -/
namespace L3
open PySem PySem.Spec PyProof.Rows L2
open PySem.SeqAt
open PySem.W

theorem alike_atom {x y : PyData} {k : Bool} (h : pLt x y = some k) (hx : ∀ t, x ≠ .tuple t) : alike x y = true ∧ dataLt x y = k := by
  have e : dataLt x y = k := pLt_toks h
  cases x <;> cases y <;> first
    | (simp [pLt] at h; done)
    | exact ⟨rfl, e⟩
    | exact (hx _ rfl).elim
theorem pLt_some_ne {x y : PyData} {k : Bool} (h : pLt x y = some k) : x ≠ .none := by
  intro e
  subst e
  simp [pLt] at h
mutual
theorem rc_data : ∀ (x y : PyData) (A : Around) (s : Shared) (a b : Value) (as bs : List Addr) (k : Bool), Reads s.heap a x as → Reads s.heap b y bs → x.canLay0 = true → y.canLay0 = true → A.units + min x.depth y.depth < cLine → pLt x y = some k → RcLt A s a b k
  | .tuple xs, y, A, s, a, b, as, bs, k, ra, rb, lx, ly, hu, h => by
    cases y with
    | tuple ys =>
      cases ra with
      | @tuple l o vs n _ as₁ h1 h2 h3 h4 =>
        cases rb with
        | @tuple l' o' vs' n' _ bs₁ k1 k2 k3 k4 =>
          refine RcLt.lex ⟨_, h1, h2, _, h3⟩ ⟨_, k1, k2, _, k3⟩ (room_here hu) ?_
          exact lex_data xs ys A.in1 s _ _ _ _ k h4 k4 (by simpa [PyData.canLay0] using lx) (by simpa [PyData.canLay0] using ly) (room_in hu) (by simpa [pLt] using h)
    | _ => simp [pLt] at h
  | .int x, y, A, s, a, b, as, bs, k, ra, rb, lx, ly, hu, h => by
    obtain ⟨h1, h2⟩ := alike_atom h (by simp)
    rw [← h2]
    exact rcLt_alike _ _ A s a b as bs ra rb h1 (by simp) hu
  | .bool x, y, A, s, a, b, as, bs, k, ra, rb, lx, ly, hu, h => by
    obtain ⟨h1, h2⟩ := alike_atom h (by simp)
    rw [← h2]
    exact rcLt_alike _ _ A s a b as bs ra rb h1 (by simp) hu
  | .str x, y, A, s, a, b, as, bs, k, ra, rb, lx, ly, hu, h => by
    obtain ⟨h1, h2⟩ := alike_atom h (by simp)
    rw [← h2]
    exact rcLt_alike _ _ A s a b as bs ra rb h1 (by simp) hu
  | .none, y, A, s, a, b, as, bs, k, ra, rb, lx, ly, hu, h => by simp [pLt] at h
  | .list _, y, A, s, a, b, as, bs, k, ra, rb, lx, ly, hu, h => by simp [pLt] at h
  | .dict _, y, A, s, a, b, as, bs, k, ra, rb, lx, ly, hu, h => by simp [pLt] at h
theorem lex_data : ∀ (xs ys : List PyData) (A : Around) (s : Shared) (vs ws : List Value) (as bs : List Addr) (k : Bool), ReadsAll s.heap vs xs as → ReadsAll s.heap ws ys bs → PyData.canLayAll0 xs = true → PyData.canLayAll0 ys = true →
    A.units + min (PyData.depthAll xs) (PyData.depthAll ys) < cLine → pLtAll xs ys = some k → LexAt A s vs ws k
  | [], [], A, s, vs, ws, as, bs, k, ra, rb, lx, ly, hu, h => by
    cases ra
    cases rb
    simp only [pLtAll, Option.some.injEq] at h
    subst h
    exact .nn
  | [], _ :: _, A, s, vs, ws, as, bs, k, ra, rb, lx, ly, hu, h => by
    cases ra
    cases rb
    simp only [pLtAll, Option.some.injEq] at h
    subst h
    exact .nc _ _
  | _ :: _, [], A, s, vs, ws, as, bs, k, ra, rb, lx, ly, hu, h => by
    cases ra
    cases rb
    simp only [pLtAll, Option.some.injEq] at h
    subst h
    exact .cn _ _
  | x :: xs, y :: ys, A, s, vs, ws, as, bs, k, ra, rb, lx, ly, hu, h => by
    rw [PyData.canLayAll0, Bool.and_eq_true] at lx ly
    cases ra with
    | cons r rs =>
      cases rb with
      | cons r' rs' =>
        have e := eqAt_reads x y A s _ _ _ _ r r' lx.1 ly.1 (room_head hu)
        rw [pLtAll] at h
        cases hx : PyData.eqv x y with
        | true =>
          rw [if_pos hx] at h
          rw [hx] at e
          exact .same e (lex_data xs ys A s _ _ _ _ k rs rs' lx.2 ly.2 (room_tail hu) h)
        | false =>
          rw [if_neg (by rw [hx]; simp)] at h
          rw [hx] at e
          exact .diff _ _ e (rc_data x y A s _ _ _ _ k r r' lx.1 ly.1 (room_head hu) h)
end
section
variable {prog : Program} {w : World} {A : Around} {E : Value → Shared → Prop} {s : Shared}
theorem one_data {f : Bool} {x y : PyData} {a b : Value} {as bs : List Addr} {k : Bool} {Q : Bool → Shared → Prop} (hf : f = true → ∀ t, x ≠ .tuple t) (ra : Reads s.heap a x as) (rb : Reads s.heap b y bs) (lx : x.canLay0 = true) (ly : y.canLay0 = true)
    (hu : A.units + min x.depth y.depth < cLine) (h : pLt x y = some k) (hq : Q k s) : wpAny (model prog w) A (oneLt' f a b) Q E s := by
  cases f with
  | false =>
    rw [oneLt'_eq]
    simp only [Bool.false_eq_true, if_false]
    exact wpAny_bind (rc_data x y A s a b as bs k ra rb lx ly hu h prog w E _ (wpAny_truthy_bool hq))
  | true =>
    obtain ⟨h1, h2⟩ := alike_atom h (hf rfl)
    exact oneLt_alike hf ra rb h1 (pLt_some_ne h) hu (by rw [h2]; exact hq)
theorem kat_data {b fin : Bool} {Q : Bool → Shared → Prop} : ∀ (xs ys : List PyData) (i : Nat) (vs ws : List Value) (as bs : List Addr) (k : Bool), ReadsAll s.heap vs xs as → ReadsAll s.heap ws ys bs → PyData.canLayAll0 xs = true → PyData.canLayAll0 ys = true →
    A.units + min (PyData.depthAll xs) (PyData.depthAll ys) < cLine → (b = true → i = 0 → ∀ x r t, xs = x :: r → x ≠ .tuple t) → fin = decide (xs.length < ys.length) → pLtAll xs ys = some k → Q k s → KatLex prog w A b fin Q (vs.zip ws) i s
  | [], [], i, _, _, _, _, k, ra, rb, _, _, _, _, hf, h, hq => by
    cases ra
    cases rb
    have e : fin = false := by rw [hf]; rfl
    subst e
    simp only [pLtAll, Option.some.injEq] at h
    subst h
    exact kat_nil hq
  | [], y :: ys, i, _, _, _, _, k, ra, rb, _, _, _, _, hf, h, hq => by
    cases ra
    have e : fin = true := by rw [hf]; exact decide_eq_true (Nat.succ_pos _)
    subst e
    simp only [pLtAll, Option.some.injEq] at h
    subst h
    rw [List.zip_nil_left]
    exact kat_nil hq
  | x :: xs, [], i, _, _, _, _, k, ra, rb, _, _, _, _, hf, h, hq => by
    cases rb
    have e : fin = false := by rw [hf]; exact decide_eq_false (Nat.not_lt_zero _)
    subst e
    simp only [pLtAll, Option.some.injEq] at h
    subst h
    rw [List.zip_nil_right]
    exact kat_nil hq
  | x :: xs, y :: ys, i, _, _, _, _, k, ra, rb, lx, ly, hu, hb, hf, h, hq => by
    rw [PyData.canLayAll0, Bool.and_eq_true] at lx ly
    have hf' : fin = decide (xs.length < ys.length) := by
      rw [hf]
      simp only [List.length_cons, Nat.add_lt_add_iff_right]
    cases ra with
    | cons r rs =>
      cases rb with
      | cons r' rs' =>
        rw [List.zip_cons_cons]
        refine kat_cons (eqAt_reads x y A s _ _ _ _ r r' lx.1 ly.1 (room_head hu) prog w _ _ ?_)
        rw [pLtAll] at h
        cases hx : PyData.eqv x y with
        | true =>
          rw [if_pos hx] at h
          exact kat_yes (kat_data xs ys (i + 1) _ _ _ _ k rs rs' lx.2 ly.2 (room_tail hu) (fun _ hi => absurd hi (Nat.succ_ne_zero i)) hf' h hq)
        | false =>
          rw [if_neg (by rw [hx]; simp)] at h
          refine kat_no (one_data (fun hbi t => ?_) r r' lx.1 ly.1 (room_head hu) h hq)
          rw [Bool.and_eq_true, beq_iff_eq] at hbi
          exact hb hbi.1 hbi.2 x xs t rfl
end

/-! ### what may be sorted -/
def fkind : PyData → Option String
  | .int _ => some "int"
  | .str _ => some "str"
  | .bool _ => some "bool"
  | .tuple _ => some "tuple"
  | _ => none
def headKind : PyData → Option String
  | .tuple (f :: _) => fkind f
  | _ => none
/-- tuples whose first items are of one kind; any two can be compared -/
structure SrtData (ds : List PyData) : Prop where
  kind : ∃ T, ∀ d ∈ ds, headKind d = some T
  lay : ∀ d ∈ ds, d.canLay0 = true
  dep : ∀ d ∈ ds, d.depth ≤ 64
  cmp : ∀ x ∈ ds, ∀ y ∈ ds, ∃ k, pLt x y = some k
theorem looks_fk {M : Model} {h : Heap} {v : Value} {d : PyData} {as : List Addr} {T : String} (r : Reads h v d as) (e : fkind d = some T) : Looks M h (typeOf v) (.type T) := by
  cases r with
  | int i t => cases e; exact Looks.now
  | str x t => cases e; exact Looks.now
  | bool b => cases e; exact Looks.now
  | tuple h1 h2 h3 h4 =>
    cases e
    rw [← h2]
    exact (Looks.ld h1).andThen .now
  | none => cases e
  | list => cases e
  | dict => cases e
open Classical in
/-- the datum that a value reads as -/
noncomputable def kd (h : Heap) (v : Value) : PyData := if x : ∃ d as, PyData.canLay0 d = true ∧ Reads h v d as then x.choose else .none
theorem kd_eq {h : Heap} {v : Value} {d : PyData} {as : List Addr} (l : d.canLay0 = true) (r : Reads h v d as) : kd h v = d := by
  have x : ∃ d as, PyData.canLay0 d = true ∧ Reads h v d as := ⟨d, as, l, r⟩
  unfold kd
  rw [dif_pos x]
  obtain ⟨bs, l', r'⟩ := x.choose_spec
  exact Reads.unique _ _ _ _ _ l' r' r
noncomputable abbrev ltk (h : Heap) (v u : Value) : Bool := PyProof.Rows.lexLt itemOrd (keyToks (kd h v)) (keyToks (kd h u))
theorem swo_k (h : Heap) : SrtO.Swo (ltk h) := by
  refine ⟨fun x y a => ?_, fun x y z a b => ?_⟩
  · cases e : ltk h y x with
    | false => rfl
    | true =>
      have z := lex_trans (O := itemOrd) _ _ _ a e
      rw [lex_irrefl] at z
      cases z
  · cases e : ltk h z x with
    | false => rfl
    | true =>
      rcases lex_negTrans (O := itemOrd) _ (keyToks (kd h y)) _ e with q | q
      · exact absurd (b.symm.trans q) (by simp)
      · exact absurd (a.symm.trans q) (by simp)
theorem reads_mem {h : Heap} : ∀ {vs : List Value} {ds : List PyData} {as : List Addr}, ReadsAll h vs ds as → ∀ v ∈ vs, ∃ d ∈ ds, ∃ bs, Reads h v d bs
  | _, _, _, .nil, v, hv => nomatch hv
  | _, _, _, .cons r rs, v, hv => by
    rcases List.mem_cons.mp hv with e | e
    · subst e
      exact ⟨_, List.mem_cons_self, _, r⟩
    · obtain ⟨d, hd, bs, q⟩ := reads_mem rs v e
      exact ⟨d, List.mem_cons_of_mem _ hd, bs, q⟩
theorem kat_tups {h : Heap} {T : String} : ∀ {vs : List Value} {ds : List PyData} {as : List Addr}, ReadsAll h vs ds as → (∀ d ∈ ds, headKind d = some T) → ∃ fs, KatTups h vs fs ∧ fs.length = vs.length ∧ ∀ (M : Model), ∀ f ∈ fs, Looks M h (typeOf f) (.type T)
  | _, _, _, .nil, _ => ⟨[], KatTups.nil, rfl, fun _ f hf => nomatch hf⟩
  | v :: vs, d :: ds, _, .cons r rs, hk => by
    obtain ⟨fs, h1, h2, h3⟩ := kat_tups rs fun d hd => hk d (List.mem_cons_of_mem _ hd)
    have k := hk d List.mem_cons_self
    cases r with
    | @tuple a o xs n ys as g1 g2 g3 g4 =>
      cases ys with
      | nil => cases k
      | cons y ys =>
        generalize e : xs.toList = us at g4
        cases g4 with
        | @cons u us _ _ bs1 bs2 q qs =>
          refine ⟨u :: fs, KatTups.cons g1 g2 g3 ?_ h1, by simp [h2], fun M f hf => ?_⟩
          · rw [← Array.getElem?_toList, e]
            rfl
          · rcases List.mem_cons.mp hf with z | z
            · subst z
              exact looks_fk q k
            · exact h3 M f z
    | _ => cases k
theorem min_le64 {x y : PyData} (h : x.depth ≤ 64) : min x.depth y.depth ≤ 64 := Nat.le_trans (Nat.min_le_left _ _) h
section
variable {prog : Program} {w : World} {A : Around} {E : Value → Shared → Prop} {s : Shared}
theorem data_sortable {h₀ : Heap} {a : Addr} {us : List Value} {ds : List PyData} {as : List Addr} (h2 : 2 ≤ us.length) (hu : A.units + 66 < cLine) (S : SrtData ds) (r : ReadsAll h₀ us ds as) (k : ∀ b o, h₀.get? b = some o → b ≠ a ∧ s.heap.get? b = some o) :
    SrtO.SortableO prog w A s a us (ltk h₀) := by
  intro h' keep
  have kp : ∀ b o, h₀.get? b = some o → h'.get? b = some o := fun b o e => keep b o (k b o e).1 (k b o e).2
  obtain ⟨T, hT⟩ := S.kind
  have r' : ReadsAll h' us ds as := ReadsAll.keeps kp r
  obtain ⟨fs, t1, t2, t3⟩ := kat_tups r' hT
  refine ⟨tuples' (Value.type T != Value.type "tuple"), fun Q E hq => kat_kind (s := { s with heap := h' }) t1 (by omega) (t3 _) (by simp) hq, ?_⟩
  intro p q hp hq
  obtain ⟨x, hx, xs, rx⟩ := reads_mem r p.1 hp
  obtain ⟨y, hy, ys, ry⟩ := reads_mem r q.1 hq
  obtain ⟨c, hc⟩ := S.cmp x hx y hy
  have ec : SrtO.lt2 (ltk h₀) p q = c := by
    show PyProof.Rows.lexLt itemOrd (keyToks (kd h₀ p.1)) (keyToks (kd h₀ q.1)) = c
    rw [kd_eq (S.lay x hx) rx, kd_eq (S.lay y hy) ry]
    exact pLt_toks hc
  rw [ec]
  have kx := hT x hx
  have lx := S.lay x hx
  have ly := S.lay y hy
  have rx' := Reads.keeps kp rx
  have ry' := Reads.keeps kp ry
  have dx := S.dep x hx
  generalize p.1 = v at rx'
  generalize q.1 = u at ry'
  cases rx' with
  | @tuple a1 o1 vs1 n1 xs1 as1 g1 g2 g3 g4 =>
    cases ry' with
    | @tuple a2 o2 vs2 n2 ys2 as2 f1 f2 f3 f4 =>
      have z1 : vs1.size = xs1.length := by simpa using ReadsAll.length _ _ _ g4
      have z2 : vs2.size = ys2.length := by simpa using ReadsAll.length _ _ _ f4
      have dd : min (PyData.tuple xs1).depth (PyData.tuple ys2).depth ≤ 64 := min_le64 dx
      refine kat_lt g1 g3 f1 f3 (kat_data (s := { s with heap := h' }) xs1 ys2 0 _ _ _ _ c g4 f4 (by simpa [PyData.canLay0] using lx) (by simpa [PyData.canLay0] using ly) ?_ ?_ (by rw [z1, z2]) (by simpa [pLt] using hc) ⟨rfl, rfl⟩)
      · simp only [PyData.depth] at dd
        have : min (PyData.depthAll xs1) (PyData.depthAll ys2) ≤ 64 := by omega
        omega
      · intro hb _ f r t e ef
        subst e
        subst ef
        cases kx
        simp at hb
    | _ => simp [pLt] at hc
  | _ => cases kx
theorem sorted_col {x : Value} {us : List Value} {ds : List PyData} {as : List Addr} {Q : Value → Shared → Prop} (hu : A.units + 70 < cLine) (hz : us.length ≤ sizeLine) (S : SrtData ds) (r : ReadsAll s.heap us ds as)
    (hcol : ∀ Qc : List Value → Shared → Prop, (∀ h' tk, (∀ b o, s.heap.get? b = some o → h'.get? b = some o) → Qc us { s with heap := h', toks := tk }) → wpAny (model prog w) A.in1 (collect x) Qc E s)
    (h : ∀ (h' h2 : Heap) (tk : Nat) (out : List Value) (e : Nat), (∀ b o, s.heap.get? b = some o → h'.get? b = some o) → (∀ b o, h'.get? b = some o → h2.get? b = some o) → h2.get? h'.objs.size = some (seqObj "list" out.toArray e) → out.Perm us → SrtO.Srtd (ltk s.heap) out → Q (.ref h'.objs.size) { s with heap := h2, toks := tk }) :
    wpAny (model prog w) A (call (.builtin "sorted") [x]) Q E s := by
  refine Calls.call_function_entry kind_sorted plain_sorted entry_sorted (args_sorted1 _) ?_
  unfold Builtin.«sorted»
  refine wpAny_bind (m := checkCount "sorted" 1 1 _) (wpAny_pure ?_)
  refine wpAny_bind (hcol _ fun h' tk kp => ?_)
  refine wpAny_bind (wpAny_newList ?_ hz)
  have hoL : (h'.push (seqObj "list" us.toArray 0)).get? h'.objs.size = some (seqObj "list" us.toArray 0) := Heap.get?_push_size _ rfl
  have hk : ∀ b o, s.heap.get? b = some o → b ≠ h'.objs.size ∧ (h'.push (seqObj "list" us.toArray 0)).get? b = some o := fun b o e =>
    ⟨Nat.ne_of_lt (Heap.lt_size (kp b o e)), Heap.get?_push_of_some _ (kp b o e)⟩
  show wpAny _ _ _ _ _ { s with heap := h'.push (seqObj "list" us.toArray 0), toks := tk }
  refine wpAny_bind (wpAny_holding (wpAny_call_entry slot_list_sort ⟨_, hoL, rfl⟩ entry_list_sort
    (SrtO.list_sort_ord (s := { s with heap := h'.push (seqObj "list" us.toArray 0), toks := tk }) (swo_k s.heap) hoL hz (fun h2 => data_sortable h2 ?_ S r hk) fun out h1 h2 => ⟨_, rfl, ?_⟩) (args_list_sort _)))
  · show A.units + 1 + 1 + 66 < cLine
    omega
  obtain ⟨e', he'⟩ := sortedHeap_at (vs := us) (out := out.toArray) hoL
  refine wpAny_pure ⟨_, rfl, h h' _ tk out e' kp (fun b o e => ?_) he' h2.perm h1⟩
  have q : (h'.push (seqObj "list" us.toArray 0)).get? b = some o := Heap.get?_push_of_some _ e
  rw [sortedHeap_old (Nat.ne_of_lt (Heap.lt_size e)) (Heap.lt_size q)]
  exact q
end
end L3
/-! L3Sorted: the rule of sorted. -/
namespace L3
open PySem PySem.Spec PyProof.Rows L2
open PySem.SeqAt
open PySem.W
/-- x is less than y, by their rows of signs -/
def ltD (x y : D) : Bool := PyProof.Rows.lexLt itemOrd (keyToks x.py) (keyToks y.py)
structure SrtD (ds : List D) : Prop where
  data : SrtData (ds.map D.py)
  lay : ∀ d ∈ ds, d.lay = true
def sLe (a b : V × D) : Prop := ltD b.2 a.2 = false
def rSrt (H : Hp) (ps0 : List (V × D)) (Q : VK) : Prop := ∀ ps : List (V × D), ps.Perm ps0 → ps.Pairwise sLe → ∀ q, H q = none → Q (.ref q) (upd H q (.lst (ps.map Prod.fst)))
theorem perm_tr {α : Type} {f : α → V} {us out : List Value} (h : us.Perm out) : ∀ ps0 : List α, Vals (ps0.map f) us → ∃ ps : List α, ps.Perm ps0 ∧ Vals (ps.map f) out := by
  induction h with
  | nil => exact fun ps0 r => ⟨ps0, .refl _, r⟩
  | cons x h ih =>
    intro ps0 r
    cases ps0 with
    | nil => cases r
    | cons p ps0 =>
      cases r with
      | cons r1 r2 =>
        obtain ⟨ps, h1, h2⟩ := ih ps0 r2
        exact ⟨p :: ps, h1.cons p, .cons r1 h2⟩
  | swap x y l =>
    intro ps0 r
    cases ps0 with
    | nil => cases r
    | cons p ps0 =>
      cases r with
      | cons r1 r2 =>
        cases ps0 with
        | nil => cases r2
        | cons q ps0 =>
          cases r2 with
          | cons r3 r4 => exact ⟨q :: p :: ps0, .swap p q ps0, .cons r3 (.cons r1 r4)⟩
  | trans h1 h2 ih1 ih2 =>
    intro ps0 r
    obtain ⟨ps1, p1, q1⟩ := ih1 ps0 r
    obtain ⟨ps2, p2, q2⟩ := ih2 ps1 q1
    exact ⟨ps2, p2.trans p1, q2⟩
section
variable {X : Cx} {pins : List (Addr × Obj)} {σ : L2.St} {H : Hp} {s : Shared}
theorem dp_all : ∀ {ps0 : List (V × D)}, (∀ p ∈ ps0, Dp X.K H p.1 p.2.py) → DpAll X.K H (ps0.map Prod.fst) (ps0.map fun p => p.2.py)
  | [], _ => .nil
  | p :: ps, h => .cons (h p List.mem_cons_self) (dp_all fun q hq => h q (List.mem_cons_of_mem _ hq))
theorem srt_back (I : Inv X pins σ H s) : ∀ {ps : List (V × D)} {out : List Value}, Vals (ps.map Prod.fst) out → (∀ p ∈ ps, Dp X.K H p.1 p.2.py) → (∀ p ∈ ps, p.2.py.canLay0 = true) → SrtO.Srtd (ltk s.heap) out →
    ps.Pairwise sLe ∧ ∀ u ∈ out, ∃ p ∈ ps, kd s.heap u = p.2.py
  | [], _, r, _, _, _ => by
    cases r
    exact ⟨.nil, fun u hu => nomatch hu⟩
  | p :: ps, _, r, hd, hl, hs => by
    cases r with
    | @cons _ u _ us r1 r2 =>
      have hs' := List.pairwise_cons.mp hs
      obtain ⟨h1, h2⟩ := srt_back I r2 (fun q hq => hd q (List.mem_cons_of_mem _ hq)) (fun q hq => hl q (List.mem_cons_of_mem _ hq)) hs'.2
      obtain ⟨as, ra⟩ := Dp.reads I _ _ _ (hd p List.mem_cons_self) r1
      have e := kd_eq (hl p List.mem_cons_self) ra
      have h3 : ∀ {ps : List (V × D)} {us : List Value}, Vals (ps.map Prod.fst) us → (∀ p ∈ ps, Dp X.K H p.1 p.2.py) → (∀ p ∈ ps, p.2.py.canLay0 = true) → ∀ q ∈ ps, ∃ u ∈ us, kd s.heap u = q.2.py := by
        intro ps
        induction ps with
        | nil => exact fun _ _ _ q hq => nomatch hq
        | cons a l ih =>
          intro us r hd hl q hq
          cases r with
          | @cons _ v _ vs r1 r2 =>
            rcases List.mem_cons.mp hq with z | z
            · subst z
              obtain ⟨bs, rb⟩ := Dp.reads I _ _ _ (hd q List.mem_cons_self) r1
              exact ⟨v, List.mem_cons_self, kd_eq (hl q List.mem_cons_self) rb⟩
            · obtain ⟨v', hv, ev⟩ := ih r2 (fun q hq => hd q (List.mem_cons_of_mem _ hq)) (fun q hq => hl q (List.mem_cons_of_mem _ hq)) q z
              exact ⟨v', List.mem_cons_of_mem _ hv, ev⟩
      refine ⟨List.pairwise_cons.mpr ⟨fun q hq => ?_, h1⟩, fun v hv => ?_⟩
      · obtain ⟨v, hv, ev⟩ := h3 r2 (fun q hq => hd q (List.mem_cons_of_mem _ hq)) (fun q hq => hl q (List.mem_cons_of_mem _ hq)) q hq
        have z := hs'.1 v hv
        unfold ltk at z
        rw [ev, e] at z
        exact z
      · rcases List.mem_cons.mp hv with z | z
        · subst z
          exact ⟨p, List.mem_cons_self, e⟩
        · obtain ⟨q, hq, eq⟩ := h2 v z
          exact ⟨q, List.mem_cons_of_mem _ hq, eq⟩
theorem srt_run {x : Value} {us : List Value} {ps0 : List (V × D)} {Q : VK} (hu : X.A.units + 70 < cLine) (I : Inv X pins σ H s) (r : Vals (ps0.map Prod.fst) us) (hz : us.length ≤ sizeLine)
    (hd : ∀ p ∈ ps0, Dp X.K H p.1 p.2.py) (S : SrtData (ps0.map fun p => p.2.py))
    (hcol : ∀ Qc : List Value → Shared → Prop, (∀ h' tk, (∀ b o, s.heap.get? b = some o → h'.get? b = some o) → Qc us { s with heap := h', toks := tk }) → wpAny (model X.prog X.w) X.A.in1 (collect x) Qc X.xe s)
    (h : rSrt H ps0 Q) : wpAny (model X.prog X.w) X.A (call (.builtin "sorted") [x]) (EP X pins σ Q) X.xe s := by
  obtain ⟨as, ra⟩ := Dp.readsAll I _ _ _ (dp_all hd) r
  have hl : ∀ p ∈ ps0, p.2.py.canLay0 = true := fun p hp => S.lay _ (List.mem_map_of_mem (f := fun p : V × D => p.2.py) hp)
  refine sorted_col hu hz S ra hcol fun h' h2 tk out e k1 k2 hat hp hs => ?_
  obtain ⟨ps, h3, h4⟩ := perm_tr hp.symm ps0 r
  have hd' : ∀ p ∈ ps, Dp X.K H p.1 p.2.py := fun p hp' => hd p (h3.mem_iff.mp hp')
  obtain ⟨h5, _⟩ := srt_back I h4 hd' (fun p hp' => hl p (h3.mem_iff.mp hp')) hs
  have I1 : Inv X pins σ H { s with heap := h', toks := tk } := I.kept k1
  have hlen : (ps.map Prod.fst).length ≤ sizeLine := by
    have := h4.length
    rw [this, hp.length_eq]
    exact hz
  exact ⟨.ref h'.objs.size, upd H h'.objs.size (.lst (ps.map Prod.fst)), I1.laid (t' := tk) k2 (Nat.le_refl _) (show ObjOk X.prog X.w _ _ _ (.lst (ps.map Prod.fst)) from ⟨hlen, out, e, h4, hat⟩), rfl,
    h ps h3 h5 _ (I1.hok.fresh (Nat.le_refl _))⟩
/-- sorted(x): x a list or a tuple -/
def rSortedS (K : PySem.W.Frag) : List V → Hp → VK → Prop := fun xs H Q => ∃ a ps0, xs = [V.ref a] ∧ (SqL K H a (ps0.map Prod.fst) ∨ SqT K H a (ps0.map Prod.fst)) ∧ (∀ p ∈ ps0, Dp K H p.1 p.2.py) ∧ SrtData (ps0.map fun p => p.2.py) ∧ rSrt H ps0 Q
theorem call_sortedS (hu : X.A.units + 70 < cLine) : CallR X (.builtin "sorted") (rSortedS X.K) := by
  intro pins s σ H xs us Q I r h
  obtain ⟨a, ps0, rfl, hs, hd, S, q⟩ := h
  obtain ⟨u, rfl, rx⟩ := r.one
  cases rx
  rcases hs with hs | hs
  · obtain ⟨its, rv, ⟨o, n, ho, hc, hx, hdt⟩, hz⟩ := I.list hs
    have hz' : its.length ≤ sizeLine := by rw [← rv.length]; exact hz
    exact srt_run hu I rv hz' hd S (fun Qc hq => wpAny_collect_seq a (T := "list") (.inl rfl) ho hc hdt (fun h' k => by simpa using hq h' s.toks k) (by simpa using hz')) q
  · obtain ⟨its, rv, ⟨o, ho, hc, n, hdt⟩, hz⟩ := I.tuple hs
    have hz' : its.length ≤ sizeLine := by rw [← rv.length]; exact hz
    exact srt_run hu I rv hz' hd S (fun Qc hq => wpAny_collect_seq a (T := "tuple") (.inr rfl) ho hc hdt (fun h' k => by simpa using hq h' s.toks k) (by simpa using hz')) q
/-- sorted(d), d a dict with tuple keys -/
def rSortedT : List V → Hp → VK → Prop := fun xs H Q => ∃ (d : Addr) (kvs : List (List Key × V)), xs = [V.ref d] ∧ Rd H d (.dT kvs) ∧ SrtData (kvs.map fun p => (D.tup (p.1.map kD)).py) ∧
  ∀ ps0 : List (V × D), ps0.map Prod.snd = kvs.map (fun p => D.tup (p.1.map kD)) → (∀ p ∈ ps0, ∃ (b : Addr) (ks : List Key), p = (.ref b, .tup (ks.map kD)) ∧ H b = some (.tup (ks.map kV))) → rSrt H ps0 Q
theorem call_sortedT (hc : X.calm = true) (hu : X.A.units + 70 < cLine) : CallR X (.builtin "sorted") rSortedT := by
  intro pins s σ H xs us Q I r h
  obtain ⟨d, kvs, rfl, hd, S, q⟩ := h
  obtain ⟨u, rfl, rx⟩ := r.one
  cases rx
  obtain ⟨z, hs, ks, pr, o, es, ep, ho, hx, hdt, he, hn⟩ := (show ObjOk X.prog X.w H s.heap d (.dT kvs) from hd.ok I.hok)
  have l1 : es.size = ks.length := size_of_entries he
  have l2 : kvs.length = ks.length := Paired.length pr
  have bs := isKeys_of pr
  have hps : ∀ {kvs : List (List Key × V)} {bs : List Addr}, IsKeys H kvs bs → ∃ ps0 : List (V × D), ps0.map Prod.fst = bs.map V.ref ∧ ps0.map Prod.snd = kvs.map (fun p => D.tup (p.1.map kD)) ∧ ∀ p ∈ ps0, ∃ (b : Addr) (ks : List Key), p = (.ref b, .tup (ks.map kD)) ∧ H b = some (.tup (ks.map kV)) := by
    intro kvs
    induction kvs with
    | nil =>
      intro bs h
      cases h
      exact ⟨[], rfl, rfl, fun p hp => nomatch hp⟩
    | cons kv kvs ih =>
      intro bs h
      cases h with
      | cons h1 h2 =>
        obtain ⟨ps, e1, e2, e3⟩ := ih h2
        refine ⟨(.ref _, .tup (kv.1.map kD)) :: ps, by rw [List.map_cons, List.map_cons, e1], by rw [List.map_cons, List.map_cons, e2], fun p hp => ?_⟩
        rcases List.mem_cons.mp hp with z | z
        · exact ⟨_, _, z, h1⟩
        · exact e3 p z
  obtain ⟨ps0, e1, e2, e3⟩ := hps bs
  have S' : SrtData (ps0.map fun p => p.2.py) := by
    have : (ps0.map fun p => p.2.py) = (ps0.map Prod.snd).map D.py := by rw [List.map_map]; rfl
    rw [this, e2, List.map_map]
    exact S
  have hdp : ∀ p ∈ ps0, Dp X.K H p.1 p.2.py := fun p hp => by
    obtain ⟨b, ks', e, hb⟩ := e3 p hp
    subst e
    refine Dp.of (.tup hb (Dvs.of_keys _)) ?_
    have l := S'.lay _ (List.mem_map_of_mem (f := fun p : V × D => p.2.py) hp)
    have w : ∀ ks : List Key, PyData.canLayAll0 (pyAll (ks.map kD)) = true → layAll (ks.map kD) = true := by
      intro ks
      induction ks with
      | nil => exact fun _ => rfl
      | cons k ks ih =>
        intro h
        rw [List.map_cons, pyAll, PyData.canLayAll0, Bool.and_eq_true] at h
        rw [List.map_cons, layAll, ih h.2, Bool.and_true]
        cases k with
        | inl i => rfl
        | inr x => simpa [kD, D.lay, D.py, PyData.canLay0] using h.1
    rw [D.lay]
    exact w _ (by simpa [D.py, PyData.canLay0] using l)
  refine srt_run (us := ks.map fun x => Value.ref x.2.1) hu I ?_ (by rw [List.length_map]; omega) hdp S' (fun Qc hq => ?_) (q ps0 e2 e3)
  · rw [e1]
    have e : (ks.map fun x => Value.ref x.2.1) = (ks.map fun x => x.2.1).map Value.ref := by rw [List.map_map]; rfl
    rw [e]
    exact vals_refs _
  · refine PySem.W.kdu_collect (A := X.A.in1) (kdl_raw hs hx hdt) (I.ok.hd hc) ho (by omega) fun h' tk acc kp it => ?_
    have ea : acc.toList = ks.map fun x => Value.ref x.2.1 := by
      have hl : acc.toList.length = ks.length := by rw [Array.length_toList, it.1]; exact l1
      apply List.ext_getElem?
      intro j
      rw [List.getElem?_map]
      cases hj : acc.toList[j]? with
      | none =>
        have h1 := List.getElem?_eq_none_iff.mp hj
        rw [List.getElem?_eq_none (by omega)]
        rfl
      | some v =>
        obtain ⟨en, hen, hv⟩ := it.2 j v (by rw [← Array.getElem?_toList]; exact hj)
        have qe := entry_at he j
        rw [hen] at qe
        cases hb : ks[j]? with
        | none =>
          rw [hb] at qe
          exact nomatch (show some en = none from qe)
        | some b =>
          rw [hb] at qe
          have e2 : en = entryOfKey (tupleKind (mixKind X.prog X.w)) b := Option.some.inj qe
          rw [hv, e2]
          rfl
    rw [ea]
    exact hq h' tk kp
end

/-! ### at the store -/
/-- what sorted walks -/
def srcD (S : Sto) : D → Option (List D)
  | .tup ds => some ds
  | .rol ds => some ds
  | .loc a => match S a with
    | some (.lst ds) => some ds
    | some (.dT kvs) => some (kvs.map fun p => .tup (p.1.map kD))
    | _ => none
  | _ => none
def oSorted : List D → Sto → VK3 → Prop
  | [d], S, Q => match srcD S d with
    | some ds => SrtD ds ∧ ∀ out, out.Perm ds → out.Pairwise (fun x y => ltD y x = false) → ∀ p, S p = none → Q (.loc p) (up S p (.lst out))
    | none => False
  | _, _, _ => False
theorem dv_mem {K : PySem.W.Frag} {H : Hp} : ∀ {ps : List (V × D)}, (∀ p ∈ ps, Dv K H p.1 p.2) → Dvs K H (ps.map Prod.fst) (ps.map Prod.snd)
  | [], _ => .nil
  | p :: ps, h => .cons (h p List.mem_cons_self) (dv_mem fun q hq => h q (List.mem_cons_of_mem _ hq))
theorem zip_of {K : PySem.W.Frag} {H : Hp} : ∀ {vs : List V} {ds : List D}, Dvs K H vs ds → ∃ ps : List (V × D), ps.map Prod.fst = vs ∧ ps.map Prod.snd = ds ∧ ∀ p ∈ ps, Dv K H p.1 p.2
  | _, _, .nil => ⟨[], rfl, rfl, fun p hp => nomatch hp⟩
  | v :: vs, d :: ds, .cons h r => by
    obtain ⟨ps, e1, e2, e3⟩ := zip_of r
    refine ⟨(v, d) :: ps, by simp [e1], by simp [e2], fun p hp => ?_⟩
    rcases List.mem_cons.mp hp with z | z
    · subst z; exact h
    · exact e3 p z
theorem rSrt_of {K : PySem.W.Frag} {S : Sto} {H : Hp} {P : VK3} {Q : VK} {ps0 : List (V × D)} (c : Cont K S H P Q) (r : SRel K S H) (hv : ∀ p ∈ ps0, Dv K H p.1 p.2)
    (h : ∀ out, out.Perm (ps0.map Prod.snd) → out.Pairwise (fun x y => ltD y x = false) → ∀ p, S p = none → P (.loc p) (up S p (.lst out))) : rSrt H ps0 Q := by
  intro ps hp hs
  exact c.lst r (dv_mem fun p hp' => hv p (hp.mem_iff.mp hp')) (h _ (hp.map _) (List.pairwise_map.mpr hs))
theorem c3_sorted {K : PySem.W.Frag} : Call3 K (fun xs H Q => rSortedS K xs H Q ∨ rSortedT xs H Q) oSorted := by
  intro S H ds vs P Q r dv h c
  unfold oSorted at h
  split at h
  · next d =>
    obtain ⟨v, rfl, dd⟩ := one_of dv
    split at h
    · next es e1 =>
      obtain ⟨hS, h⟩ := h
      have seq : ∀ (a : Addr) (us : List V), (SqL K H a us ∨ SqT K H a us) → Dvs K H us es → v = .ref a → rSortedS K [v] H Q := by
        intro a us h1 h2 ev
        obtain ⟨ps0, z1, z2, z3⟩ := zip_of h2
        subst ev
        refine ⟨a, ps0, rfl, by rw [z1]; exact h1, fun p hp => Dp.of (z3 p hp) (hS.lay _ (by rw [← z2]; exact List.mem_map_of_mem hp)), ?_, rSrt_of c r z3 (by rw [z2]; exact h)⟩
        have : (ps0.map fun p => p.2.py) = (ps0.map Prod.snd).map D.py := by rw [List.map_map]; rfl
        rw [this, z2]
        exact hS.data
      cases dd with
      | tup h1 h2 =>
        cases e1
        exact .inl (seq _ _ (.inr (.of h1)) h2 rfl)
      | rol h1 h2 =>
        cases e1
        exact .inl (seq _ _ (.inl h1.sq) h2 rfl)
      | loc a =>
        unfold srcD at e1
        dsimp only at e1
        split at e1
        · next e =>
          cases e1
          obtain ⟨us, h1, h2⟩ := lst_at r e
          exact .inl (seq _ _ (.inl (.of h1)) h2 rfl)
        · next kvs e =>
          cases e1
          obtain ⟨u, h1, h2⟩ := r a _ e
          cases u with
          | dT kws =>
            have hk : ∀ {kvs : List (List Key × D)} {kws : List (List Key × V)}, KVr K H kvs kws → kvs.map Prod.fst = kws.map Prod.fst := by
              intro kvs
              induction kvs with
              | nil => intro kws h; cases h; rfl
              | cons p l ih =>
                intro kws h
                cases h with
                | cons a b => rw [List.map_cons, List.map_cons, ih b, a.1]
            have e2 : (kvs.map fun p => D.tup (p.1.map kD)) = kws.map fun p => D.tup (p.1.map kD) := by
              have q := congrArg (List.map fun ks : List Key => D.tup (ks.map kD)) (hk h2)
              rw [List.map_map, List.map_map] at q
              exact q
            refine .inr ⟨a, kws, rfl, .of h1, ?_, fun ps0 z1 z2 => rSrt_of c r (fun p hp => ?_) (by rw [z1, ← e2]; exact h)⟩
            · have q := hS.data
              rw [e2, List.map_map] at q
              exact q
            · obtain ⟨b, ks, e, hb⟩ := z2 p hp
              subst e
              exact .tup hb (Dvs.of_keys _)
          | _ => exact h2.elim
        · cases e1
      | _ => cases e1
    · exact h.elim
  · exact h.elim
section
variable {X : Cx} {e : Expr} {es : List Expr} {t : TA3} {p pos : Pos}
theorem pe3_sorted (hc : X.calm = true) (hu : X.A.units + 70 < cLine) (hm : X.mg "sorted" = none) (hg : Gl X "sorted") (ha : PA3 X (e :: es) t) (he : starEach (e :: es) X.env = (false, eval e X.env) :: starEach es X.env := by rfl) (hpl : (backTo pos (starEach es X.env)).any (·.1) = false := by rfl) : PE3 X (.Call (.Name "sorted" p) (e :: es) [] pos) (tCall3 oSorted t) :=
  pe3_callB ((call_sortedS hu).or (call_sortedT hc hu)) c3_sorted hg hm (by decide +kernel) ha (by decide) (by decide) he hpl
end
/-! readings -/
@[simp] theorem srcD_tup (S : Sto) (ds : List D) : srcD S (.tup ds) = some ds := rfl
@[simp] theorem srcD_rol (S : Sto) (ds : List D) : srcD S (.rol ds) = some ds := rfl
theorem srcD_lst {S : Sto} {a : Addr} {ds : List D} (h : S a = some (.lst ds)) : srcD S (.loc a) = some ds := by
  unfold srcD
  dsimp only
  rw [h]
theorem srcD_dT {S : Sto} {a : Addr} {kvs : List (List Key × D)} (h : S a = some (.dT kvs)) : srcD S (.loc a) = some (kvs.map fun p => .tup (p.1.map kD)) := by
  unfold srcD
  dsimp only
  rw [h]
@[simp] theorem oSorted_eq (d : D) (S : Sto) (Q : VK3) : oSorted [d] S Q = opt (srcD S d) fun ds => SrtD ds ∧ ∀ out, out.Perm ds → out.Pairwise (fun x y => ltD y x = false) → ∀ p, S p = none → Q (.loc p) (up S p (.lst out)) := by
  unfold oSorted
  dsimp only
  cases srcD S d <;> rfl
end L3
/-! L3Dict: dict of a list of pairs. -/
namespace L3
open PySem PySem.Spec PyProof.Rows L2
/-- a pair laid: its address, the key's address, the key, the value -/
abbrev PT := Addr × Addr × List Key × V
def foldT (ps : List PT) (acc : List (List Key × V)) : List (List Key × V) := ps.foldl (fun acc p => putK acc p.2.2.1 p.2.2.2) acc
def rDictT (K : PySem.W.Frag) : List V → Hp → VK → Prop := fun xs H Q => ∃ (a : Addr) (ps : List PT), xs = [V.ref a] ∧ SqL K H a (ps.map fun p => V.ref p.1) ∧ (∀ p ∈ ps, SqT K H p.1 [.ref p.2.1, p.2.2.2] ∧ H p.2.1 = some (.tup (p.2.2.1.map kV))) ∧
  ∀ q, H q = none → Q (.ref q) (upd H q (.dT (foldT ps [])))
section
variable {X : Cx} {pins : List (Addr × Obj)} {σ : L2.St} {H : Hp} {s : Shared}
theorem kt_fold {K : PySem.W.Frag} : ∀ {ps : List PT} {us : List (List Key × Addr × Value)} {kvs : List (List Key × V)} {xs : List (List Key × Addr × Value)}, Paired (fun p u => u.1 = p.2.2.1 ∧ u.2.1 = p.2.1 ∧ RelV p.2.2.2 u.2.2 ∧ H p.2.1 = some (.tup (p.2.2.1.map kV))) ps us → KT H kvs xs → KT H (foldT ps kvs) (storedAllH xs us)
  | _, _, kvs, xs, .nil, r => r
  | p :: ps, u :: us, kvs, xs, .cons h t, r => by
    obtain ⟨h1, h2, h3, h4⟩ := h
    show KT H (foldT ps (putK kvs p.2.2.1 p.2.2.2)) (storedAllH (storedH xs u.1 u.2.1 u.2.2) us)
    rw [h1, h2]
    exact kt_fold (K := K) t (r.put p.2.2.1 h4 h3)
theorem prs_ofT (I : Inv X pins σ H s) : ∀ {ps : List PT}, (∀ p ∈ ps, SqT X.K H p.1 [.ref p.2.1, p.2.2.2] ∧ H p.2.1 = some (.tup (p.2.2.1.map kV))) →
    ∃ us : List (List Key × Addr × Value), Paired (fun p u => u.1 = p.2.2.1 ∧ u.2.1 = p.2.1 ∧ RelV p.2.2.2 u.2.2 ∧ H p.2.1 = some (.tup (p.2.2.1.map kV))) ps us ∧ us.length = ps.length ∧
      ∀ (j : Nat) (u : List Key × Addr × Value), us[j]? = some u → ∃ p, ps[j]? = some p ∧ s.heap.IsTuple p.1 #[.ref u.2.1, u.2.2]
  | [], _ => ⟨[], .nil, rfl, fun j u e => by simp at e⟩
  | p :: ps, h => by
    obtain ⟨us, r, hl, hp⟩ := prs_ofT I fun q hq => h q (List.mem_cons_of_mem _ hq)
    obtain ⟨h1, h2⟩ := h p List.mem_cons_self
    obtain ⟨its, rv, ht, _⟩ := I.tuple h1
    obtain ⟨u, y, ei, ru, ry⟩ := vals2 rv
    subst ei
    cases ru
    refine ⟨(p.2.2.1, p.2.1, y) :: us, .cons ⟨rfl, rfl, ry, h2⟩ r, by simp [hl], fun j u e => ?_⟩
    cases j with
    | zero =>
      have e' : (p.2.2.1, p.2.1, y) = u := Option.some.inj e
      subst e'
      exact ⟨p, rfl, ht⟩
    | succ j => exact hp j u (by simpa using e)
theorem foldT_len : ∀ (ps : List PT) (acc : List (List Key × V)), (foldT ps acc).length ≤ acc.length + ps.length
  | [], acc => Nat.le_refl _
  | p :: ps, acc => by
    have h1 := foldT_len ps (putK acc p.2.2.1 p.2.2.2)
    have h2 : (putK acc p.2.2.1 p.2.2.2).length ≤ acc.length + 1 := by
      unfold putK
      by_cases e : (acc.any fun kv => decide (kv.1 = p.2.2.1)) = true
      · rw [if_pos e, List.length_map]
        omega
      · rw [if_neg e, List.length_append]
        simp
    show (foldT ps (putK acc p.2.2.1 p.2.2.2)).length ≤ _
    simp only [List.length_cons]
    omega
theorem call_dictT (hc : X.calm = true) (hu : X.A.units + 70 < cLine) : CallR X (.type "dict") (rDictT X.K) := by
  intro pins s σ H xs us Q I r h
  obtain ⟨a, ps, rfl, hs, hp, q⟩ := h
  obtain ⟨u, rfl, rx⟩ := r.one
  cases rx
  obtain ⟨its, rv, ⟨o, n, ho, hcl, hd, hdat⟩, hz⟩ := I.list hs
  rw [List.length_map] at hz
  have rv' : Vals ((ps.map (·.1)).map V.ref) its := by
    rw [List.map_map]
    exact rv
  have ei := refs_at rv'
  rw [List.map_map] at ei
  subst ei
  obtain ⟨us, r1, hl, hpr⟩ := prs_ofT I hp
  have hm : (s.heap.objs.size == sysModules) = false := beq_eq_false_iff_ne.mpr (Nat.ne_of_gt I.big)
  have keyIs : ∀ {h' : Heap}, HOk X.prog X.w H h' → ∀ x ∈ us, (tupleKind (mixKind X.prog X.w)).is h' x.1 x.2.1 := by
    intro h' ok
    have all : ∀ {l : List PT} {m : List (List Key × Addr × Value)}, Paired (fun p u => u.1 = p.2.2.1 ∧ u.2.1 = p.2.1 ∧ RelV p.2.2.2 u.2.2 ∧ H p.2.1 = some (.tup (p.2.2.1.map kV))) l m → ∀ x ∈ m, (tupleKind (mixKind X.prog X.w)).is h' x.1 x.2.1 := by
      intro l m z
      induction z with
      | nil => exact fun x hx => nomatch hx
      | @cons p u ps us h t ih =>
        intro x hx
        rcases List.mem_cons.mp hx with e | e
        · subst e
          rw [h.1, h.2.1]
          exact L2.key_of ok h.2.2.2
        · exact ih x e
    exact all r1
  refine call_dict_pairsH (knd := tupleKind (mixKind X.prog X.w)) (ps := us) (PairArg.list a _ (fun j => ((ps.map (·.1))[j]?).getD 0) (us.map fun u => (Value.ref u.2.1, u.2.2))) (I.ok.hd hc) ?_ ⟨⟨o, n, ho, hcl, hd, hdat⟩, ?_⟩ ?_ ?_ (by rw [List.length_map, hl]; exact hz) fun h' tk hd' k => ?_
  · show X.A.units + 1 + 1 < cLine
    omega
  · refine ⟨by simp [hl], fun j k v e => ?_⟩
    rw [List.getElem?_map] at e
    cases e1 : us[j]? with
    | none => rw [e1] at e; cases e
    | some u =>
      rw [e1] at e
      cases e
      obtain ⟨p, e2, ht⟩ := hpr j u e1
      refine ⟨?_, .inl ?_⟩
      · simp [e2]
      · simp only [List.getElem?_map, e2]
        exact ht
  · refine ⟨by simp, fun i key v e => ?_⟩
    unfold PairRel at e
    rw [List.getElem?_map] at e
    cases e1 : us[i]? with
    | none => rw [e1] at e; cases e
    | some u =>
      rw [e1] at e
      cases e
      exact ⟨u.1, u.2.1, rfl, rfl⟩
  · intro h' hk x hx
    obtain ⟨o', its', n', h1, h2, h3, h4⟩ := keyIs I.hok x hx
    exact ⟨o', its', n', hk _ _ (Nat.ne_of_lt (Heap.lt_size h1)) (by simp) h1, h2, h3, h4⟩
  · have I1 := I.kept (t' := tk) fun b u e => k b u (by simp) e
    have kt : KT H (foldT ps []) (storedAllH [] us) := kt_fold (K := X.K) r1 .nil
    have hlen : (foldT ps []).length ≤ sizeLine := Nat.le_trans (foldT_len ps []) (by simpa using hz)
    obtain ⟨o', es, ep, g1, g2, g3, g4, g5, g6⟩ := hd'
    refine ⟨.ref s.heap.objs.size, upd H s.heap.objs.size (.dT (foldT ps [])), I.laid (t' := tk) (fun b u e => k b u (by simp) e) (Nat.le_refl _) ?_, rfl, q _ (I.hok.fresh (Nat.le_refl _))⟩
    have kt' : KT (upd H s.heap.objs.size (.dT (foldT ps []))) (foldT ps []) (storedAllH [] us) := kt.keeps fun b ys e => by
      rw [upd_ne (ne_of_none e (I.hok.fresh (Nat.le_refl _)))]
      exact e
    exact ⟨hlen, hm, _, kt', o', es, ep, g1, g2, g3, g4, g6⟩
end

/-! ### at the store -/
/-- a list of pairs as a table -/
def pairsT : List D → Option (List (List Key × D))
  | [] => some []
  | .tup [k, v] :: r => match k.tkey, pairsT r with
    | some k, some l => some ((k, v) :: l)
    | _, _ => none
  | _ => none
def putAll {κ : Type} [DecidableEq κ] {β : Type} (ps acc : List (κ × β)) : List (κ × β) := ps.foldl (fun acc p => put acc p.1 p.2) acc
def oDict : List D → Sto → VK3 → Prop
  | [d], S, Q => match lstD S d with
    | some ds => (match pairsT ds with
      | some ps => ∀ p, S p = none → Q (.loc p) (up S p (.dT (putAll ps [])))
      | none => False)
    | none => False
  | _, _, _ => False
theorem pairsT_of {K : PySem.W.Frag} {H : Hp} : ∀ {ds : List D} {vs : List V} {kvs : List (List Key × D)}, Dvs K H vs ds → pairsT ds = some kvs →
    ∃ ps : List PT, vs = ps.map (fun p => V.ref p.1) ∧ (∀ p ∈ ps, SqT K H p.1 [.ref p.2.1, p.2.2.2] ∧ H p.2.1 = some (.tup (p.2.2.1.map kV))) ∧ Paired (fun k p => k.1 = p.2.2.1 ∧ Dv K H p.2.2.2 k.2) kvs ps
  | [], _, kvs, h, e => by
    cases h
    cases e
    exact ⟨[], rfl, (fun p hp => by cases hp), .nil⟩
  | d :: ds, _, kvs, h, e => by
    cases h with
    | cons h1 h2 =>
      unfold pairsT at e
      split at e
      · cases ‹_ :: _ = []›
      · next k v r ed =>
        cases ed
        split at e
        · next key l e1 e2 =>
          cases e
          obtain ⟨ps, z1, z2, z3⟩ := pairsT_of h2 e2
          cases h1 with
          | tup g1 g2 =>
            obtain ⟨x, y, rfl, gx, gy⟩ := two_of g2
            obtain ⟨b, ex, hb⟩ := tkey_of gx e1
            subst ex
            refine ⟨(_, b, key, y) :: ps, by rw [List.map_cons, z1], fun p hp => ?_, .cons ⟨rfl, gy⟩ z3⟩
            rcases List.mem_cons.mp hp with z | z
            · subst z
              exact ⟨.of g1, hb⟩
            · exact z2 p z
        · cases e
      · cases e
theorem foldT_rel {K : PySem.W.Frag} {H : Hp} : ∀ {kvs : List (List Key × D)} {ps : List PT} {acc : List (List Key × D)} {acc' : List (List Key × V)}, Paired (fun k p => k.1 = p.2.2.1 ∧ Dv K H p.2.2.2 k.2) kvs ps → KVr K H acc acc' → KVr K H (putAll kvs acc) (foldT ps acc')
  | _, _, _, _, .nil, r => r
  | k :: kvs, p :: ps, acc, acc', .cons h t, r => by
    show KVr K H (putAll kvs (put acc k.1 k.2)) (foldT ps (putK acc' p.2.2.1 p.2.2.2))
    rw [h.1]
    exact foldT_rel t (KVr.put h.2 r)
theorem c3_dict {K : PySem.W.Frag} : Call3 K (rDictT K) oDict := by
  intro S H ds vs P Q r dv h c
  unfold oDict at h
  split at h
  · next d =>
    obtain ⟨v, rfl, dd⟩ := one_of dv
    split at h
    · next es e1 =>
      split at h
      · next kvs e2 =>
        obtain ⟨a, us, rfl, h1, h2⟩ := lstD_of r dd e1
        obtain ⟨ps, z1, z2, z3⟩ := pairsT_of h2 e2
        subst z1
        refine ⟨a, ps, rfl, h1, z2, fun q hq => c _ _ _ _ (h q (r.fresh hq)) (.new hq) (r.new hq ?_) (.loc q)⟩
        exact KVr.ext (.new hq) (foldT_rel z3 .nil)
      · exact h.elim
    · exact h.elim
  · exact h.elim
section
variable {X : Cx} {e : Expr} {es : List Expr} {t : TA3} {p pos : Pos}
theorem pe3_dict (hc : X.calm = true) (hu : X.A.units + 70 < cLine) (hm : X.mg "dict" = none) (hg : Gl X "dict") (ha : PA3 X (e :: es) t) (he : starEach (e :: es) X.env = (false, eval e X.env) :: starEach es X.env := by rfl) (hpl : (backTo pos (starEach es X.env)).any (·.1) = false := by rfl) : PE3 X (.Call (.Name "dict" p) (e :: es) [] pos) (tCall3 oDict t) :=
  pe3_callTy (call_dictT hc hu) c3_dict hg hm (by decide +kernel) ha (by decide) (by decide) he hpl
end
@[simp] theorem oDict_eq (d : D) (S : Sto) (Q : VK3) : oDict [d] S Q = opt (lstD S d) fun ds => opt (pairsT ds) fun ps => ∀ p, S p = none → Q (.loc p) (up S p (.dT (putAll ps []))) := by
  unfold oDict
  dsimp only
  cases lstD S d with
  | none => rfl
  | some ds =>
    dsimp only [opt]
    cases pairsT ds <;> rfl
end L3
/-! L3Gen: sum of a generator expression that unpacks pairs. -/
namespace L3
open PySem PySem.Spec PyProof.Rows L2
/-- an iterator of a tuple of pairs -/
theorem walks_tt {prog : Program} {w : World} {A : Around} (hh : A.handled = none) (I ax : Addr) (hne : ax ≠ I) (items : Array Value) (Ts : Nat → Addr) (vals : Nat → Array Value)
    (hit : ∀ j, j < items.size → items[j]? = some (.ref (Ts j))) (hTI : ∀ j, j < items.size → Ts j ≠ I) :
    WalksU prog w A I (I :: ax :: (List.range items.size).map Ts) [I] items.size (fun j v => j < items.size ∧ v = vals j)
      (fun j h => h.IsTupleIter I ax j ∧ h.IsTuple ax items ∧ ∀ k, k < items.size → h.IsTuple (Ts k) (vals k))
      (fun j T h => (j < items.size ∧ T = Ts j) ∧ h.IsTupleIter I ax (j + 1) ∧ h.IsTuple ax items ∧ ∀ k, k < items.size → h.IsTuple (Ts k) (vals k)) where
  sub := fun b hb => by
    rw [List.mem_singleton.mp hb]
    exact List.mem_cons_self
  frame := fun _ _ _ st hk => ⟨st.1.at fun o e => hk I (by simp) o e, st.2.1.at fun o e => hk ax (by simp) o e,
    fun k hk' => (st.2.2 k hk').at fun o e => hk (Ts k) (List.mem_cons_of_mem _ (List.mem_cons_of_mem _ (List.mem_map.mpr ⟨k, List.mem_range.mpr hk', rfl⟩))) o e⟩
  item := fun i s Q E hi st hQ => by
    refine wpAny_pyNext_tuple_item st.1 st.2.1 (x := .ref (Ts i)) (hit i hi) fun h' hit' sb => ?_
    have kp : ∀ b o, b ≠ I → s.heap.get? b = some o → h'.get? b = some o := fun b o hb e => (sb.2 b hb).trans e
    have tup : ∀ k, k < items.size → h'.IsTuple (Ts k) (vals k) := fun k hk' => (st.2.2 k hk').at fun o e => kp _ o (hTI k hk') e
    exact hQ (Ts i) (vals i) h' s.toks ⟨hi, rfl⟩ (tup i hi) ⟨⟨hi, rfl⟩, hit', st.2.1.at fun o e => kp _ o hne e, tup⟩ fun b o hb e => kp b o (fun z => hb (by rw [z]; exact List.mem_cons_self)) e
  go := fun _ _ _ _ _ s Q _ hm hQ => by
    obtain ⟨o, ho, hc, hd⟩ := id hm.2.1
    exact go_of ho hc hd (by decide) (hQ s.heap hm.2 fun _ _ _ e => e)
  apart := fun j T _ hm hmem => by
    have e := List.mem_singleton.mp hmem
    exact hTI j hm.1.1 (hm.1.2 ▸ e)
  done := fun s Q E st hQ => wpAny_pyNext_tuple_end hh st.1 st.2.1 (by simp) fun h' he' => hQ h' s.toks fun b o hb e => he' b o (fun z => hb (by rw [z]; exact List.mem_cons_self)) e
  self := fun _ _ _ _ st hQ => wpAny_pyIter_tupleiter st.1 hQ

/-- pairs whose second items are these ints -/
def PairsI (K : PySem.W.Frag) (H : Hp) : List V → List Int → Prop := Paired fun v n => ∃ p w, v = .ref p ∧ SqT K H p [w, .int n]
theorem preSum_all : ∀ ns : List Int, preSum (fun i => ns.getD i 0) ns.length = ns.sum := by
  intro ns
  have h : ∀ n, n ≤ ns.length → preSum (fun i => ns.getD i 0) n = (ns.take n).sum := by
    intro n
    induction n with
    | zero => intro _; simp [preSum]
    | succ n ih =>
      intro hn
      have hlt : n < ns.length := by omega
      rw [preSum, ih (by omega), List.take_succ_eq_append_getElem hlt, List.sum_append]
      simp [hlt]
  have q := h ns.length (Nat.le_refl _)
  rwa [List.take_length] at q
/-- the generator g, ready to be walked -/
def ReadyI (X : Cx) (pins : List (Addr × Obj)) (σ : L2.St) (H1 : Hp) (P : Addr) (ns : List Int) (g : Addr) (s5 : Shared) : Prop :=
  ∃ (fp wr : List Addr) (G : Array GenState → Array GenState → Prop) (F : Nat → Value → Prop) (St : Nat → Shared → Prop),
    WalksS X.prog X.w X.A.in1 g fp wr G ns.length F St ∧ St 0 s5 ∧ (∀ b ∈ fp, b < s5.heap.objs.size) ∧ (∀ i v, F i v → ∃ t, v = .int (ns.getD i 0) t) ∧
    ∀ s', Moved wr G s5 s' → ∃ H2, GxR.Tabbed P H1 H2 ∧ Inv X pins σ H2 s'
section
variable {X : Cx} {pins : List (Addr × Obj)} {σ : L2.St} {H : Hp} {s : Shared}
theorem pairsI_at (I : Inv X pins σ H s) : ∀ {vs : List V} {ns : List Int} {us : List Value}, PairsI X.K H vs ns → Vals vs us →
    us.length = ns.length ∧ ∀ j, ∃ x : Addr × Array Value, j < us.length → us[j]? = some (.ref x.1) ∧ s.heap.IsTuple x.1 x.2 ∧ ∃ w t, x.2 = #[w, .int (ns.getD j 0) t]
  | _, _, _, .nil, r => by
    cases r
    exact ⟨rfl, fun j => ⟨(0, #[]), fun h => absurd h (Nat.not_lt_zero _)⟩⟩
  | _, _, _, .cons h t, r => by
    cases r with
    | cons r1 r2 =>
      obtain ⟨hl, q⟩ := pairsI_at I t r2
      refine ⟨by simp [hl], fun j => ?_⟩
      cases j with
      | zero =>
        obtain ⟨p, w, e, hs⟩ := h
        subst e
        cases r1
        obtain ⟨its, rv, ht, _⟩ := I.tuple hs
        obtain ⟨u, y, ei, ru, ry⟩ := vals2 rv
        subst ei
        obtain ⟨t', rfl⟩ := ry
        exact ⟨(p, _), fun _ => ⟨rfl, ht, u, t', rfl⟩⟩
      | succ j =>
        obtain ⟨x, hx⟩ := q j
        exact ⟨x, fun hj => by simpa using hx (by simpa using hj)⟩
theorem gen_pairs {c P : Addr} {iter : Expr} {xa xb : Str} {pa pb pe pt gpos : Pos} {kt : Nat} {scope : Scope} {te : TE} {k : Nat} {Q' : Value → Shared → Prop} {R : List Int → Hp → Prop}
    (hr : Room k X.A) (TB : GxR.TabB X.base X.mg c P) (hcode : X.env.code = .ref c) (S : GxR.GenS X.env scope xb) (hxa : scope.names.lookup xa = some .local) (hab : xa ≠ xb) (hi : PE X iter te)
    (hs : ∀ v, genFold iter X.env v = pure v) (hd : (xb == ("__debug__" : Str)) = false) (I : Inv X pins σ H s) (h : te σ H fun v H1 => ∃ a vs ns, v = .ref a ∧ SqT X.K H1 a vs ∧ PairsI X.K H1 vs ns ∧ GxR.TabG H1 P ∧ R ns H1)
    (hQ : ∀ ns H1 g s5, R ns H1 → ReadyI X pins σ H1 P ns g s5 → Q' (.ref g) s5) :
    wpAny (model X.prog X.w) X.A (eval (.GeneratorExp (.Name xb pe) [⟨.Tuple [.Name xa pa, .Name xb pb] kt pt, iter, [], 0⟩] scope gpos) X.env) Q' X.xe s := by
  refine wpAny_GeneratorExp_walksQT hr.hd S.co (closure_ok S.free) S.cell S.dot hxa S.loc hab S.kind (by have := hr.dp; omega) ?_ hs
  refine thn (hi.run pins s σ H _ I h) fun xv s1 ⟨v, H1, I1, r1, q1⟩ => ?_
  obtain ⟨a, vs, ns, rfl, hq, hp, ⟨ps, hP, ht⟩, q1⟩ := q1
  cases r1
  obtain ⟨its, rv, htup, hz⟩ := I1.tuple hq
  obtain ⟨hl, hx⟩ := pairsI_at I1 hp rv
  obtain ⟨f, hf⟩ := Classical.axiomOfChoice hx
  refine wpAny_pyIter_tuple (show s1.heap.IsTuple a its.toArray from htup) ?_
  generalize hob : ({ cls := .type "tuple_iterator", data := .fields #[.ref a, .int 0 0] } : Obj) = o
  have hPs : s1.heap.get? P = some { cls := .none, data := .fields ps } := I1.hok P _ hP
  have hPlt : P < s1.heap.objs.size := Heap.lt_size hPs
  have hP2 : (s1.heap.push o).get? P = some { cls := .none, data := .fields ps } := Heap.get?_push_of_some _ hPs
  have cd : PySem.W.CodeHd (s1.heap.push o) c P := TB.code.keeps fun b u e => Heap.get?_push_of_some _ (I1.bk b u e)
  have lim2 : (s1.heap.push o).NoLimit := I1.nolimit.push o
  have hsz' : its.toArray.size = ns.length := by simp [hl]
  have old : ∀ {b u}, s1.heap.get? b = some u → b ≠ s1.heap.objs.size := fun e => Nat.ne_of_lt (Heap.lt_size e)
  have isT : ∀ {b vs}, s1.heap.IsTuple b vs → ∃ u, s1.heap.get? b = some u := fun ⟨u, e, _⟩ => ⟨u, e⟩
  have st0 : (s1.heap.push o).IsTupleIter s1.heap.objs.size a 0 ∧ (s1.heap.push o).IsTuple a its.toArray ∧ ∀ k, k < its.toArray.size → (s1.heap.push o).IsTuple (f k).1 (f k).2 := by
    refine ⟨⟨o, Heap.get?_push_size _ (by rw [← hob]; rfl), by rw [← hob], by rw [← hob]; rfl⟩, (show s1.heap.IsTuple a its.toArray from htup).at fun u e => Heap.get?_push_of_some _ e, fun k hk => ?_⟩
    exact (hf k (by simpa using hk)).2.1.at fun u e => Heap.get?_push_of_some _ e
  have aS : a ≠ s1.heap.objs.size := by
    obtain ⟨u, e⟩ := isT htup
    exact old e
  have fS : ∀ j, j < its.toArray.size → (f j).1 ≠ s1.heap.objs.size := fun j hj => by
    obtain ⟨u, e⟩ := isT (hf j (by simpa using hj)).2.1
    exact old e
  have cont : ∀ (code : Value) (h3 : Heap) (tk : Nat) (ps' : Array Value), Heap.ExtBut P (s1.heap.push o) h3 → (s1.heap.push o).objs.size ≤ h3.objs.size → h3.get? P = some { cls := .none, data := .fields ps' } → (∃ more, ps' = ps ++ more) → TriplesOk ps'.toList →
      wpAny (model X.prog X.w) X.A (builtinsFor X.env.globals X.env.builtins) (fun bi s₄ =>
        ∃ Ia fp wr n₀ Pt St₀ Mid pz F, Value.ref s1.heap.objs.size = .ref Ia ∧ (∀ A' : Around, A'.handled = none → WalksU X.prog X.w A' Ia fp wr n₀ Pt St₀ Mid) ∧ (∀ i vals, Pt i vals → ∃ va vb, vals = #[va, vb]) ∧ St₀ 0 s₄.heap ∧ (∀ b ∈ fp, b < s₄.heap.objs.size) ∧ s₄.heap.NoLimit ∧ cStatics ∉ wr ∧
          (∀ href : Heap, (∀ b o, s₄.heap.get? b = some o → href.get? b = some o) →
            QuietGenT X.prog X.w (genEnv scope (cloFrom X.env.cells scope.names []) s₄.heap.objs.size code bi X.env) xa xb [] (.Name xb pe) (List.range s₄.heap.objs.size) wr Pt pz F href) ∧
          (∀ a h₅ tk gs, gs.bare = true → s₄.heap.objs.size < a → h₅.objs.size = a + 1 → (∀ b o, s₄.heap.get? b = some o → h₅.get? b = some o) →
            WalksS X.prog X.w X.A.in4 a (a :: s₄.heap.objs.size :: List.range s₄.heap.objs.size) (s₄.heap.objs.size :: wr) (GenOnlyQ s₄.gens.size) (passing pz n₀ 0).length
              (fun j y => ∃ i, (passing pz n₀ 0)[j]? = some i ∧ F i y) (GenAt X.prog X.w X.A.in4 a s₄.gens.size s₄.heap.objs.size (List.range s₄.heap.objs.size) wr pz n₀ F) →
            GenAt X.prog X.w X.A.in4 a s₄.gens.size s₄.heap.objs.size (List.range s₄.heap.objs.size) wr pz n₀ F 0 { s₄ with gens := s₄.gens.push gs, toks := tk, heap := h₅ } →
            Q' (.ref a) { s₄ with gens := s₄.gens.push gs, toks := tk, heap := h₅ })) X.xe { s1 with heap := h3, toks := tk } := by
    intro code h3 tk ps' hx3 hsz hP3 hmore ht3
    obtain ⟨bm, ob, e1, e2, e3, e4, e5, e6, e7, e8⟩ := TB.bm
    have hcP : cStatics ≠ P := fun e => by
      obtain ⟨_, hns, _⟩ := I1.nolimit
      obtain ⟨o', es, ep, ho, hd, _⟩ := hns
      rw [e, hPs] at ho
      cases ho
      cases hd
    have hcl : cStatics < s1.heap.objs.size := let ⟨_, hns, _⟩ := I1.nolimit; hns.lt
    have sz2 : (s1.heap.push o).objs.size = s1.heap.objs.size + 1 := Heap.size_push ..
    have keep3 : ∀ b u, b ≠ P → s1.heap.get? b = some u → h3.get? b = some u := fun b u hb e => hx3 b u hb (Heap.get?_push_of_some _ e)
    have nP : ∀ {b vs}, s1.heap.IsTuple b vs → b ≠ P := fun ⟨u, e, hc, _⟩ z => by
      rw [z, hPs] at e
      cases e
      cases hc
    refine wpAny_builtinsFor (m := X.mg) (by rw [I1.ok.glob]; exact ((I1.mod.glob.keeps I1.bk).push o).extBut hx3 TB.gP) e1 e2 (keep3 _ _ e4 (I1.bk _ _ e5)) e6 e7 e8 ?_
    refine ⟨s1.heap.objs.size, _, [s1.heap.objs.size], its.toArray.size, _, _, _, (fun _ => true), (fun i y => ∃ t, y = .int (ns.getD i 0) t), rfl, fun A' hA => walks_tt hA s1.heap.objs.size a aS its.toArray (fun j => (f j).1) (fun j => (f j).2) (fun j hj => by
      rw [← Array.getElem?_toList]
      exact (hf j (by simpa using hj)).1) fS, ?_, ?_, ?_, lim2.extBut hx3 hcP, ?_, ?_, ?_⟩
    · rintro i vals ⟨hi', rfl⟩
      obtain ⟨_, _, w, t, e⟩ := hf i (by simpa using hi')
      exact ⟨_, _, e⟩
    · obtain ⟨p1, p2, p3⟩ := st0
      refine ⟨p1.at fun u e => hx3 _ u (fun z => ?_) e, p2.at fun u e => hx3 _ u (nP htup) e, fun k hk => (p3 k hk).at fun u e => hx3 _ u (nP (hf k (by simpa using hk)).2.1) e⟩
      exact Nat.ne_of_lt hPlt z.symm
    · intro b hb
      show b < h3.objs.size
      have s3 : s1.heap.objs.size < h3.objs.size := by
        rw [sz2] at hsz
        exact hsz
      rcases List.mem_cons.mp hb with z | z
      · rw [z]
        exact s3
      · rcases List.mem_cons.mp z with z | z
        · obtain ⟨u, e⟩ := isT htup
          rw [z]
          exact Nat.lt_trans (Heap.lt_size e) s3
        · obtain ⟨j, hj, e⟩ := List.mem_map.mp z
          obtain ⟨u, e'⟩ := isT (hf j (by simpa using List.mem_range.mp hj)).2.1
          rw [← e]
          exact Nat.lt_trans (Heap.lt_size e') s3
    · intro z
      rcases List.mem_cons.mp z with z | z
      · exact Nat.ne_of_lt hcl z
      · cases z
    · intro href hhref
      refine ⟨fun A' E' i va vb s₂ m₂ hA hPv hn ha hb hk => ?_, fun A' E' i va vb s₂ m₂ hA hPv hp hn ha hb hk => ?_⟩
      · simp only [List.forIn_nil]
        exact wpAny_pure ⟨rfl, GxR.keeps_refl _⟩
      · obtain ⟨hi', ev⟩ := hPv
        obtain ⟨_, _, w, t, e⟩ := hf i (by simpa using hi')
        rw [e] at ev
        have e2 : vb = .int (ns.getD i 0) t := by
          have := congrArg Array.toList ev
          simp at this
          exact this.2
        refine wpAny_Name (wpAny_loadName_local S.kind S.loc hn hb ?_) hd
        exact ⟨⟨t, e2⟩, GxR.keeps_refl _⟩
    · intro g h5 tk5 gs hgb hag hsz5 hk5 W5 hat
      simp only [GxR.passing_true, List.length_range] at W5
      rw [hsz'] at W5 hat
      refine hQ ns H1 g _ q1 ⟨_, _, _, _, _, W5.in4_1, hat, ?_, ?_, fun s' hm => ?_⟩
      · intro b hb
        show b < h5.objs.size
        rcases List.mem_cons.mp hb with z | z
        · rw [z, hsz5]
          exact Nat.lt_succ_self _
        · rcases List.mem_cons.mp z with z | z
          · rw [z]
            have hag' : h3.objs.size < g := hag
            show h3.objs.size < h5.objs.size
            omega
          · have z' : b < h3.objs.size := List.mem_range.mp z
            have hag' : h3.objs.size < g := hag
            rw [hsz5]
            exact Nat.lt_succ_of_lt (Nat.lt_trans z' hag')
      · intro i v ⟨i', hi', t, e⟩
        obtain ⟨hj, ej⟩ := List.getElem?_eq_some_iff.mp hi'
        rw [List.getElem_range] at ej
        subst ej
        exact ⟨t, e⟩
      · obtain ⟨more, em⟩ := hmore
        have nwr : ∀ b u, s1.heap.get? b = some u → b ∉ h3.objs.size :: [s1.heap.objs.size] := fun b u e hb => by
          have hl := Heap.lt_size e
          rcases List.mem_cons.mp hb with z | z
          · rw [z] at hl
            have h9 : (h3.objs.size : Nat) < s1.heap.objs.size := hl
            omega
          · rcases List.mem_cons.mp z with z | z
            · rw [z] at hl
              exact Nat.lt_irrefl _ hl
            · cases z
        have J := GxR.inv_tab (more := more) (h' := s'.heap) (g' := s'.gens) (d' := s'.drawn) (t' := s'.toks) I1 hP (fun b u hb e => hm.heap b u (nwr b u e) (hk5 b u (keep3 b u hb e)))
          (by rw [← em]; exact hm.heap P _ (nwr P _ hPs) (hk5 P _ hP3)) (AllBare.movedS (I1.bare.push hgb) hm)
        rw [GxR.sh_eta s1 s' hm.os] at J
        refine ⟨upd H1 P (.tbl (ps ++ more)), ⟨⟨ps ++ more, upd_same, by rw [← em]; exact ht3⟩, fun b hb => upd_ne hb⟩, J⟩
  refine ⟨lim2, ?_⟩
  cases hf : codeAmong gpos ps.toList with
  | none =>
    refine wpAny_genexprCodeX hcode (cd.code hP2 ht) (cd.tab hP2) hf fun c' h' tk hx hge hlt hco' _ htab' _ => ?_
    obtain ⟨o1, vs, f1, tf, fl, tg, inF, tx, tt, op, _, _, _, _, _, _, _, _, _, htr, _⟩ := hco'
    exact cont _ h' tk _ hx (Nat.le_trans hge (Nat.le_of_lt hlt)) htab'.2 ⟨_, rfl⟩ htr
  | some cv =>
    refine wpAny_genexprCode_hit hcode (cd.code hP2 ht) hf ?_
    exact cont cv (s1.heap.push o) s1.toks ps (Heap.ExtBut.refl _ _) (Nat.le_refl _) hP2 ⟨#[], by simp⟩ ht
/-- sum(x for _, x in e), e a tuple of pairs -/
def tSumP (K : PySem.W.Frag) (P : Addr) (te : TE) : TE := fun σ H Q => te σ H fun v H1 => ∃ a vs ns, v = .ref a ∧ SqT K H1 a vs ∧ PairsI K H1 vs ns ∧ GxR.TabG H1 P ∧ ∀ H2, GxR.Tabbed P H1 H2 → Q (.int ns.sum) H2
theorem pe_sumP {c P : Addr} {iter : Expr} {xa xb : Str} {pa pb pe pt p pos gpos : Pos} {kt : Nat} {scope : Scope} {te : TE} {k : Nat}
    (hr : Room k X.A) (hg : Gl X "sum") (hm : X.mg "sum" = none) (TB : GxR.TabB X.base X.mg c P) (hcode : X.env.code = .ref c) (S : GxR.GenS X.env scope xb) (hxa : scope.names.lookup xa = some .local) (hab : xa ≠ xb) (hi : PE X iter te)
    (hs : ∀ v, genFold iter X.env v = pure v) (hd : (xb == ("__debug__" : Str)) = false)
    (he : starEach [.GeneratorExp (.Name xb pe) [⟨.Tuple [.Name xa pa, .Name xb pb] kt pt, iter, [], 0⟩] scope gpos] X.env = (false, eval (.GeneratorExp (.Name xb pe) [⟨.Tuple [.Name xa pa, .Name xb pb] kt pt, iter, [], 0⟩] scope gpos) X.env) :: starEach [] X.env := by rfl) :
    PE X (.Call (.Name "sum" p) [.GeneratorExp (.Name xb pe) [⟨.Tuple [.Name xa pa, .Name xb pb] kt pt, iter, [], 0⟩] scope gpos] [] pos) (tSumP X.K P te) := by
  refine ⟨fun pins s σ H Q I h => ?_⟩
  refine wpAny_Call_Name_kw (ld_blt I hg hm (by decide +kernel : bootBuiltins "sum" = some (.builtin "sum")) ?_)
  refine PyProof.Rows.callWith_builtin1 ?_ he (by rfl)
  rw [he]
  show wpAny _ _ (spliced ((false, eval _ X.env) :: backTo pos (starEach [] X.env))) _ _ s
  refine Calls.spliced_cons (gen_pairs (R := fun ns H1 => ∀ H2, GxR.Tabbed P H1 H2 → Q (.int ns.sum) H2) hr TB hcode S hxa hab hi hs hd I h fun ns H1 g s5 hR hG => ?_)
  obtain ⟨fp, wr, G, F, St, W, hst, hfp, hF, hI⟩ := hG
  refine Calls.spliced_nil ?_
  refine call_sum_walkAnyS (W.self 0 _ _ _ hst ⟨g, fp, wr, G, _, F, St, _, rfl, W, hst, hfp, hF, fun s' t' hmv => ?_⟩)
  obtain ⟨H2, hT, J⟩ := hI s' hmv
  refine ⟨.int _, H2, J, ⟨t', by rw [preSum_all]⟩, hR H2 hT⟩
end
end L3
/-! L3Gen2: .. at the store; a def whose code object is known. -/
namespace L3
open PySem PySem.Spec PyProof.Rows L2
/-- the second items of pairs -/
def secI : List D → Option (List Int)
  | [] => some []
  | .tup [_, .int n] :: r => (secI r).map (n :: ·)
  | _ => none
def asTup : D → (List D → Prop) → Prop
  | .tup ds, q => q ds
  | _, _ => False
@[simp] theorem asTup_tup (ds : List D) (q : List D → Prop) : asTup (.tup ds) q = q ds := rfl
@[simp] def tSumP3 (P : Addr) (te : TE3) : TE3 := fun τ S Q => te τ S fun d S1 => asTup d fun ds => opt (secI ds) fun ns => S1 P = some .tbl ∧ Q (.int ns.sum) S1
theorem secI_of {K : PySem.W.Frag} {H : Hp} : ∀ {ds : List D} {vs : List V} {ns : List Int}, Dvs K H vs ds → secI ds = some ns → PairsI K H vs ns
  | [], _, ns, h, e => by
    cases h
    cases e
    exact .nil
  | d :: ds, _, ns, h, e => by
    cases h with
    | cons h1 h2 =>
      unfold secI at e
      split at e
      · cases ‹_ :: _ = []›
      · next w n r ed =>
        cases ed
        cases q : secI ds with
        | none => rw [q] at e; cases e
        | some l =>
          rw [q] at e
          cases e
          refine .cons ?_ (secI_of h2 q)
          cases h1 with
          | tup g1 g2 =>
            obtain ⟨x, y, rfl, gx, gy⟩ := two_of g2
            cases gy
            exact ⟨_, x, rfl, .of g1⟩
      · cases e
theorem tab_step {K : PySem.W.Frag} {S : Sto} {H H2 : Hp} {P : Addr} (r : SRel K S H) (e : S P = some .tbl) (t : GxR.Tabbed P H H2) : Step S H S H2 ∧ SRel K S H2 := by
  obtain ⟨u, h1, h2⟩ := r P _ e
  cases u with
  | tbl ps =>
    obtain ⟨⟨ps', t1, t2⟩, t3⟩ := t
    have eH : H2 = upd H P (.tbl ps') := by
      funext b
      by_cases z : b = P
      · subst z
        rw [upd_same, t1]
      · rw [upd_ne z, t3 b z]
    have eS : up S P .tbl = S := up_eq e
    rw [eH]
    have s1 : Step S H (up S P .tbl) (upd H P (.tbl ps')) := .write e h1 trivial
    have r1 : SRel K (up S P .tbl) (upd H P (.tbl ps')) := r.write h1 trivial t2
    rw [eS] at s1 r1
    exact ⟨s1, r1⟩
  | _ => exact h2.elim
section
variable {X : Cx}
theorem pe3_sumP {c P : Addr} {iter : Expr} {xa xb : Str} {pa pb pe pt p pos gpos : Pos} {kt : Nat} {scope : Scope} {te : TE3} {k : Nat}
    (hr : Room k X.A) (hm : X.mg "sum" = none) (hg : Gl X "sum") (TB : GxR.TabB X.base X.mg c P) (hcode : X.env.code = .ref c) (S : GxR.GenS X.env scope xb) (hxa : scope.names.lookup xa = some .local) (hab : xa ≠ xb) (hi : PE3 X iter te)
    (hs : ∀ v, genFold iter X.env v = pure v) (hd : (xb == ("__debug__" : Str)) = false)
    (he : starEach [.GeneratorExp (.Name xb pe) [⟨.Tuple [.Name xa pa, .Name xb pb] kt pt, iter, [], 0⟩] scope gpos] X.env = (false, eval (.GeneratorExp (.Name xb pe) [⟨.Tuple [.Name xa pa, .Name xb pb] kt pt, iter, [], 0⟩] scope gpos) X.env) :: starEach [] X.env := by rfl) :
    PE3 X (.Call (.Name "sum" p) [.GeneratorExp (.Name xb pe) [⟨.Tuple [.Name xa pa, .Name xb pb] kt pt, iter, [], 0⟩] scope gpos] [] pos) (tSumP3 P te) := by
  refine PE.weak (pe_sumP hr hg hm TB hcode S hxa hab hi hs hd he) fun σ H Q ⟨τ, S, Pq, R, h, c⟩ => ⟨τ, S, _, R, h, fun d S1 v H1 h1 s1 r1 d1 => ?_⟩
  cases d1 with
  | tup q1 q2 =>
    rename_i a us ds
    change opt (secI ds) _ at h1
    cases e : secI ds with
    | none => rw [e] at h1; exact h1.elim
    | some ns =>
      rw [e] at h1
      obtain ⟨h2, h3⟩ := h1
      obtain ⟨u, e1, e2⟩ := r1 P _ h2
      refine ⟨a, us, ns, rfl, .of q1, secI_of q2 e, ?_, fun H2 t => ?_⟩
      · cases u with
        | tbl ps => exact ⟨ps, e1, e2⟩
        | _ => exact e2.elim
      · obtain ⟨k1, k2⟩ := tab_step r1 h2 t
        exact c _ _ _ _ h3 (s1.trans k1) k2 (.int _)
  | _ => exact h1.elim
end
section
variable {P : Program} {w : World} {K : PySem.W.Frag} {mg : Str → Option Value} {base : Heap}
theorem hu7_of3 {A : Around} {k : Nat} (hr : Room k A) : A.units + 70 < cLine := by have := hr.un; omega
/-- a look at a generator expression's scope -/
def gsC (sc : Scope) (xa xb : Str) : Bool := decide (sc.kind = .function) && !sc.isCoroutine && (sc.names.all fun y => decide (y.2 ≠ .cell) && decide (y.2 ≠ .free)) && decide (sc.names.lookup (".0" : Str) = some NameKind.local) && decide (sc.names.lookup xb = some .local) && decide (sc.names.lookup xa = some .local)
theorem gs_both {env : Env} {sc : Scope} {xa xb : Str} (h : gsC sc xa xb = true) : GxR.GenS env sc xb ∧ sc.names.lookup xa = some .local := by
  unfold gsC at h
  simp only [Bool.and_eq_true, decide_eq_true_eq, List.all_eq_true, Bool.not_eq_true'] at h
  obtain ⟨⟨⟨⟨⟨h1, h2⟩, h3⟩, h4⟩, h5⟩, h6⟩ := h
  exact ⟨⟨h1, h2, fun y hy => (h3 y hy).1, h4, h5, fun y hy e => absurd e (h3 y hy).2⟩, h6⟩
theorem gs_of {env : Env} {sc : Scope} {xa xb : Str} (h : gsC sc xa xb = true) : GxR.GenS env sc xb := (gs_both h).1
theorem gs_a {sc : Scope} {xa xb : Str} (h : gsC sc xa xb = true) : sc.names.lookup xa = some .local := by
  unfold gsC at h
  simp only [Bool.and_eq_true, decide_eq_true_eq] at h
  exact h.2
/-- a def whose code object is at c -/
theorem Fun.okC3 {x qual : Str} {st : Stmt} {f c : Addr} {fd : FuncData} {N ps : List Str} {k : Nat} {sp : Sp3} (F : Fun K x qual st f fd) (hc : fd.code = .ref c) (S : FnScope N ps (defScope st)) (len : ∀ ds S P, sp ds S P → ds.length = ps.length)
    (hbody : ∀ (A : Around) (outer : List Env) (s : Shared) (H : Hp) (E : XK) (ds : List D) (S : Sto) (Q : VK3), Room k (A.deeper (envOfC qual (defScope st) s.heap.objs.size f (.ref c))) → sp ds S Q →
      ∃ t, PSs3 (cxOf CX0 P w K mg base N qual (defScope st) f (.ref c) A outer s H E).nox (defBody st) t ∧ t { nx := fun _ S' => Fg Q .non S', rt := Fg Q } (start3 N ds) S) : FnOk P w K mg base CX0 (k + 1) f fd ps (spL K sp) := by
  obtain ⟨oc, od, kV, doc, pm, an, cdv, ct, osl, rfl, lk, hcd⟩ := F.ex
  have ec : cdv = .ref c := hc
  subst ec
  refine fn_of lk hcd S (fun vs H Q E ⟨ds, S, P, h1, h2, h3, _⟩ => h1.length.trans (len _ _ _ h3)) fun A outer s H vs Q E hr h => ?_
  obtain ⟨ds, S, P, h1, h2, h3, cc⟩ := h
  obtain ⟨t, ht, q⟩ := hbody A outer s H E ds S P hr h3
  have fin : ∀ d S' v H', Fg P d S' → Step S H S' H' → SRel K S' H' → Dv K H' v d → Q v H' := fun d S' v H' ⟨S2, l, p⟩ s r dv => cc d S2 v H' p (s.less l) (r.less l) dv
  exact ⟨_, ht.nox, start3 N ds, S, _, ⟨slots_start h1, h2⟩, q, ⟨fun τ' S' σ' H' p s r => fin _ _ _ _ p s r.st .non, fin, fun _ _ _ _ z => z.elim, fun _ _ _ _ z => z.elim⟩⟩
end
end L3
/-! L3Lc: comprehensions and loops, by their items. -/
namespace L3
open PySem PySem.Spec PyProof.Rows L2
def LcB (g : TG3) (tt : TT3) (te : TE3) (vs : List Nat) (τ : St3) (Q : VK3) (ds : List D) (ok : Sto → Prop) (S1 : Sto) : Prop :=
  ds.length ≤ sizeLine ∧ ∃ W : Nat → List D → Sto → Prop, W 0 [] S1 ∧ (∀ i acc S, i ≤ ds.length → W i acc S → ok S) ∧
  (∀ i x acc S, ds[i]? = some x → W i acc S → g x (wipe3 τ vs) S fun τ2 S2 => tt τ2 S2 fun b S3 => if b = true then te τ2 S3 fun y S4 => W (i + 1) (acc ++ [y]) S4 else W (i + 1) acc S3) ∧
  ∀ acc S, W ds.length acc S → ∀ p, S p = none → Q (.loc p) (up S p (.lst acc))
def ForB (g : TG3) (tb : TS3) (D' : Ends3) (τ : St3) (ds : List D) (ok : Sto → Prop) (S1 : Sto) : Prop :=
  ∃ W : Nat → St3 → Sto → Prop, W 0 τ S1 ∧ (∀ i τ S, i ≤ ds.length → W i τ S → ok S) ∧
  (∀ i x τ S, ds[i]? = some x → W i τ S → g x τ S fun τ2 S2 => tb { D' with nx := W (i + 1), ct := W (i + 1), bk := D'.nx } τ2 S2) ∧ ∀ τ S, W ds.length τ S → D'.nx τ S
@[simp] theorem tLc3_eq (wi : TI3) (g : TG3) (tt : TT3) (te : TE3) (vs : List Nat) (τ : St3) (S : Sto) (Q : VK3) : tLc3 wi g tt te vs τ S Q = wi τ S (LcB g tt te vs τ Q) := rfl
@[simp] theorem tFor3_eq (wi : TI3) (g : TG3) (tb : TS3) (D' : Ends3) (τ : St3) (S : Sto) : tFor3 wi g tb D' τ S = wi τ S (ForB g tb D' τ) := rfl
section
variable {g : TG3} {tt : TT3} {te : TE3} {vs : List Nat} {τ : St3} {Q : VK3} {ds : List D} {ok : Sto → Prop} {S1 : Sto}
/-- each item by F, the store as it was; those that P lets through -/
theorem lc_if (P : D → Bool) (F : D → D) (hl : ds.length ≤ sizeLine) (ho : ok S1)
    (ht : ∀ x ∈ ds, ∀ (R1 : VK3) (R0 : Sto → Prop), (if P x = true then R1 (F x) S1 else R0 S1) → g x (wipe3 τ vs) S1 fun τ2 S2 => tt τ2 S2 fun b S3 => if b = true then te τ2 S3 R1 else R0 S3)
    (hq : ∀ p, S1 p = none → Q (.loc p) (up S1 p (.lst ((ds.filter P).map F)))) : LcB g tt te vs τ Q ds ok S1 := by
  refine ⟨hl, fun i acc S => S = S1 ∧ acc = ((ds.take i).filter P).map F, ⟨rfl, rfl⟩, fun i acc S _ h => h.1 ▸ ho, fun i x acc S hx h => ?_, fun acc S h p hp => ?_⟩
  · obtain ⟨rfl, rfl⟩ := h
    refine ht x (List.mem_of_getElem? hx) _ _ ?_
    have e : ds.take (i + 1) = ds.take i ++ [x] := by
      obtain ⟨hlt, ex⟩ := List.getElem?_eq_some_iff.mp hx
      rw [List.take_succ_eq_append_getElem hlt, ex]
    by_cases z : P x = true
    · rw [if_pos z]
      refine ⟨rfl, ?_⟩
      rw [e, List.filter_append, List.map_append, List.filter_cons_of_pos z]
      rfl
    · rw [if_neg z]
      refine ⟨rfl, ?_⟩
      rw [e, List.filter_append, List.map_append, List.filter_cons_of_neg z]
      simp
  · obtain ⟨rfl, rfl⟩ := h
    rw [List.take_length]
    exact hq p hp
theorem lc_map (F : D → D) (hl : ds.length ≤ sizeLine) (ho : ok S1) (ht : ∀ x ∈ ds, ∀ R : VK3, R (F x) S1 → g x (wipe3 τ vs) S1 fun τ2 S2 => te τ2 S2 R)
    (hq : ∀ p, S1 p = none → Q (.loc p) (up S1 p (.lst (ds.map F)))) : LcB g tYes3 te vs τ Q ds ok S1 := by
  refine lc_if (fun _ => true) F hl ho (fun x hx R1 R0 h => ?_) fun p hp => ?_
  · have := ht x hx R1 (by simpa using h)
    simpa using this
  · have e : ds.filter (fun _ => true) = ds := List.filter_eq_self.mpr fun _ _ => rfl
    rw [e]
    exact hq p hp
theorem lc_ifm {α : Type} {as : List α} {f : α → D} (P : α → Bool) (F : α → D) (hl : as.length ≤ sizeLine) (ho : ok S1)
    (ht : ∀ x ∈ as, ∀ (R1 : VK3) (R0 : Sto → Prop), (if P x = true then R1 (F x) S1 else R0 S1) → g (f x) (wipe3 τ vs) S1 fun τ2 S2 => tt τ2 S2 fun b S3 => if b = true then te τ2 S3 R1 else R0 S3)
    (hq : ∀ p, S1 p = none → Q (.loc p) (up S1 p (.lst ((as.filter P).map F)))) : LcB g tt te vs τ Q (as.map f) ok S1 := by
  refine ⟨by simpa using hl, fun i acc S => S = S1 ∧ acc = ((as.take i).filter P).map F, ⟨rfl, rfl⟩, fun i acc S _ h => h.1 ▸ ho, fun i x acc S hx h => ?_, fun acc S h p hp => ?_⟩
  · obtain ⟨rfl, rfl⟩ := h
    rw [List.getElem?_map] at hx
    cases e1 : as[i]? with
    | none => rw [e1] at hx; cases hx
    | some y =>
      rw [e1] at hx
      cases hx
      refine ht y (List.mem_of_getElem? e1) _ _ ?_
      have e : as.take (i + 1) = as.take i ++ [y] := by
        obtain ⟨hlt, ex⟩ := List.getElem?_eq_some_iff.mp e1
        rw [List.take_succ_eq_append_getElem hlt, ex]
      by_cases z : P y = true
      · rw [if_pos z]
        refine ⟨rfl, ?_⟩
        rw [e, List.filter_append, List.map_append, List.filter_cons_of_pos z]
        rfl
      · rw [if_neg z]
        refine ⟨rfl, ?_⟩
        rw [e, List.filter_append, List.map_append, List.filter_cons_of_neg z]
        simp
  · obtain ⟨rfl, rfl⟩ := h
    rw [List.length_map, List.take_length]
    exact hq p hp
theorem lc_mapm {α : Type} {as : List α} {f : α → D} (F : α → D) (hl : as.length ≤ sizeLine) (ho : ok S1) (ht : ∀ x ∈ as, ∀ R : VK3, R (F x) S1 → g (f x) (wipe3 τ vs) S1 fun τ2 S2 => te τ2 S2 R)
    (hq : ∀ p, S1 p = none → Q (.loc p) (up S1 p (.lst (as.map F)))) : LcB g tYes3 te vs τ Q (as.map f) ok S1 := by
  refine lc_ifm (fun _ => true) F hl ho (fun x hx R1 R0 h => ?_) fun p hp => ?_
  · have := ht x hx R1 (by simpa using h)
    simpa using this
  · have e : as.filter (fun _ => true) = as := List.filter_eq_self.mpr fun _ _ => rfl
    rw [e]
    exact hq p hp
/-- each item makes something; the store goes on by I -/
theorem lc_each (I : Sto → Prop) (G : D → Prop) (hl : ds.length ≤ sizeLine) (h0 : I S1) (ho : ∀ S, I S → ok S)
    (ht : ∀ x ∈ ds, ∀ S, I S → ∀ R : VK3, (∀ y S', G y → I S' → R y S') → g x (wipe3 τ vs) S fun τ2 S2 => te τ2 S2 R)
    (hq : ∀ acc S, I S → acc.length = ds.length → (∀ y ∈ acc, G y) → ∀ p, S p = none → Q (.loc p) (up S p (.lst acc))) : LcB g tYes3 te vs τ Q ds ok S1 := by
  refine ⟨hl, fun i acc S => I S ∧ acc.length = i ∧ ∀ y ∈ acc, G y, ⟨h0, rfl, fun y hy => nomatch hy⟩, fun i acc S _ h => ho S h.1, fun i x acc S hx h => ?_, fun acc S h p hp => hq acc S h.1 h.2.1 h.2.2 p hp⟩
  have := ht x (List.mem_of_getElem? hx) S h.1 (fun y S4 => I S4 ∧ (acc ++ [y]).length = i + 1 ∧ ∀ z ∈ acc ++ [y], G z) fun y S' hy hS => ⟨hS, by simp [h.2.1], fun z hz => by
    rcases List.mem_append.mp hz with q | q
    · exact h.2.2 z q
    · rw [List.mem_singleton.mp q]
      exact hy⟩
  simpa using this
end
/-- a loop with an invariant -/
theorem for_inv {g : TG3} {tb : TS3} {D' : Ends3} {τ : St3} {ds : List D} {ok : Sto → Prop} {S1 : Sto} (W : Nat → St3 → Sto → Prop) (h0 : W 0 τ S1) (ho : ∀ i τ S, W i τ S → ok S)
    (ht : ∀ i x τ S, ds[i]? = some x → W i τ S → ∀ R : St3 → Sto → Prop, (∀ τ' S', W (i + 1) τ' S' → R τ' S') → g x τ S fun τ2 S2 => tb { D' with nx := R, ct := R, bk := D'.nx } τ2 S2) (hd : ∀ τ S, W ds.length τ S → D'.nx τ S) : ForB g tb D' τ ds ok S1 :=
  ⟨W, h0, fun i τ S _ h => ho i τ S h, fun i x τ S hx h => ht i x τ S hx h _ fun _ _ z => z, hd⟩
theorem walk_seq {d : D} {S : Sto} {ds : List D} {R : List D → (Sto → Prop) → Sto → Prop} (h : seqD S d = some ds) (hR : ∀ ok, ok S → R ds ok S) : walkD d S R := by
  unfold seqD at h
  cases d with
  | tup xs => cases h; exact hR _ trivial
  | rol xs => cases h; exact hR _ trivial
  | loc a =>
    dsimp only at h
    rw [walkD_loc]
    split at h
    · next e =>
      cases h
      rw [e]
      exact hR _ e
    · cases h
  | _ => cases h
theorem walk_seq' {d : D} {S : Sto} {ds : List D} {R : List D → (Sto → Prop) → Sto → Prop} (h : seqD S d = some ds) (hR : ∀ ok : Sto → Prop, (∀ S', (∀ b xs, S b = some (.lst xs) → S' b = some (.lst xs)) → ok S') → R ds ok S) : walkD d S R := by
  unfold seqD at h
  cases d with
  | tup xs => cases h; exact hR _ fun _ _ => trivial
  | rol xs => cases h; exact hR _ fun _ _ => trivial
  | loc a =>
    dsimp only at h
    rw [walkD_loc]
    split at h
    · next e =>
      cases h
      rw [e]
      exact hR _ fun S' k => k _ _ e
    · cases h
  | _ => cases h
theorem sum_call {S : Sto} {p : Addr} {ns : List Int} {Q : VK3} (h : S p = some (.lst (ns.map D.int))) (hq : Q (.int ns.sum) S) : oSum [.loc p] S Q := by
  simp [oSum, oInts_eq, lstD_loc S p h]
  exact hq
theorem Sub.up {S S' : Sto} {p : Addr} {o : MO} (h : Sub S S') (hp : S p = none) : Sub S (L3.up S' p o) := by
  intro b u e
  have hne : b ≠ p := fun z => by rw [z, hp] at e; cases e
  rw [up_ne hne]
  exact h b u e
end L3
namespace K07
open PySem PySem.Spec PyProof.Rows L2 L3
def topS (i : Nat) : Stmt := PySem.Challenge.pw_aswritten_k07_norm_of_sums_of_rows.main.body.getD i (.Pass ⟨0, 0, 0, 0⟩)
abbrev s_norm : Stmt := topS 1
abbrev N_norm : List Str := ["pairs", "least", "weights", "sign", "wanted", "c", "parts"]
theorem sc_norm : FnScope N_norm ["pairs", "least"] (defScope s_norm) := ⟨rfl, rfl, rfl, by decide +kernel, rfl, by decide +kernel, by decide +kernel⟩
abbrev s_denial : Stmt := topS 2
abbrev N_denial : List Str := ["row", "side", "c"]
theorem sc_denial : FnScope N_denial ["row"] (defScope s_denial) := ⟨rfl, rfl, rfl, by decide +kernel, rfl, by decide +kernel, by decide +kernel⟩
abbrev s_row_clashes : Stmt := topS 3
abbrev N_row_clashes : List Str := ["row", "_", "c"]
theorem sc_row_clashes : FnScope N_row_clashes ["row"] (defScope s_row_clashes) := ⟨rfl, rfl, rfl, by decide +kernel, rfl, by decide +kernel, by decide +kernel⟩
abbrev s__law_mix : Stmt := topS 5
abbrev N__law_mix : List Str := ["seed", "turn", "one"]
theorem sc__law_mix : FnScope N__law_mix ["seed", "turn"] (defScope s__law_mix) := ⟨rfl, rfl, rfl, by decide +kernel, rfl, by decide +kernel, by decide +kernel⟩
abbrev s__law_open : Stmt := topS 6
abbrev N__law_open : List Str := ["script", "cell", "cells", "seed"]
theorem sc__law_open : FnScope N__law_open ["script"] (defScope s__law_open) := ⟨rfl, rfl, rfl, by decide +kernel, rfl, by decide +kernel, by decide +kernel⟩
abbrev s__law_pick : Stmt := topS 7
abbrev N__law_pick : List Str := ["feed", "many", "got"]
theorem sc__law_pick : FnScope N__law_pick ["feed", "many"] (defScope s__law_pick) := ⟨rfl, rfl, rfl, by decide +kernel, rfl, by decide +kernel, by decide +kernel⟩
abbrev s__law_of : Stmt := topS 8
abbrev N__law_of : List Str := ["feed", "row"]
theorem sc__law_of : FnScope N__law_of ["feed", "row"] (defScope s__law_of) := ⟨rfl, rfl, rfl, by decide +kernel, rfl, by decide +kernel, by decide +kernel⟩
abbrev s__law_mixed : Stmt := topS 9
abbrev N__law_mixed : List Str := ["feed", "row", "found", "one"]
theorem sc__law_mixed : FnScope N__law_mixed ["feed", "row"] (defScope s__law_mixed) := ⟨rfl, rfl, rfl, by decide +kernel, rfl, by decide +kernel, by decide +kernel⟩
abbrev s__law_same : Stmt := topS 10
abbrev N__law_same : List Str := ["told", "due", "k"]
theorem sc__law_same : FnScope N__law_same ["told", "due"] (defScope s__law_same) := ⟨rfl, rfl, rfl, by decide +kernel, rfl, by decide +kernel, by decide +kernel⟩
abbrev s__law_names : Stmt := topS 11
abbrev N__law_names : List Str := ["feed", "many", "signs", "turn", "k", "ahead", "behind", "found", "place"]
theorem sc__law_names : FnScope N__law_names ["feed", "many"] (defScope s__law_names) := ⟨rfl, rfl, rfl, by decide +kernel, rfl, by decide +kernel, by decide +kernel⟩
abbrev s__law_signs : Stmt := topS 12
abbrev N__law_signs : List Str := ["feed", "many", "names", "k", "found", "x"]
theorem sc__law_signs : FnScope N__law_signs ["feed", "many"] (defScope s__law_signs) := ⟨rfl, rfl, rfl, by decide +kernel, rfl, by decide +kernel, by decide +kernel⟩
abbrev s__law_sum : Stmt := topS 13
abbrev N__law_sum : List Str := ["feed", "signs", "many", "size", "found", "k", "c"]
theorem sc__law_sum : FnScope N__law_sum ["feed", "signs", "many"] (defScope s__law_sum) := ⟨rfl, rfl, rfl, by decide +kernel, rfl, by decide +kernel, by decide +kernel⟩
abbrev s__law_weight : Stmt := topS 14
abbrev N__law_weight : List Str := ["pairs", "setting", "side", "c"]
theorem sc__law_weight : FnScope N__law_weight ["pairs", "setting"] (defScope s__law_weight) := ⟨rfl, rfl, rfl, by decide +kernel, rfl, by decide +kernel, by decide +kernel⟩
abbrev s__law_lowest : Stmt := topS 15
abbrev N__law_lowest : List Str := ["pairs", "with_it", "without", "side", "c", "sign"]
theorem sc__law_lowest : FnScope N__law_lowest ["pairs"] (defScope s__law_lowest) := ⟨rfl, rfl, rfl, by decide +kernel, rfl, by decide +kernel, by decide +kernel⟩
abbrev s__law_is_row : Stmt := topS 16
abbrev N__law_is_row : List Str := ["row", "sides", "signs", "part", "side", "sign"]
theorem sc__law_is_row : FnScope N__law_is_row ["row"] (defScope s__law_is_row) := ⟨rfl, rfl, rfl, by decide +kernel, rfl, by decide +kernel, by decide +kernel⟩
abbrev s__law_twice : Stmt := topS 17
abbrev N__law_twice : List Str := ["row", "part"]
theorem sc__law_twice : FnScope N__law_twice ["row"] (defScope s__law_twice) := ⟨rfl, rfl, rfl, by decide +kernel, rfl, by decide +kernel, by decide +kernel⟩
abbrev s__law_meant : Stmt := topS 18
abbrev N__law_meant : List Str := ["feed", "signs", "pairs", "least", "row", "turn", "setting", "sign"]
theorem sc__law_meant : FnScope N__law_meant ["feed", "signs", "pairs", "least", "row"] (defScope s__law_meant) := ⟨rfl, rfl, rfl, by decide +kernel, rfl, by decide +kernel, by decide +kernel⟩
abbrev s_law : Stmt := topS 19
abbrev N_law : List Str := ["script", "feed", "signs", "one", "two", "low", "high", "a", "b", "first", "second", "both", "row", "times", "many", "turned", "total", "against", "side", "c", "part"]
theorem sc_law : FnScope N_law ["script"] (defScope s_law) := ⟨rfl, rfl, rfl, by decide +kernel, rfl, by decide +kernel, by decide +kernel⟩
/-- what stands behind the top -/
structure Txt (K : PySem.W.Frag) (mg : Str → Option Value) where
  f_norm : Addr
  fd_norm : FuncData
  F_norm : Fun K "norm" "norm" s_norm f_norm fd_norm
  b_norm : Binds K fd_norm ["pairs", "least"] []
  g_norm : mg "norm" = some (.ref f_norm)
  f_denial : Addr
  fd_denial : FuncData
  F_denial : Fun K "denial" "denial" s_denial f_denial fd_denial
  b_denial : Binds K fd_denial ["row"] []
  g_denial : mg "denial" = some (.ref f_denial)
  f_row_clashes : Addr
  fd_row_clashes : FuncData
  F_row_clashes : Fun K "row_clashes" "row_clashes" s_row_clashes f_row_clashes fd_row_clashes
  b_row_clashes : Binds K fd_row_clashes ["row"] []
  g_row_clashes : mg "row_clashes" = some (.ref f_row_clashes)
  c_row_clashes : Addr
  P_row_clashes : Addr
  e_row_clashes : fd_row_clashes.code = .ref c_row_clashes
  f__law_mix : Addr
  fd__law_mix : FuncData
  F__law_mix : Fun K "_law_mix" "_law_mix" s__law_mix f__law_mix fd__law_mix
  b__law_mix : Binds K fd__law_mix ["seed", "turn"] []
  g__law_mix : mg "_law_mix" = some (.ref f__law_mix)
  f__law_open : Addr
  fd__law_open : FuncData
  F__law_open : Fun K "_law_open" "_law_open" s__law_open f__law_open fd__law_open
  b__law_open : Binds K fd__law_open ["script"] []
  g__law_open : mg "_law_open" = some (.ref f__law_open)
  f__law_pick : Addr
  fd__law_pick : FuncData
  F__law_pick : Fun K "_law_pick" "_law_pick" s__law_pick f__law_pick fd__law_pick
  b__law_pick : Binds K fd__law_pick ["feed", "many"] []
  g__law_pick : mg "_law_pick" = some (.ref f__law_pick)
  f__law_of : Addr
  fd__law_of : FuncData
  F__law_of : Fun K "_law_of" "_law_of" s__law_of f__law_of fd__law_of
  b__law_of : Binds K fd__law_of ["feed", "row"] []
  g__law_of : mg "_law_of" = some (.ref f__law_of)
  f__law_mixed : Addr
  fd__law_mixed : FuncData
  F__law_mixed : Fun K "_law_mixed" "_law_mixed" s__law_mixed f__law_mixed fd__law_mixed
  b__law_mixed : Binds K fd__law_mixed ["feed", "row"] []
  g__law_mixed : mg "_law_mixed" = some (.ref f__law_mixed)
  f__law_same : Addr
  fd__law_same : FuncData
  F__law_same : Fun K "_law_same" "_law_same" s__law_same f__law_same fd__law_same
  b__law_same : Binds K fd__law_same ["told", "due"] []
  g__law_same : mg "_law_same" = some (.ref f__law_same)
  f__law_names : Addr
  fd__law_names : FuncData
  F__law_names : Fun K "_law_names" "_law_names" s__law_names f__law_names fd__law_names
  b__law_names : Binds K fd__law_names ["feed", "many"] []
  g__law_names : mg "_law_names" = some (.ref f__law_names)
  f__law_signs : Addr
  fd__law_signs : FuncData
  F__law_signs : Fun K "_law_signs" "_law_signs" s__law_signs f__law_signs fd__law_signs
  b__law_signs : Binds K fd__law_signs ["feed", "many"] []
  g__law_signs : mg "_law_signs" = some (.ref f__law_signs)
  f__law_sum : Addr
  fd__law_sum : FuncData
  F__law_sum : Fun K "_law_sum" "_law_sum" s__law_sum f__law_sum fd__law_sum
  b__law_sum : Binds K fd__law_sum ["feed", "signs", "many"] []
  g__law_sum : mg "_law_sum" = some (.ref f__law_sum)
  f__law_weight : Addr
  fd__law_weight : FuncData
  F__law_weight : Fun K "_law_weight" "_law_weight" s__law_weight f__law_weight fd__law_weight
  b__law_weight : Binds K fd__law_weight ["pairs", "setting"] []
  g__law_weight : mg "_law_weight" = some (.ref f__law_weight)
  f__law_lowest : Addr
  fd__law_lowest : FuncData
  F__law_lowest : Fun K "_law_lowest" "_law_lowest" s__law_lowest f__law_lowest fd__law_lowest
  b__law_lowest : Binds K fd__law_lowest ["pairs"] []
  g__law_lowest : mg "_law_lowest" = some (.ref f__law_lowest)
  f__law_is_row : Addr
  fd__law_is_row : FuncData
  F__law_is_row : Fun K "_law_is_row" "_law_is_row" s__law_is_row f__law_is_row fd__law_is_row
  b__law_is_row : Binds K fd__law_is_row ["row"] []
  g__law_is_row : mg "_law_is_row" = some (.ref f__law_is_row)
  f__law_twice : Addr
  fd__law_twice : FuncData
  F__law_twice : Fun K "_law_twice" "_law_twice" s__law_twice f__law_twice fd__law_twice
  b__law_twice : Binds K fd__law_twice ["row"] []
  g__law_twice : mg "_law_twice" = some (.ref f__law_twice)
  f__law_meant : Addr
  fd__law_meant : FuncData
  F__law_meant : Fun K "_law_meant" "_law_meant" s__law_meant f__law_meant fd__law_meant
  b__law_meant : Binds K fd__law_meant ["feed", "signs", "pairs", "least", "row"] []
  g__law_meant : mg "_law_meant" = some (.ref f__law_meant)
  f_law : Addr
  fd_law : FuncData
  F_law : Fun K "law" "law" s_law f_law fd_law
  b_law : Binds K fd_law ["script"] []
  g_law : mg "law" = some (.ref f_law)
  m_all : mg "all" = none
  m_bool : mg "bool" = none
  m_dict : mg "dict" = none
  m_int : mg "int" = none
  m_isinstance : mg "isinstance" = none
  m_len : mg "len" = none
  m_list : mg "list" = none
  m_max : mg "max" = none
  m_min : mg "min" = none
  m_range : mg "range" = none
  m_sorted : mg "sorted" = none
  m_str : mg "str" = none
  m_sum : mg "sum" = none
  m_tuple : mg "tuple" = none
end K07
/-! K07Math: sums over signs, plainly. -/
namespace K07
open PySem PySem.Spec PyProof.Rows L2 L3
abbrev Sg := List Key
abbrev Pr := Sg × Bool × Int
def sgn (b : Bool) (c : Int) : Int := if b then c else -c
def W (ps : List Pr) (s : Sg) : Int := (ps.map fun p => if p.1 = s then sgn p.2.1 p.2.2 else 0).sum
def N (ps : List Pr) : Int := (ps.map fun p => if p.2.1 then 0 else p.2.2).sum
def Tt (ps : List Pr) : Int := (ps.map fun p => p.2.2).sum
def wt (f : Sg → Bool) (ps : List Pr) : Int := (ps.map fun p => if f p.1 = p.2.1 then p.2.2 else 0).sum
def WS (f : Sg → Bool) (ps : List Pr) : Int := (ps.map fun p => if f p.1 then sgn p.2.1 p.2.2 else 0).sum
def sgD (s : Sg) : D := .tup (s.map kD)
def sdD (s : Sg) (b : Bool) : D := .tup [sgD s, .bl b]
def prD (p : Pr) : D := .tup [sdD p.1 p.2.1, .int p.2.2]
def rowD (ps : List Pr) (l : Int) : D := .tup [.tup (ps.map prD), .int l]
def ltS (s t : Sg) : Bool := ltD (sgD s) (sgD t)

/-! ### sums -/
theorem wt_eq (f : Sg → Bool) : ∀ ps : List Pr, wt f ps = N ps + WS f ps
  | [] => rfl
  | (s, b, c) :: ps => by
    have ih := wt_eq f ps
    unfold wt N WS at *
    simp only [List.map_cons, List.sum_cons]
    rw [ih]
    cases b <;> cases f s <;> simp [sgn] <;> omega
theorem sum_zero {α : Type} (l : List α) (f : α → Int) (h : ∀ x ∈ l, f x = 0) : (l.map f).sum = 0 := by
  induction l with
  | nil => rfl
  | cons x l ih =>
    rw [List.map_cons, List.sum_cons, h x List.mem_cons_self, ih fun y hy => h y (List.mem_cons_of_mem _ hy)]
    rfl
theorem sum_add {α : Type} (l : List α) (f g : α → Int) : (l.map fun x => f x + g x).sum = (l.map f).sum + (l.map g).sum := by
  induction l with
  | nil => rfl
  | cons x l ih =>
    simp only [List.map_cons, List.sum_cons]
    rw [ih]
    omega
theorem sum_one {α : Type} [DecidableEq α] (a : α) (x : Int) : ∀ l : List α, l.Nodup → a ∈ l → (l.map fun s => if a = s then x else 0).sum = x
  | [], _, h => nomatch h
  | b :: l, hn, h => by
    have hn' := List.nodup_cons.mp hn
    rw [List.map_cons, List.sum_cons]
    by_cases e : a = b
    · subst e
      rw [if_pos rfl, sum_zero l _ fun y hy => if_neg fun z => hn'.1 (by rw [z]; exact hy)]
      omega
    · rw [if_neg e, sum_one a x l hn'.2 ((List.mem_cons.mp h).resolve_left e)]
      omega
theorem perm_sum {l m : List Int} (h : l.Perm m) : l.sum = m.sum := by
  induction h with
  | nil => rfl
  | cons x _ ih => simp only [List.sum_cons, ih]
  | swap x y l => simp only [List.sum_cons]; omega
  | trans _ _ h1 h2 => exact h1.trans h2
theorem perm_map_sum {α : Type} {l m : List α} (f : α → Int) (h : l.Perm m) : (l.map f).sum = (m.map f).sum := perm_sum (h.map f)
theorem sum_filter {α : Type} (f : α → Int) : ∀ l : List α, (l.map f).sum = ((l.filter fun x => f x ≠ 0).map f).sum
  | [] => rfl
  | x :: l => by
    rw [List.map_cons, List.sum_cons, sum_filter f l]
    by_cases e : f x = 0
    · rw [List.filter_cons_of_neg (by simp [e]), e]
      omega
    · rw [List.filter_cons_of_pos (by simp [e]), List.map_cons, List.sum_cons]
theorem sum_cover {α : Type} [DecidableEq α] (f : α → Int) {l m : List α} (hl : l.Nodup) (hm : m.Nodup) (h1 : ∀ x, f x ≠ 0 → x ∈ l) (h2 : ∀ x, f x ≠ 0 → x ∈ m) : (l.map f).sum = (m.map f).sum := by
  rw [sum_filter f l, sum_filter f m]
  refine perm_map_sum f ((List.perm_ext_iff_of_nodup (hl.filter _) (hm.filter _)).mpr fun x => ?_)
  simp only [List.mem_filter, decide_eq_true_eq]
  exact ⟨fun h => ⟨h2 x h.2, h.2⟩, fun h => ⟨h1 x h.2, h.2⟩⟩
open Classical in
/-- the signs that are told, each once -/
noncomputable def keys (ps : List Pr) : List Sg := (ps.map (·.1)).foldl (fun acc s => if s ∈ acc then acc else acc ++ [s]) []
open Classical in
theorem keys_go : ∀ (l acc : List Sg), acc.Nodup → (l.foldl (fun acc s => if s ∈ acc then acc else acc ++ [s]) acc).Nodup ∧ ∀ s, s ∈ l.foldl (fun acc s => if s ∈ acc then acc else acc ++ [s]) acc ↔ s ∈ acc ∨ s ∈ l
  | [], acc, h => ⟨h, fun s => by simp⟩
  | x :: l, acc, h => by
    rw [List.foldl_cons]
    by_cases e : x ∈ acc
    · rw [if_pos e]
      obtain ⟨h1, h2⟩ := keys_go l acc h
      refine ⟨h1, fun s => ?_⟩
      rw [h2 s, List.mem_cons]
      constructor
      · rintro (z | z)
        · exact .inl z
        · exact .inr (.inr z)
      · rintro (z | z | z)
        · exact .inl z
        · subst z; exact .inl e
        · exact .inr z
    · rw [if_neg e]
      have hn : (acc ++ [x]).Nodup := List.nodup_append.mpr ⟨h, by simp, fun a ha b hb => by
        rw [List.mem_singleton.mp hb]
        exact fun z => e (by rw [← z]; exact ha)⟩
      obtain ⟨h1, h2⟩ := keys_go l _ hn
      refine ⟨h1, fun s => ?_⟩
      rw [h2 s, List.mem_append, List.mem_singleton, List.mem_cons]
      constructor
      · rintro ((z | z) | z)
        · exact .inl z
        · exact .inr (.inl z)
        · exact .inr (.inr z)
      · rintro (z | z | z)
        · exact .inl (.inl z)
        · exact .inl (.inr z)
        · exact .inr z
theorem keys_nodup (ps : List Pr) : (keys ps).Nodup := (keys_go _ [] List.nodup_nil).1
theorem mem_keys (ps : List Pr) (s : Sg) : s ∈ keys ps ↔ ∃ p ∈ ps, p.1 = s := by
  unfold keys
  rw [(keys_go _ [] List.nodup_nil).2 s]
  simp
/-- a sum over the pairs, sign by sign -/
theorem by_sign (h : Pr → Int) {ks : List Sg} (hn : ks.Nodup) : ∀ ps : List Pr, (∀ p ∈ ps, p.1 ∈ ks) → (ps.map h).sum = (ks.map fun s => (ps.map fun p => if p.1 = s then h p else 0).sum).sum
  | [], _ => (sum_zero ks _ fun _ _ => rfl).symm
  | p :: ps, hk => by
    have e : (ks.map fun s => ((p :: ps).map fun p => if p.1 = s then h p else 0).sum) = ks.map fun s => (if p.1 = s then h p else 0) + (ps.map fun p => if p.1 = s then h p else 0).sum := by simp
    rw [e, sum_add, sum_one p.1 (h p) ks hn (hk p List.mem_cons_self), ← by_sign h hn ps fun q hq => hk q (List.mem_cons_of_mem _ hq)]
    simp
theorem if_if (f : Sg → Bool) (s : Sg) (ps : List Pr) : (ps.map fun p => if p.1 = s then (if f p.1 then sgn p.2.1 p.2.2 else 0) else 0).sum = if f s then W ps s else 0 := by
  unfold W
  induction ps with
  | nil => cases f s <;> rfl
  | cons p ps ih =>
    simp only [List.map_cons, List.sum_cons]
    rw [ih]
    by_cases e : p.1 = s
    · rw [if_pos e, if_pos e, e]
      cases f s <;> simp
    · rw [if_neg e, if_neg e]
      cases f s <;> simp
theorem WS_by (f : Sg → Bool) {ks : List Sg} (hn : ks.Nodup) (ps : List Pr) (h : ∀ p ∈ ps, p.1 ∈ ks) : WS f ps = (ks.map fun s => if f s then W ps s else 0).sum := by
  unfold WS
  rw [by_sign _ hn ps h]
  congr 1
  exact List.map_congr_left fun s _ => if_if f s ps
theorem WS_eq (f : Sg → Bool) {ps qs : List Pr} (h : ∀ s, W ps s = W qs s) : WS f ps = WS f qs := by
  have hn := keys_nodup (ps ++ qs)
  rw [WS_by f hn ps fun p hp => (mem_keys _ _).mpr ⟨p, List.mem_append_left _ hp, rfl⟩, WS_by f hn qs fun p hp => (mem_keys _ _).mpr ⟨p, List.mem_append_right _ hp, rfl⟩]
  congr 1
  exact List.map_congr_left fun s _ => by rw [h s]
theorem W_none {ps : List Pr} {s : Sg} (h : ∀ p ∈ ps, p.1 ≠ s) : W ps s = 0 := sum_zero _ _ fun p hp => if_neg (h p hp)
theorem W_app (ps qs : List Pr) (s : Sg) : W (ps ++ qs) s = W ps s + W qs s := by
  unfold W
  rw [List.map_append, List.sum_append]
theorem N_app (ps qs : List Pr) : N (ps ++ qs) = N ps + N qs := by
  unfold N
  rw [List.map_append, List.sum_append]
theorem W_perm {ps qs : List Pr} (h : ps.Perm qs) (s : Sg) : W ps s = W qs s := perm_map_sum _ h
theorem N_perm {ps qs : List Pr} (h : ps.Perm qs) : N ps = N qs := perm_map_sum _ h

/-! ### the normal form -/
/-- the least number of a part's own -/
structure IsNorm (ps : List Pr) (l : Int) (qs : List Pr) (m : Int) : Prop where
  srt : qs.Pairwise fun p q => ltS p.1 q.1 = true
  pos : ∀ q ∈ qs, 1 ≤ q.2.2
  val : ∀ q ∈ qs, W ps q.1 = sgn q.2.1 q.2.2
  all : ∀ s, W ps s ≠ 0 → ∃ q ∈ qs, q.1 = s
  num : m = max (l - N ps + N qs) 0
theorem ltS_irrefl (s : Sg) : ltS s s = false := lex_irrefl _
theorem ltS_trans {s t u : Sg} (h1 : ltS s t = true) (h2 : ltS t u = true) : ltS s u = true := lex_trans _ _ _ h1 h2
theorem nodup_of {qs : List Pr} (h : qs.Pairwise fun p q => ltS p.1 q.1 = true) : (qs.map (·.1)).Nodup := by
  rw [List.Nodup, List.pairwise_map]
  refine h.imp fun {p q} r e => ?_
  rw [e, ltS_irrefl] at r
  cases r
theorem W_self {qs : List Pr} (h : (qs.map (·.1)).Nodup) : ∀ q ∈ qs, W qs q.1 = sgn q.2.1 q.2.2 := by
  induction qs with
  | nil => exact fun q hq => nomatch hq
  | cons p qs ih =>
    rw [List.map_cons, List.nodup_cons] at h
    intro q hq
    have hW : ∀ s, W (p :: qs) s = (if p.1 = s then sgn p.2.1 p.2.2 else 0) + W qs s := fun s => by
      unfold W
      rw [List.map_cons, List.sum_cons]
    rw [hW]
    rcases List.mem_cons.mp hq with e | e
    · subst e
      rw [if_pos rfl, W_none fun r hr z => h.1 (by rw [← z]; exact List.mem_map_of_mem (f := (·.1)) hr)]
      omega
    · have hne : p.1 ≠ q.1 := fun z => h.1 (by rw [z]; exact List.mem_map_of_mem (f := (·.1)) e)
      rw [if_neg hne, ih h.2 q e]
      omega
theorem IsNorm.W_eq {ps qs : List Pr} {l m : Int} (h : IsNorm ps l qs m) (s : Sg) : W qs s = W ps s := by
  by_cases e : ∃ q ∈ qs, q.1 = s
  · obtain ⟨q, hq, rfl⟩ := e
    rw [W_self (nodup_of h.srt) q hq, h.val q hq]
  · have h0 : W ps s = 0 := Classical.byContradiction fun z => e (h.all s z)
    rw [h0, W_none fun q hq z => e ⟨q, hq, z⟩]
/-- two rows in order with the same items are the same -/
theorem srt_unique {α : Type} {lt : α → α → Bool} (irr : ∀ a, lt a a = false) (tr : ∀ a b c, lt a b = true → lt b c = true → lt a c = true) : ∀ {l m : List α}, l.Pairwise (fun a b => lt a b = true) → m.Pairwise (fun a b => lt a b = true) → (∀ x, x ∈ l ↔ x ∈ m) → l = m
  | [], [], _, _, _ => rfl
  | [], y :: m, _, _, h => absurd ((h y).mpr List.mem_cons_self) (by simp)
  | x :: l, [], _, _, h => absurd ((h x).mp List.mem_cons_self) (by simp)
  | x :: l, y :: m, hl, hm, h => by
    have hl' := List.pairwise_cons.mp hl
    have hm' := List.pairwise_cons.mp hm
    have e : x = y := by
      rcases List.mem_cons.mp ((h x).mp List.mem_cons_self) with z | z
      · exact z
      · rcases List.mem_cons.mp ((h y).mpr List.mem_cons_self) with w | w
        · exact w.symm
        · have := tr _ _ _ (hm'.1 x z) (hl'.1 y w)
          rw [irr] at this
          cases this
    subst e
    refine congrArg (x :: ·) (srt_unique irr tr hl'.2 hm'.2 fun z => ?_)
    have hx : ∀ {l : List α}, (∀ b ∈ l, lt x b = true) → x ∉ l := fun h z => by
      have := h x z
      rw [irr] at this
      cases this
    constructor
    · intro q
      rcases List.mem_cons.mp ((h z).mp (List.mem_cons_of_mem _ q)) with w | w
      · subst w; exact (hx hl'.1 q).elim
      · exact w
    · intro q
      rcases List.mem_cons.mp ((h z).mpr (List.mem_cons_of_mem _ q)) with w | w
      · subst w; exact (hx hm'.1 q).elim
      · exact w
theorem sgn_inj {b b' : Bool} {c c' : Int} (h : 1 ≤ c) (h' : 1 ≤ c') (e : sgn b c = sgn b' c') : b = b' ∧ c = c' := by
  cases b <;> cases b' <;> simp [sgn] at e <;> first
    | exact ⟨rfl, by omega⟩
    | (exfalso; omega)
theorem IsNorm.uniq {ps ps' qs qs' : List Pr} {l l' m m' : Int} (h : IsNorm ps l qs m) (h' : IsNorm ps' l' qs' m') (e : ∀ s, W ps s = W ps' s) (el : l - N ps = l' - N ps') : qs = qs' ∧ m = m' := by
  have mem : ∀ {ps ps' qs qs' : List Pr} {l l' m m' : Int}, IsNorm ps l qs m → IsNorm ps' l' qs' m' → (∀ s, W ps s = W ps' s) → ∀ q, q ∈ qs → q ∈ qs' := by
    intro ps ps' qs qs' l l' m m' h h' e q hq
    have h0 : W ps' q.1 ≠ 0 := by
      rw [← e, h.val q hq]
      have := h.pos q hq
      unfold sgn
      split <;> omega
    obtain ⟨r, hr, er⟩ := h'.all _ h0
    have v1 := h.val q hq
    have v2 := h'.val r hr
    rw [er, ← e, v1] at v2
    obtain ⟨z1, z2⟩ := sgn_inj (h.pos q hq) (h'.pos r hr) v2
    have : q = r := Prod.ext er.symm (Prod.ext z1 z2)
    rw [this]
    exact hr
  have eq : qs = qs' := srt_unique (lt := fun p q : Pr => ltS p.1 q.1) (fun a => ltS_irrefl _) (fun a b c => ltS_trans) h.srt h'.srt fun q => ⟨mem h h' e q, mem h' h (fun s => (e s).symm) q⟩
  subst eq
  exact ⟨rfl, by rw [h.num, h'.num, el]⟩
/-- a row in order is its own normal form -/
structure IsRow (qs : List Pr) (m : Int) : Prop where
  srt : qs.Pairwise fun p q => ltS p.1 q.1 = true
  pos : ∀ q ∈ qs, 1 ≤ q.2.2
  num : 0 ≤ m
theorem IsNorm.row {ps qs : List Pr} {l m : Int} (h : IsNorm ps l qs m) : IsRow qs m := ⟨h.srt, h.pos, by rw [h.num]; omega⟩
theorem W_mem {qs : List Pr} {s : Sg} (h : W qs s ≠ 0) : ∃ q ∈ qs, q.1 = s := Classical.byContradiction fun z => h (W_none fun q hq e => z ⟨q, hq, e⟩)
theorem IsRow.norm {qs : List Pr} {m : Int} (h : IsRow qs m) : IsNorm qs m qs m := ⟨h.srt, h.pos, W_self (nodup_of h.srt), fun s => W_mem, by have := h.num; omega⟩
/-- the signs turned -/
def flp (qs : List Pr) : List Pr := qs.map fun q => (q.1, !q.2.1, q.2.2)
def neg (qs : List Pr) : List Pr := qs.map fun q => (q.1, q.2.1, -q.2.2)
theorem W_neg (qs : List Pr) (s : Sg) : W (neg qs) s = -W qs s := by
  unfold W neg
  induction qs with
  | nil => rfl
  | cons q qs ih =>
    simp only [List.map_cons, List.sum_cons] at *
    rw [ih]
    by_cases e : q.1 = s
    · rw [if_pos e, if_pos e]
      cases q.2.1 <;> simp [sgn] <;> omega
    · rw [if_neg e, if_neg e]
      omega
theorem W_flp (qs : List Pr) (s : Sg) : W (flp qs) s = -W qs s := by
  unfold W flp
  induction qs with
  | nil => rfl
  | cons q qs ih =>
    simp only [List.map_cons, List.sum_cons] at *
    rw [ih]
    by_cases e : q.1 = s
    · rw [if_pos e, if_pos e]
      cases q.2.1 <;> simp [sgn] <;> omega
    · rw [if_neg e, if_neg e]
      omega
theorem N_neg (qs : List Pr) : N (neg qs) = -N qs := by
  unfold N neg
  induction qs with
  | nil => rfl
  | cons q qs ih =>
    simp only [List.map_cons, List.sum_cons] at *
    rw [ih]
    cases q.2.1 <;> simp <;> omega
theorem N_flp (qs : List Pr) : N (flp qs) = Tt qs - N qs := by
  unfold N flp Tt
  induction qs with
  | nil => rfl
  | cons q qs ih =>
    simp only [List.map_cons, List.sum_cons] at *
    rw [ih]
    cases q.2.1 <;> simp <;> omega
theorem Tt_flp (qs : List Pr) : Tt (flp qs) = Tt qs := by
  unfold Tt flp
  rw [List.map_map]
  rfl
theorem flp_flp (qs : List Pr) : flp (flp qs) = qs := by
  unfold flp
  rw [List.map_map]
  exact (List.map_congr_left fun q _ => by simp).trans (List.map_id _)
theorem IsRow.flp {qs : List Pr} {m k : Int} (h : IsRow qs m) (hk : 0 ≤ k) : IsRow (K07.flp qs) k := by
  refine ⟨?_, fun q hq => ?_, hk⟩
  · unfold K07.flp
    rw [List.pairwise_map]
    exact h.srt
  · obtain ⟨r, hr, rfl⟩ := List.mem_map.mp hq
    exact h.pos r hr
/-- the denial of a row -/
theorem IsRow.denial {qs rs : List Pr} {m k : Int} (h : IsRow qs m) (d : IsNorm (neg qs) (1 - m) rs k) : rs = K07.flp qs ∧ k = max (1 - m + Tt qs) 0 := by
  have f := (h.flp (Int.le_refl 0)).norm
  have e : rs = K07.flp qs := (d.uniq (ps' := K07.flp qs) (l' := 1 - m - N (neg qs) + N (K07.flp qs)) (qs' := K07.flp qs) (m' := max (1 - m - N (neg qs) + N (K07.flp qs) - N (K07.flp qs) + N (K07.flp qs)) 0) ⟨f.srt, f.pos, f.val, f.all, rfl⟩ (fun s => by rw [W_neg, W_flp]) (by omega)).1
  refine ⟨e, ?_⟩
  have := d.num
  rw [e, N_neg, N_flp] at this
  rw [this]
  omega
theorem Tt_nonneg {qs : List Pr} (h : ∀ q ∈ qs, 1 ≤ q.2.2) : 0 ≤ Tt qs := by
  unfold Tt
  induction qs with
  | nil => exact Int.le_refl 0
  | cons q qs ih =>
    rw [List.map_cons, List.sum_cons]
    have h1 := h q List.mem_cons_self
    have h2 := ih fun r hr => h r (List.mem_cons_of_mem _ hr)
    omega
theorem N_parts {ps qs : List Pr} {l m : Int} (h : IsNorm ps l qs m) : N qs = -((qs.map (·.1)).map fun s => min (W ps s) 0).sum := by
  have e : ∀ {rs : List Pr}, (∀ q ∈ rs, W ps q.1 = sgn q.2.1 q.2.2 ∧ 1 ≤ q.2.2) → N rs = -((rs.map (·.1)).map fun s => min (W ps s) 0).sum := by
    intro rs
    induction rs with
    | nil => exact fun _ => rfl
    | cons r rs ih =>
      intro hr
      have h1 := ih fun q hq => hr q (List.mem_cons_of_mem _ hq)
      obtain ⟨h2, h3⟩ := hr r List.mem_cons_self
      have h4 : N (r :: rs) = (if r.2.1 then 0 else r.2.2) + N rs := by
        unfold N
        rw [List.map_cons, List.sum_cons]
      rw [h4, h1, List.map_cons, List.map_cons, List.sum_cons, h2]
      cases r.2.1 <;> simp [sgn] <;> omega
  exact e fun q hq => ⟨h.val q hq, h.pos q hq⟩
theorem low_eq {ps qs : List Pr} {l m : Int} (h : IsNorm ps l qs m) : N ps + ((keys ps).map fun s => min (W ps s) 0).sum = N ps - N qs := by
  rw [N_parts h]
  have nz : ∀ s, min (W ps s) 0 ≠ 0 → W ps s ≠ 0 := fun s h z => h (by rw [z]; rfl)
  have := sum_cover (fun s => min (W ps s) 0) (keys_nodup ps) (nodup_of h.srt) (fun s z => (mem_keys ps s).mpr (W_mem (nz s z))) fun s z => by
    obtain ⟨q, hq, e⟩ := h.all s (nz s z)
    rw [← e]
    exact List.mem_map_of_mem (f := (·.1)) hq
  rw [this]
  omega
theorem wt_nonneg (f : Sg → Bool) {qs : List Pr} (h : ∀ q ∈ qs, 1 ≤ q.2.2) : 0 ≤ wt f qs := by
  unfold wt
  induction qs with
  | nil => exact Int.le_refl 0
  | cons q qs ih =>
    rw [List.map_cons, List.sum_cons]
    have h1 := h q List.mem_cons_self
    have h2 := ih fun r hr => h r (List.mem_cons_of_mem _ hr)
    split <;> omega
theorem meant_ok {ps qs : List Pr} {l m : Int} (h : IsNorm ps l qs m) (f : Sg → Bool) : m ≤ wt f qs ↔ l ≤ wt f ps := by
  have h0 := wt_nonneg f h.pos
  rw [wt_eq, WS_eq f h.W_eq] at h0
  rw [wt_eq, wt_eq, WS_eq f h.W_eq, h.num]
  omega
/-- the sums times a number -/
def scl (t : Int) (qs : List Pr) : List Pr := qs.map fun q => (q.1, q.2.1, t * q.2.2)
theorem W_scl (t : Int) (qs : List Pr) (s : Sg) : W (scl t qs) s = t * W qs s := by
  unfold W scl
  induction qs with
  | nil => simp
  | cons q qs ih =>
    simp only [List.map_cons, List.sum_cons] at *
    rw [ih, Int.mul_add]
    by_cases e : q.1 = s
    · rw [if_pos e, if_pos e]
      cases q.2.1 <;> simp [sgn, Int.mul_neg]
    · rw [if_neg e, if_neg e]
      simp
theorem N_scl (t : Int) (qs : List Pr) : N (scl t qs) = t * N qs := by
  unfold N scl
  induction qs with
  | nil => simp
  | cons q qs ih =>
    simp only [List.map_cons, List.sum_cons] at *
    rw [ih, Int.mul_add]
    cases q.2.1 <;> simp
theorem IsRow.scl {qs : List Pr} {m t : Int} (h : IsRow qs m) (ht : 1 ≤ t) : IsRow (K07.scl t qs) (t * m) := by
  refine ⟨?_, fun q hq => ?_, Int.mul_nonneg (by omega) h.num⟩
  · unfold K07.scl
    rw [List.pairwise_map]
    exact h.srt
  · obtain ⟨r, hr, rfl⟩ := List.mem_map.mp hq
    have := h.pos r hr
    have h2 : 1 * 1 ≤ t * r.2.2 := Int.mul_le_mul ht this (by omega) (by omega)
    exact h2
/-- side and sign turned -/
def trn (qs : List Pr) : List Pr := qs.map fun q => (q.1, !q.2.1, -q.2.2)
theorem W_trn (qs : List Pr) (s : Sg) : W (trn qs) s = W qs s := by
  have e : trn qs = neg (flp qs) := by
    unfold trn neg flp
    rw [List.map_map]
    rfl
  rw [e, W_neg, W_flp]
  omega
theorem N_trn (qs : List Pr) : N (trn qs) = N qs - Tt qs := by
  have e : trn qs = neg (flp qs) := by
    unfold trn neg flp
    rw [List.map_map]
    rfl
  rw [e, N_neg, N_flp]
  omega
end K07
namespace K07
open PySem PySem.Spec PyProof.Rows L2 L3

/-- the drawing state: a list at a whose first item is the list of cells at c -/
def Feed (S : Sto) (a c : Addr) : Prop := ∃ (cells : List Int) (i x n t s : Int), S a = some (.lst [.loc c, .int i, .int x, .int n, .int t, .int s]) ∧ S c = some (.lst (cells.map .int)) ∧ a ≠ c ∧ 0 ≤ i ∧ cells.length ≤ 63
/-- all but the drawing state stays -/
def Keep (a : Addr) (S S' : Sto) : Prop := ∀ b o, b ≠ a → S b = some o → S' b = some o
/-- a number of draws: what is drawn below -/
def Small (n : Int) : Prop := 0 < n ∧ n < 2 ^ 200
/-! ### signs -/
def isI : Key → Bool
  | .inl _ => true
  | .inr _ => false
def kOk : Key → Prop
  | .inl _ => True
  | .inr x => PyData.strOk x = true
def sig (h : Str) : Option (List Bool) :=
  if h = "name" then some [true] else if h = "kept" then some [false] else if h = "if" then some [false] else if h = "from" then some [false, true] else if h = "is" then some [false, true] else
    if h = "row" then some [false, true] else if h = "even" then some [false, true] else if h = "stand" then some [false, true, true] else none
def Ok (s : Sg) : Prop := ∃ h r, s = .inr h :: r ∧ sig h = some (r.map isI) ∧ ∀ k ∈ s, kOk k
def OkP (ps : List Pr) : Prop := ∀ p ∈ ps, Ok p.1
noncomputable def lowF (ps : List Pr) : Int := N ps + ((keys ps).map fun s => min (W ps s) 0).sum
/-- plain data, no deeper than n -/
def plainN : Nat → D → Prop
  | _, .bl _ => True
  | _, .int _ => True
  | _, .str _ => True
  | n + 1, .tup ds => ds.length ≤ 1000 ∧ ∀ d ∈ ds, plainN n d
  | _, _ => False

def sp__law_mix : Sp3 := fun ds S Q => ∃ seed turn : Int, ds = [.int seed, .int turn] ∧ ∀ r : Int, Q (.int r) S
def sp__law_open : Sp3 := fun ds S Q => ∃ (d : D) (ns : List Int), ds = [d] ∧ seqD S d = some (ns.map .int) ∧ ns.length ≤ 63 ∧ ∀ S' a c, Sub S S' → S a = none → S c = none → Feed S' a c → Q (.loc a) S'
def sp__law_pick : Sp3 := fun ds S Q => ∃ (a c : Addr) (many : Int), ds = [.loc a, .int many] ∧ Feed S a c ∧ Small many ∧ ∀ r S', 0 ≤ r → r < many → Keep a S S' → Feed S' a c → Q (.int r) S'
def sp__law_of : Sp3 := fun ds S Q => ∃ a c, Feed S a c ∧
  ((∃ (b : Addr) (xs : List D), ds = [.loc a, .loc b] ∧ b ≠ a ∧ S b = some (.lst xs) ∧ 0 < xs.length ∧ xs.length ≤ 1000 ∧ ∀ x S', x ∈ xs → Keep a S S' → Feed S' a c → Q x S') ∨
   (∃ z : Str, ds = [.loc a, .str z] ∧ 0 < z.length ∧ z.length ≤ 1000 ∧ ∀ g S', g ∈ z.cps.toList → Keep a S S' → Feed S' a c → Q (.str ⟨#[g]⟩) S'))
def sp__law_mixed : Sp3 := fun ds S Q => ∃ (a c b : Addr) (xs : List D), ds = [.loc a, .loc b] ∧ Feed S a c ∧ b ≠ a ∧ S b = some (.lst xs) ∧ xs.length ≤ 1000 ∧
  ∀ (ys : List D) (p : Addr) (S' : Sto), ys.Perm xs → S p = none → p ≠ a → Keep a S S' → S' p = some (.lst ys) → Feed S' a c → Q (.loc p) S'
def spSame (n : Nat) : Sp3 := fun ds S Q => ∃ d, ds = [d, d] ∧ plainN n d ∧ Q (.bl true) S
abbrev sp__law_same : Sp3 := spSame 6
def sp__law_names : Sp3 := fun ds S Q => ∃ a c, ds = [.loc a, .int 9] ∧ Feed S a c ∧
  ∀ (zs : List Str) p S', zs.length = 9 → (∀ z ∈ zs, PyData.strOk z = true) → S p = none → p ≠ a → Keep a S S' → S' p = some (.lst (zs.map .str)) → Feed S' a c → Q (.loc p) S'
def sp__law_signs : Sp3 := fun ds S Q => ∃ (a c : Addr) (many : Int), ds = [.loc a, .int many] ∧ Feed S a c ∧ 0 ≤ many ∧ many ≤ 60 ∧
  ∀ (ss : List Sg) p S', 0 < ss.length → ss.length ≤ 70 → (∀ s ∈ ss, Ok s) → S p = none → p ≠ a → Keep a S S' → S' p = some (.lst (ss.map sgD)) → Feed S' a c → Q (.loc p) S'
def sp__law_sum : Sp3 := fun ds S Q => ∃ (a c b : Addr) (many : Int) (ss : List Sg), ds = [.loc a, .loc b, .int many] ∧ Feed S a c ∧ b ≠ a ∧ S b = some (.lst (ss.map sgD)) ∧ 0 < ss.length ∧ ss.length ≤ 70 ∧ (∀ s ∈ ss, Ok s) ∧ 0 ≤ many ∧ many ≤ 300 ∧
  ∀ (ps : List Pr) p S', OkP ps → ps.length ≤ 300 → S p = none → p ≠ a → Keep a S S' → S' p = some (.lst (ps.map prD)) → Feed S' a c → Q (.loc p) S'
def sp__law_weight : Sp3 := fun ds S Q => ∃ (d : D) (e : Addr) (ps : List Pr) (kvs : List (Sg × D)), ds = [d, .loc e] ∧ seqD S d = some (ps.map prD) ∧ ps.length ≤ 1000 ∧ S e = some (.dT kvs) ∧ Q (.int (wt (fun s => (look kvs s).isSome) ps)) S
def sp__law_lowest : Sp3 := fun ds S Q => ∃ (b : Addr) (ps : List Pr), ds = [.loc b] ∧ S b = some (.lst (ps.map prD)) ∧ ps.length ≤ 1000 ∧ Q (.int (lowF ps)) S
def sp_norm : Sp3 := fun ds S Q => ∃ (d : D) (ps : List Pr) (l : Int), ds = [d, .int l] ∧ seqD S d = some (ps.map prD) ∧ OkP ps ∧ ps.length ≤ 1000 ∧ ∀ (qs : List Pr) (m : Int), IsNorm ps l qs m → OkP qs → qs.length ≤ ps.length → Q (rowD qs m) S
def sp_denial : Sp3 := fun ds S Q => ∃ (qs : List Pr) (m : Int), ds = [rowD qs m] ∧ OkP qs ∧ qs.length ≤ 1000 ∧ ∀ (rs : List Pr) (k : Int), IsNorm (neg qs) (1 - m) rs k → OkP rs → rs.length ≤ qs.length → Q (rowD rs k) S
def sp_row_clashes (P : Addr) : Sp3 := fun ds S Q => ∃ (qs : List Pr) (m : Int), ds = [rowD qs m] ∧ S P = some .tbl ∧ Q (.bl (decide (Tt qs < m))) S
def sp__law_is_row : Sp3 := fun ds S Q => ∃ (qs : List Pr) (m : Int), ds = [rowD qs m] ∧ IsRow qs m ∧ OkP qs ∧ qs.length ≤ 1000 ∧ Q (.bl true) S
def sp__law_twice : Sp3 := fun ds S Q => ∃ (qs : List Pr) (m : Int), ds = [rowD qs m] ∧ qs.length ≤ 1000 ∧ Q (rowD qs (min m (1 + Tt qs))) S
def sp__law_meant : Sp3 := fun ds S Q => ∃ (a c b e : Addr) (ss : List Sg) (ps : List Pr) (l : Int) (qs : List Pr) (m : Int), ds = [.loc a, .loc b, .loc e, .int l, rowD qs m] ∧ Feed S a c ∧ b ≠ a ∧ e ≠ a ∧ S b = some (.lst (ss.map sgD)) ∧ S e = some (.lst (ps.map prD)) ∧ ss.length ≤ 1000 ∧ ps.length ≤ 1000 ∧ qs.length ≤ 1000 ∧
  (∀ f : Sg → Bool, m ≤ wt f qs ↔ l ≤ wt f ps) ∧ ∀ S', Keep a S S' → Feed S' a c → Q (.bl true) S'
def sp_law (P : Addr) : Sp3 := fun ds S Q => ∃ (d : D) (ns : List Int), ds = [d] ∧ seqD S d = some (ns.map .int) ∧ ns.length ≤ 63 ∧ S P = some .tbl ∧ ∀ S', Sub S S' → Q (.bl true) S'
end K07
namespace K07
open PySem PySem.Spec PyProof.Rows L2 L3
/-! ### tables -/
theorem look_none {β : Type} {kvs : List (Sg × β)} {s : Sg} (h : s ∉ kvs.map (·.1)) : look kvs s = none := by
  unfold look
  rw [List.find?_eq_none.mpr fun p hp e => h (by rw [← of_decide_eq_true e]; exact List.mem_map_of_mem (f := (·.1)) hp)]
  rfl
theorem look_cons {β : Type} (p : Sg × β) (kvs : List (Sg × β)) (s : Sg) : look (p :: kvs) s = if p.1 = s then some p.2 else look kvs s := by
  unfold look
  rw [List.find?_cons]
  by_cases e : p.1 = s
  · rw [if_pos e, decide_eq_true e]
    rfl
  · rw [if_neg e, decide_eq_false e]
theorem look_app {β : Type} : ∀ (kvs l : List (Sg × β)) (s : Sg), look (kvs ++ l) s = match look kvs s with
    | some x => some x
    | none => look l s
  | [], l, s => rfl
  | p :: kvs, l, s => by
    rw [List.cons_append, look_cons, look_cons]
    by_cases e : p.1 = s
    · rw [if_pos e, if_pos e]
    · rw [if_neg e, if_neg e]
      exact look_app kvs l s
theorem look_rep {β : Type} (k : Sg) (v : β) : ∀ (kvs : List (Sg × β)) (s : Sg), look (kvs.map fun kv => if kv.1 = k then (kv.1, v) else kv) s = if s = k then (look kvs s).map fun _ => v else look kvs s
  | [], s => by simp [look]
  | p :: kvs, s => by
    have ih := look_rep k v kvs s
    rw [List.map_cons, look_cons, look_cons, ih]
    by_cases e : p.1 = k
    · rw [if_pos e]
      by_cases e2 : p.1 = s
      · have : s = k := e2.symm.trans e
        rw [if_pos e2, if_pos this, if_pos e2]
        rfl
      · rw [if_neg e2, if_neg e2]
    · rw [if_neg e]
      by_cases e2 : p.1 = s
      · have : s ≠ k := fun z => e (e2.trans z)
        rw [if_pos e2, if_neg this, if_pos e2]
      · rw [if_neg e2, if_neg e2]
theorem any_keys {β : Type} (kvs : List (Sg × β)) (k : Sg) : (kvs.any fun kv => decide (kv.1 = k)) = true ↔ k ∈ kvs.map (·.1) := by
  rw [List.any_eq_true, List.mem_map]
  constructor
  · rintro ⟨p, hp, e⟩
    exact ⟨p, hp, of_decide_eq_true e⟩
  · rintro ⟨p, hp, e⟩
    exact ⟨p, hp, decide_eq_true e⟩
theorem look_some {β : Type} {kvs : List (Sg × β)} {s : Sg} (h : s ∈ kvs.map (·.1)) : ∃ x, look kvs s = some x := by
  cases e : look kvs s with
  | some x => exact ⟨x, rfl⟩
  | none =>
    exfalso
    induction kvs with
    | nil => cases h
    | cons p kvs ih =>
      rw [look_cons] at e
      by_cases z : p.1 = s
      · rw [if_pos z] at e; cases e
      · rw [if_neg z] at e
        rw [List.map_cons] at h
        exact ih ((List.mem_cons.mp h).resolve_left (Ne.symm z)) e
theorem look_put {β : Type} (kvs : List (Sg × β)) (k s : Sg) (v : β) : look (put kvs k v) s = if s = k then some v else look kvs s := by
  unfold put
  by_cases h : k ∈ kvs.map (·.1)
  · rw [if_pos ((any_keys kvs k).mpr h), look_rep]
    by_cases e : s = k
    · subst e
      obtain ⟨x, hx⟩ := look_some h
      rw [if_pos rfl, if_pos rfl, hx]
      rfl
    · rw [if_neg e, if_neg e]
  · rw [if_neg (fun z => h ((any_keys kvs k).mp z)), look_app]
    by_cases e : s = k
    · subst e
      rw [look_none h, if_pos rfl]
      simp [look]
    · rw [if_neg e]
      cases look kvs s with
      | some x => rfl
      | none => simp [look, Ne.symm e]
theorem put_keys {β : Type} (kvs : List (Sg × β)) (k : Sg) (v : β) : (k ∈ kvs.map (·.1) → (put kvs k v).map (·.1) = kvs.map (·.1)) ∧ (k ∉ kvs.map (·.1) → (put kvs k v).map (·.1) = kvs.map (·.1) ++ [k]) := by
  unfold put
  refine ⟨fun h => ?_, fun h => ?_⟩
  · rw [if_pos ((any_keys kvs k).mpr h), List.map_map]
    refine List.map_congr_left fun p _ => ?_
    show (if p.1 = k then (p.1, v) else p).1 = p.1
    split <;> rfl
  · rw [if_neg (fun z => h ((any_keys kvs k).mp z)), List.map_append]
    rfl
def GS (h : Pr → Int) (qs : List Pr) (s : Sg) : Int := (qs.map fun p => if p.1 = s then h p else 0).sum
structure Tab (h : Pr → Int) (kvs : List (Sg × D)) (qs : List Pr) : Prop where
  nd : (kvs.map (·.1)).Nodup
  mem : ∀ s, s ∈ kvs.map (·.1) ↔ ∃ p ∈ qs, p.1 = s
  val : ∀ s, s ∈ kvs.map (·.1) → look kvs s = some (.int (GS h qs s))
theorem Tab.nil (h : Pr → Int) : Tab h [] [] := ⟨List.nodup_nil, fun s => by simp, fun s hs => nomatch hs⟩
theorem GS_none {h : Pr → Int} {qs : List Pr} {s : Sg} (e : ¬ ∃ p ∈ qs, p.1 = s) : GS h qs s = 0 := sum_zero _ _ fun p hp => if_neg fun z => e ⟨p, hp, z⟩
theorem Tab.get {h : Pr → Int} {kvs : List (Sg × D)} {qs : List Pr} (t : Tab h kvs qs) (s : Sg) : (look kvs s).getD (.int 0) = .int (GS h qs s) := by
  by_cases e : s ∈ kvs.map (·.1)
  · rw [t.val s e]
    rfl
  · rw [look_none e, GS_none fun z => e ((t.mem s).mpr z)]
    rfl
theorem GS_snoc (h : Pr → Int) (qs : List Pr) (p : Pr) (s : Sg) : GS h (qs ++ [p]) s = GS h qs s + if p.1 = s then h p else 0 := by
  unfold GS
  rw [List.map_append, List.sum_append]
  simp
theorem Tab.step {h : Pr → Int} {kvs : List (Sg × D)} {qs : List Pr} (t : Tab h kvs qs) (p : Pr) : Tab h (put kvs p.1 (.int (GS h qs p.1 + h p))) (qs ++ [p]) := by
  obtain ⟨k1, k2⟩ := put_keys kvs p.1 (.int (GS h qs p.1 + h p))
  have mem : ∀ s, s ∈ (put kvs p.1 (.int (GS h qs p.1 + h p))).map (·.1) ↔ ∃ q ∈ qs ++ [p], q.1 = s := fun s => by
    have e : (∃ q ∈ qs ++ [p], q.1 = s) ↔ (s ∈ kvs.map (·.1)) ∨ p.1 = s := by
      rw [t.mem s]
      constructor
      · rintro ⟨q, hq, e⟩
        rcases List.mem_append.mp hq with z | z
        · exact .inl ⟨q, z, e⟩
        · rw [List.mem_singleton.mp z] at e
          exact .inr e
      · rintro (⟨q, hq, e⟩ | e)
        · exact ⟨q, List.mem_append_left _ hq, e⟩
        · exact ⟨p, by simp, e⟩
    rw [e]
    by_cases z : p.1 ∈ kvs.map (·.1)
    · rw [k1 z]
      constructor
      · exact .inl
      · rintro (w | w)
        · exact w
        · rw [← w]; exact z
    · rw [k2 z, List.mem_append, List.mem_singleton]
      constructor
      · rintro (w | w)
        · exact .inl w
        · exact .inr w.symm
      · rintro (w | w)
        · exact .inl w
        · exact .inr w.symm
  refine ⟨?_, mem, fun s hs => ?_⟩
  · by_cases z : p.1 ∈ kvs.map (·.1)
    · rw [k1 z]; exact t.nd
    · rw [k2 z]
      exact List.nodup_append.mpr ⟨t.nd, by simp, fun a ha b hb => by
        rw [List.mem_singleton.mp hb]
        exact fun w => z (by rw [← w]; exact ha)⟩
  · rw [look_put, GS_snoc]
    by_cases e : s = p.1
    · rw [if_pos e, if_pos e.symm, e]
    · rw [if_neg e, if_neg (Ne.symm e)]
      have hs' : s ∈ kvs.map (·.1) := by
        by_cases z : p.1 ∈ kvs.map (·.1)
        · rw [k1 z] at hs; exact hs
        · rw [k2 z, List.mem_append, List.mem_singleton] at hs
          exact hs.resolve_right e
      rw [t.val s hs', Int.add_zero]
/-! ### the order of signs -/
def kP : Key → PyData
  | .inl i => .int i
  | .inr x => .str x
theorem kD_py (k : Key) : (kD k).py = kP k := by cases k <;> rfl
theorem all_py (ks : List Key) : pyAll (ks.map kD) = ks.map kP := by
  induction ks with
  | nil => rfl
  | cons k ks ih => rw [List.map_cons, pyAll, ih, kD_py, List.map_cons]
theorem sg_py (s : Sg) : (sgD s).py = .tuple (s.map kP) := by
  unfold sgD
  rw [D.py, all_py]
theorem keys_cmp : ∀ (ks ls : List Key), ks.map isI = ls.map isI → ∃ b, pLtAll (ks.map kP) (ls.map kP) = some b
  | [], [], _ => ⟨_, rfl⟩
  | [], l :: ls, h => by simp at h
  | k :: ks, [], h => by simp at h
  | k :: ks, l :: ls, h => by
    rw [List.map_cons, List.map_cons] at h
    injection h with h1 h2
    rw [List.map_cons, List.map_cons, pLtAll]
    by_cases e : PyData.eqv (kP k) (kP l) = true
    · rw [if_pos e]
      exact keys_cmp ks ls h2
    · rw [if_neg e]
      cases k <;> cases l <;> first
        | (simp [isI] at h1; done)
        | exact ⟨_, rfl⟩
theorem str_eqv {x y : Str} (h : PyData.eqv (.str x) (.str y) = true) : x = y := by simpa [PyData.eqv] using h
theorem ok_cmp {s t : Sg} (hs : Ok s) (ht : Ok t) : ∃ b, pLt (sgD s).py (sgD t).py = some b := by
  obtain ⟨x, r, rfl, e1, _⟩ := hs
  obtain ⟨y, q, rfl, e2, _⟩ := ht
  rw [sg_py, sg_py, pLt, List.map_cons, List.map_cons, pLtAll]
  by_cases e : PyData.eqv (kP (.inr x)) (kP (.inr y)) = true
  · rw [if_pos e]
    have exy := str_eqv e
    rw [exy, e2] at e1
    exact keys_cmp r q (Option.some.inj e1).symm
  · rw [if_neg e]
    exact ⟨_, rfl⟩
theorem keys_lay : ∀ {ks : List Key}, (∀ k ∈ ks, kOk k) → layAll (ks.map kD) = true ∧ PyData.canLayAll0 (ks.map kP) = true ∧ PyData.depthAll (ks.map kP) = 0
  | [], _ => ⟨rfl, rfl, rfl⟩
  | k :: ks, h => by
    obtain ⟨h1, h2, h3⟩ := keys_lay fun x hx => h x (List.mem_cons_of_mem _ hx)
    have hk := h k List.mem_cons_self
    cases k with
    | inl i => simp [layAll, D.lay, kD, kP, PyData.canLayAll0, PyData.canLay0, PyData.depthAll, PyData.depth, h1, h2, h3]
    | inr x => simp [layAll, D.lay, kD, kP, PyData.canLayAll0, PyData.canLay0, PyData.depthAll, PyData.depth, h1, h2, h3, show PyData.strOk x = true from hk]
theorem ok_keys {s : Sg} (h : Ok s) : ∀ k ∈ s, kOk k := let ⟨_, _, _, _, x⟩ := h; x
theorem srt_signs {ss : List Sg} (h : ∀ s ∈ ss, Ok s) : SrtD (ss.map sgD) := by
  have hp : ∀ d ∈ (ss.map sgD).map D.py, ∃ s ∈ ss, d = (sgD s).py := fun d hd => by
    rw [List.map_map] at hd
    obtain ⟨s, hs, e⟩ := List.mem_map.mp hd
    exact ⟨s, hs, e.symm⟩
  refine ⟨⟨⟨"str", fun d hd => ?_⟩, fun d hd => ?_, fun d hd => ?_, fun x hx y hy => ?_⟩, fun d hd => ?_⟩
  · obtain ⟨s, hs, rfl⟩ := hp d hd
    obtain ⟨x, r, rfl, _⟩ := h s hs
    rw [sg_py]
    rfl
  · obtain ⟨s, hs, rfl⟩ := hp d hd
    rw [sg_py, PyData.canLay0]
    exact (keys_lay (ok_keys (h s hs))).2.1
  · obtain ⟨s, hs, rfl⟩ := hp d hd
    rw [sg_py, PyData.depth, (keys_lay (ok_keys (h s hs))).2.2]
    decide
  · obtain ⟨s, hs, rfl⟩ := hp x hx
    obtain ⟨t, ht, rfl⟩ := hp y hy
    exact ok_cmp (h s hs) (h t ht)
  · obtain ⟨s, hs, rfl⟩ := List.mem_map.mp hd
    show layAll (s.map kD) = true
    exact (keys_lay (ok_keys (h s hs))).1
theorem toks_inj : ∀ {ks ls : List Key}, PySem.W.keyToksAll (ks.map kP) = PySem.W.keyToksAll (ls.map kP) → ks = ls
  | [], [], _ => rfl
  | [], l :: ls, h => by simp [PySem.W.keyToksAll] at h
  | k :: ks, [], h => by simp [PySem.W.keyToksAll] at h
  | k :: ks, l :: ls, h => by
    rw [List.map_cons, List.map_cons, PySem.W.toks_all_cons, PySem.W.toks_all_cons] at h
    have h' := List.cons.inj h
    have key : k = l ∧ PySem.W.keyToksAll (ks.map kP) = PySem.W.keyToksAll (ls.map kP) := by
      cases k <;> cases l <;> simp [kP, PySem.W.keyToks] at h'
      · exact ⟨by rw [h'.1], h'.2⟩
      · exact ⟨congrArg Sum.inr (PySem.W.str_of_cps (by first | exact h'.1 | exact congrArg Array.toList h'.1)), h'.2⟩
    rw [key.1, toks_inj key.2]
theorem ltS_total {s t : Sg} (h1 : ltS s t = false) (h2 : ltS t s = false) : s = t := by
  have e := lex_total (O := itemOrd) _ _ h1 h2
  rw [sg_py, sg_py, PySem.W.keyToks, PySem.W.keyToks] at e
  exact toks_inj e
theorem srt_strict {ss : List Sg} (h : ss.Pairwise fun s t => ltS t s = false) (hn : ss.Nodup) : ss.Pairwise fun s t => ltS s t = true := by
  induction ss with
  | nil => exact .nil
  | cons s ss ih =>
    have h' := List.pairwise_cons.mp h
    have hn' := List.nodup_cons.mp hn
    refine List.pairwise_cons.mpr ⟨fun t ht => ?_, ih h'.2 hn'.2⟩
    cases e : ltS s t with
    | true => rfl
    | false => exact absurd (ltS_total e (h'.1 t ht)) fun z => hn'.1 (by rw [z]; exact ht)
/-- what is sorted of a row in order -/
theorem srt_perm {α : Type} {lt : α → α → Bool} : ∀ {l m : List α}, l.Pairwise (fun a b => lt a b = true) → m.Pairwise (fun a b => lt b a = false) → m.Perm l → m = l
  | [], m, _, _, p => p.eq_nil
  | x :: l, [], _, _, p => absurd p.length_eq (by simp)
  | x :: l, y :: m, hl, hm, p => by
    have hl' := List.pairwise_cons.mp hl
    have hm' := List.pairwise_cons.mp hm
    have e : y = x := by
      rcases List.mem_cons.mp (p.mem_iff.mp List.mem_cons_self) with z | z
      · exact z
      · rcases List.mem_cons.mp (p.mem_iff.mpr (List.mem_cons_self (a := x) (l := l))) with w | w
        · exact w.symm
        · have h1 := hl'.1 y z
          have h2 := hm'.1 x w
          rw [h1] at h2
          cases h2
    subst e
    rw [srt_perm hl'.2 hm'.2 (List.Perm.cons_inv p)]
theorem pr_py (p : Pr) : (prD p).py = .tuple [.tuple [.tuple (p.1.map kP), .bool p.2.1], .int p.2.2] := by
  unfold prD sdD
  rw [D.py, pyAll, D.py, pyAll, sg_py]
  rfl
theorem pr_lt {p q : Pr} (h : ltS p.1 q.1 = true) (hp : Ok p.1) (hq : Ok q.1) : ltD (prD p) (prD q) = true := by
  have hne : PyData.eqv (.tuple (p.1.map kP)) (.tuple (q.1.map kP)) = false := by
    cases e : PyData.eqv (PyData.tuple (p.1.map kP)) (.tuple (q.1.map kP)) with
    | false => rfl
    | true =>
      have t := tk_eqv _ _ e
      unfold ltS ltD at h
      rw [sg_py, sg_py, t, lex_irrefl] at h
      cases h
  obtain ⟨b, hb⟩ := ok_cmp hp hq
  have hb' : b = true := by
    have := pLt_toks hb
    unfold ltS ltD at h
    rw [h] at this
    exact this.symm
  subst hb'
  rw [sg_py, sg_py] at hb
  unfold ltD
  refine pLt_toks ?_
  rw [pr_py, pr_py, pLt, pLtAll]
  have e1 : PyData.eqv (.tuple [.tuple (p.1.map kP), .bool p.2.1]) (.tuple [.tuple (q.1.map kP), .bool q.2.1]) = false := by
    rw [PyData.eqv, PyData.eqvAll, hne]
    rfl
  rw [if_neg (by rw [e1]; simp), pLt, pLtAll, if_neg (by rw [hne]; simp)]
  exact hb
theorem pr_cmp {p q : Pr} (hp : Ok p.1) (hq : Ok q.1) : ∃ b, pLt (prD p).py (prD q).py = some b := by
  obtain ⟨b, hb⟩ := ok_cmp hp hq
  rw [sg_py, sg_py] at hb
  rw [pr_py, pr_py, pLt, pLtAll]
  by_cases e : PyData.eqv (.tuple [.tuple (p.1.map kP), .bool p.2.1]) (.tuple [.tuple (q.1.map kP), .bool q.2.1]) = true
  · rw [if_pos e, pLtAll]
    by_cases e2 : PyData.eqv (.int p.2.2) (.int q.2.2) = true
    · rw [if_pos e2]; exact ⟨_, rfl⟩
    · rw [if_neg e2]; exact ⟨_, rfl⟩
  · rw [if_neg e, pLt, pLtAll]
    by_cases e2 : PyData.eqv (.tuple (p.1.map kP)) (.tuple (q.1.map kP)) = true
    · rw [if_pos e2, pLtAll]
      by_cases e3 : PyData.eqv (.bool p.2.1) (.bool q.2.1) = true
      · rw [if_pos e3]; exact ⟨_, rfl⟩
      · rw [if_neg e3]; exact ⟨_, rfl⟩
    · rw [if_neg e2]; exact ⟨_, hb⟩
theorem srt_prs {qs : List Pr} (h : OkP qs) : SrtD (qs.map prD) := by
  have hp : ∀ d ∈ (qs.map prD).map D.py, ∃ s ∈ qs, d = (prD s).py := fun d hd => by
    rw [List.map_map] at hd
    obtain ⟨s, hs, e⟩ := List.mem_map.mp hd
    exact ⟨s, hs, e.symm⟩
  refine ⟨⟨⟨"tuple", fun d hd => ?_⟩, fun d hd => ?_, fun d hd => ?_, fun x hx y hy => ?_⟩, fun d hd => ?_⟩
  · obtain ⟨s, hs, rfl⟩ := hp d hd
    rw [pr_py]
    rfl
  · obtain ⟨s, hs, rfl⟩ := hp d hd
    have k := (keys_lay (ok_keys (h s hs))).2.1
    rw [pr_py]
    simp [PyData.canLay0, PyData.canLayAll0, k]
  · obtain ⟨s, hs, rfl⟩ := hp d hd
    have k := (keys_lay (ok_keys (h s hs))).2.2
    rw [pr_py]
    simp [PyData.depth, PyData.depthAll, k]
  · obtain ⟨s, hs, rfl⟩ := hp x hx
    obtain ⟨t, ht, rfl⟩ := hp y hy
    exact pr_cmp (h s hs) (h t ht)
  · obtain ⟨s, hs, rfl⟩ := List.mem_map.mp hd
    have k := (keys_lay (ok_keys (h s hs))).1
    simp [prD, sdD, sgD, D.lay, layAll, k]
end K07
namespace K07
open PySem PySem.Spec PyProof.Rows L2 L3
section
variable {P : Program} {w : World} {K : PySem.W.Frag} {mg : Str → Option Value} {base : Heap}
def rd_norm : TS3 :=
    (tSeq3 (tAsg3 tDNew3 (gName3 2))
    (tSeq3 (tFor3 (iSeq3 (tVar3 0)) (gTup3 2 (gCons3 (gTup3 2 (gCons3 (gName3 3) (gCons3 (gName3 4) gNil3))) (gCons3 (gName3 5) gNil3)))
      (tSeq3 (tAsg3 (tOp3 oAdd (tGet3 (tVar3 2) (tVar3 3) (tC3 (.int 0))) (tIf3 (tTru3 (tVar3 4)) (tVar3 5) (tUn3 oNeg (tVar3 5)))) (gSub3 (tVar3 2) (tVar3 3)))
      (tAug3 1 (tIf3 (tTru3 (tVar3 4)) (tC3 (.int 0)) (tVar3 5)) oSub)))
    (tSeq3 (tAsg3 (tLst3 tNil3) (gName3 6))
    (tSeq3 (tFor3 (iSeq3 (tCall3 oSorted (tCons3 (tVar3 2) tNil3))) (gName3 3)
      (tSeq3 (tAsg3 (tOp3 oIx (tVar3 2) (tVar3 3)) (gName3 5))
      (tSeq3 (tIfS3 (tTest3 (tOp3 oGt (tVar3 5) (tC3 (.int 0))))
        (tDrop3 (tMt3 oAppend (tVar3 6) (tCons3 (tTup3 (tCons3 (tTup3 (tCons3 (tVar3 3) (tCons3 (tC3 (.bl true)) tNil3))) (tCons3 (tVar3 5) tNil3))) tNil3)))
        tNext3)
      (tIfS3 (tTest3 (tOp3 oLt (tVar3 5) (tC3 (.int 0))))
        (tSeq3 (tDrop3 (tMt3 oAppend (tVar3 6) (tCons3 (tTup3 (tCons3 (tTup3 (tCons3 (tVar3 3) (tCons3 (tC3 (.bl false)) tNil3))) (tCons3 (tUn3 oNeg (tVar3 5)) tNil3))) tNil3)))
        (tAug3 1 (tVar3 5) oSub))
        tNext3))))
    (tRet3 (tTup3 (tCons3 (tCall3 oTuple (tCons3 (tVar3 6) tNil3)) (tCons3 (tCall3 oMax (tCons3 (tVar3 1) (tCons3 (tC3 (.int 0)) tNil3))) tNil3))))))))
theorem tm_norm {k : Nat} (T : Txt K mg)  {cdv : Value} {A : Around} {outer : List Env} {s : Shared} {H : Hp} {E : XK} (hr : Room k (A.deeper (envOfC "norm" (defScope s_norm) s.heap.objs.size T.f_norm cdv))) (hk : 0 ≤ k) :
    PSs3 (cxOf CX0 P w K mg base N_norm "norm" (defScope s_norm) T.f_norm cdv A outer s H E).nox (defBody s_norm) (rd_norm) :=
  have hu := hu_of3 hr
  have hu7 := hu7_of3 hr
  (pss3_cons (ps3_set (i := 2) sc_norm.nd rfl (.inl rfl) pe3_dnew)
    (pss3_cons (ps3_for (vs := [3, 4, 5]) PassesOwn.never rfl (pi3_seq (pv3 0)) (pg3_tup rfl (pgs3_cons (pg3_tup rfl (pgs3_cons (pg3_name (i := 3) sc_norm.nd rfl (.inl rfl) (by decide)) (pgs3_cons (pg3_name (i := 4) sc_norm.nd rfl (.inl rfl) (by decide)) pgs3_nil))) (pgs3_cons (pg3_name (i := 5) sc_norm.nd rfl (.inl rfl) (by decide)) pgs3_nil)))
      (pss3_cons (ps3_asg (vs := []) (pe3_add (pe3_get hu (pv3 2) (pv3 3) pe3_int) (pe3_ifExp (pt3_tru (pv3 4)) (pv3 5) (pe3_neg (pv3 5)))) (pg3_sub (vs := []) hu (pv3 2) (pv3 3)))
      (pss3_one (ps3_aug (i := 1) sc_norm.nd rfl (.inl rfl) (pe3_ifExp (pt3_tru (pv3 4)) pe3_int (pv3 5)) iop_sub op3_I0))))
    (pss3_cons (ps3_set (i := 6) sc_norm.nd rfl (.inl rfl) (pe3_lst pa3_nil))
    (pss3_cons (ps3_for (vs := [3]) PassesOwn.never rfl (pi3_seq (pe3_sorted rfl hu7 T.m_sorted (by rfl) (pa3_cons (pv3 2) pa3_nil))) (pg3_name (i := 3) sc_norm.nd rfl (.inl rfl) (by decide))
      (pss3_cons (ps3_set (i := 5) sc_norm.nd rfl (.inl rfl) (pe3_ix hu (pv3 2) (pv3 3)))
      (pss3_cons (ps3_if (pt3_cmp op_gt op3_B (pv3 5) pe3_int (nomark _))
        (pss3_one (ps3_expr (pe3_append (pv3 6) (pe3_tup (pa3_cons (pe3_tup (pa3_cons (pv3 3) (pa3_cons pe3_bl pa3_nil))) (pa3_cons (pv3 5) pa3_nil))))))
        pss3_nil)
      (pss3_one (ps3_if (pt3_cmp op_lt op3_B (pv3 5) pe3_int (nomark _))
        (pss3_cons (ps3_expr (pe3_append (pv3 6) (pe3_tup (pa3_cons (pe3_tup (pa3_cons (pv3 3) (pa3_cons pe3_bl pa3_nil))) (pa3_cons (pe3_neg (pv3 5)) pa3_nil)))))
        (pss3_one (ps3_aug (i := 1) sc_norm.nd rfl (.inl rfl) (pv3 5) iop_sub op3_I0)))
        pss3_nil)))))
    (pss3_one (ps3_ret (pe3_tup (pa3_cons (pe3_tuple T.m_tuple (by rfl) (pa3_cons (pv3 6) pa3_nil)) (pa3_cons (pe3_max rfl T.m_max (by rfl) (pa3_cons (pv3 1) (pa3_cons pe3_int pa3_nil))) pa3_nil)))))))))
def rd_denial : TS3 :=
    (tRet3 (tCall3 sp_norm (tCons3 (tLc3 (iSeq3 (tOp3 oIx (tVar3 0) (tC3 (.int 0)))) (gTup3 2 (gCons3 (gName3 1) (gCons3 (gName3 2) gNil3))) tYes3 (tTup3 (tCons3 (tVar3 1) (tCons3 (tUn3 oNeg (tVar3 2)) tNil3))) [1, 2]) (tCons3 (tOp3 oSub (tC3 (.int 1)) (tOp3 oIx (tVar3 0) (tC3 (.int 1)))) tNil3))))
theorem tm_denial {k : Nat} (T : Txt K mg) (G_norm : FnOk P w K mg base CX0 1 T.f_norm T.fd_norm ["pairs", "least"] (spL K sp_norm)) {cdv : Value} {A : Around} {outer : List Env} {s : Shared} {H : Hp} {E : XK} (hr : Room k (A.deeper (envOfC "denial" (defScope s_denial) s.heap.objs.size T.f_denial cdv))) (hk : 1 ≤ k) :
    PSs3 (cxOf CX0 P w K mg base N_denial "denial" (defScope s_denial) T.f_denial cdv A outer s H E).nox (defBody s_denial) (rd_denial) :=
  have hu := hu_of3 hr
  have hu7 := hu7_of3 hr
  (pss3_one (ps3_ret (pe3_call G_norm (hr.mono (by omega)) (by rfl) T.g_norm T.F_norm.kp T.b_norm (pa3_cons (pe3_lc (own := [("side", 1), ("c", 2)]) rfl sc_denial.nd (pi3_seq (pe3_ix hu (pv3 0) pe3_int)) (blkOk_by (own := [("side", 1), ("c", 2)]) (N := N_denial) (sc := defScope s_denial) (by decide +kernel)) (fun _ _ _ _ _ => (pg3_tup rfl (pgs3_cons (pg3_name (i := 1) sc_denial.nd rfl (.inl rfl) (by decide)) (pgs3_cons (pg3_name (i := 2) sc_denial.nd rfl (.inl rfl) (by decide)) pgs3_nil)))) (fun _ _ _ _ _ => pts3_nil) (fun _ _ _ _ _ => (pe3_tup (pa3_cons (pv3 1) (pa3_cons (pe3_neg (pv3 2)) pa3_nil))))) (pa3_cons (pe3_sub pe3_int (pe3_ix hu (pv3 0) pe3_int)) pa3_nil)))))
def rd_row_clashes (P_row_clashes : Addr) : TS3 :=
    (tRet3 (tOp3 oLt (tSumP3 P_row_clashes (tOp3 oIx (tVar3 0) (tC3 (.int 0)))) (tOp3 oIx (tVar3 0) (tC3 (.int 1)))))
theorem tm_row_clashes {k : Nat} (T : Txt K mg) (TB : GxR.TabB base mg T.c_row_clashes T.P_row_clashes)  {A : Around} {outer : List Env} {s : Shared} {H : Hp} {E : XK} (hr : Room k (A.deeper (envOfC "row_clashes" (defScope s_row_clashes) s.heap.objs.size T.f_row_clashes (.ref T.c_row_clashes)))) (hk : 0 ≤ k) :
    PSs3 (cxOf CX0 P w K mg base N_row_clashes "row_clashes" (defScope s_row_clashes) T.f_row_clashes (.ref T.c_row_clashes) A outer s H E).nox (defBody s_row_clashes) (rd_row_clashes T.P_row_clashes) :=
  have hu := hu_of3 hr
  have hu7 := hu7_of3 hr
  (pss3_one (ps3_ret (pe3_cmp op_lt op3_B (pe3_sumP hr T.m_sum (by rfl) TB rfl (gs_of (xa := "_") (xb := "c") (by decide +kernel)) (gs_a (xa := "_") (xb := "c") (by decide +kernel)) (by decide) (pe3_ix hu (pv3 0) pe3_int) (fun _ => rfl) (by decide)) (pe3_ix hu (pv3 0) pe3_int) (nomark _))))
def rd__law_mix : TS3 :=
    (tSeq3 (tAsg3 (tOp3 oMod (tCall3 oInt (tCons3 (tOp3 oAdd (tOp3 oAdd (tOp3 oMul (tVar3 0) (tC3 (.int 40503))) (tOp3 oMul (tVar3 1) (tC3 (.int 30103)))) (tC3 (.int 7919))) tNil3)) (tC3 (.int 1000000007))) (gName3 2))
    (tRet3 (tOp3 oMod (tCall3 oInt (tCons3 (tOp3 oAdd (tOp3 oAdd (tOp3 oMul (tVar3 2) (tVar3 2)) (tOp3 oMul (tVar3 1) (tC3 (.int 9973)))) (tOp3 oFdiv (tVar3 2) (tC3 (.int 3)))) tNil3)) (tC3 (.int 998244353)))))
theorem tm__law_mix {k : Nat} (T : Txt K mg)  {cdv : Value} {A : Around} {outer : List Env} {s : Shared} {H : Hp} {E : XK} (hr : Room k (A.deeper (envOfC "_law_mix" (defScope s__law_mix) s.heap.objs.size T.f__law_mix cdv))) (hk : 0 ≤ k) :
    PSs3 (cxOf CX0 P w K mg base N__law_mix "_law_mix" (defScope s__law_mix) T.f__law_mix cdv A outer s H E).nox (defBody s__law_mix) (rd__law_mix) :=
  have hu := hu_of3 hr
  have hu7 := hu7_of3 hr
  (pss3_cons (ps3_set (i := 2) sc__law_mix.nd rfl (.inl rfl) (pe3_mod (pe3_intc T.m_int (by rfl) (pa3_cons (pe3_add (pe3_add (pe3_mul (pv3 0) pe3_int) (pe3_mul (pv3 1) pe3_int)) pe3_int) pa3_nil)) pe3_int))
    (pss3_one (ps3_ret (pe3_mod (pe3_intc T.m_int (by rfl) (pa3_cons (pe3_add (pe3_add (pe3_mul (pv3 2) (pv3 2)) (pe3_mul (pv3 1) pe3_int)) (pe3_fdiv (pv3 2) pe3_int)) pa3_nil)) pe3_int))))
def rd__law_open : TS3 :=
    (tSeq3 (tAsg3 (tSl3 (tLc3 (iSeq3 (tVar3 0)) (gName3 1) tYes3 (tCall3 oInt (tCons3 (tVar3 1) tNil3)) [1]) tNoPart3 (tPart3 (tC3 (.int 63)))) (gName3 2))
    (tSeq3 (tAsg3 (tOp3 oAdd (tC3 (.int 17)) (tCall3 oLen (tCons3 (tVar3 2) tNil3))) (gName3 3))
    (tSeq3 (tFor3 (iSeq3 (tVar3 2)) (gName3 1)
      (tAsg3 (tOp3 oMod (tCall3 oInt (tCons3 (tOp3 oAdd (tOp3 oMul (tVar3 3) (tC3 (.int 257))) (tVar3 1)) tNil3)) (tC3 (.int 1000000007))) (gName3 3)))
    (tRet3 (tLst3 (tCons3 (tVar3 2) (tCons3 (tC3 (.int 0)) (tCons3 (tC3 (.int 0)) (tCons3 (tC3 (.int 0)) (tCons3 (tC3 (.int 0)) (tCons3 (tVar3 3) tNil3)))))))))))
theorem tm__law_open {k : Nat} (T : Txt K mg)  {cdv : Value} {A : Around} {outer : List Env} {s : Shared} {H : Hp} {E : XK} (hr : Room k (A.deeper (envOfC "_law_open" (defScope s__law_open) s.heap.objs.size T.f__law_open cdv))) (hk : 0 ≤ k) :
    PSs3 (cxOf CX0 P w K mg base N__law_open "_law_open" (defScope s__law_open) T.f__law_open cdv A outer s H E).nox (defBody s__law_open) (rd__law_open) :=
  have hu := hu_of3 hr
  have hu7 := hu7_of3 hr
  (pss3_cons (ps3_set (i := 2) sc__law_open.nd rfl (.inl rfl) (pe3_slice (pe3_lc (own := [("cell", 1)]) rfl sc__law_open.nd (pi3_seq (pv3 0)) (blkOk_by (own := [("cell", 1)]) (N := N__law_open) (sc := defScope s__law_open) (by decide +kernel)) (fun _ _ _ _ _ => (pg3_name (i := 1) sc__law_open.nd rfl (.inl rfl) (by decide))) (fun _ _ _ _ _ => pts3_nil) (fun _ _ _ _ _ => (pe3_intc T.m_int (by rfl) (pa3_cons (pv3 1) pa3_nil)))) po3_none (po3_some pe3_int)))
    (pss3_cons (ps3_set (i := 3) sc__law_open.nd rfl (.inl rfl) (pe3_add pe3_int (pe3_len T.m_len (by rfl) (pa3_cons (pv3 2) pa3_nil))))
    (pss3_cons (ps3_for (vs := [1]) PassesOwn.never rfl (pi3_seq (pv3 2)) (pg3_name (i := 1) sc__law_open.nd rfl (.inl rfl) (by decide))
      (pss3_one (ps3_set (i := 3) sc__law_open.nd rfl (.inl rfl) (pe3_mod (pe3_intc T.m_int (by rfl) (pa3_cons (pe3_add (pe3_mul (pv3 3) pe3_int) (pv3 1)) pa3_nil)) pe3_int))))
    (pss3_one (ps3_ret (pe3_lst (pa3_cons (pv3 2) (pa3_cons pe3_int (pa3_cons pe3_int (pa3_cons pe3_int (pa3_cons pe3_int (pa3_cons (pv3 3) pa3_nil))))))))))))
def rd__law_pick : TS3 :=
    (tSeq3 (tIfS3 (tAnd3 (tTest3 (tOp3 oEq (tOp3 oIx (tVar3 0) (tC3 (.int 3))) (tC3 (.int 0)))) (tTest3 (tOp3 oLt (tOp3 oIx (tVar3 0) (tC3 (.int 1))) (tCall3 oLen (tCons3 (tOp3 oIx (tVar3 0) (tC3 (.int 0))) tNil3)))))
      (tSeq3 (tAsg3 (tOp3 oIx (tOp3 oIx (tVar3 0) (tC3 (.int 0))) (tOp3 oIx (tVar3 0) (tC3 (.int 1)))) (gSub3 (tVar3 0) (tC3 (.int 2))))
      (tSeq3 (tAsg3 (tOp3 oAdd (tOp3 oIx (tVar3 0) (tC3 (.int 1))) (tC3 (.int 1))) (gSub3 (tVar3 0) (tC3 (.int 1))))
      (tAsg3 (tIf3 (tTest3 (tOp3 oGe (tOp3 oIx (tVar3 0) (tC3 (.int 2))) (tOp3 oPow (tC3 (.int 10)) (tC3 (.int 18))))) (tC3 (.int 60)) (tC3 (.int 0))) (gSub3 (tVar3 0) (tC3 (.int 3))))))
      tNext3)
    (tSeq3 (tIfS3 (tTest3 (tOp3 oGt (tOp3 oIx (tVar3 0) (tC3 (.int 3))) (tC3 (.int 0))))
      (tSeq3 (tAsg3 (tOp3 oMod (tCall3 oInt (tCons3 (tOp3 oIx (tVar3 0) (tC3 (.int 2))) tNil3)) (tVar3 1)) (gName3 2))
      (tSeq3 (tAsg3 (tOp3 oFdiv (tOp3 oIx (tVar3 0) (tC3 (.int 2))) (tVar3 1)) (gSub3 (tVar3 0) (tC3 (.int 2))))
      (tSeq3 (tAsg3 (tIf3 (tTest3 (tOp3 oGt (tOp3 oIx (tVar3 0) (tC3 (.int 2))) (tC3 (.int 0)))) (tOp3 oSub (tOp3 oIx (tVar3 0) (tC3 (.int 3))) (tC3 (.int 1))) (tC3 (.int 0))) (gSub3 (tVar3 0) (tC3 (.int 3))))
      (tRet3 (tVar3 2)))))
      tNext3)
    (tSeq3 (tAsg3 (tOp3 oAdd (tOp3 oIx (tVar3 0) (tC3 (.int 4))) (tC3 (.int 1))) (gSub3 (tVar3 0) (tC3 (.int 4))))
    (tRet3 (tOp3 oMod (tCall3 oInt (tCons3 (tCall3 sp__law_mix (tCons3 (tOp3 oIx (tVar3 0) (tC3 (.int 5))) (tCons3 (tOp3 oIx (tVar3 0) (tC3 (.int 4))) tNil3))) tNil3)) (tVar3 1))))))
theorem tm__law_pick {k : Nat} (T : Txt K mg) (G__law_mix : FnOk P w K mg base CX0 1 T.f__law_mix T.fd__law_mix ["seed", "turn"] (spL K sp__law_mix)) {cdv : Value} {A : Around} {outer : List Env} {s : Shared} {H : Hp} {E : XK} (hr : Room k (A.deeper (envOfC "_law_pick" (defScope s__law_pick) s.heap.objs.size T.f__law_pick cdv))) (hk : 1 ≤ k) :
    PSs3 (cxOf CX0 P w K mg base N__law_pick "_law_pick" (defScope s__law_pick) T.f__law_pick cdv A outer s H E).nox (defBody s__law_pick) (rd__law_pick) :=
  have hu := hu_of3 hr
  have hu7 := hu7_of3 hr
  (pss3_cons (ps3_if (pt3_w (pw3_and (pt3_cmp (opr_eq hu) op3_eq (pe3_ix hu (pv3 0) pe3_int) pe3_int (nomark _)) (pw3_and1 (pt3_cmp op_lt op3_B (pe3_ix hu (pv3 0) pe3_int) (pe3_len T.m_len (by rfl) (pa3_cons (pe3_ix hu (pv3 0) pe3_int) pa3_nil)) (nomark _)))))
      (pss3_cons (ps3_asg (vs := []) (pe3_ix hu (pe3_ix hu (pv3 0) pe3_int) (pe3_ix hu (pv3 0) pe3_int)) (pg3_sub (vs := []) hu (pv3 0) pe3_int))
      (pss3_cons (ps3_asg (vs := []) (pe3_add (pe3_ix hu (pv3 0) pe3_int) pe3_int) (pg3_sub (vs := []) hu (pv3 0) pe3_int))
      (pss3_one (ps3_asg (vs := []) (pe3_ifExp (pt3_cmp op_ge op3_B (pe3_ix hu (pv3 0) pe3_int) (pe3_pow pe3_int pe3_int) (nomark _)) pe3_int pe3_int) (pg3_sub (vs := []) hu (pv3 0) pe3_int)))))
      pss3_nil)
    (pss3_cons (ps3_if (pt3_cmp op_gt op3_B (pe3_ix hu (pv3 0) pe3_int) pe3_int (nomark _))
      (pss3_cons (ps3_set (i := 2) sc__law_pick.nd rfl (.inl rfl) (pe3_mod (pe3_intc T.m_int (by rfl) (pa3_cons (pe3_ix hu (pv3 0) pe3_int) pa3_nil)) (pv3 1)))
      (pss3_cons (ps3_asg (vs := []) (pe3_fdiv (pe3_ix hu (pv3 0) pe3_int) (pv3 1)) (pg3_sub (vs := []) hu (pv3 0) pe3_int))
      (pss3_cons (ps3_asg (vs := []) (pe3_ifExp (pt3_cmp op_gt op3_B (pe3_ix hu (pv3 0) pe3_int) pe3_int (nomark _)) (pe3_sub (pe3_ix hu (pv3 0) pe3_int) pe3_int) pe3_int) (pg3_sub (vs := []) hu (pv3 0) pe3_int))
      (pss3_one (ps3_ret (pv3 2))))))
      pss3_nil)
    (pss3_cons (ps3_asg (vs := []) (pe3_add (pe3_ix hu (pv3 0) pe3_int) pe3_int) (pg3_sub (vs := []) hu (pv3 0) pe3_int))
    (pss3_one (ps3_ret (pe3_mod (pe3_intc T.m_int (by rfl) (pa3_cons (pe3_call G__law_mix (hr.mono (by omega)) (by rfl) T.g__law_mix T.F__law_mix.kp T.b__law_mix (pa3_cons (pe3_ix hu (pv3 0) pe3_int) (pa3_cons (pe3_ix hu (pv3 0) pe3_int) pa3_nil))) pa3_nil)) (pv3 1)))))))
def rd__law_of : TS3 :=
    (tRet3 (tOp3 oIx (tVar3 1) (tCall3 sp__law_pick (tCons3 (tVar3 0) (tCons3 (tCall3 oLen (tCons3 (tVar3 1) tNil3)) tNil3)))))
theorem tm__law_of {k : Nat} (T : Txt K mg) (G__law_pick : FnOk P w K mg base CX0 2 T.f__law_pick T.fd__law_pick ["feed", "many"] (spL K sp__law_pick)) {cdv : Value} {A : Around} {outer : List Env} {s : Shared} {H : Hp} {E : XK} (hr : Room k (A.deeper (envOfC "_law_of" (defScope s__law_of) s.heap.objs.size T.f__law_of cdv))) (hk : 2 ≤ k) :
    PSs3 (cxOf CX0 P w K mg base N__law_of "_law_of" (defScope s__law_of) T.f__law_of cdv A outer s H E).nox (defBody s__law_of) (rd__law_of) :=
  have hu := hu_of3 hr
  have hu7 := hu7_of3 hr
  (pss3_one (ps3_ret (pe3_ix hu (pv3 1) (pe3_call G__law_pick (hr.mono (by omega)) (by rfl) T.g__law_pick T.F__law_pick.kp T.b__law_pick (pa3_cons (pv3 0) (pa3_cons (pe3_len T.m_len (by rfl) (pa3_cons (pv3 1) pa3_nil)) pa3_nil))))))
def rd__law_mixed : TS3 :=
    (tSeq3 (tAsg3 (tLst3 tNil3) (gName3 2))
    (tSeq3 (tFor3 (iSeq3 (tVar3 1)) (gName3 3)
      (tDrop3 (tMt3 oInsert (tVar3 2) (tCons3 (tCall3 sp__law_pick (tCons3 (tVar3 0) (tCons3 (tOp3 oAdd (tCall3 oLen (tCons3 (tVar3 2) tNil3)) (tC3 (.int 1))) tNil3))) (tCons3 (tVar3 3) tNil3)))))
    (tRet3 (tVar3 2))))
theorem tm__law_mixed {k : Nat} (T : Txt K mg) (G__law_pick : FnOk P w K mg base CX0 2 T.f__law_pick T.fd__law_pick ["feed", "many"] (spL K sp__law_pick)) {cdv : Value} {A : Around} {outer : List Env} {s : Shared} {H : Hp} {E : XK} (hr : Room k (A.deeper (envOfC "_law_mixed" (defScope s__law_mixed) s.heap.objs.size T.f__law_mixed cdv))) (hk : 2 ≤ k) :
    PSs3 (cxOf CX0 P w K mg base N__law_mixed "_law_mixed" (defScope s__law_mixed) T.f__law_mixed cdv A outer s H E).nox (defBody s__law_mixed) (rd__law_mixed) :=
  have hu := hu_of3 hr
  have hu7 := hu7_of3 hr
  (pss3_cons (ps3_set (i := 2) sc__law_mixed.nd rfl (.inl rfl) (pe3_lst pa3_nil))
    (pss3_cons (ps3_for (vs := [3]) PassesOwn.never rfl (pi3_seq (pv3 1)) (pg3_name (i := 3) sc__law_mixed.nd rfl (.inl rfl) (by decide))
      (pss3_one (ps3_expr (pe3_insert (pv3 2) (pe3_call G__law_pick (hr.mono (by omega)) (by rfl) T.g__law_pick T.F__law_pick.kp T.b__law_pick (pa3_cons (pv3 0) (pa3_cons (pe3_add (pe3_len T.m_len (by rfl) (pa3_cons (pv3 2) pa3_nil)) pe3_int) pa3_nil))) (pv3 3)))))
    (pss3_one (ps3_ret (pv3 2)))))
def rd__law_same (sp__law_same : Sp3) : TS3 :=
    (tSeq3 (tIfS3 (tTru3 (tCall3 oIsi (tCons3 (tVar3 1) (tCons3 (tC3 (.ty "tuple")) tNil3))))
      (tSeq3 (tIfS3 (tOr3 (tNot3 (tTru3 (tCall3 oIsi (tCons3 (tVar3 0) (tCons3 (tC3 (.ty "tuple")) tNil3))))) (tTest3 (tOp3 oNe (tCall3 oLen (tCons3 (tVar3 0) tNil3)) (tCall3 oLen (tCons3 (tVar3 1) tNil3)))))
        (tRet3 (tC3 (.bl false)))
        tNext3)
      (tRet3 (tCall3 oAll (tCons3 (tLc3 (iRng3 (tCons3 (tCall3 oLen (tCons3 (tVar3 1) tNil3)) tNil3)) (gName3 2) tYes3 (tCall3 sp__law_same (tCons3 (tOp3 oIx (tVar3 0) (tVar3 2)) (tCons3 (tOp3 oIx (tVar3 1) (tVar3 2)) tNil3))) [2]) tNil3))))
      tNext3)
    (tSeq3 (tIfS3 (tTest3 (tOp3 (oIsN id) (tVar3 1) (tC3 .non)))
      (tRet3 (tOp3 (oIsN id) (tVar3 0) (tC3 .non)))
      tNext3)
    (tSeq3 (tIfS3 (tTru3 (tCall3 oIsi (tCons3 (tVar3 1) (tCons3 (tC3 (.ty "str")) tNil3))))
      (tRet3 (tAndV3 (tCall3 oIsi (tCons3 (tVar3 0) (tCons3 (tC3 (.ty "str")) tNil3))) (tOp3 oEq (tVar3 0) (tVar3 1))))
      tNext3)
    (tSeq3 (tIfS3 (tTru3 (tCall3 oIsi (tCons3 (tVar3 1) (tCons3 (tC3 (.ty "bool")) tNil3))))
      (tRet3 (tAndV3 (tCall3 oIsi (tCons3 (tVar3 0) (tCons3 (tC3 (.ty "bool")) tNil3))) (tOp3 oEq (tVar3 0) (tVar3 1))))
      tNext3)
    (tRet3 (tAndV3 (tCall3 oIsi (tCons3 (tVar3 0) (tCons3 (tC3 (.ty "int")) tNil3))) (tAndV3 (tNotV3 (tCall3 oIsi (tCons3 (tVar3 0) (tCons3 (tC3 (.ty "bool")) tNil3)))) (tOp3 oEq (tVar3 0) (tVar3 1)))))))))
theorem tm__law_same {k : Nat} {j : Nat} {sp__law_same : Sp3} (T : Txt K mg) (G__law_same : FnOk P w K mg base CX0 j T.f__law_same T.fd__law_same ["told", "due"] (spL K sp__law_same)) {cdv : Value} {A : Around} {outer : List Env} {s : Shared} {H : Hp} {E : XK} (hr : Room k (A.deeper (envOfC "_law_same" (defScope s__law_same) s.heap.objs.size T.f__law_same cdv))) (hk : 0 ≤ k) (hj : j ≤ k) :
    PSs3 (cxOf CX0 P w K mg base N__law_same "_law_same" (defScope s__law_same) T.f__law_same cdv A outer s H E).nox (defBody s__law_same) (rd__law_same sp__law_same) :=
  have hu := hu_of3 hr
  have hu7 := hu7_of3 hr
  (pss3_cons (ps3_if (pt3_tru (pe3_isi T.m_isinstance (by rfl) (pa3_cons (pv3 1) (pa3_cons (pe3_ty (by rfl) T.m_tuple (by decide +kernel)) pa3_nil))))
      (pss3_cons (ps3_if (pt3_w (pw3_or (pt3_not (pt3_tru (pe3_isi T.m_isinstance (by rfl) (pa3_cons (pv3 0) (pa3_cons (pe3_ty (by rfl) T.m_tuple (by decide +kernel)) pa3_nil))))) (pw3_or1 (pt3_cmp (opr_ne hu) op3_ne (pe3_len T.m_len (by rfl) (pa3_cons (pv3 0) pa3_nil)) (pe3_len T.m_len (by rfl) (pa3_cons (pv3 1) pa3_nil)) (nomark _)))))
        (pss3_one (ps3_ret pe3_bl))
        pss3_nil)
      (pss3_one (ps3_ret (pe3_all rfl T.m_all (by rfl) (pa3_cons (pe3_lc (own := [("k", 2)]) rfl sc__law_same.nd (pi3_range1 (by rfl) T.m_range (pa3_cons (pe3_len T.m_len (by rfl) (pa3_cons (pv3 1) pa3_nil)) pa3_nil)) (blkOk_by (own := [("k", 2)]) (N := N__law_same) (sc := defScope s__law_same) (by decide +kernel)) (fun _ _ _ _ _ => (pg3_name (i := 2) sc__law_same.nd rfl (.inl rfl) (by decide))) (fun _ _ _ _ _ => pts3_nil) (fun _ _ _ _ _ => (pe3_call G__law_same (hr.mono (by omega)) (by rfl) T.g__law_same T.F__law_same.kp T.b__law_same (pa3_cons (pe3_ix hu (pv3 0) (pv3 2)) (pa3_cons (pe3_ix hu (pv3 1) (pv3 2)) pa3_nil))))) pa3_nil)))))
      pss3_nil)
    (pss3_cons (ps3_if (pt3_cmp opr_is op3_is (pv3 1) pe3_non (nomark _))
      (pss3_one (ps3_ret (pe3_cmp opr_is op3_is (pv3 0) pe3_non (nomark _))))
      pss3_nil)
    (pss3_cons (ps3_if (pt3_tru (pe3_isi T.m_isinstance (by rfl) (pa3_cons (pv3 1) (pa3_cons (pe3_ty (by rfl) T.m_str (by decide +kernel)) pa3_nil))))
      (pss3_one (ps3_ret (pe3_and (pe3_isi T.m_isinstance (by rfl) (pa3_cons (pv3 0) (pa3_cons (pe3_ty (by rfl) T.m_str (by decide +kernel)) pa3_nil))) (pe3_one (pe3_cmp (opr_eq hu) op3_eq (pv3 0) (pv3 1) (nomark _))))))
      pss3_nil)
    (pss3_cons (ps3_if (pt3_tru (pe3_isi T.m_isinstance (by rfl) (pa3_cons (pv3 1) (pa3_cons (pe3_ty (by rfl) T.m_bool (by decide +kernel)) pa3_nil))))
      (pss3_one (ps3_ret (pe3_and (pe3_isi T.m_isinstance (by rfl) (pa3_cons (pv3 0) (pa3_cons (pe3_ty (by rfl) T.m_bool (by decide +kernel)) pa3_nil))) (pe3_one (pe3_cmp (opr_eq hu) op3_eq (pv3 0) (pv3 1) (nomark _))))))
      pss3_nil)
    (pss3_one (ps3_ret (pe3_and (pe3_isi T.m_isinstance (by rfl) (pa3_cons (pv3 0) (pa3_cons (pe3_ty (by rfl) T.m_int (by decide +kernel)) pa3_nil))) (pe3_and (pe3_not (pe3_isi T.m_isinstance (by rfl) (pa3_cons (pv3 0) (pa3_cons (pe3_ty (by rfl) T.m_bool (by decide +kernel)) pa3_nil)))) (pe3_one (pe3_cmp (opr_eq hu) op3_eq (pv3 0) (pv3 1) (nomark _)))))))))))
def rd__law_names : TS3 :=
    (tSeq3 (tAsg3 (tC3 (.str "0123456789abcdefghijklmnopqrstuvwxyz.")) (gName3 2))
    (tSeq3 (tAsg3 (tCall3 sp__law_pick (tCons3 (tVar3 0) (tCons3 (tC3 (.int 1369)) tNil3))) (gName3 3))
    (tSeq3 (tIfS3 (tAnd3 (tTest3 (tOp3 oLe (tVar3 1) (tC3 (.int 37)))) (tTest3 (tOp3 oEq (tCall3 sp__law_pick (tCons3 (tVar3 0) (tCons3 (tC3 (.int 3)) tNil3))) (tC3 (.int 0)))))
      (tRet3 (tLc3 (iRng3 (tCons3 (tVar3 1) tNil3)) (gName3 4) tYes3 (tOp3 oMul (tOp3 oIx (tVar3 2) (tOp3 oMod (tCall3 oInt (tCons3 (tOp3 oAdd (tVar3 3) (tOp3 oMul (tVar3 4) (tC3 (.int 5)))) tNil3)) (tC3 (.int 37)))) (tOp3 oAdd (tC3 (.int 1)) (tOp3 oMod (tCall3 oInt (tCons3 (tOp3 oAdd (tVar3 3) (tOp3 oMul (tVar3 4) (tVar3 4))) tNil3)) (tC3 (.int 4))))) [4]))
      tNext3)
    (tSeq3 (tAsg3 (tJoin3 (tC3 (.str "")) (tLc3 (iRng3 (tCons3 (tCall3 sp__law_of (tCons3 (tVar3 0) (tCons3 (tLst3 (tCons3 (tC3 (.int 0)) (tCons3 (tC3 (.int 0)) (tCons3 (tC3 (.int 1)) (tCons3 (tC3 (.int 3)) (tCons3 (tC3 (.int 11)) tNil3)))))) tNil3))) tNil3)) (gName3 4) tYes3 (tCall3 sp__law_of (tCons3 (tVar3 0) (tCons3 (tVar3 2) tNil3))) [4])) (gName3 5))
    (tSeq3 (tAsg3 (tJoin3 (tC3 (.str "")) (tLc3 (iRng3 (tCons3 (tCall3 sp__law_of (tCons3 (tVar3 0) (tCons3 (tLst3 (tCons3 (tC3 (.int 0)) (tCons3 (tC3 (.int 0)) (tCons3 (tC3 (.int 1)) (tCons3 (tC3 (.int 2)) (tCons3 (tC3 (.int 11)) tNil3)))))) tNil3))) tNil3)) (gName3 4) tYes3 (tCall3 sp__law_of (tCons3 (tVar3 0) (tCons3 (tVar3 2) tNil3))) [4])) (gName3 6))
    (tSeq3 (tAsg3 (tLst3 tNil3) (gName3 7))
    (tSeq3 (tFor3 (iRng3 (tCons3 (tVar3 1) tNil3)) (gName3 4)
      (tSeq3 (tAsg3 (tOp3 oMod (tCall3 oInt (tCons3 (tOp3 oAdd (tVar3 3) (tOp3 oMul (tVar3 4) (tC3 (.int 38)))) tNil3)) (tC3 (.int 1369))) (gName3 8))
      (tDrop3 (tMt3 oAppend (tVar3 7) (tCons3 (tOp3 oAdd (tOp3 oAdd (tOp3 oAdd (tVar3 5) (tOp3 oIx (tVar3 2) (tOp3 oFdiv (tVar3 8) (tC3 (.int 37))))) (tOp3 oIx (tVar3 2) (tOp3 oMod (tCall3 oInt (tCons3 (tVar3 8) tNil3)) (tC3 (.int 37))))) (tVar3 6)) tNil3)))))
    (tRet3 (tVar3 7)))))))))
theorem tm__law_names {k : Nat} (T : Txt K mg) (G__law_pick : FnOk P w K mg base CX0 2 T.f__law_pick T.fd__law_pick ["feed", "many"] (spL K sp__law_pick)) (G__law_of : FnOk P w K mg base CX0 3 T.f__law_of T.fd__law_of ["feed", "row"] (spL K sp__law_of)) {cdv : Value} {A : Around} {outer : List Env} {s : Shared} {H : Hp} {E : XK} (hr : Room k (A.deeper (envOfC "_law_names" (defScope s__law_names) s.heap.objs.size T.f__law_names cdv))) (hk : 3 ≤ k) :
    PSs3 (cxOf CX0 P w K mg base N__law_names "_law_names" (defScope s__law_names) T.f__law_names cdv A outer s H E).nox (defBody s__law_names) (rd__law_names) :=
  have hu := hu_of3 hr
  have hu7 := hu7_of3 hr
  (pss3_cons (ps3_set (i := 2) sc__law_names.nd rfl (.inr rfl) pe3_str)
    (pss3_cons (ps3_set (i := 3) sc__law_names.nd rfl (.inr rfl) (pe3_call G__law_pick (hr.mono (by omega)) (by rfl) T.g__law_pick T.F__law_pick.kp T.b__law_pick (pa3_cons (pv3 0) (pa3_cons pe3_int pa3_nil))))
    (pss3_cons (ps3_if (pt3_w (pw3_and (pt3_cmp op_le op3_B (pv3 1) pe3_int (nomark _)) (pw3_and1 (pt3_cmp (opr_eq hu) op3_eq (pe3_call G__law_pick (hr.mono (by omega)) (by rfl) T.g__law_pick T.F__law_pick.kp T.b__law_pick (pa3_cons (pv3 0) (pa3_cons pe3_int pa3_nil))) pe3_int (nomark _)))))
      (pss3_one (ps3_ret (pe3_lc (own := [("k", 4)]) rfl sc__law_names.nd (pi3_range1 (by rfl) T.m_range (pa3_cons (pv3 1) pa3_nil)) (blkOk_by (own := [("k", 4)]) (N := N__law_names) (sc := defScope s__law_names) (by decide +kernel)) (fun _ _ _ _ _ => (pg3_name (i := 4) sc__law_names.nd rfl (.inl rfl) (by decide))) (fun _ _ _ _ _ => pts3_nil) (fun _ _ _ _ _ => (pe3_mul (pe3_ix hu (pv3 2) (pe3_mod (pe3_intc T.m_int (by rfl) (pa3_cons (pe3_add (pv3 3) (pe3_mul (pv3 4) pe3_int)) pa3_nil)) pe3_int)) (pe3_add pe3_int (pe3_mod (pe3_intc T.m_int (by rfl) (pa3_cons (pe3_add (pv3 3) (pe3_mul (pv3 4) (pv3 4))) pa3_nil)) pe3_int)))))))
      pss3_nil)
    (pss3_cons (ps3_set (i := 5) sc__law_names.nd rfl (.inl rfl) (pe3_join pe3_str (pe3_lc (own := [("k", 4)]) rfl sc__law_names.nd (pi3_range1 (by rfl) T.m_range (pa3_cons (pe3_call G__law_of (hr.mono (by omega)) (by rfl) T.g__law_of T.F__law_of.kp T.b__law_of (pa3_cons (pv3 0) (pa3_cons (pe3_lst (pa3_cons pe3_int (pa3_cons pe3_int (pa3_cons pe3_int (pa3_cons pe3_int (pa3_cons pe3_int pa3_nil)))))) pa3_nil))) pa3_nil)) (blkOk_by (own := [("k", 4)]) (N := N__law_names) (sc := defScope s__law_names) (by decide +kernel)) (fun _ _ _ _ _ => (pg3_name (i := 4) sc__law_names.nd rfl (.inl rfl) (by decide))) (fun _ _ _ _ _ => pts3_nil) (fun _ _ _ _ _ => (pe3_call G__law_of (hr.mono (by omega)) (by rfl) T.g__law_of T.F__law_of.kp T.b__law_of (pa3_cons (pv3 0) (pa3_cons (pv3 2) pa3_nil)))))))
    (pss3_cons (ps3_set (i := 6) sc__law_names.nd rfl (.inl rfl) (pe3_join pe3_str (pe3_lc (own := [("k", 4)]) rfl sc__law_names.nd (pi3_range1 (by rfl) T.m_range (pa3_cons (pe3_call G__law_of (hr.mono (by omega)) (by rfl) T.g__law_of T.F__law_of.kp T.b__law_of (pa3_cons (pv3 0) (pa3_cons (pe3_lst (pa3_cons pe3_int (pa3_cons pe3_int (pa3_cons pe3_int (pa3_cons pe3_int (pa3_cons pe3_int pa3_nil)))))) pa3_nil))) pa3_nil)) (blkOk_by (own := [("k", 4)]) (N := N__law_names) (sc := defScope s__law_names) (by decide +kernel)) (fun _ _ _ _ _ => (pg3_name (i := 4) sc__law_names.nd rfl (.inl rfl) (by decide))) (fun _ _ _ _ _ => pts3_nil) (fun _ _ _ _ _ => (pe3_call G__law_of (hr.mono (by omega)) (by rfl) T.g__law_of T.F__law_of.kp T.b__law_of (pa3_cons (pv3 0) (pa3_cons (pv3 2) pa3_nil)))))))
    (pss3_cons (ps3_set (i := 7) sc__law_names.nd rfl (.inl rfl) (pe3_lst pa3_nil))
    (pss3_cons (ps3_for (vs := [4]) PassesOwn.never rfl (pi3_range1 (by rfl) T.m_range (pa3_cons (pv3 1) pa3_nil)) (pg3_name (i := 4) sc__law_names.nd rfl (.inl rfl) (by decide))
      (pss3_cons (ps3_set (i := 8) sc__law_names.nd rfl (.inl rfl) (pe3_mod (pe3_intc T.m_int (by rfl) (pa3_cons (pe3_add (pv3 3) (pe3_mul (pv3 4) pe3_int)) pa3_nil)) pe3_int))
      (pss3_one (ps3_expr (pe3_append (pv3 7) (pe3_add (pe3_add (pe3_add (pv3 5) (pe3_ix hu (pv3 2) (pe3_fdiv (pv3 8) pe3_int))) (pe3_ix hu (pv3 2) (pe3_mod (pe3_intc T.m_int (by rfl) (pa3_cons (pv3 8) pa3_nil)) pe3_int))) (pv3 6)))))))
    (pss3_one (ps3_ret (pv3 7))))))))))
def rd__law_signs : TS3 :=
    (tSeq3 (tAsg3 (tCall3 sp__law_names (tCons3 (tVar3 0) (tCons3 (tC3 (.int 9)) tNil3))) (gName3 2))
    (tSeq3 (tAsg3 (tOp3 oAdd (tLc3 (iRng3 (tCons3 (tC3 (.int 3)) tNil3)) (gName3 3) tYes3 (tTup3 (tCons3 (tC3 (.str "name")) (tCons3 (tOp3 oMul (tVar3 3) (tVar3 3)) tNil3))) [3]) (tLst3 (tCons3 (tTup3 (tCons3 (tC3 (.str "kept")) (tCons3 (tOp3 oIx (tVar3 2) (tC3 (.int 0))) tNil3))) (tCons3 (tTup3 (tCons3 (tC3 (.str "if")) (tCons3 (tOp3 oIx (tVar3 2) (tC3 (.int 1))) tNil3))) tNil3)))) (gName3 4))
    (tSeq3 (tFor3 (iRng3 (tCons3 (tVar3 1) tNil3)) (gName3 3)
      (tSeq3 (tAsg3 (tOp3 oIx (tVar3 2) (tOp3 oAdd (tC3 (.int 2)) (tOp3 oMod (tCall3 oInt (tCons3 (tVar3 3) tNil3)) (tC3 (.int 5))))) (gName3 5))
      (tAsg3 (tOp3 oAdd (tVar3 4) (tLst3 (tCons3 (tOp3 oIx (tLst3 (tCons3 (tTup3 (tCons3 (tC3 (.str "from")) (tCons3 (tVar3 5) (tCons3 (tOp3 oSub (tVar3 3) (tC3 (.int 7))) tNil3)))) (tCons3 (tTup3 (tCons3 (tC3 (.str "is")) (tCons3 (tVar3 5) (tCons3 (tVar3 3) tNil3)))) (tCons3 (tTup3 (tCons3 (tC3 (.str "row")) (tCons3 (tOp3 oIx (tVar3 2) (tC3 (.int 7))) (tCons3 (tVar3 3) tNil3)))) (tCons3 (tTup3 (tCons3 (tC3 (.str "stand")) (tCons3 (tOp3 oIx (tVar3 2) (tC3 (.int 8))) (tCons3 (tVar3 3) (tCons3 (tC3 (.int 11)) tNil3))))) (tCons3 (tTup3 (tCons3 (tC3 (.str "even")) (tCons3 (tVar3 5) (tCons3 (tVar3 3) tNil3)))) tNil3)))))) (tCall3 sp__law_pick (tCons3 (tVar3 0) (tCons3 (tC3 (.int 5)) tNil3)))) tNil3))) (gName3 4))))
    (tRet3 (tCall3 sp__law_mixed (tCons3 (tVar3 0) (tCons3 (tOp3 oAdd (tVar3 4) (tLst3 (tCons3 (tTup3 (tCons3 (tC3 (.str "is")) (tCons3 (tOp3 oIx (tVar3 2) (tC3 (.int 2))) (tCons3 (tUn3 oNeg (tC3 (.int 200))) tNil3)))) (tCons3 (tTup3 (tCons3 (tC3 (.str "is")) (tCons3 (tOp3 oIx (tVar3 2) (tC3 (.int 2))) (tCons3 (tC3 (.int 200)) tNil3)))) tNil3)))) tNil3)))))))
theorem tm__law_signs {k : Nat} (T : Txt K mg) (G__law_names : FnOk P w K mg base CX0 4 T.f__law_names T.fd__law_names ["feed", "many"] (spL K sp__law_names)) (G__law_pick : FnOk P w K mg base CX0 2 T.f__law_pick T.fd__law_pick ["feed", "many"] (spL K sp__law_pick)) (G__law_mixed : FnOk P w K mg base CX0 3 T.f__law_mixed T.fd__law_mixed ["feed", "row"] (spL K sp__law_mixed)) {cdv : Value} {A : Around} {outer : List Env} {s : Shared} {H : Hp} {E : XK} (hr : Room k (A.deeper (envOfC "_law_signs" (defScope s__law_signs) s.heap.objs.size T.f__law_signs cdv))) (hk : 4 ≤ k) :
    PSs3 (cxOf CX0 P w K mg base N__law_signs "_law_signs" (defScope s__law_signs) T.f__law_signs cdv A outer s H E).nox (defBody s__law_signs) (rd__law_signs) :=
  have hu := hu_of3 hr
  have hu7 := hu7_of3 hr
  (pss3_cons (ps3_set (i := 2) sc__law_signs.nd rfl (.inl rfl) (pe3_call G__law_names (hr.mono (by omega)) (by rfl) T.g__law_names T.F__law_names.kp T.b__law_names (pa3_cons (pv3 0) (pa3_cons pe3_int pa3_nil))))
    (pss3_cons (ps3_set (i := 4) sc__law_signs.nd rfl (.inl rfl) (pe3_add (pe3_lc (own := [("k", 3)]) rfl sc__law_signs.nd (pi3_range1 (by rfl) T.m_range (pa3_cons pe3_int pa3_nil)) (blkOk_by (own := [("k", 3)]) (N := N__law_signs) (sc := defScope s__law_signs) (by decide +kernel)) (fun _ _ _ _ _ => (pg3_name (i := 3) sc__law_signs.nd rfl (.inl rfl) (by decide))) (fun _ _ _ _ _ => pts3_nil) (fun _ _ _ _ _ => (pe3_tup (pa3_cons pe3_str (pa3_cons (pe3_mul (pv3 3) (pv3 3)) pa3_nil))))) (pe3_lst (pa3_cons (pe3_tup (pa3_cons pe3_str (pa3_cons (pe3_ix hu (pv3 2) pe3_int) pa3_nil))) (pa3_cons (pe3_tup (pa3_cons pe3_str (pa3_cons (pe3_ix hu (pv3 2) pe3_int) pa3_nil))) pa3_nil)))))
    (pss3_cons (ps3_for (vs := [3]) PassesOwn.never rfl (pi3_range1 (by rfl) T.m_range (pa3_cons (pv3 1) pa3_nil)) (pg3_name (i := 3) sc__law_signs.nd rfl (.inl rfl) (by decide))
      (pss3_cons (ps3_set (i := 5) sc__law_signs.nd rfl (.inl rfl) (pe3_ix hu (pv3 2) (pe3_add pe3_int (pe3_mod (pe3_intc T.m_int (by rfl) (pa3_cons (pv3 3) pa3_nil)) pe3_int))))
      (pss3_one (ps3_set (i := 4) sc__law_signs.nd rfl (.inl rfl) (pe3_add (pv3 4) (pe3_lst (pa3_cons (pe3_ix hu (pe3_lst (pa3_cons (pe3_tup (pa3_cons pe3_str (pa3_cons (pv3 5) (pa3_cons (pe3_sub (pv3 3) pe3_int) pa3_nil)))) (pa3_cons (pe3_tup (pa3_cons pe3_str (pa3_cons (pv3 5) (pa3_cons (pv3 3) pa3_nil)))) (pa3_cons (pe3_tup (pa3_cons pe3_str (pa3_cons (pe3_ix hu (pv3 2) pe3_int) (pa3_cons (pv3 3) pa3_nil)))) (pa3_cons (pe3_tup (pa3_cons pe3_str (pa3_cons (pe3_ix hu (pv3 2) pe3_int) (pa3_cons (pv3 3) (pa3_cons pe3_int pa3_nil))))) (pa3_cons (pe3_tup (pa3_cons pe3_str (pa3_cons (pv3 5) (pa3_cons (pv3 3) pa3_nil)))) pa3_nil)))))) (pe3_call G__law_pick (hr.mono (by omega)) (by rfl) T.g__law_pick T.F__law_pick.kp T.b__law_pick (pa3_cons (pv3 0) (pa3_cons pe3_int pa3_nil)))) pa3_nil)))))))
    (pss3_one (ps3_ret (pe3_call G__law_mixed (hr.mono (by omega)) (by rfl) T.g__law_mixed T.F__law_mixed.kp T.b__law_mixed (pa3_cons (pv3 0) (pa3_cons (pe3_add (pv3 4) (pe3_lst (pa3_cons (pe3_tup (pa3_cons pe3_str (pa3_cons (pe3_ix hu (pv3 2) pe3_int) (pa3_cons (pe3_neg pe3_int) pa3_nil)))) (pa3_cons (pe3_tup (pa3_cons pe3_str (pa3_cons (pe3_ix hu (pv3 2) pe3_int) (pa3_cons pe3_int pa3_nil)))) pa3_nil)))) pa3_nil))))))))
def rd__law_sum : TS3 :=
    (tSeq3 (tAsg3 (tCall3 sp__law_of (tCons3 (tVar3 0) (tCons3 (tLst3 (tCons3 (tC3 (.int 3)) (tCons3 (tC3 (.int 3)) (tCons3 (tC3 (.int 100)) (tCons3 (tOp3 oPow (tC3 (.int 10)) (tC3 (.int 20))) (tCons3 (tOp3 oPow (tC3 (.int 10)) (tC3 (.int 24))) tNil3)))))) tNil3))) (gName3 3))
    (tSeq3 (tAsg3 (tLst3 tNil3) (gName3 4))
    (tSeq3 (tFor3 (iRng3 (tCons3 (tVar3 2) tNil3)) (gName3 5)
      (tSeq3 (tAsg3 (tOp3 oSub (tCall3 sp__law_pick (tCons3 (tVar3 0) (tCons3 (tOp3 oAdd (tOp3 oMul (tC3 (.int 2)) (tVar3 3)) (tC3 (.int 1))) tNil3))) (tVar3 3)) (gName3 6))
      (tDrop3 (tMt3 oAppend (tVar3 4) (tCons3 (tTup3 (tCons3 (tTup3 (tCons3 (tCall3 sp__law_of (tCons3 (tVar3 0) (tCons3 (tVar3 1) tNil3))) (tCons3 (tOp3 oEq (tCall3 sp__law_pick (tCons3 (tVar3 0) (tCons3 (tC3 (.int 2)) tNil3))) (tC3 (.int 0))) tNil3))) (tCons3 (tVar3 6) tNil3))) tNil3)))))
    (tRet3 (tVar3 4)))))
theorem tm__law_sum {k : Nat} (T : Txt K mg) (G__law_of : FnOk P w K mg base CX0 3 T.f__law_of T.fd__law_of ["feed", "row"] (spL K sp__law_of)) (G__law_pick : FnOk P w K mg base CX0 2 T.f__law_pick T.fd__law_pick ["feed", "many"] (spL K sp__law_pick)) {cdv : Value} {A : Around} {outer : List Env} {s : Shared} {H : Hp} {E : XK} (hr : Room k (A.deeper (envOfC "_law_sum" (defScope s__law_sum) s.heap.objs.size T.f__law_sum cdv))) (hk : 3 ≤ k) :
    PSs3 (cxOf CX0 P w K mg base N__law_sum "_law_sum" (defScope s__law_sum) T.f__law_sum cdv A outer s H E).nox (defBody s__law_sum) (rd__law_sum) :=
  have hu := hu_of3 hr
  have hu7 := hu7_of3 hr
  (pss3_cons (ps3_set (i := 3) sc__law_sum.nd rfl (.inl rfl) (pe3_call G__law_of (hr.mono (by omega)) (by rfl) T.g__law_of T.F__law_of.kp T.b__law_of (pa3_cons (pv3 0) (pa3_cons (pe3_lst (pa3_cons pe3_int (pa3_cons pe3_int (pa3_cons pe3_int (pa3_cons (pe3_pow pe3_int pe3_int) (pa3_cons (pe3_pow pe3_int pe3_int) pa3_nil)))))) pa3_nil))))
    (pss3_cons (ps3_set (i := 4) sc__law_sum.nd rfl (.inl rfl) (pe3_lst pa3_nil))
    (pss3_cons (ps3_for (vs := [5]) PassesOwn.never rfl (pi3_range1 (by rfl) T.m_range (pa3_cons (pv3 2) pa3_nil)) (pg3_name (i := 5) sc__law_sum.nd rfl (.inl rfl) (by decide))
      (pss3_cons (ps3_set (i := 6) sc__law_sum.nd rfl (.inl rfl) (pe3_sub (pe3_call G__law_pick (hr.mono (by omega)) (by rfl) T.g__law_pick T.F__law_pick.kp T.b__law_pick (pa3_cons (pv3 0) (pa3_cons (pe3_add (pe3_mul pe3_int (pv3 3)) pe3_int) pa3_nil))) (pv3 3)))
      (pss3_one (ps3_expr (pe3_append (pv3 4) (pe3_tup (pa3_cons (pe3_tup (pa3_cons (pe3_call G__law_of (hr.mono (by omega)) (by rfl) T.g__law_of T.F__law_of.kp T.b__law_of (pa3_cons (pv3 0) (pa3_cons (pv3 1) pa3_nil))) (pa3_cons (pe3_cmp (opr_eq hu) op3_eq (pe3_call G__law_pick (hr.mono (by omega)) (by rfl) T.g__law_pick T.F__law_pick.kp T.b__law_pick (pa3_cons (pv3 0) (pa3_cons pe3_int pa3_nil))) pe3_int (nomark _)) pa3_nil))) (pa3_cons (pv3 6) pa3_nil))))))))
    (pss3_one (ps3_ret (pv3 4))))))
def rd__law_weight : TS3 :=
    (tRet3 (tCall3 oSum (tCons3 (tLc3 (iSeq3 (tVar3 0)) (gTup3 2 (gCons3 (gName3 2) (gCons3 (gName3 3) gNil3))) (tTest3 (tOp3 oEq (tOp3 oIn (tOp3 oIx (tVar3 2) (tC3 (.int 0))) (tVar3 1)) (tOp3 oIx (tVar3 2) (tC3 (.int 1))))) (tVar3 3) [2, 3]) tNil3)))
theorem tm__law_weight {k : Nat} (T : Txt K mg)  {cdv : Value} {A : Around} {outer : List Env} {s : Shared} {H : Hp} {E : XK} (hr : Room k (A.deeper (envOfC "_law_weight" (defScope s__law_weight) s.heap.objs.size T.f__law_weight cdv))) (hk : 0 ≤ k) :
    PSs3 (cxOf CX0 P w K mg base N__law_weight "_law_weight" (defScope s__law_weight) T.f__law_weight cdv A outer s H E).nox (defBody s__law_weight) (rd__law_weight) :=
  have hu := hu_of3 hr
  have hu7 := hu7_of3 hr
  (pss3_one (ps3_ret (pe3_sum rfl T.m_sum (by rfl) (pa3_cons (pe3_lc (own := [("side", 2), ("c", 3)]) rfl sc__law_weight.nd (pi3_seq (pv3 0)) (blkOk_by (own := [("side", 2), ("c", 3)]) (N := N__law_weight) (sc := defScope s__law_weight) (by decide +kernel)) (fun _ _ _ _ _ => (pg3_tup rfl (pgs3_cons (pg3_name (i := 2) sc__law_weight.nd rfl (.inl rfl) (by decide)) (pgs3_cons (pg3_name (i := 3) sc__law_weight.nd rfl (.inl rfl) (by decide)) pgs3_nil)))) (fun _ _ _ _ _ => pts3_one (pt3_cmp (opr_eq hu) op3_eq (pe3_cmp (opr_in hu) op3_in (pe3_ix hu (pv3 2) pe3_int) (pv3 1) rfl) (pe3_ix hu (pv3 2) pe3_int) (nomark _))) (fun _ _ _ _ _ => (pv3 3))) pa3_nil))))
def rd__law_lowest : TS3 :=
    (tSeq3 (tAsg3 tDNew3 (gName3 1))
    (tSeq3 (tAsg3 tDNew3 (gName3 2))
    (tSeq3 (tFor3 (iSeq3 (tVar3 0)) (gTup3 2 (gCons3 (gName3 3) (gCons3 (gName3 4) gNil3)))
      (tSeq3 (tAsg3 (tOp3 oAdd (tGet3 (tVar3 1) (tOp3 oIx (tVar3 3) (tC3 (.int 0))) (tC3 (.int 0))) (tIf3 (tTru3 (tOp3 oIx (tVar3 3) (tC3 (.int 1)))) (tVar3 4) (tC3 (.int 0)))) (gSub3 (tVar3 1) (tOp3 oIx (tVar3 3) (tC3 (.int 0)))))
      (tAsg3 (tOp3 oAdd (tGet3 (tVar3 2) (tOp3 oIx (tVar3 3) (tC3 (.int 0))) (tC3 (.int 0))) (tIf3 (tTru3 (tOp3 oIx (tVar3 3) (tC3 (.int 1)))) (tC3 (.int 0)) (tVar3 4))) (gSub3 (tVar3 2) (tOp3 oIx (tVar3 3) (tC3 (.int 0)))))))
    (tRet3 (tCall3 oSum (tCons3 (tLk3 (tLc3 (iSeq3 (tVar3 1)) (gName3 5) tYes3 (tCall3 oMin (tCons3 (tOp3 oIx (tVar3 1) (tVar3 5)) (tCons3 (tOp3 oIx (tVar3 2) (tVar3 5)) tNil3))) [5])) tNil3))))))
theorem tm__law_lowest {k : Nat} (T : Txt K mg)  {cdv : Value} {A : Around} {outer : List Env} {s : Shared} {H : Hp} {E : XK} (hr : Room k (A.deeper (envOfC "_law_lowest" (defScope s__law_lowest) s.heap.objs.size T.f__law_lowest cdv))) (hk : 0 ≤ k) :
    PSs3 (cxOf CX0 P w K mg base N__law_lowest "_law_lowest" (defScope s__law_lowest) T.f__law_lowest cdv A outer s H E).nox (defBody s__law_lowest) (rd__law_lowest) :=
  have hu := hu_of3 hr
  have hu7 := hu7_of3 hr
  (pss3_cons (ps3_set (i := 1) sc__law_lowest.nd rfl (.inr rfl) pe3_dnew)
    (pss3_cons (ps3_set (i := 2) sc__law_lowest.nd rfl (.inr rfl) pe3_dnew)
    (pss3_cons (ps3_for (vs := [3, 4]) PassesOwn.never rfl (pi3_seq (pv3 0)) (pg3_tup rfl (pgs3_cons (pg3_name (i := 3) sc__law_lowest.nd rfl (.inl rfl) (by decide)) (pgs3_cons (pg3_name (i := 4) sc__law_lowest.nd rfl (.inl rfl) (by decide)) pgs3_nil)))
      (pss3_cons (ps3_asg (vs := []) (pe3_add (pe3_get hu (pv3 1) (pe3_ix hu (pv3 3) pe3_int) pe3_int) (pe3_ifExp (pt3_tru (pe3_ix hu (pv3 3) pe3_int)) (pv3 4) pe3_int)) (pg3_sub (vs := []) hu (pv3 1) (pe3_ix hu (pv3 3) pe3_int)))
      (pss3_one (ps3_asg (vs := []) (pe3_add (pe3_get hu (pv3 2) (pe3_ix hu (pv3 3) pe3_int) pe3_int) (pe3_ifExp (pt3_tru (pe3_ix hu (pv3 3) pe3_int)) pe3_int (pv3 4))) (pg3_sub (vs := []) hu (pv3 2) (pe3_ix hu (pv3 3) pe3_int))))))
    (pss3_one (ps3_ret (pe3_sum rfl T.m_sum (by rfl) (pa3_cons (pe3_lk (pe3_lc (own := [("sign", 5)]) rfl sc__law_lowest.nd (pi3_seq (pv3 1)) (blkOk_by (own := [("sign", 5)]) (N := N__law_lowest) (sc := defScope s__law_lowest) (by decide +kernel)) (fun _ _ _ _ _ => (pg3_name (i := 5) sc__law_lowest.nd rfl (.inl rfl) (by decide))) (fun _ _ _ _ _ => pts3_nil) (fun _ _ _ _ _ => (pe3_min rfl T.m_min (by rfl) (pa3_cons (pe3_ix hu (pv3 1) (pv3 5)) (pa3_cons (pe3_ix hu (pv3 2) (pv3 5)) pa3_nil)))))) pa3_nil)))))))
def rd__law_is_row : TS3 :=
    (tSeq3 (tIfS3 (tOr3 (tNot3 (tTru3 (tCall3 oIsi (tCons3 (tVar3 0) (tCons3 (tC3 (.ty "tuple")) tNil3))))) (tOr3 (tTest3 (tOp3 oNe (tCall3 oLen (tCons3 (tVar3 0) tNil3)) (tC3 (.int 2)))) (tNot3 (tTru3 (tCall3 oIsi (tCons3 (tOp3 oIx (tVar3 0) (tC3 (.int 0))) (tCons3 (tC3 (.ty "tuple")) tNil3)))))))
      (tRet3 (tC3 (.bl false)))
      tNext3)
    (tSeq3 (tIfS3 (tOr3 (tNot3 (tTru3 (tCall3 oIsi (tCons3 (tOp3 oIx (tVar3 0) (tC3 (.int 1))) (tCons3 (tC3 (.ty "int")) tNil3))))) (tOr3 (tTru3 (tCall3 oIsi (tCons3 (tOp3 oIx (tVar3 0) (tC3 (.int 1))) (tCons3 (tC3 (.ty "bool")) tNil3)))) (tTest3 (tOp3 oLt (tOp3 oIx (tVar3 0) (tC3 (.int 1))) (tC3 (.int 0))))))
      (tRet3 (tC3 (.bl false)))
      tNext3)
    (tSeq3 (tAsg3 (tLc3 (iSeq3 (tOp3 oIx (tVar3 0) (tC3 (.int 0)))) (gName3 3) tYes3 (tOp3 oIx (tVar3 3) (tC3 (.int 0))) [3]) (gName3 1))
    (tSeq3 (tAsg3 (tLc3 (iSeq3 (tVar3 1)) (gName3 4) tYes3 (tOp3 oIx (tVar3 4) (tC3 (.int 0))) [4]) (gName3 2))
    (tSeq3 (tIfS3 (tOr3 (tTest3 (tOp3 oNe (tCall3 oList (tCons3 (tOp3 oIx (tVar3 0) (tC3 (.int 0))) tNil3)) (tCall3 oSorted (tCons3 (tOp3 oIx (tVar3 0) (tC3 (.int 0))) tNil3)))) (tTest3 (tOp3 oNe (tCall3 oLen (tCons3 (tCall3 oDict (tCons3 (tLc3 (iSeq3 (tVar3 2)) (gName3 5) tYes3 (tTup3 (tCons3 (tVar3 5) (tCons3 (tC3 (.int 1)) tNil3))) [5]) tNil3)) tNil3)) (tCall3 oLen (tCons3 (tVar3 2) tNil3)))))
      (tRet3 (tC3 (.bl false)))
      tNext3)
    (tRet3 (tCall3 oAll (tCons3 (tLc3 (iSeq3 (tOp3 oIx (tVar3 0) (tC3 (.int 0)))) (gName3 3) tYes3 (tAndV3 (tCall3 oIsi (tCons3 (tOp3 oIx (tVar3 3) (tC3 (.int 1))) (tCons3 (tC3 (.ty "int")) tNil3))) (tAndV3 (tNotV3 (tCall3 oIsi (tCons3 (tOp3 oIx (tVar3 3) (tC3 (.int 1))) (tCons3 (tC3 (.ty "bool")) tNil3)))) (tOp3 oGe (tOp3 oIx (tVar3 3) (tC3 (.int 1))) (tC3 (.int 1))))) [3]) tNil3))))))))
theorem tm__law_is_row {k : Nat} (T : Txt K mg)  {cdv : Value} {A : Around} {outer : List Env} {s : Shared} {H : Hp} {E : XK} (hr : Room k (A.deeper (envOfC "_law_is_row" (defScope s__law_is_row) s.heap.objs.size T.f__law_is_row cdv))) (hk : 0 ≤ k) :
    PSs3 (cxOf CX0 P w K mg base N__law_is_row "_law_is_row" (defScope s__law_is_row) T.f__law_is_row cdv A outer s H E).nox (defBody s__law_is_row) (rd__law_is_row) :=
  have hu := hu_of3 hr
  have hu7 := hu7_of3 hr
  (pss3_cons (ps3_if (pt3_w (pw3_or (pt3_not (pt3_tru (pe3_isi T.m_isinstance (by rfl) (pa3_cons (pv3 0) (pa3_cons (pe3_ty (by rfl) T.m_tuple (by decide +kernel)) pa3_nil))))) (pw3_or (pt3_cmp (opr_ne hu) op3_ne (pe3_len T.m_len (by rfl) (pa3_cons (pv3 0) pa3_nil)) pe3_int (nomark _)) (pw3_or1 (pt3_not (pt3_tru (pe3_isi T.m_isinstance (by rfl) (pa3_cons (pe3_ix hu (pv3 0) pe3_int) (pa3_cons (pe3_ty (by rfl) T.m_tuple (by decide +kernel)) pa3_nil)))))))))
      (pss3_one (ps3_ret pe3_bl))
      pss3_nil)
    (pss3_cons (ps3_if (pt3_w (pw3_or (pt3_not (pt3_tru (pe3_isi T.m_isinstance (by rfl) (pa3_cons (pe3_ix hu (pv3 0) pe3_int) (pa3_cons (pe3_ty (by rfl) T.m_int (by decide +kernel)) pa3_nil))))) (pw3_or (pt3_tru (pe3_isi T.m_isinstance (by rfl) (pa3_cons (pe3_ix hu (pv3 0) pe3_int) (pa3_cons (pe3_ty (by rfl) T.m_bool (by decide +kernel)) pa3_nil)))) (pw3_or1 (pt3_cmp op_lt op3_B (pe3_ix hu (pv3 0) pe3_int) pe3_int (nomark _))))))
      (pss3_one (ps3_ret pe3_bl))
      pss3_nil)
    (pss3_cons (ps3_setLc (i := 1) (own := [("part", 3)]) rfl sc__law_is_row.nd rfl rfl (sw_true rfl rfl rfl (by decide +kernel)) (pi3_seq (pe3_ix hu (pv3 0) pe3_int)) (blkOk_by (own := [("part", 3)]) (N := N__law_is_row) (sc := defScope s__law_is_row) (by decide +kernel)) (fun _ _ _ _ _ => (pg3_name (i := 3) sc__law_is_row.nd rfl (.inl rfl) (by decide))) (fun _ _ _ _ _ => pts3_nil) (fun _ _ _ _ _ => (pe3_ix hu (pv3 3) pe3_int)))
    (pss3_cons (ps3_setLc (i := 2) (own := [("side", 4)]) rfl sc__law_is_row.nd rfl rfl (sw_true rfl rfl rfl (by decide +kernel)) (pi3_seq (pv3 1)) (blkOk_by (own := [("side", 4)]) (N := N__law_is_row) (sc := defScope s__law_is_row) (by decide +kernel)) (fun _ _ _ _ _ => (pg3_name (i := 4) sc__law_is_row.nd rfl (.inl rfl) (by decide))) (fun _ _ _ _ _ => pts3_nil) (fun _ _ _ _ _ => (pe3_ix hu (pv3 4) pe3_int)))
    (pss3_cons (ps3_if (pt3_w (pw3_or (pt3_cmp (opr_ne hu) op3_ne (pe3_list T.m_list (by rfl) (pa3_cons (pe3_ix hu (pv3 0) pe3_int) pa3_nil)) (pe3_sorted rfl hu7 T.m_sorted (by rfl) (pa3_cons (pe3_ix hu (pv3 0) pe3_int) pa3_nil)) (nomark _)) (pw3_or1 (pt3_cmp (opr_ne hu) op3_ne (pe3_len T.m_len (by rfl) (pa3_cons (pe3_dict rfl hu7 T.m_dict (by rfl) (pa3_cons (pe3_lc (own := [("sign", 5)]) rfl sc__law_is_row.nd (pi3_seq (pv3 2)) (blkOk_by (own := [("sign", 5)]) (N := N__law_is_row) (sc := defScope s__law_is_row) (by decide +kernel)) (fun _ _ _ _ _ => (pg3_name (i := 5) sc__law_is_row.nd rfl (.inl rfl) (by decide))) (fun _ _ _ _ _ => pts3_nil) (fun _ _ _ _ _ => (pe3_tup (pa3_cons (pv3 5) (pa3_cons pe3_int pa3_nil))))) pa3_nil)) pa3_nil)) (pe3_len T.m_len (by rfl) (pa3_cons (pv3 2) pa3_nil)) (nomark _)))))
      (pss3_one (ps3_ret pe3_bl))
      pss3_nil)
    (pss3_one (ps3_ret (pe3_all rfl T.m_all (by rfl) (pa3_cons (pe3_lc (own := [("part", 3)]) rfl sc__law_is_row.nd (pi3_seq (pe3_ix hu (pv3 0) pe3_int)) (blkOk_by (own := [("part", 3)]) (N := N__law_is_row) (sc := defScope s__law_is_row) (by decide +kernel)) (fun _ _ _ _ _ => (pg3_name (i := 3) sc__law_is_row.nd rfl (.inl rfl) (by decide))) (fun _ _ _ _ _ => pts3_nil) (fun _ _ _ _ _ => (pe3_and (pe3_isi T.m_isinstance (by rfl) (pa3_cons (pe3_ix hu (pv3 3) pe3_int) (pa3_cons (pe3_ty (by rfl) T.m_int (by decide +kernel)) pa3_nil))) (pe3_and (pe3_not (pe3_isi T.m_isinstance (by rfl) (pa3_cons (pe3_ix hu (pv3 3) pe3_int) (pa3_cons (pe3_ty (by rfl) T.m_bool (by decide +kernel)) pa3_nil)))) (pe3_one (pe3_cmp op_ge op3_B (pe3_ix hu (pv3 3) pe3_int) pe3_int (nomark _))))))) pa3_nil)))))))))
def rd__law_twice : TS3 :=
    (tRet3 (tTup3 (tCons3 (tOp3 oIx (tVar3 0) (tC3 (.int 0))) (tCons3 (tCall3 oMin (tCons3 (tOp3 oIx (tVar3 0) (tC3 (.int 1))) (tCons3 (tOp3 oAdd (tC3 (.int 1)) (tCall3 oSum (tCons3 (tLc3 (iSeq3 (tOp3 oIx (tVar3 0) (tC3 (.int 0)))) (gName3 1) tYes3 (tOp3 oIx (tVar3 1) (tC3 (.int 1))) [1]) tNil3))) tNil3))) tNil3))))
theorem tm__law_twice {k : Nat} (T : Txt K mg)  {cdv : Value} {A : Around} {outer : List Env} {s : Shared} {H : Hp} {E : XK} (hr : Room k (A.deeper (envOfC "_law_twice" (defScope s__law_twice) s.heap.objs.size T.f__law_twice cdv))) (hk : 0 ≤ k) :
    PSs3 (cxOf CX0 P w K mg base N__law_twice "_law_twice" (defScope s__law_twice) T.f__law_twice cdv A outer s H E).nox (defBody s__law_twice) (rd__law_twice) :=
  have hu := hu_of3 hr
  have hu7 := hu7_of3 hr
  (pss3_one (ps3_ret (pe3_tup (pa3_cons (pe3_ix hu (pv3 0) pe3_int) (pa3_cons (pe3_min rfl T.m_min (by rfl) (pa3_cons (pe3_ix hu (pv3 0) pe3_int) (pa3_cons (pe3_add pe3_int (pe3_sum rfl T.m_sum (by rfl) (pa3_cons (pe3_lc (own := [("part", 1)]) rfl sc__law_twice.nd (pi3_seq (pe3_ix hu (pv3 0) pe3_int)) (blkOk_by (own := [("part", 1)]) (N := N__law_twice) (sc := defScope s__law_twice) (by decide +kernel)) (fun _ _ _ _ _ => (pg3_name (i := 1) sc__law_twice.nd rfl (.inl rfl) (by decide))) (fun _ _ _ _ _ => pts3_nil) (fun _ _ _ _ _ => (pe3_ix hu (pv3 1) pe3_int))) pa3_nil))) pa3_nil))) pa3_nil)))))
def rd__law_meant : TS3 :=
    (tSeq3 (tFor3 (iRng3 (tCons3 (tC3 (.int 5)) tNil3)) (gName3 5)
      (tSeq3 (tAsg3 tDNew3 (gName3 6))
      (tSeq3 (tFor3 (iSeq3 (tVar3 1)) (gName3 7)
        (tIfS3 (tTest3 (tOp3 oEq (tCall3 sp__law_pick (tCons3 (tVar3 0) (tCons3 (tC3 (.int 2)) tNil3))) (tC3 (.int 0))))
          (tAsg3 (tC3 (.bl true)) (gSub3 (tVar3 6) (tVar3 7)))
          tNext3))
      (tIfS3 (tTest3 (tOp3 oNe (tOp3 oGe (tCall3 sp__law_weight (tCons3 (tOp3 oIx (tVar3 4) (tC3 (.int 0))) (tCons3 (tVar3 6) tNil3))) (tOp3 oIx (tVar3 4) (tC3 (.int 1)))) (tOp3 oGe (tCall3 sp__law_weight (tCons3 (tVar3 2) (tCons3 (tVar3 6) tNil3))) (tVar3 3))))
        (tRet3 (tC3 (.bl false)))
        tNext3))))
    (tRet3 (tC3 (.bl true))))
theorem tm__law_meant {k : Nat} (T : Txt K mg) (G__law_pick : FnOk P w K mg base CX0 2 T.f__law_pick T.fd__law_pick ["feed", "many"] (spL K sp__law_pick)) (G__law_weight : FnOk P w K mg base CX0 1 T.f__law_weight T.fd__law_weight ["pairs", "setting"] (spL K sp__law_weight)) {cdv : Value} {A : Around} {outer : List Env} {s : Shared} {H : Hp} {E : XK} (hr : Room k (A.deeper (envOfC "_law_meant" (defScope s__law_meant) s.heap.objs.size T.f__law_meant cdv))) (hk : 2 ≤ k) :
    PSs3 (cxOf CX0 P w K mg base N__law_meant "_law_meant" (defScope s__law_meant) T.f__law_meant cdv A outer s H E).nox (defBody s__law_meant) (rd__law_meant) :=
  have hu := hu_of3 hr
  have hu7 := hu7_of3 hr
  (pss3_cons (ps3_for (vs := [5]) PassesOwn.never rfl (pi3_range1 (by rfl) T.m_range (pa3_cons pe3_int pa3_nil)) (pg3_name (i := 5) sc__law_meant.nd rfl (.inl rfl) (by decide))
      (pss3_cons (ps3_set (i := 6) sc__law_meant.nd rfl (.inl rfl) pe3_dnew)
      (pss3_cons (ps3_for (vs := [7]) PassesOwn.never rfl (pi3_seq (pv3 1)) (pg3_name (i := 7) sc__law_meant.nd rfl (.inl rfl) (by decide))
        (pss3_one (ps3_if (pt3_cmp (opr_eq hu) op3_eq (pe3_call G__law_pick (hr.mono (by omega)) (by rfl) T.g__law_pick T.F__law_pick.kp T.b__law_pick (pa3_cons (pv3 0) (pa3_cons pe3_int pa3_nil))) pe3_int (nomark _))
          (pss3_one (ps3_asg (vs := []) pe3_bl (pg3_sub (vs := []) hu (pv3 6) (pv3 7))))
          pss3_nil)))
      (pss3_one (ps3_if (pt3_cmp (opr_ne hu) op3_ne (pe3_cmp op_ge op3_B (pe3_call G__law_weight (hr.mono (by omega)) (by rfl) T.g__law_weight T.F__law_weight.kp T.b__law_weight (pa3_cons (pe3_ix hu (pv3 4) pe3_int) (pa3_cons (pv3 6) pa3_nil))) (pe3_ix hu (pv3 4) pe3_int) (nomark _)) (pe3_cmp op_ge op3_B (pe3_call G__law_weight (hr.mono (by omega)) (by rfl) T.g__law_weight T.F__law_weight.kp T.b__law_weight (pa3_cons (pv3 2) (pa3_cons (pv3 6) pa3_nil))) (pv3 3) (nomark _)) (nomark _))
        (pss3_one (ps3_ret pe3_bl))
        pss3_nil)))))
    (pss3_one (ps3_ret pe3_bl)))
def rd_law (P_row_clashes : Addr) : TS3 :=
    (tSeq3 (tAsg3 (tCall3 sp__law_open (tCons3 (tVar3 0) tNil3)) (gName3 1))
    (tSeq3 (tAsg3 (tCall3 sp__law_signs (tCons3 (tVar3 1) (tCons3 (tCall3 sp__law_of (tCons3 (tVar3 1) (tCons3 (tLst3 (tCons3 (tC3 (.int 2)) (tCons3 (tC3 (.int 4)) (tCons3 (tC3 (.int 9)) (tCons3 (tC3 (.int 60)) tNil3))))) tNil3))) tNil3))) (gName3 2))
    (tSeq3 (tAsg3 (tCall3 sp__law_sum (tCons3 (tVar3 1) (tCons3 (tVar3 2) (tCons3 (tCall3 sp__law_of (tCons3 (tVar3 1) (tCons3 (tLst3 (tCons3 (tC3 (.int 0)) (tCons3 (tC3 (.int 1)) (tCons3 (tC3 (.int 5)) (tCons3 (tC3 (.int 12)) (tCons3 (tC3 (.int 300)) tNil3)))))) tNil3))) tNil3)))) (gName3 3))
    (tSeq3 (tAsg3 (tCall3 sp__law_sum (tCons3 (tVar3 1) (tCons3 (tVar3 2) (tCons3 (tCall3 sp__law_of (tCons3 (tVar3 1) (tCons3 (tLst3 (tCons3 (tC3 (.int 1)) (tCons3 (tC3 (.int 4)) (tCons3 (tC3 (.int 9)) (tCons3 (tC3 (.int 40)) tNil3))))) tNil3))) tNil3)))) (gName3 4))
    (tSeq3 (tPar3 5 6 (tCons3 (tCall3 sp__law_lowest (tCons3 (tVar3 3) tNil3)) (tCons3 (tCall3 sp__law_lowest (tCons3 (tVar3 4) tNil3)) tNil3)))
    (tSeq3 (tPar3 7 8 (tCons3 (tOp3 oAdd (tVar3 5) (tCall3 sp__law_of (tCons3 (tVar3 1) (tCons3 (tLst3 (tCons3 (tC3 (.int 0)) (tCons3 (tC3 (.int 0)) (tCons3 (tC3 (.int 1)) (tCons3 (tC3 (.int 2)) (tCons3 (tC3 (.int 9)) (tCons3 (tOp3 oPow (tC3 (.int 10)) (tC3 (.int 20))) tNil3))))))) tNil3)))) (tCons3 (tOp3 oAdd (tVar3 6) (tCall3 sp__law_of (tCons3 (tVar3 1) (tCons3 (tLst3 (tCons3 (tC3 (.int 0)) (tCons3 (tC3 (.int 1)) (tCons3 (tC3 (.int 3)) (tCons3 (tOp3 oPow (tC3 (.int 10)) (tC3 (.int 19))) tNil3))))) tNil3)))) tNil3)))
    (tSeq3 (tParT3 9 10 11 (tCons3 (tCall3 sp_norm (tCons3 (tCall3 oTuple (tCons3 (tVar3 3) tNil3)) (tCons3 (tVar3 7) tNil3))) (tCons3 (tCall3 sp_norm (tCons3 (tCall3 oTuple (tCons3 (tVar3 4) tNil3)) (tCons3 (tVar3 8) tNil3))) (tCons3 (tCall3 sp_norm (tCons3 (tCall3 oTuple (tCons3 (tOp3 oAdd (tVar3 3) (tVar3 4)) tNil3)) (tCons3 (tOp3 oAdd (tVar3 7) (tVar3 8)) tNil3))) tNil3))))
    (tSeq3 (tFor3 (iSeq3 (tLst3 (tCons3 (tVar3 9) (tCons3 (tVar3 10) (tCons3 (tVar3 11) tNil3))))) (gName3 12)
      (tIfS3 (tNot3 (tTru3 (tCall3 sp__law_is_row (tCons3 (tVar3 12) tNil3))))
        (tRet3 (tC3 (.bl false)))
        tNext3))
    (tSeq3 (tIfS3 (tOr3 (tTest3 (tOp3 oNe (tOp3 oIx (tVar3 9) (tC3 (.int 1))) (tOp3 oSub (tVar3 7) (tVar3 5)))) (tOr3 (tTest3 (tOp3 oNe (tOp3 oIx (tVar3 10) (tC3 (.int 1))) (tOp3 oSub (tVar3 8) (tVar3 6)))) (tNot3 (tTru3 (tCall3 sp__law_meant (tCons3 (tVar3 1) (tCons3 (tVar3 2) (tCons3 (tVar3 3) (tCons3 (tVar3 7) (tCons3 (tVar3 9) tNil3))))))))))
      (tRet3 (tC3 (.bl false)))
      tNext3)
    (tSeq3 (tIfS3 (tOr3 (tNot3 (tTru3 (tCall3 sp__law_meant (tCons3 (tVar3 1) (tCons3 (tVar3 2) (tCons3 (tVar3 4) (tCons3 (tVar3 8) (tCons3 (tVar3 10) tNil3)))))))) (tNot3 (tTru3 (tCall3 sp__law_meant (tCons3 (tVar3 1) (tCons3 (tVar3 2) (tCons3 (tOp3 oAdd (tVar3 3) (tVar3 4)) (tCons3 (tOp3 oAdd (tVar3 7) (tVar3 8)) (tCons3 (tVar3 11) tNil3)))))))))
      (tRet3 (tC3 (.bl false)))
      tNext3)
    (tSeq3 (tIfS3 (tNot3 (tTru3 (tCall3 sp__law_same (tCons3 (tCall3 sp_norm (tCons3 (tOp3 oAdd (tOp3 oIx (tVar3 9) (tC3 (.int 0))) (tOp3 oIx (tVar3 10) (tC3 (.int 0)))) (tCons3 (tOp3 oAdd (tOp3 oIx (tVar3 9) (tC3 (.int 1))) (tOp3 oIx (tVar3 10) (tC3 (.int 1)))) tNil3))) (tCons3 (tVar3 11) tNil3)))))
      (tRet3 (tC3 (.bl false)))
      tNext3)
    (tSeq3 (tIfS3 (tNot3 (tTru3 (tCall3 sp__law_same (tCons3 (tCall3 sp_norm (tCons3 (tCall3 oTuple (tCons3 (tCall3 sp__law_mixed (tCons3 (tVar3 1) (tCons3 (tOp3 oAdd (tVar3 3) (tVar3 4)) tNil3))) tNil3)) (tCons3 (tOp3 oAdd (tVar3 7) (tVar3 8)) tNil3))) (tCons3 (tVar3 11) tNil3)))))
      (tRet3 (tC3 (.bl false)))
      tNext3)
    (tSeq3 (tAsg3 (tOp3 oAdd (tC3 (.int 1)) (tCall3 sp__law_pick (tCons3 (tVar3 1) (tCons3 (tC3 (.int 99)) tNil3)))) (gName3 13))
    (tSeq3 (tAsg3 (tTup3 (tCons3 (tCall3 oTuple (tCons3 (tLc3 (iSeq3 (tOp3 oIx (tVar3 9) (tC3 (.int 0)))) (gName3 20) tYes3 (tTup3 (tCons3 (tOp3 oIx (tVar3 20) (tC3 (.int 0))) (tCons3 (tOp3 oMul (tVar3 13) (tOp3 oIx (tVar3 20) (tC3 (.int 1)))) tNil3))) [20]) tNil3)) (tCons3 (tOp3 oMul (tVar3 13) (tOp3 oIx (tVar3 9) (tC3 (.int 1)))) tNil3))) (gName3 14))
    (tSeq3 (tIfS3 (tNot3 (tTru3 (tCall3 sp__law_same (tCons3 (tCall3 sp_norm (tCons3 (tCall3 oTuple (tCons3 (tLc3 (iSeq3 (tVar3 3)) (gTup3 2 (gCons3 (gName3 18) (gCons3 (gName3 19) gNil3))) tYes3 (tTup3 (tCons3 (tVar3 18) (tCons3 (tOp3 oMul (tVar3 13) (tVar3 19)) tNil3))) [18, 19]) tNil3)) (tCons3 (tOp3 oMul (tVar3 13) (tVar3 7)) tNil3))) (tCons3 (tVar3 14) tNil3)))))
      (tRet3 (tC3 (.bl false)))
      tNext3)
    (tSeq3 (tAsg3 (tLc3 (iSeq3 (tVar3 3)) (gTup3 2 (gCons3 (gName3 18) (gCons3 (gName3 19) gNil3))) tYes3 (tTup3 (tCons3 (tTup3 (tCons3 (tOp3 oIx (tVar3 18) (tC3 (.int 0))) (tCons3 (tNotV3 (tOp3 oIx (tVar3 18) (tC3 (.int 1)))) tNil3))) (tCons3 (tUn3 oNeg (tVar3 19)) tNil3))) [18, 19]) (gName3 15))
    (tSeq3 (tIfS3 (tNot3 (tTru3 (tCall3 sp__law_same (tCons3 (tCall3 sp_norm (tCons3 (tCall3 oTuple (tCons3 (tVar3 15) tNil3)) (tCons3 (tOp3 oSub (tVar3 7) (tCall3 oSum (tCons3 (tLc3 (iSeq3 (tVar3 3)) (gTup3 2 (gCons3 (gName3 18) (gCons3 (gName3 19) gNil3))) tYes3 (tVar3 19) [18, 19]) tNil3))) tNil3))) (tCons3 (tVar3 9) tNil3)))))
      (tRet3 (tC3 (.bl false)))
      tNext3)
    (tSeq3 (tIfS3 (tNot3 (tTru3 (tCall3 sp__law_same (tCons3 (tCall3 sp_norm (tCons3 (tCall3 oTuple (tCons3 (tVar3 3) tNil3)) (tCons3 (tOp3 oSub (tOp3 oSub (tVar3 5) (tC3 (.int 1))) (tCall3 sp__law_pick (tCons3 (tVar3 1) (tCons3 (tC3 (.int 99)) tNil3)))) tNil3))) (tCons3 (tTup3 (tCons3 (tOp3 oIx (tVar3 9) (tC3 (.int 0))) (tCons3 (tC3 (.int 0)) tNil3))) tNil3)))))
      (tRet3 (tC3 (.bl false)))
      tNext3)
    (tSeq3 (tAsg3 (tCall3 oSum (tCons3 (tLc3 (iSeq3 (tOp3 oIx (tVar3 9) (tC3 (.int 0)))) (gName3 20) tYes3 (tOp3 oIx (tVar3 20) (tC3 (.int 1))) [20]) tNil3)) (gName3 16))
    (tSeq3 (tIfS3 (tOr3 (tNot3 (tTru3 (tCall3 sp__law_same (tCons3 (tCall3 (sp_row_clashes P_row_clashes) (tCons3 (tVar3 9) tNil3)) (tCons3 (tOp3 oLt (tVar3 16) (tOp3 oIx (tVar3 9) (tC3 (.int 1)))) tNil3))))) (tNot3 (tTru3 (tCall3 sp__law_same (tCons3 (tCall3 (sp_row_clashes P_row_clashes) (tCons3 (tTup3 (tCons3 (tOp3 oIx (tVar3 9) (tC3 (.int 0))) (tCons3 (tVar3 16) tNil3))) tNil3)) (tCons3 (tC3 (.bl false)) tNil3))))))
      (tRet3 (tC3 (.bl false)))
      tNext3)
    (tSeq3 (tIfS3 (tOr3 (tNot3 (tTru3 (tCall3 sp__law_same (tCons3 (tCall3 (sp_row_clashes P_row_clashes) (tCons3 (tTup3 (tCons3 (tOp3 oIx (tVar3 9) (tC3 (.int 0))) (tCons3 (tOp3 oAdd (tVar3 16) (tC3 (.int 1))) tNil3))) tNil3)) (tCons3 (tC3 (.bl true)) tNil3))))) (tNot3 (tTru3 (tCall3 sp__law_same (tCons3 (tCall3 sp_denial (tCons3 (tCall3 sp_denial (tCons3 (tVar3 9) tNil3)) tNil3)) (tCons3 (tCall3 sp__law_twice (tCons3 (tVar3 9) tNil3)) tNil3))))))
      (tRet3 (tC3 (.bl false)))
      tNext3)
    (tSeq3 (tAsg3 (tCall3 sp_denial (tCons3 (tVar3 9) tNil3)) (gName3 17))
    (tSeq3 (tIfS3 (tOr3 (tNot3 (tTru3 (tCall3 sp__law_is_row (tCons3 (tVar3 17) tNil3)))) (tNot3 (tTru3 (tCall3 sp__law_same (tCons3 (tCall3 sp_norm (tCons3 (tOp3 oAdd (tOp3 oIx (tVar3 9) (tC3 (.int 0))) (tOp3 oIx (tVar3 17) (tC3 (.int 0)))) (tCons3 (tOp3 oAdd (tOp3 oIx (tVar3 9) (tC3 (.int 1))) (tOp3 oIx (tVar3 17) (tC3 (.int 1)))) tNil3))) (tCons3 (tTup3 (tCons3 (tTup3 tNil3) (tCons3 (tCall3 oMax (tCons3 (tC3 (.int 1)) (tCons3 (tOp3 oSub (tOp3 oIx (tVar3 9) (tC3 (.int 1))) (tVar3 16)) tNil3))) tNil3))) tNil3))))))
      (tRet3 (tC3 (.bl false)))
      tNext3)
    (tRet3 (tCall3 sp__law_same (tCons3 (tCall3 sp_norm (tCons3 (tOp3 oIx (tVar3 9) (tC3 (.int 0))) (tCons3 (tOp3 oIx (tVar3 9) (tC3 (.int 1))) tNil3))) (tCons3 (tVar3 9) tNil3)))))))))))))))))))))))))))
theorem tm_law {k : Nat} (T : Txt K mg) (G__law_open : FnOk P w K mg base CX0 1 T.f__law_open T.fd__law_open ["script"] (spL K sp__law_open)) (G__law_signs : FnOk P w K mg base CX0 5 T.f__law_signs T.fd__law_signs ["feed", "many"] (spL K sp__law_signs)) (G__law_of : FnOk P w K mg base CX0 3 T.f__law_of T.fd__law_of ["feed", "row"] (spL K sp__law_of)) (G__law_sum : FnOk P w K mg base CX0 4 T.f__law_sum T.fd__law_sum ["feed", "signs", "many"] (spL K sp__law_sum)) (G__law_lowest : FnOk P w K mg base CX0 1 T.f__law_lowest T.fd__law_lowest ["pairs"] (spL K sp__law_lowest)) (G_norm : FnOk P w K mg base CX0 1 T.f_norm T.fd_norm ["pairs", "least"] (spL K sp_norm)) (G__law_is_row : FnOk P w K mg base CX0 1 T.f__law_is_row T.fd__law_is_row ["row"] (spL K sp__law_is_row)) (G__law_meant : FnOk P w K mg base CX0 3 T.f__law_meant T.fd__law_meant ["feed", "signs", "pairs", "least", "row"] (spL K sp__law_meant)) (G__law_same : FnOk P w K mg base CX0 7 T.f__law_same T.fd__law_same ["told", "due"] (spL K sp__law_same)) (G__law_mixed : FnOk P w K mg base CX0 3 T.f__law_mixed T.fd__law_mixed ["feed", "row"] (spL K sp__law_mixed)) (G__law_pick : FnOk P w K mg base CX0 2 T.f__law_pick T.fd__law_pick ["feed", "many"] (spL K sp__law_pick)) (G_row_clashes : FnOk P w K mg base CX0 1 T.f_row_clashes T.fd_row_clashes ["row"] (spL K (sp_row_clashes T.P_row_clashes))) (G__law_twice : FnOk P w K mg base CX0 1 T.f__law_twice T.fd__law_twice ["row"] (spL K sp__law_twice)) (G_denial : FnOk P w K mg base CX0 2 T.f_denial T.fd_denial ["row"] (spL K sp_denial)) {cdv : Value} {A : Around} {outer : List Env} {s : Shared} {H : Hp} {E : XK} (hr : Room k (A.deeper (envOfC "law" (defScope s_law) s.heap.objs.size T.f_law cdv))) (hk : 7 ≤ k) :
    PSs3 (cxOf CX0 P w K mg base N_law "law" (defScope s_law) T.f_law cdv A outer s H E).nox (defBody s_law) (rd_law T.P_row_clashes) :=
  have hu := hu_of3 hr
  have hu7 := hu7_of3 hr
  (pss3_cons (ps3_set (i := 1) sc_law.nd rfl (.inl rfl) (pe3_call G__law_open (hr.mono (by omega)) (by rfl) T.g__law_open T.F__law_open.kp T.b__law_open (pa3_cons (pv3 0) pa3_nil)))
    (pss3_cons (ps3_set (i := 2) sc_law.nd rfl (.inl rfl) (pe3_call G__law_signs (hr.mono (by omega)) (by rfl) T.g__law_signs T.F__law_signs.kp T.b__law_signs (pa3_cons (pv3 1) (pa3_cons (pe3_call G__law_of (hr.mono (by omega)) (by rfl) T.g__law_of T.F__law_of.kp T.b__law_of (pa3_cons (pv3 1) (pa3_cons (pe3_lst (pa3_cons pe3_int (pa3_cons pe3_int (pa3_cons pe3_int (pa3_cons pe3_int pa3_nil))))) pa3_nil))) pa3_nil))))
    (pss3_cons (ps3_set (i := 3) sc_law.nd rfl (.inl rfl) (pe3_call G__law_sum (hr.mono (by omega)) (by rfl) T.g__law_sum T.F__law_sum.kp T.b__law_sum (pa3_cons (pv3 1) (pa3_cons (pv3 2) (pa3_cons (pe3_call G__law_of (hr.mono (by omega)) (by rfl) T.g__law_of T.F__law_of.kp T.b__law_of (pa3_cons (pv3 1) (pa3_cons (pe3_lst (pa3_cons pe3_int (pa3_cons pe3_int (pa3_cons pe3_int (pa3_cons pe3_int (pa3_cons pe3_int pa3_nil)))))) pa3_nil))) pa3_nil)))))
    (pss3_cons (ps3_set (i := 4) sc_law.nd rfl (.inl rfl) (pe3_call G__law_sum (hr.mono (by omega)) (by rfl) T.g__law_sum T.F__law_sum.kp T.b__law_sum (pa3_cons (pv3 1) (pa3_cons (pv3 2) (pa3_cons (pe3_call G__law_of (hr.mono (by omega)) (by rfl) T.g__law_of T.F__law_of.kp T.b__law_of (pa3_cons (pv3 1) (pa3_cons (pe3_lst (pa3_cons pe3_int (pa3_cons pe3_int (pa3_cons pe3_int (pa3_cons pe3_int pa3_nil))))) pa3_nil))) pa3_nil)))))
    (pss3_cons (ps3_par (i := 5) (j := 6) rfl sc_law.nd rfl rfl (by decide) rfl rfl (pa3_cons (pe3_call G__law_lowest (hr.mono (by omega)) (by rfl) T.g__law_lowest T.F__law_lowest.kp T.b__law_lowest (pa3_cons (pv3 3) pa3_nil)) (pa3_cons (pe3_call G__law_lowest (hr.mono (by omega)) (by rfl) T.g__law_lowest T.F__law_lowest.kp T.b__law_lowest (pa3_cons (pv3 4) pa3_nil)) pa3_nil)) (by rfl))
    (pss3_cons (ps3_par (i := 7) (j := 8) rfl sc_law.nd rfl rfl (by decide) rfl rfl (pa3_cons (pe3_add (pv3 5) (pe3_call G__law_of (hr.mono (by omega)) (by rfl) T.g__law_of T.F__law_of.kp T.b__law_of (pa3_cons (pv3 1) (pa3_cons (pe3_lst (pa3_cons pe3_int (pa3_cons pe3_int (pa3_cons pe3_int (pa3_cons pe3_int (pa3_cons pe3_int (pa3_cons (pe3_pow pe3_int pe3_int) pa3_nil))))))) pa3_nil)))) (pa3_cons (pe3_add (pv3 6) (pe3_call G__law_of (hr.mono (by omega)) (by rfl) T.g__law_of T.F__law_of.kp T.b__law_of (pa3_cons (pv3 1) (pa3_cons (pe3_lst (pa3_cons pe3_int (pa3_cons pe3_int (pa3_cons pe3_int (pa3_cons (pe3_pow pe3_int pe3_int) pa3_nil))))) pa3_nil)))) pa3_nil)) (by rfl))
    (pss3_cons (ps3_parT (i := 9) (j := 10) (l := 11) rfl sc_law.nd rfl rfl rfl (by decide) (by decide) (by decide) rfl rfl rfl (pa3_cons (pe3_call G_norm (hr.mono (by omega)) (by rfl) T.g_norm T.F_norm.kp T.b_norm (pa3_cons (pe3_tuple T.m_tuple (by rfl) (pa3_cons (pv3 3) pa3_nil)) (pa3_cons (pv3 7) pa3_nil))) (pa3_cons (pe3_call G_norm (hr.mono (by omega)) (by rfl) T.g_norm T.F_norm.kp T.b_norm (pa3_cons (pe3_tuple T.m_tuple (by rfl) (pa3_cons (pv3 4) pa3_nil)) (pa3_cons (pv3 8) pa3_nil))) (pa3_cons (pe3_call G_norm (hr.mono (by omega)) (by rfl) T.g_norm T.F_norm.kp T.b_norm (pa3_cons (pe3_tuple T.m_tuple (by rfl) (pa3_cons (pe3_add (pv3 3) (pv3 4)) pa3_nil)) (pa3_cons (pe3_add (pv3 7) (pv3 8)) pa3_nil))) pa3_nil))) (by rfl))
    (pss3_cons (ps3_for (vs := [12]) PassesOwn.never rfl (pi3_seq (pe3_lst (pa3_cons (pv3 9) (pa3_cons (pv3 10) (pa3_cons (pv3 11) pa3_nil))))) (pg3_name (i := 12) sc_law.nd rfl (.inl rfl) (by decide))
      (pss3_one (ps3_if (pt3_not (pt3_tru (pe3_call G__law_is_row (hr.mono (by omega)) (by rfl) T.g__law_is_row T.F__law_is_row.kp T.b__law_is_row (pa3_cons (pv3 12) pa3_nil))))
        (pss3_one (ps3_ret pe3_bl))
        pss3_nil)))
    (pss3_cons (ps3_if (pt3_w (pw3_or (pt3_cmp (opr_ne hu) op3_ne (pe3_ix hu (pv3 9) pe3_int) (pe3_sub (pv3 7) (pv3 5)) (nomark _)) (pw3_or (pt3_cmp (opr_ne hu) op3_ne (pe3_ix hu (pv3 10) pe3_int) (pe3_sub (pv3 8) (pv3 6)) (nomark _)) (pw3_or1 (pt3_not (pt3_tru (pe3_call G__law_meant (hr.mono (by omega)) (by rfl) T.g__law_meant T.F__law_meant.kp T.b__law_meant (pa3_cons (pv3 1) (pa3_cons (pv3 2) (pa3_cons (pv3 3) (pa3_cons (pv3 7) (pa3_cons (pv3 9) pa3_nil))))))))))))
      (pss3_one (ps3_ret pe3_bl))
      pss3_nil)
    (pss3_cons (ps3_if (pt3_w (pw3_or (pt3_not (pt3_tru (pe3_call G__law_meant (hr.mono (by omega)) (by rfl) T.g__law_meant T.F__law_meant.kp T.b__law_meant (pa3_cons (pv3 1) (pa3_cons (pv3 2) (pa3_cons (pv3 4) (pa3_cons (pv3 8) (pa3_cons (pv3 10) pa3_nil)))))))) (pw3_or1 (pt3_not (pt3_tru (pe3_call G__law_meant (hr.mono (by omega)) (by rfl) T.g__law_meant T.F__law_meant.kp T.b__law_meant (pa3_cons (pv3 1) (pa3_cons (pv3 2) (pa3_cons (pe3_add (pv3 3) (pv3 4)) (pa3_cons (pe3_add (pv3 7) (pv3 8)) (pa3_cons (pv3 11) pa3_nil)))))))))))
      (pss3_one (ps3_ret pe3_bl))
      pss3_nil)
    (pss3_cons (ps3_if (pt3_not (pt3_tru (pe3_call G__law_same (hr.mono (by omega)) (by rfl) T.g__law_same T.F__law_same.kp T.b__law_same (pa3_cons (pe3_call G_norm (hr.mono (by omega)) (by rfl) T.g_norm T.F_norm.kp T.b_norm (pa3_cons (pe3_add (pe3_ix hu (pv3 9) pe3_int) (pe3_ix hu (pv3 10) pe3_int)) (pa3_cons (pe3_add (pe3_ix hu (pv3 9) pe3_int) (pe3_ix hu (pv3 10) pe3_int)) pa3_nil))) (pa3_cons (pv3 11) pa3_nil)))))
      (pss3_one (ps3_ret pe3_bl))
      pss3_nil)
    (pss3_cons (ps3_if (pt3_not (pt3_tru (pe3_call G__law_same (hr.mono (by omega)) (by rfl) T.g__law_same T.F__law_same.kp T.b__law_same (pa3_cons (pe3_call G_norm (hr.mono (by omega)) (by rfl) T.g_norm T.F_norm.kp T.b_norm (pa3_cons (pe3_tuple T.m_tuple (by rfl) (pa3_cons (pe3_call G__law_mixed (hr.mono (by omega)) (by rfl) T.g__law_mixed T.F__law_mixed.kp T.b__law_mixed (pa3_cons (pv3 1) (pa3_cons (pe3_add (pv3 3) (pv3 4)) pa3_nil))) pa3_nil)) (pa3_cons (pe3_add (pv3 7) (pv3 8)) pa3_nil))) (pa3_cons (pv3 11) pa3_nil)))))
      (pss3_one (ps3_ret pe3_bl))
      pss3_nil)
    (pss3_cons (ps3_set (i := 13) sc_law.nd rfl (.inr rfl) (pe3_add pe3_int (pe3_call G__law_pick (hr.mono (by omega)) (by rfl) T.g__law_pick T.F__law_pick.kp T.b__law_pick (pa3_cons (pv3 1) (pa3_cons pe3_int pa3_nil)))))
    (pss3_cons (ps3_set (i := 14) sc_law.nd rfl (.inl rfl) (pe3_tup (pa3_cons (pe3_tuple T.m_tuple (by rfl) (pa3_cons (pe3_lc (own := [("part", 20)]) rfl sc_law.nd (pi3_seq (pe3_ix hu (pv3 9) pe3_int)) (blkOk_by (own := [("part", 20)]) (N := N_law) (sc := defScope s_law) (by decide +kernel)) (fun _ _ _ _ _ => (pg3_name (i := 20) sc_law.nd rfl (.inl rfl) (by decide))) (fun _ _ _ _ _ => pts3_nil) (fun _ _ _ _ _ => (pe3_tup (pa3_cons (pe3_ix hu (pv3 20) pe3_int) (pa3_cons (pe3_mul (pv3 13) (pe3_ix hu (pv3 20) pe3_int)) pa3_nil))))) pa3_nil)) (pa3_cons (pe3_mul (pv3 13) (pe3_ix hu (pv3 9) pe3_int)) pa3_nil))))
    (pss3_cons (ps3_if (pt3_not (pt3_tru (pe3_call G__law_same (hr.mono (by omega)) (by rfl) T.g__law_same T.F__law_same.kp T.b__law_same (pa3_cons (pe3_call G_norm (hr.mono (by omega)) (by rfl) T.g_norm T.F_norm.kp T.b_norm (pa3_cons (pe3_tuple T.m_tuple (by rfl) (pa3_cons (pe3_lc (own := [("side", 18), ("c", 19)]) rfl sc_law.nd (pi3_seq (pv3 3)) (blkOk_by (own := [("side", 18), ("c", 19)]) (N := N_law) (sc := defScope s_law) (by decide +kernel)) (fun _ _ _ _ _ => (pg3_tup rfl (pgs3_cons (pg3_name (i := 18) sc_law.nd rfl (.inl rfl) (by decide)) (pgs3_cons (pg3_name (i := 19) sc_law.nd rfl (.inl rfl) (by decide)) pgs3_nil)))) (fun _ _ _ _ _ => pts3_nil) (fun _ _ _ _ _ => (pe3_tup (pa3_cons (pv3 18) (pa3_cons (pe3_mul (pv3 13) (pv3 19)) pa3_nil))))) pa3_nil)) (pa3_cons (pe3_mul (pv3 13) (pv3 7)) pa3_nil))) (pa3_cons (pv3 14) pa3_nil)))))
      (pss3_one (ps3_ret pe3_bl))
      pss3_nil)
    (pss3_cons (ps3_setLc (i := 15) (own := [("side", 18), ("c", 19)]) rfl sc_law.nd rfl rfl (sw_true rfl rfl rfl (by decide +kernel)) (pi3_seq (pv3 3)) (blkOk_by (own := [("side", 18), ("c", 19)]) (N := N_law) (sc := defScope s_law) (by decide +kernel)) (fun _ _ _ _ _ => (pg3_tup rfl (pgs3_cons (pg3_name (i := 18) sc_law.nd rfl (.inl rfl) (by decide)) (pgs3_cons (pg3_name (i := 19) sc_law.nd rfl (.inl rfl) (by decide)) pgs3_nil)))) (fun _ _ _ _ _ => pts3_nil) (fun _ _ _ _ _ => (pe3_tup (pa3_cons (pe3_tup (pa3_cons (pe3_ix hu (pv3 18) pe3_int) (pa3_cons (pe3_not (pe3_ix hu (pv3 18) pe3_int)) pa3_nil))) (pa3_cons (pe3_neg (pv3 19)) pa3_nil)))))
    (pss3_cons (ps3_if (pt3_not (pt3_tru (pe3_call G__law_same (hr.mono (by omega)) (by rfl) T.g__law_same T.F__law_same.kp T.b__law_same (pa3_cons (pe3_call G_norm (hr.mono (by omega)) (by rfl) T.g_norm T.F_norm.kp T.b_norm (pa3_cons (pe3_tuple T.m_tuple (by rfl) (pa3_cons (pv3 15) pa3_nil)) (pa3_cons (pe3_sub (pv3 7) (pe3_sum rfl T.m_sum (by rfl) (pa3_cons (pe3_lc (own := [("side", 18), ("c", 19)]) rfl sc_law.nd (pi3_seq (pv3 3)) (blkOk_by (own := [("side", 18), ("c", 19)]) (N := N_law) (sc := defScope s_law) (by decide +kernel)) (fun _ _ _ _ _ => (pg3_tup rfl (pgs3_cons (pg3_name (i := 18) sc_law.nd rfl (.inl rfl) (by decide)) (pgs3_cons (pg3_name (i := 19) sc_law.nd rfl (.inl rfl) (by decide)) pgs3_nil)))) (fun _ _ _ _ _ => pts3_nil) (fun _ _ _ _ _ => (pv3 19))) pa3_nil))) pa3_nil))) (pa3_cons (pv3 9) pa3_nil)))))
      (pss3_one (ps3_ret pe3_bl))
      pss3_nil)
    (pss3_cons (ps3_if (pt3_not (pt3_tru (pe3_call G__law_same (hr.mono (by omega)) (by rfl) T.g__law_same T.F__law_same.kp T.b__law_same (pa3_cons (pe3_call G_norm (hr.mono (by omega)) (by rfl) T.g_norm T.F_norm.kp T.b_norm (pa3_cons (pe3_tuple T.m_tuple (by rfl) (pa3_cons (pv3 3) pa3_nil)) (pa3_cons (pe3_sub (pe3_sub (pv3 5) pe3_int) (pe3_call G__law_pick (hr.mono (by omega)) (by rfl) T.g__law_pick T.F__law_pick.kp T.b__law_pick (pa3_cons (pv3 1) (pa3_cons pe3_int pa3_nil)))) pa3_nil))) (pa3_cons (pe3_tup (pa3_cons (pe3_ix hu (pv3 9) pe3_int) (pa3_cons pe3_int pa3_nil))) pa3_nil)))))
      (pss3_one (ps3_ret pe3_bl))
      pss3_nil)
    (pss3_cons (ps3_set (i := 16) sc_law.nd rfl (.inl rfl) (pe3_sum rfl T.m_sum (by rfl) (pa3_cons (pe3_lc (own := [("part", 20)]) rfl sc_law.nd (pi3_seq (pe3_ix hu (pv3 9) pe3_int)) (blkOk_by (own := [("part", 20)]) (N := N_law) (sc := defScope s_law) (by decide +kernel)) (fun _ _ _ _ _ => (pg3_name (i := 20) sc_law.nd rfl (.inl rfl) (by decide))) (fun _ _ _ _ _ => pts3_nil) (fun _ _ _ _ _ => (pe3_ix hu (pv3 20) pe3_int))) pa3_nil)))
    (pss3_cons (ps3_if (pt3_w (pw3_or (pt3_not (pt3_tru (pe3_call G__law_same (hr.mono (by omega)) (by rfl) T.g__law_same T.F__law_same.kp T.b__law_same (pa3_cons (pe3_call G_row_clashes (hr.mono (by omega)) (by rfl) T.g_row_clashes T.F_row_clashes.kp T.b_row_clashes (pa3_cons (pv3 9) pa3_nil)) (pa3_cons (pe3_cmp op_lt op3_B (pv3 16) (pe3_ix hu (pv3 9) pe3_int) (nomark _)) pa3_nil))))) (pw3_or1 (pt3_not (pt3_tru (pe3_call G__law_same (hr.mono (by omega)) (by rfl) T.g__law_same T.F__law_same.kp T.b__law_same (pa3_cons (pe3_call G_row_clashes (hr.mono (by omega)) (by rfl) T.g_row_clashes T.F_row_clashes.kp T.b_row_clashes (pa3_cons (pe3_tup (pa3_cons (pe3_ix hu (pv3 9) pe3_int) (pa3_cons (pv3 16) pa3_nil))) pa3_nil)) (pa3_cons pe3_bl pa3_nil))))))))
      (pss3_one (ps3_ret pe3_bl))
      pss3_nil)
    (pss3_cons (ps3_if (pt3_w (pw3_or (pt3_not (pt3_tru (pe3_call G__law_same (hr.mono (by omega)) (by rfl) T.g__law_same T.F__law_same.kp T.b__law_same (pa3_cons (pe3_call G_row_clashes (hr.mono (by omega)) (by rfl) T.g_row_clashes T.F_row_clashes.kp T.b_row_clashes (pa3_cons (pe3_tup (pa3_cons (pe3_ix hu (pv3 9) pe3_int) (pa3_cons (pe3_add (pv3 16) pe3_int) pa3_nil))) pa3_nil)) (pa3_cons pe3_bl pa3_nil))))) (pw3_or1 (pt3_not (pt3_tru (pe3_call G__law_same (hr.mono (by omega)) (by rfl) T.g__law_same T.F__law_same.kp T.b__law_same (pa3_cons (pe3_call G_denial (hr.mono (by omega)) (by rfl) T.g_denial T.F_denial.kp T.b_denial (pa3_cons (pe3_call G_denial (hr.mono (by omega)) (by rfl) T.g_denial T.F_denial.kp T.b_denial (pa3_cons (pv3 9) pa3_nil)) pa3_nil)) (pa3_cons (pe3_call G__law_twice (hr.mono (by omega)) (by rfl) T.g__law_twice T.F__law_twice.kp T.b__law_twice (pa3_cons (pv3 9) pa3_nil)) pa3_nil))))))))
      (pss3_one (ps3_ret pe3_bl))
      pss3_nil)
    (pss3_cons (ps3_set (i := 17) sc_law.nd rfl (.inl rfl) (pe3_call G_denial (hr.mono (by omega)) (by rfl) T.g_denial T.F_denial.kp T.b_denial (pa3_cons (pv3 9) pa3_nil)))
    (pss3_cons (ps3_if (pt3_w (pw3_or (pt3_not (pt3_tru (pe3_call G__law_is_row (hr.mono (by omega)) (by rfl) T.g__law_is_row T.F__law_is_row.kp T.b__law_is_row (pa3_cons (pv3 17) pa3_nil)))) (pw3_or1 (pt3_not (pt3_tru (pe3_call G__law_same (hr.mono (by omega)) (by rfl) T.g__law_same T.F__law_same.kp T.b__law_same (pa3_cons (pe3_call G_norm (hr.mono (by omega)) (by rfl) T.g_norm T.F_norm.kp T.b_norm (pa3_cons (pe3_add (pe3_ix hu (pv3 9) pe3_int) (pe3_ix hu (pv3 17) pe3_int)) (pa3_cons (pe3_add (pe3_ix hu (pv3 9) pe3_int) (pe3_ix hu (pv3 17) pe3_int)) pa3_nil))) (pa3_cons (pe3_tup (pa3_cons (pe3_tup pa3_nil) (pa3_cons (pe3_max rfl T.m_max (by rfl) (pa3_cons pe3_int (pa3_cons (pe3_sub (pe3_ix hu (pv3 9) pe3_int) (pv3 16)) pa3_nil))) pa3_nil))) pa3_nil))))))))
      (pss3_one (ps3_ret pe3_bl))
      pss3_nil)
    (pss3_one (ps3_ret (pe3_call G__law_same (hr.mono (by omega)) (by rfl) T.g__law_same T.F__law_same.kp T.b__law_same (pa3_cons (pe3_call G_norm (hr.mono (by omega)) (by rfl) T.g_norm T.F_norm.kp T.b_norm (pa3_cons (pe3_ix hu (pv3 9) pe3_int) (pa3_cons (pe3_ix hu (pv3 9) pe3_int) pa3_nil))) (pa3_cons (pv3 9) pa3_nil))))))))))))))))))))))))))))
end
end K07
namespace K07
open PySem PySem.Spec PyProof.Rows L2 L3
theorem Keep.refl (a : Addr) (S : Sto) : Keep a S S := fun _ _ _ h => h
theorem Keep.trans {a : Addr} {S S1 S2 : Sto} (h : Keep a S S1) (k : Keep a S1 S2) : Keep a S S2 := fun b o hb e => k b o hb (h b o hb e)
theorem Keep.up {a : Addr} {S S1 : Sto} {o : MO} (h : Keep a S S1) : Keep a S (L3.up S1 a o) := fun b u hb e => by
  rw [up_ne hb]
  exact h b u hb e
theorem Keep.new {a p : Addr} {S S1 : Sto} {o : MO} (h : Keep a S S1) (hp : S1 p = none) : Keep a S (L3.up S1 p o) := fun b u hb e => by
  have q := h b u hb e
  rw [up_ne (fun z => by rw [z, hp] at q; cases q)]
  exact q
theorem Feed.up {a c : Addr} {S : Sto} {i x n t s : Int} {cells : List Int} (hc : S c = some (.lst (cells.map .int))) (hne : a ≠ c) (hi : 0 ≤ i) (hl : cells.length ≤ 63) : Feed (L3.up S a (.lst [.loc c, .int i, .int x, .int n, .int t, .int s])) a c :=
  ⟨cells, i, x, n, t, s, up_same, by rw [up_ne (Ne.symm hne)]; exact hc, hne, hi, hl⟩
theorem Feed.wr {a c p : Addr} {S : Sto} {o : MO} (h : Feed S a c) (h1 : p ≠ a) (h2 : p ≠ c) : Feed (L3.up S p o) a c := by
  obtain ⟨cells, i, x, n, t, s, ha, hc, r⟩ := h
  exact ⟨cells, i, x, n, t, s, by rw [up_ne (Ne.symm h1)]; exact ha, by rw [up_ne (Ne.symm h2)]; exact hc, r⟩
theorem Feed.ne {a c p : Addr} {S : Sto} (h : Feed S a c) (hp : S p = none) : p ≠ a ∧ p ≠ c := by
  obtain ⟨cells, i, x, n, t, s, ha, hc, r⟩ := h
  exact ⟨fun z => (by rw [z, ha] at hp; cases hp), fun z => (by rw [z, hc] at hp; cases hp)⟩
theorem Feed.new {a c p : Addr} {S : Sto} {o : MO} (h : Feed S a c) (hp : S p = none) : Feed (L3.up S p o) a c := by
  obtain ⟨cells, i, x, n, t, s, ha, hc, r⟩ := h
  refine ⟨cells, i, x, n, t, s, ?_, ?_, r⟩
  · rw [up_ne (fun z => by rw [z, hp] at ha; cases ha)]
    exact ha
  · rw [up_ne (fun z => by rw [z, hp] at hc; cases hc)]
    exact hc
@[simp] theorem mix_call (a b : Int) (S : Sto) (Q : VK3) : sp__law_mix [.int a, .int b] S Q ↔ ∀ r : Int, Q (.int r) S := by
  constructor
  · rintro ⟨_, _, e, h⟩
    exact h
  · exact fun h => ⟨a, b, rfl, h⟩
theorem atI_in {α β : Type} (f : α → β) (xs : List α) (i : Int) (h0 : 0 ≤ i) (h : i < xs.length) : ∃ x ∈ xs, atI (xs.map f) i = some (f x) := by
  have hlt : i.toNat < xs.length := by omega
  refine ⟨xs[i.toNat], List.getElem_mem hlt, ?_⟩
  unfold atI
  rw [show ixN (xs.map f).length i = some i.toNat by
    unfold ixN
    rw [if_pos h0, List.length_map, if_pos (by omega)]]
  simp [hlt]
theorem cut_to {α : Type} (xs : List α) (k : Nat) : L3.cutD xs none (some (k : Int)) = xs.take k := by
  unfold L3.cutD
  rw [HT.sIx_nat, HT.sIx_none, List.drop_zero, Nat.sub_zero]
  rcases Nat.le_total k xs.length with h | h
  · rw [Nat.min_eq_left h]
  · rw [Nat.min_eq_right h, List.take_length, List.take_of_length_le h]
section
variable {P : Program} {w : World} {K : PySem.W.Frag} {mg : Str → Option Value} {base : Heap}
theorem ok__law_mix (T : Txt K mg) : FnOk P w K mg base CX0 1 T.f__law_mix T.fd__law_mix ["seed", "turn"] (spL K sp__law_mix) := by
  refine Fun.ok3 T.F__law_mix sc__law_mix (fun ds S Q h => ?_) fun cdv A outer s H E ds S Q hr h => ⟨rd__law_mix, tm__law_mix T hr (by omega), ?_⟩
  · obtain ⟨_, _, rfl, _⟩ := h; rfl
  · obtain ⟨seed, turn, rfl, q⟩ := h
    simp [rd__law_mix, start3, MulC, CMul, CDivW]
    exact ⟨by omega, by decide, fg (q _)⟩
theorem ok__law_open (T : Txt K mg) : FnOk P w K mg base CX0 1 T.f__law_open T.fd__law_open ["script"] (spL K sp__law_open) := by
  refine Fun.ok3 T.F__law_open sc__law_open (fun ds S Q h => ?_) fun cdv A outer s H E ds S Q hr h => ⟨rd__law_open, tm__law_open T hr (by omega), ?_⟩
  · obtain ⟨_, _, rfl, _⟩ := h; rfl
  · obtain ⟨d, ns, rfl, hd, hl, q⟩ := h
    simp [rd__law_open, start3, MulC, CMul, CDivW]
    refine walk_seq hd fun ok ho => ?_
    refine lc_mapm (F := D.int) (by have : (63 : Nat) ≤ sizeLine := by decide
                                    omega) ho (fun n _ R h => ?_) fun p hp => ?_
    · simpa using h
    simp
    intro l hl1
    have e63 : L3.cutD (ns.map D.int) none (some 63) = ns.map D.int := by
      have := cut_to (ns.map D.int) 63
      rw [List.take_of_length_le (by simpa using hl)] at this
      exact this
    rw [e63]
    have hlp : l ≠ p := fun z => by simp [z] at hl1
    have hl2 : S l = none := by simpa [hlp] using hl1
    refine for_inv (fun _ τ' S' => (∃ z : Option D, ∃ y : Int, τ' = [some d, z, some (.loc l), some (.int y)]) ∧ S' = up (up S p (.lst (ns.map D.int))) l (.lst (ns.map D.int))) ⟨⟨_, _, rfl⟩, rfl⟩ ?_ ?_ ?_
    · rintro i τ' S' ⟨_, rfl⟩
      simp
    · rintro i x τ' S' hx ⟨⟨z, y, rfl⟩, rfl⟩ R hR
      obtain ⟨n, hn, rfl⟩ := List.mem_map.mp (List.mem_of_getElem? hx)
      simp [MulC, CMul]
      exact hR _ _ ⟨⟨_, _, rfl⟩, rfl⟩
    · rintro τ' S' ⟨⟨z, y, rfl⟩, rfl⟩
      simp
      refine ⟨by decide, ?_⟩
      intro m hm
      have hml : m ≠ l := fun z => by simp [z] at hm
      have hmp : m ≠ p := fun z => by simp [z, hlp, Ne.symm hlp] at hm
      have hm2 : S m = none := by simpa [hml, hmp] using hm
      exact fg (q _ m l (.up (.up (.up (.refl S) hp) hl2) hm2) hm2 hl2 ⟨ns, 0, 0, 0, 0, y, up_same, by rw [up_ne (Ne.symm hml), up_same], hml, by omega, hl⟩)
theorem ok__law_pick (T : Txt K mg) : FnOk P w K mg base CX0 2 T.f__law_pick T.fd__law_pick ["feed", "many"] (spL K sp__law_pick) := by
  refine Fun.ok3 T.F__law_pick sc__law_pick (fun ds S Q h => ?_) fun cdv A outer s H E ds S Q hr h => ⟨rd__law_pick, tm__law_pick T (ok__law_mix T) hr (by omega), ?_⟩
  · obtain ⟨_, _, _, rfl, _⟩ := h; rfl
  · obtain ⟨a, c, many, rfl, F, hm, q⟩ := h
    obtain ⟨cells, i, x, n, t, sd, ha, hc, hne, hi, hl⟩ := F
    have hne' : c ≠ a := Ne.symm hne
    have hlog : many.natAbs.log2 < 9000 := by
      have : many.natAbs < 2 ^ 200 := by have := hm.2; have := hm.1; omega
      have h2 := Nat.log2_lt (n := many.natAbs) (k := 200) (by have := hm.1; omega)
      have := h2.mpr this
      omega
    have hd : ∀ v, CDivW v many := fun v => ⟨hm.1, hlog⟩
    have hp := hm.1
    have fin : ∀ y i' x' n' t', 0 ≤ i' → Fg Q (.int (y % many)) (up S a (.lst [.loc c, .int i', .int x', .int n', .int t', .int sd])) := fun y i' x' n' t' hi' =>
      fg (q _ _ (Int.emod_nonneg _ (by have := hm.1; omega)) (Int.emod_lt_of_pos _ hm.1) (.up (.refl a S)) (.up hc hne hi' hl))
    simp [rd__law_pick, start3, MulC, CMul, CPow, ha, hc, hne, hne', hp, hd]
    by_cases h1 : n = 0
    · by_cases h2 : i < cells.length
      · obtain ⟨v, _, hv⟩ := atI_in D.int cells i hi h2
        simp [h1, h2, hv]
        by_cases h3 : 1000000000000000000 ≤ v
        · by_cases h4 : 0 < v / many
          · simp [h3, h4, hp, hd]
            exact fin _ _ _ _ _ (by omega)
          · simp [h3, h4, hp, hd]
            exact fin _ _ _ _ _ (by omega)
        · simp [h3, hne, hne', hp, hd]
          exact fun r => fin _ _ _ _ _ (by omega)
      · simp [h1, h2, hne, hne', hp, hd]
        exact fun r => fin _ _ _ _ _ hi
    · by_cases h2 : 0 < n
      · by_cases h3 : 0 < x / many
        · simp [h1, h2, h3, hp, hd]
          exact fin _ _ _ _ _ hi
        · simp [h1, h2, h3, hp, hd]
          exact fin _ _ _ _ _ hi
      · simp [h1, h2, hne, hne', hp, hd]
        exact fun r => fin _ _ _ _ _ hi
end
end K07
namespace K07
open PySem PySem.Spec PyProof.Rows L2 L3
theorem sz : (16777216 : Nat) ≤ sizeLine := by decide
section
variable {P : Program} {w : World} {K : PySem.W.Frag} {mg : Str → Option Value} {base : Heap}
theorem ok__law_of (T : Txt K mg) : FnOk P w K mg base CX0 3 T.f__law_of T.fd__law_of ["feed", "row"] (spL K sp__law_of) := by
  refine Fun.ok3 T.F__law_of sc__law_of (fun ds S Q h => ?_) fun cdv A outer s H E ds S Q hr h => ⟨rd__law_of, tm__law_of T (ok__law_pick T) hr (by omega), ?_⟩
  · obtain ⟨_, _, _, ⟨_, _, rfl, _⟩ | ⟨_, rfl, _⟩⟩ := h <;> rfl
  · obtain ⟨a, c, F, ⟨b, xs, rfl, hb, hS, h0, h1, q⟩ | ⟨z, rfl, h0, h1, q⟩⟩ := h
    · simp [rd__law_of, start3, hS]
      refine ⟨a, c, xs.length, rfl, F, ⟨by omega, by omega⟩, fun r S' r0 r1 k F' => ?_⟩
      obtain ⟨x, hx, e⟩ := atI_in id xs r r0 r1
      simp at e
      simp [k b _ hb hS, e]
      exact fg (q x S' hx k F')
    · have := sz
      have hl : z.length ≤ sizeLine := by omega
      simp [rd__law_of, start3, hl]
      refine ⟨a, c, z.length, rfl, F, ⟨by omega, by omega⟩, fun r S' r0 r1 k F' => ?_⟩
      have hlen : z.cps.toList.length = z.length := by simp [Str.length]
      obtain ⟨x, hx, e⟩ := atI_in id z.cps.toList r r0 (by rw [hlen]; exact r1)
      simp only [List.map_id, id] at e
      simp [e, hl]
      exact fg (q x S' hx k F')
theorem ok__law_mixed (T : Txt K mg) : FnOk P w K mg base CX0 3 T.f__law_mixed T.fd__law_mixed ["feed", "row"] (spL K sp__law_mixed) := by
  refine Fun.ok3 T.F__law_mixed sc__law_mixed (fun ds S Q h => ?_) fun cdv A outer s H E ds S Q hr h => ⟨rd__law_mixed, tm__law_mixed T (ok__law_pick T) hr (by omega), ?_⟩
  · obtain ⟨_, _, _, _, rfl, _⟩ := h; rfl
  · obtain ⟨a, c, b, xs, rfl, F, hb, hS, hl, q⟩ := h
    simp [rd__law_mixed, start3]
    intro p hp
    obtain ⟨hpa, hpc⟩ := F.ne hp
    have hbp : b ≠ p := fun z => by rw [z, hp] at hS; cases hS
    simp [hbp, hS]
    have := sz
    refine for_inv (fun i τ' S' => ∃ (z : Option D) (ys : List D), τ' = [some (.loc a), some (.loc b), some (.loc p), z] ∧ ys.Perm (xs.take i) ∧ Keep a S S' ∧ S' p = some (.lst ys) ∧ Feed S' a c) ⟨none, [], rfl, by simp, .new (.refl a S) hp, up_same, F.new hp⟩ ?_ ?_ ?_
    · rintro i τ' S' ⟨z, ys, rfl, _, k, _⟩
      exact k b _ hb hS
    · rintro i x τ' S' hx ⟨z, ys, rfl, pm, k, hp', F'⟩ R hR
      have hlen := pm.length_eq
      have hi : i < xs.length := (List.getElem?_eq_some_iff.mp hx).1
      rw [List.length_take, Nat.min_eq_left (by omega)] at hlen
      simp [hp']
      refine ⟨a, c, ys.length + 1, rfl, F', ⟨by omega, by omega⟩, fun r S2 r0 r1 k2 F2 => ?_⟩
      simp [k2 p _ hpa hp']
      refine ⟨by omega, r0, by omega, hR _ _ ⟨_, _, rfl, ?_, ?_, up_same, F2.wr hpa hpc⟩⟩
      · have e : xs.take (i + 1) = xs.take i ++ [x] := by
          obtain ⟨hlt, ex⟩ := List.getElem?_eq_some_iff.mp hx
          rw [List.take_succ_eq_append_getElem hlt, ex]
        rw [e]
        have h1 : (ys.take r.toNat ++ x :: ys.drop r.toNat).Perm (x :: (ys.take r.toNat ++ ys.drop r.toNat)) := List.perm_middle
        rw [List.take_append_drop] at h1
        exact h1.trans ((pm.cons x).trans (List.perm_append_singleton x _).symm)
      · intro u o hu e
        rw [up_ne (fun z => by rw [z, hp] at e; cases e)]
        exact (k.trans k2) u o hu e
    · rintro τ' S' ⟨z, ys, rfl, pm, k, hp', F'⟩
      simp
      rw [List.take_length] at pm
      exact fg (q ys p S' pm hp hpa k hp' F')
end
end K07
namespace K07
open PySem PySem.Spec PyProof.Rows L2 L3
def okz (x : Str) : Prop := ∀ n ∈ x.cps.toList, n < 1114112
theorem okz_iff (x : Str) : PyData.strOk x = true ↔ okz x := by
  unfold PyData.strOk okz
  rw [← Array.all_toList, List.all_eq_true]
  simp
theorem okz_app {x y : Str} (hx : okz x) (hy : okz y) : okz (x ++ y) := by
  intro n hn
  have e : (x ++ y).cps.toList = x.cps.toList ++ y.cps.toList := Array.toList_append
  rw [e] at hn
  rcases List.mem_append.mp hn with h | h
  · exact hx n h
  · exact hy n h
theorem len_app (x y : Str) : (x ++ y).length = x.length + y.length := Array.size_append
theorem okz_join {s : Str} (hs : okz s) : ∀ {ys : List Str}, (∀ y ∈ ys, okz y) → okz (Txt.join s ys) := by
  intro ys h
  show okz (Builtin.Str.glued s ys)
  rw [StrLaws.glued_eq_join]
  induction ys with
  | nil => intro n hn; simp [Str.join, Str.empty] at hn
  | cons x r ih =>
    cases r with
    | nil => exact h x List.mem_cons_self
    | cons z r => exact okz_app (okz_app (h x List.mem_cons_self) hs) (ih fun y hy => h y (List.mem_cons_of_mem _ hy))
theorem len_join (ys : List Str) : (Txt.join (Str.ofString "") ys).length = (ys.map (·.length)).sum := by
  show (Builtin.Str.glued (Str.ofString "") ys).length = _
  rw [PySem.size_glued]
  have : (Str.ofString "").length = 0 := by decide
  rw [this]
  omega
theorem okz_one {g : Nat} (h : g < 1114112) : okz ⟨#[g]⟩ := by
  intro n hn
  have : n = g := by simpa using hn
  rw [this]
  exact h
theorem mulOk_one (g : Nat) (n : Int) (h0 : 1 ≤ n) (h : n ≤ 4) : MulOk ⟨#[g]⟩ n := by
  have e : (⟨#[g]⟩ : Str).length = 1 := rfl
  refine ⟨by simp; omega, fun _ _ => ?_, fun _ _ => ?_⟩
  · rw [e]
    have : n = 1 ∨ n = 2 ∨ n = 3 ∨ n = 4 := by omega
    rcases this with z | z | z | z <;> subst z <;> decide
  · rw [e]
    have : n = 1 ∨ n = 2 ∨ n = 3 ∨ n = 4 := by omega
    rcases this with z | z | z | z <;> subst z <;> decide
theorem okz_mul {g : Nat} (h : g < 1114112) (n : Int) : okz (Txt.mul ⟨#[g]⟩ n) := by
  intro k hk
  rw [mul_one_list] at hk
  rw [(List.mem_replicate.mp hk).2]
  exact h
def One (y : D) : Prop := ∃ g : Nat, y = .str ⟨#[g]⟩ ∧ g < 1114112
theorem ones_of : ∀ {acc : List D}, (∀ y ∈ acc, One y) → ∃ ys : List Str, acc = ys.map .str ∧ (∀ y ∈ ys, okz y) ∧ (ys.map (·.length)).sum = acc.length
  | [], _ => ⟨[], rfl, (fun y hy => by cases hy), rfl⟩
  | d :: acc, h => by
    obtain ⟨ys, h1, h2, h3⟩ := ones_of fun y hy => h y (List.mem_cons_of_mem _ hy)
    obtain ⟨g, e, hg⟩ := h d List.mem_cons_self
    refine ⟨⟨#[g]⟩ :: ys, by rw [e, h1]; rfl, fun y hy => ?_, ?_⟩
    · rcases List.mem_cons.mp hy with z | z
      · rw [z]; exact okz_one hg
      · exact h2 y z
    · rw [List.map_cons, List.sum_cons, h3, List.length_cons]
      have : (⟨#[g]⟩ : Str).length = 1 := rfl
      omega
abbrev SG : Str := Str.ofString "0123456789abcdefghijklmnopqrstuvwxyz."
theorem sg_len : SG.length = 37 := by decide +kernel
theorem sg_ok : ∀ g ∈ SG.cps.toList, g < 1114112 := by decide +kernel
theorem sg_at (i : Int) (h0 : 0 ≤ i) (h : i < 37) : ∃ g, g < 1114112 ∧ atI SG.cps.toList i = some g := by
  have e : SG.cps.toList.length = 37 := by rw [Array.length_toList]; exact sg_len
  obtain ⟨x, hx, e⟩ := atI_in id SG.cps.toList i h0 (by rw [e]; exact h)
  simp only [List.map_id, id] at e
  exact ⟨x, sg_ok x hx, e⟩
theorem rng_mem {x : D} : ∀ {n : Nat} {lo : Int}, x ∈ rng lo n → ∃ i : Int, x = .int i ∧ lo ≤ i ∧ i < lo + n
  | 0, _, h => nomatch h
  | n + 1, lo, h => by
    rcases List.mem_cons.mp h with e | e
    · exact ⟨lo, e, by omega, by omega⟩
    · obtain ⟨i, e, h1, h2⟩ := rng_mem e
      exact ⟨i, e, by omega, by omega⟩
section
variable {P : Program} {w : World} {K : PySem.W.Frag} {mg : Str → Option Value} {base : Heap}
theorem part_ok {a c : Addr} {τ : St3} {S : Sto} {Q : VK3} {j : Int} (hj : j ≤ 11) (h0 : sget τ 0 = some (.loc a)) (h2 : sget τ 2 = some (.str SG)) (hw : wipe3 τ [4] = τ) (ht : 4 < τ.length) (F : Feed S a c)
    (hq : ∀ (ys : List Str) p S', (∀ y ∈ ys, okz y) → (ys.map (·.length)).sum ≤ 11 → ys.length ≤ 11 → S p = none → S' p = some (.lst (ys.map .str)) → Keep a S S' → Feed S' a c → Q (.loc p) S') :
    LcB (gName3 4) tYes3 (tCall3 sp__law_of (tCons3 (tVar3 0) (tCons3 (tVar3 2) tNil3))) [4] τ Q (rng 0 j.toNat) (fun _ => True) S := by
  have hsz := sz
  refine lc_each (fun S' => Keep a S S' ∧ Feed S' a c) One (by rw [rng_length]; omega) ⟨.refl a S, F⟩ (fun _ _ => trivial) ?_ ?_
  · intro x hx S1 ⟨k1, F1⟩ R hR
    rw [hw]
    have e0 : sget (τ.set 4 (some x)) 0 = some (.loc a) := by
      match τ, h0 with
      | y :: τ', h0 => exact h0
    have e2 : sget (τ.set 4 (some x)) 2 = some (.str SG) := by
      match τ, h2 with
      | y :: z :: u :: τ', h2 => exact h2
    simp [e0, e2]
    refine ⟨a, c, F1, .inr ⟨SG, rfl, by rw [sg_len]; omega, by rw [sg_len]; omega, fun g S2 hg k2 F2 => hR _ _ ⟨g, rfl, sg_ok g hg⟩ ⟨k1.trans k2, F2⟩⟩⟩
  · intro acc S' ⟨k, F'⟩ hl hG p hp
    obtain ⟨ys, e, h1, h2⟩ := ones_of hG
    rw [rng_length] at hl
    have hly : ys.length = acc.length := by rw [e, List.length_map]
    have hSp : S p = none := by
      cases z : S p with
      | none => rfl
      | some o =>
        by_cases ez : p = a
        · exact absurd ez (F'.ne hp).1
        · rw [k p o ez z] at hp
          cases hp
    exact hq ys p _ h1 (by omega) (by omega) hSp (by rw [up_same, e]) (k.new hp) (F'.new hp)
theorem ok__law_names (T : Txt K mg) : FnOk P w K mg base CX0 4 T.f__law_names T.fd__law_names ["feed", "many"] (spL K sp__law_names) := by
  refine Fun.ok3 T.F__law_names sc__law_names (fun ds S Q h => ?_) fun cdv A outer s H E ds S Q hr h => ⟨rd__law_names, tm__law_names T (ok__law_pick T) (ok__law_of T) hr (by omega), ?_⟩
  · obtain ⟨_, _, rfl, _⟩ := h; rfl
  · obtain ⟨a, c, rfl, F, q⟩ := h
    have hsz := sz
    have hne : ∀ {S' : Sto} {p : Addr}, Keep a S S' → Feed S' a c → S' p = none → S p = none := fun {S' p} k F' hp => by
      cases z : S p with
      | none => rfl
      | some o =>
        by_cases ez : p = a
        · exact absurd ez (F'.ne hp).1
        · rw [k p o ez z] at hp
          cases hp
    simp [rd__law_names, start3, MulC, CMul, CDivW]
    refine ⟨a, c, 1369, rfl, F, ⟨by omega, by omega⟩, fun turn S1 t0 t1 k1 F1 => ?_⟩
    simp
    refine ⟨a, c, 3, rfl, F1, ⟨by omega, by omega⟩, fun r S2 r0 r1 k2 F2 => ?_⟩
    have k12 := k1.trans k2
    by_cases h0 : r = 0
    · simp [h0]
      refine lc_each (fun S' => S' = S2) (fun y => ∃ z, y = .str z ∧ okz z) (by rw [rng_length]; omega) rfl (fun _ _ => trivial) ?_ ?_
      · rintro x hx S' rfl R hR
        obtain ⟨k, rfl, l0, l1⟩ := rng_mem hx
        obtain ⟨g, hg, eg⟩ := sg_at ((turn + k * 5) % 37) (by omega) (by omega)
        have hl : SG.length ≤ sizeLine := by rw [sg_len]; omega
        simp [MulC, CMul, hl]
        rw [eg]
        simp
        refine ⟨.inl ⟨by omega, by omega⟩, mulOk_one g _ (by omega) (by omega), hR _ _ ⟨_, rfl, okz_mul hg _⟩ rfl⟩
      · rintro acc S' rfl hl hG p hp
        have hzs : ∃ zs : List Str, acc = zs.map .str ∧ ∀ z ∈ zs, okz z := by
          clear hl
          induction acc with
          | nil => exact ⟨[], rfl, fun z hz => nomatch hz⟩
          | cons d l ih =>
            obtain ⟨zs, e, h⟩ := ih fun y hy => hG y (List.mem_cons_of_mem _ hy)
            obtain ⟨z, ez, hz⟩ := hG d List.mem_cons_self
            refine ⟨z :: zs, by rw [e, ez]; rfl, fun y hy => ?_⟩
            rcases List.mem_cons.mp hy with w | w
            · rw [w]; exact hz
            · exact h y w
        obtain ⟨zs, e, hz⟩ := hzs
        have hl9 : zs.length = 9 := by
          rw [e, List.length_map, rng_length] at hl
          exact hl
        have hSp := hne k12 F2 hp
        exact fg (q zs p _ hl9 (fun z h => (okz_iff z).mpr (hz z h)) hSp (F2.ne hp).1 (k12.new hp) (by rw [up_same, e]) (F2.new hp))
    · simp [h0]
      refine ⟨by omega, fun p hp => ⟨a, c, F2.new hp, .inl ⟨p, _, rfl, (F2.ne hp).1, up_same, by simp, by simp, fun x S3 hx k3 F3 => ?_⟩⟩⟩
      have hx' : ∃ j : Int, x = .int j ∧ 0 ≤ j ∧ j ≤ 11 := by
        simp at hx
        rcases hx with e | e | e | e <;> exact ⟨_, e, by omega, by omega⟩
      obtain ⟨j, rfl, j0, j1⟩ := hx'
      have k13 : Keep a S S3 := (k12.new hp).trans k3
      simp
      refine ⟨by omega, by omega, part_ok (a := a) (c := c) j1 rfl rfl rfl (by simp) F3 fun ys p2 S4 hy1 hy2 hy3 hp2 e4 k4 F4 => ?_⟩
      have k14 := k13.trans k4
      have ej : (Str.ofString "").length = 0 := by decide
      simp [e4]
      refine ⟨by rw [ej]; omega, by omega, fun p3 hp3 => ⟨a, c, F4.new hp3, .inl ⟨p3, _, rfl, (F4.ne hp3).1, up_same, by simp, by simp, fun x S5 hx k5 F5 => ?_⟩⟩⟩
      have hx' : ∃ j : Int, x = .int j ∧ 0 ≤ j ∧ j ≤ 11 := by
        simp at hx
        rcases hx with e | e | e | e <;> exact ⟨_, e, by omega, by omega⟩
      obtain ⟨j', rfl, j0', j1'⟩ := hx'
      have k15 : Keep a S S5 := (k14.new hp3).trans k5
      simp
      refine ⟨by omega, by omega, part_ok (a := a) (c := c) j1' rfl rfl rfl (by simp) F5 fun zs p4 S6 hz1 hz2 hz3 hp4 e6 k6 F6 => ?_⟩
      have k16 := k15.trans k6
      simp [e6]
      refine ⟨by rw [ej]; omega, fun p5 hp5 => ?_⟩
      have o1 : okz (Txt.join (Str.ofString "") ys) := okz_join ((okz_iff _).mp (by decide +kernel)) hy1
      have o2 : okz (Txt.join (Str.ofString "") zs) := okz_join ((okz_iff _).mp (by decide +kernel)) hz1
      have l1 := len_join ys
      have l2 := len_join zs
      generalize Txt.join (Str.ofString "") ys = ahead at *
      generalize Txt.join (Str.ofString "") zs = behind at *
      have hpa := (F6.ne hp5).1
      refine for_inv (fun i τ' S' => (∃ z z8 : Option D, τ' = [some (.loc a), some (.int 9), some (.str SG), some (.int turn), z, some (.str ahead), some (.str behind), some (.loc p5), z8]) ∧ ∃ vs : List Str, S' = up S6 p5 (.lst (vs.map .str)) ∧ vs.length = i ∧ ∀ v ∈ vs, okz v)
        ⟨⟨none, none, rfl⟩, [], rfl, rfl, fun v hv => nomatch hv⟩ (fun _ _ _ _ => trivial) ?_ ?_
      · rintro i x τ' S' hx ⟨⟨z, z8, rfl⟩, vs, rfl, hi, hv⟩ R hR
        have hi9 : i < 9 := by
          have := (List.getElem?_eq_some_iff.mp hx).1
          rw [rng_length] at this
          omega
        obtain ⟨k, rfl, l0, l1'⟩ := rng_mem (List.mem_of_getElem? hx)
        have hl : SG.length ≤ sizeLine := by rw [sg_len]; omega
        obtain ⟨g, hg, eg⟩ := sg_at ((turn + k * 38) % 1369 / 37) (by omega) (by omega)
        obtain ⟨g', hg', eg'⟩ := sg_at ((turn + k * 38) % 37) (by omega) (by omega)
        have t1' : (⟨#[g]⟩ : Str).length = 1 := rfl
        have t2' : (⟨#[g']⟩ : Str).length = 1 := rfl
        simp [MulC, CMul, CDivW, hl]
        rw [eg]
        simp
        refine ⟨by decide, by rw [t1']; omega, ?_⟩
        rw [eg']
        simp
        refine ⟨by rw [len_app, t1', t2']; omega, by rw [len_app, len_app, t1', t2']; omega, by omega, ?_⟩
        refine hR _ _ ⟨⟨_, _, rfl⟩, vs ++ [ahead ++ ⟨#[g]⟩ ++ ⟨#[g']⟩ ++ behind], by simp, by simp [hi], fun v hv' => ?_⟩
        rcases List.mem_append.mp hv' with w | w
        · exact hv v w
        · rw [List.mem_singleton.mp w]
          exact okz_app (okz_app (okz_app o1 (okz_one hg)) (okz_one hg')) o2
      · rintro τ' S' ⟨⟨z, z8, rfl⟩, vs, rfl, hi, hv⟩
        rw [rng_length] at hi
        simp
        have hSp := hne k16 F6 hp5
        exact fg (q vs p5 _ hi (fun z h => (okz_iff z).mpr (hv z h)) hSp hpa (k16.new hp5) up_same (F6.new hp5))
end
end K07
namespace K07
open PySem PySem.Spec PyProof.Rows L2 L3
theorem ok_name (n : Int) : Ok [.inr "name", .inl n] := ⟨_, _, rfl, (by decide +kernel : sig "name" = some [true]), fun k hk => by
  simp at hk
  rcases hk with e | e <;> subst e
  · exact (by decide +kernel : PyData.strOk "name" = true)
  · trivial⟩
theorem ok_kept {x : Str} (h : PyData.strOk x = true) : Ok [.inr "kept", .inr x] := ⟨_, _, rfl, (by decide +kernel : sig "kept" = some [false]), fun k hk => by
  simp at hk
  rcases hk with e | e <;> subst e
  · exact (by decide +kernel : PyData.strOk "kept" = true)
  · exact h⟩
theorem ok_if {x : Str} (h : PyData.strOk x = true) : Ok [.inr "if", .inr x] := ⟨_, _, rfl, (by decide +kernel : sig "if" = some [false]), fun k hk => by
  simp at hk
  rcases hk with e | e <;> subst e
  · exact (by decide +kernel : PyData.strOk "if" = true)
  · exact h⟩
theorem ok_3 {g x : Str} (n : Int) (hs : sig g = some [false, true]) (hg : PyData.strOk g = true) (h : PyData.strOk x = true) : Ok [.inr g, .inr x, .inl n] := ⟨_, _, rfl, hs, fun k hk => by
  simp at hk
  rcases hk with e | e | e <;> subst e
  · exact hg
  · exact h
  · trivial⟩
theorem ok_4 {x : Str} (n m : Int) (h : PyData.strOk x = true) : Ok [.inr "stand", .inr x, .inl n, .inl m] := ⟨_, _, rfl, (by decide +kernel : sig "stand" = some [false, true, true]), fun k hk => by
  simp at hk
  rcases hk with e | e | e | e <;> subst e
  · exact (by decide +kernel : PyData.strOk "stand" = true)
  · exact h
  · trivial
  · trivial⟩
theorem if_none {p a : Addr} {o : MO} {x : Option MO} (h : (if p = a then some o else x) = none) : p ≠ a ∧ x = none := by
  by_cases e : p = a
  · rw [if_pos e] at h; cases h
  · rw [if_neg e] at h; exact ⟨e, h⟩
def IsSg (y : D) : Prop := ∃ s, y = sgD s ∧ Ok s
theorem signs_of : ∀ {acc : List D}, (∀ y ∈ acc, IsSg y) → ∃ ss : List Sg, acc = ss.map sgD ∧ ∀ s ∈ ss, Ok s
  | [], _ => ⟨[], rfl, (fun y hy => by cases hy)⟩
  | d :: acc, h => by
    obtain ⟨ss, h1, h2⟩ := signs_of fun y hy => h y (List.mem_cons_of_mem _ hy)
    obtain ⟨s, e, hs⟩ := h d List.mem_cons_self
    refine ⟨s :: ss, by rw [e, h1]; rfl, fun y hy => ?_⟩
    rcases List.mem_cons.mp hy with z | z
    · rw [z]; exact hs
    · exact h2 y z
theorem none_back {a c p : Addr} {S S' : Sto} (k : Keep a S S') (F' : Feed S' a c) (hp : S' p = none) : S p = none := by
  cases z : S p with
  | none => rfl
  | some o =>
    by_cases ez : p = a
    · exact absurd ez (F'.ne hp).1
    · rw [k p o ez z] at hp
      cases hp
theorem nine {zs : List Str} (h : zs.length = 9) : ∃ z0 z1 z2 z3 z4 z5 z6 z7 z8, zs = [z0, z1, z2, z3, z4, z5, z6, z7, z8] := by
  match zs, h with
  | [z0, z1, z2, z3, z4, z5, z6, z7, z8], _ => exact ⟨_, _, _, _, _, _, _, _, _, rfl⟩
section
variable {P : Program} {w : World} {K : PySem.W.Frag} {mg : Str → Option Value} {base : Heap}
theorem ok__law_signs (T : Txt K mg) : FnOk P w K mg base CX0 5 T.f__law_signs T.fd__law_signs ["feed", "many"] (spL K sp__law_signs) := by
  refine Fun.ok3 T.F__law_signs sc__law_signs (fun ds S Q h => ?_) fun cdv A outer s H E ds S Q hr h => ⟨rd__law_signs, tm__law_signs T (ok__law_names T) ((ok__law_pick T).mono (by omega)) (ok__law_mixed T) hr (by omega), ?_⟩
  · obtain ⟨_, _, _, rfl, _⟩ := h; rfl
  · obtain ⟨a, c, many, rfl, F, m0, m1, q⟩ := h
    have hsz := sz
    simp [rd__law_signs, start3, MulC, CMul, CDivW]
    refine ⟨a, c, rfl, F, fun zs p S1 hl hz hp hpa k1 e1 F1 => ?_⟩
    obtain ⟨z0, z1, z2, z3, z4, z5, z6, z7, z8, rfl⟩ := nine hl
    simp
    refine lc_each (fun S' => S' = S1) IsSg (by rw [rng_length]; omega) rfl (fun _ _ => trivial) ?_ ?_
    · rintro x hx S' rfl R hR
      obtain ⟨k, rfl, l0, l1⟩ := rng_mem hx
      simp [MulC, CMul]
      exact ⟨.inl ⟨by omega, by omega⟩, by omega, hR _ _ ⟨[.inr "name", .inl (k * k)], rfl, ok_name _⟩ rfl⟩
    rintro acc S' rfl hla hG p2 hp2
    rw [rng_length] at hla
    have hpp : p ≠ p2 := fun z => by rw [← z, e1] at hp2; cases hp2
    simp [hpp, e1]
    refine ⟨by omega, fun p3 hp3 => ?_⟩
    obtain ⟨h32, hp3⟩ := if_none hp3
    simp [Ne.symm h32]
    refine ⟨by omega, fun p4 hp4 => ?_⟩
    obtain ⟨h43, hp4⟩ := if_none hp4
    obtain ⟨h42, hp4⟩ := if_none hp4
    have n2 := F1.ne hp2
    have n3 := F1.ne hp3
    have n4 := F1.ne hp4
    have h3p : p ≠ p3 := fun z => by rw [← z, e1] at hp3; cases hp3
    have h4p : p ≠ p4 := fun z => by rw [← z, e1] at hp4; cases hp4
    have hS4 : S p4 = none := none_back k1 F1 hp4
    have hz' : ∀ z ∈ [z0, z1, z2, z3, z4, z5, z6, z7, z8], PyData.strOk z = true := hz
    refine ⟨by omega, by omega, ?_⟩
    refine for_inv (fun i τ' S2 => ∃ (u v : Option D) (f : Addr) (ys : List D), τ' = [some (.loc a), some (.int many), some (.loc p), u, some (.loc f), v] ∧ S2 f = some (.lst ys) ∧ (∀ y ∈ ys, IsSg y) ∧ ys.length = 5 + i ∧ Keep a S S2 ∧ S2 p = some (.lst ([z0, z1, z2, z3, z4, z5, z6, z7, z8].map .str)) ∧ Feed S2 a c ∧ S f = none ∧ f ≠ a)
      ⟨none, none, p4, _, rfl, up_same, ?_, ?_, ?_, ?_, ?_, hS4, n4.1⟩ (fun _ _ _ _ => trivial) ?_ ?_
    · intro y hy
      rcases List.mem_append.mp hy with w | w
      · exact hG y w
      · simp at w
        rcases w with w | w
        · exact ⟨[.inr "kept", .inr z0], w, ok_kept (hz _ (by simp))⟩
        · exact ⟨[.inr "if", .inr z1], w, ok_if (hz _ (by simp))⟩
    · rw [List.length_append, hla]; rfl
    · exact ((k1.new hp2).new (by rw [up_ne h32]; exact hp3)).new (by rw [up_ne h43, up_ne h42]; exact hp4)
    · rw [up_ne h4p, up_ne h3p, up_ne hpp]; exact e1
    · exact ((F1.new hp2).new (by rw [up_ne h32]; exact hp3)).new (by rw [up_ne h43, up_ne h42]; exact hp4)
    · rintro i x τ' S2 hx ⟨u, v, f, ys, rfl, ef, hy, hly, k2, e2, F2, hSf, hfa⟩ R hR
      obtain ⟨k, rfl, l0, l1⟩ := rng_mem (List.mem_of_getElem? hx)
      have hi : i < many.toNat := by
        have := (List.getElem?_eq_some_iff.mp hx).1
        rwa [rng_length] at this
      obtain ⟨nm, hnm, en⟩ := atI_in D.str [z0, z1, z2, z3, z4, z5, z6, z7, z8] (2 + k % 5) (by omega) (by simp; omega)
      have onm := hz nm hnm
      simp only [List.map_cons, List.map_nil] at en
      simp [e2]
      rw [en]
      simp [ef, e2]
      simp [sizeLine_eq]
      intro q1 hq1
      have nq1 := F2.ne hq1
      refine ⟨a, c, 5, rfl, F2.new hq1, ⟨by omega, by omega⟩, fun r S3 r0 r1 k3 F3 => ?_⟩
      have hq1f : f ≠ q1 := fun z => by rw [← z, ef] at hq1; cases hq1
      have hq1p : p ≠ q1 := fun z => by rw [← z, e2] at hq1; cases hq1
      have g1 := k3 q1 _ nq1.1 up_same
      have gf := k3 f _ hfa (by rw [up_ne hq1f]; exact ef)
      have gp := k3 p _ hpa (by rw [up_ne hq1p]; exact e2)
      obtain ⟨d, hd, ed⟩ := atI_in id [D.tup [D.str (Str.ofString "from"), D.str nm, D.int (k - 7)], D.tup [D.str (Str.ofString "is"), D.str nm, D.int k], D.tup [D.str (Str.ofString "row"), D.str z7, D.int k], D.tup [D.str (Str.ofString "stand"), D.str z8, D.int k, D.int 11], D.tup [D.str (Str.ofString "even"), D.str nm, D.int k]] r r0 (by simpa using r1)
      simp only [List.map_id, id] at ed
      have hsd : IsSg d := by
        simp at hd
        rcases hd with w | w | w | w | w
        · exact ⟨[.inr "from", .inr nm, .inl (k - 7)], w, ok_3 _ (by decide +kernel) (by decide +kernel) onm⟩
        · exact ⟨[.inr "is", .inr nm, .inl k], w, ok_3 _ (by decide +kernel) (by decide +kernel) onm⟩
        · exact ⟨[.inr "row", .inr z7, .inl k], w, ok_3 _ (by decide +kernel) (by decide +kernel) (hz _ (by simp))⟩
        · exact ⟨[.inr "stand", .inr z8, .inl k, .inl 11], w, ok_4 _ _ (hz _ (by simp))⟩
        · exact ⟨[.inr "even", .inr nm, .inl k], w, ok_3 _ (by decide +kernel) (by decide +kernel) onm⟩
      simp [g1]
      rw [ed]
      simp
      intro q2 hq2
      have nq2 := F3.ne hq2
      have hq2f : f ≠ q2 := fun z => by rw [← z, gf] at hq2; cases hq2
      have hq2p : p ≠ q2 := fun z => by rw [← z, gp] at hq2; cases hq2
      simp [hq2f, gf]
      refine ⟨by have := hsz; omega, fun q3 hq3 => ?_⟩
      obtain ⟨h32', hq3⟩ := if_none hq3
      have nq3 := F3.ne hq3
      have hq3p : p ≠ q3 := fun z => by rw [← z, gp] at hq3; cases hq3
      have k23 : Keep a S S3 := (k2.new hq1).trans k3
      refine hR _ _ ⟨_, _, q3, ys ++ [d], rfl, up_same, ?_, by simp; omega, (k23.new hq2).new (by rw [up_ne h32']; exact hq3), by rw [up_ne hq3p, up_ne hq2p]; exact gp, (F3.new hq2).new (by rw [up_ne h32']; exact hq3), none_back k23 F3 hq3, nq3.1⟩
      intro y hy'
      rcases List.mem_append.mp hy' with w | w
      · exact hy y w
      · rw [List.mem_singleton.mp w]
        exact hsd
    · rintro τ' S2 ⟨u, v, f, ys, rfl, ef, hy, hly, k2, e2, F2, hSf, hfa⟩
      rw [rng_length] at hly
      simp [e2, sizeLine_eq]
      intro q1 hq1
      have hq1f : f ≠ q1 := fun z => by rw [← z, ef] at hq1; cases hq1
      simp [hq1f, ef]
      refine ⟨by have := hsz; omega, fun q2 hq2 => ?_⟩
      obtain ⟨h21, hq2⟩ := if_none hq2
      have nq2 := F2.ne hq2
      have h21' : ∀ o, up S2 q1 o q2 = none := fun o => by rw [up_ne h21]; exact hq2
      refine ⟨a, c, q2, _, rfl, (F2.new hq1).new (h21' _), nq2.1, up_same, by simp; omega, fun ws p5 S5 pm hp5 hpa5 k5 e5 F5 => ?_⟩
      have hws : ∀ y ∈ ws, IsSg y := fun y hy' => by
        have := pm.mem_iff.mp hy'
        rcases List.mem_append.mp this with w | w
        · exact hy y w
        · simp at w
          rcases w with w | w
          · exact ⟨[.inr "is", .inr z2, .inl (-200)], w, ok_3 _ (by decide +kernel) (by decide +kernel) (hz _ (by simp))⟩
          · exact ⟨[.inr "is", .inr z2, .inl 200], w, ok_3 _ (by decide +kernel) (by decide +kernel) (hz _ (by simp))⟩
      obtain ⟨ss, es, hss⟩ := signs_of hws
      have hl5 := pm.length_eq
      rw [es, List.length_map, List.length_append] at hl5
      simp at hl5
      exact fg (q ss p5 S5 (by omega) (by omega) hss (none_back ((k2.new hq1).new (h21' _)) ((F2.new hq1).new (h21' _)) hp5) hpa5 (((k2.new hq1).new (h21' _)).trans k5) (by rw [e5, es]) F5)
end
end K07
namespace K07
open PySem PySem.Spec PyProof.Rows L2 L3
section
variable {P : Program} {w : World} {K : PySem.W.Frag} {mg : Str → Option Value} {base : Heap}
theorem ok__law_sum (T : Txt K mg) : FnOk P w K mg base CX0 4 T.f__law_sum T.fd__law_sum ["feed", "signs", "many"] (spL K sp__law_sum) := by
  refine Fun.ok3 T.F__law_sum sc__law_sum (fun ds S Q h => ?_) fun cdv A outer s H E ds S Q hr h => ⟨rd__law_sum, tm__law_sum T (ok__law_of T) ((ok__law_pick T).mono (by omega)) hr (by omega), ?_⟩
  · obtain ⟨_, _, _, _, _, rfl, _⟩ := h; rfl
  · obtain ⟨a, c, b, many, ss, rfl, F, hba, hS, s0, s1, hss, m0, m1, q⟩ := h
    have hsz := sz
    simp [rd__law_sum, start3, MulC, CMul, CDivW, CPow, sizeLine_eq]
    intro p hp
    have np := F.ne hp
    have hbp : b ≠ p := fun z => by rw [z, hp] at hS; cases hS
    refine ⟨a, c, F.new hp, .inl ⟨p, _, rfl, np.1, up_same, by simp, by simp, fun x S1 hx k1 F1 => ?_⟩⟩
    have hx' : ∃ z : Int, x = .int z ∧ 0 ≤ z ∧ z ≤ 10 ^ 24 := by
      simp at hx
      rcases hx with e | e | e | e <;> exact ⟨_, e, by omega, by omega⟩
    obtain ⟨z, rfl, z0, z1⟩ := hx'
    have kS1 : Keep a S S1 := ((Keep.refl a S).new hp).trans k1
    have hS1 := kS1 b _ hba hS
    simp
    intro p2 hp2
    have np2 := F1.ne hp2
    have hb2 : b ≠ p2 := fun w => by rw [← w, hS1] at hp2; cases hp2
    refine ⟨by omega, by omega, ?_⟩
    refine for_inv (fun i τ' S2 => ∃ (u v : Option D) (ps : List Pr), τ' = [some (.loc a), some (.loc b), some (.int many), some (.int z), some (.loc p2), u, v] ∧ S2 p2 = some (.lst (ps.map prD)) ∧ OkP ps ∧ ps.length = i ∧ Keep a S S2 ∧ Feed S2 a c)
      ⟨none, none, [], rfl, up_same, (fun p hp => by cases hp), rfl, kS1.new hp2, F1.new hp2⟩ (fun _ _ _ _ => trivial) ?_ ?_
    · rintro i x τ' S2 hx ⟨u, v, ps, rfl, e2, hps, hl, k2, F2⟩ R hR
      obtain ⟨k, rfl, l0, l1⟩ := rng_mem (List.mem_of_getElem? hx)
      have hi : i < many.toNat := by
        have := (List.getElem?_eq_some_iff.mp hx).1
        rwa [rng_length] at this
      simp [MulC, CMul]
      refine ⟨a, c, 2 * z + 1, rfl, F2, ⟨by omega, by omega⟩, fun r S3 r0 r1 k3 F3 => ?_⟩
      have e3 := k3 p2 _ np2.1 e2
      have hS3 := (k2.trans k3) b _ hba hS
      simp
      refine ⟨⟨_, e3⟩, ?_⟩
      refine ⟨a, c, F3, .inl ⟨b, _, rfl, hba, hS3, by simpa using s0, by simp; omega, fun x S4 hx4 k4 F4 => ?_⟩⟩
      obtain ⟨s, hs, rfl⟩ := List.mem_map.mp hx4
      have e4 := k4 p2 _ np2.1 e3
      refine ⟨a, c, 2, rfl, F4, ⟨by omega, by omega⟩, fun r2 S5 r20 r21 k5 F5 => ?_⟩
      have e5 := k5 p2 _ np2.1 e4
      simp [sizeLine_eq, e5]
      refine ⟨by omega, hR _ _ ⟨_, _, ps ++ [(s, decide (r2 = 0), r - z)], rfl, ?_, ?_, by simp [hl], ?_, F5.wr np2.1 np2.2⟩⟩
      · rw [up_same, List.map_append]
        rfl
      · intro w hw
        rcases List.mem_append.mp hw with y | y
        · exact hps w y
        · rw [List.mem_singleton.mp y]
          exact hss s hs
      · intro d o hd e
        have := ((k2.trans k3).trans (k4.trans k5)) d o hd e
        rw [up_ne (fun w => by rw [w] at e; have := kS1 p2 o np2.1 e; rw [hp2] at this; cases this)]
        exact this
    · rintro τ' S2 ⟨u, v, ps, rfl, e2, hps, hl, k2, F2⟩
      rw [rng_length] at hl
      simp
      exact fg (q ps p2 S2 hps (by omega) (none_back kS1 F1 hp2) np2.1 k2 e2 F2)
theorem ok__law_weight (T : Txt K mg) : FnOk P w K mg base CX0 1 T.f__law_weight T.fd__law_weight ["pairs", "setting"] (spL K sp__law_weight) := by
  refine Fun.ok3 T.F__law_weight sc__law_weight (fun ds S Q h => ?_) fun cdv A outer s H E ds S Q hr h => ⟨rd__law_weight, tm__law_weight T hr (by omega), ?_⟩
  · obtain ⟨_, _, _, _, rfl, _⟩ := h; rfl
  · obtain ⟨d, e, ps, kvs, rfl, hd, hl, he, q⟩ := h
    simp [rd__law_weight, start3]
    have hsz := sz
    refine walk_seq hd fun ok ho => ?_
    refine lc_ifm (fun p : Pr => decide ((look kvs p.1).isSome = p.2.1)) (fun p => .int p.2.2) (by omega) ho ?_ ?_
    · rintro ⟨s, b, c⟩ hp R1 R0 h
      simp at h
      simp [prD, sdD, sgD, he]
      exact h
    · intro p hp
      refine sum_call (ns := (ps.filter fun p : Pr => decide ((look kvs p.1).isSome = p.2.1)).map fun p => p.2.2) (by rw [up_same, List.map_map]; rfl) ?_
      have e : ((ps.filter fun p : Pr => decide ((look kvs p.1).isSome = p.2.1)).map fun p => p.2.2).sum = wt (fun s => (look kvs s).isSome) ps := by
        unfold wt
        clear hd hl q
        induction ps with
        | nil => rfl
        | cons x ps ih =>
          rw [List.map_cons, List.sum_cons, ← ih]
          by_cases z : (look kvs x.1).isSome = x.2.1
          · rw [List.filter_cons_of_pos (by simp [z]), if_pos z, List.map_cons, List.sum_cons]
          · rw [List.filter_cons_of_neg (by simp [z]), if_neg z]
            omega
      rw [e]
      exact ⟨S, (Sub.refl S).new hp, q⟩
end
end K07
namespace K07
open PySem PySem.Spec PyProof.Rows L2 L3
def hW : Pr → Int := fun p => sgn p.2.1 p.2.2
theorem GS_W (qs : List Pr) (s : Sg) : GS hW qs s = W qs s := rfl
/-- the part of a sign -/
def partOf (x : Int) (s : Sg) : List Pr := if 0 < x then [(s, true, x)] else if x < 0 then [(s, false, -x)] else []
def partsOf (f : Sg → Int) (ss : List Sg) : List Pr := ss.flatMap fun s => partOf (f s) s
theorem part_mem {x : Int} {s : Sg} {q : Pr} (h : q ∈ partOf x s) : q.1 = s ∧ x = sgn q.2.1 q.2.2 ∧ 1 ≤ q.2.2 := by
  unfold partOf at h
  split at h
  · rw [List.mem_singleton.mp h]
    exact ⟨rfl, rfl, by show 1 ≤ x; omega⟩
  · split at h
    · rw [List.mem_singleton.mp h]
      exact ⟨rfl, by simp [sgn], by show 1 ≤ -x; omega⟩
    · cases h
theorem parts_norm {ps : List Pr} {l l' : Int} {ss : List Sg} (hs : ss.Pairwise fun s t => ltS s t = true) (hm : ∀ s, s ∈ ss ↔ ∃ p ∈ ps, p.1 = s) (hl : l' = l - N ps - (ss.map fun s => min (W ps s) 0).sum) :
    IsNorm ps l (partsOf (W ps) ss) (max l' 0) := by
  have mem : ∀ q, q ∈ partsOf (W ps) ss → q.1 ∈ ss ∧ W ps q.1 = sgn q.2.1 q.2.2 ∧ 1 ≤ q.2.2 := fun q hq => by
    obtain ⟨s, hs', h⟩ := List.mem_flatMap.mp hq
    obtain ⟨e1, e2, e3⟩ := part_mem h
    rw [e1]
    exact ⟨hs', e2, e3⟩
  refine ⟨?_, fun q hq => (mem q hq).2.2, fun q hq => (mem q hq).2.1, fun s h => ?_, ?_⟩
  · clear hl hm mem
    unfold partsOf
    induction ss with
    | nil => exact .nil
    | cons s ss ih =>
      have h' := List.pairwise_cons.mp hs
      rw [List.flatMap_cons]
      refine List.pairwise_append.mpr ⟨?_, ih h'.2, fun p hp q hq => ?_⟩
      · unfold partOf
        split
        · exact List.pairwise_singleton _ _
        · split
          · exact List.pairwise_singleton _ _
          · exact .nil
      · obtain ⟨t, ht, hq'⟩ := List.mem_flatMap.mp hq
        rw [(part_mem hp).1, (part_mem hq').1]
        exact h'.1 t ht
  · have hs' : s ∈ ss := (hm s).mpr (W_mem h)
    by_cases h0 : 0 < W ps s
    · exact ⟨(s, true, W ps s), List.mem_flatMap.mpr ⟨s, hs', by unfold partOf; rw [if_pos h0]; simp⟩, rfl⟩
    · exact ⟨(s, false, -W ps s), List.mem_flatMap.mpr ⟨s, hs', by unfold partOf; rw [if_neg h0, if_pos (by omega)]; simp⟩, rfl⟩
  · have e : N (partsOf (W ps) ss) = -(ss.map fun s => min (W ps s) 0).sum := by
      clear hl hm mem hs
      induction ss with
      | nil => rfl
      | cons s ss ih =>
        unfold partsOf at *
        rw [List.flatMap_cons, N_app, ih, List.map_cons, List.sum_cons]
        have : N (partOf (W ps s) s) = -min (W ps s) 0 := by
          unfold partOf
          split
          · simp [N]; omega
          · split
            · simp [N]; omega
            · simp [N]; omega
        rw [this]
        omega
    rw [e, hl]
    congr 1
section
variable {P : Program} {w : World} {K : PySem.W.Frag} {mg : Str → Option Value} {base : Heap}
theorem ok_norm (T : Txt K mg) : FnOk P w K mg base CX0 1 T.f_norm T.fd_norm ["pairs", "least"] (spL K sp_norm) := by
  refine Fun.ok3 T.F_norm sc_norm (fun ds S Q h => ?_) fun cdv A outer s H E ds S Q hr h => ⟨rd_norm, tm_norm T hr (by omega), ?_⟩
  · obtain ⟨_, _, _, rfl, _⟩ := h; rfl
  · obtain ⟨d, ps, l, rfl, hd, hok, hl, q⟩ := h
    have hsz := sz
    simp [rd_norm, start3, tDNew3]
    right
    intro p hp
    have hd' : seqD (up S p (.dT [])) d = some (ps.map prD) := by
      unfold seqD at hd ⊢
      cases d with
      | loc b =>
        dsimp only at hd ⊢
        have hb : b ≠ p := fun z => by rw [z, hp] at hd; cases hd
        rw [up_ne hb]
        exact hd
      | _ => exact hd
    refine walk_seq' hd' fun ok ho => ?_
    refine for_inv (fun i τ' S' => ∃ (u v x : Option D) (kvs : List (Sg × D)), τ' = [some d, some (.int (l - N (ps.take i))), some (.loc p), u, v, x, none] ∧ S' = up S p (.dT kvs) ∧ Tab hW kvs (ps.take i) ∧ kvs.length ≤ i)
      ⟨none, none, none, [], by simp [N], rfl, Tab.nil _, by simp⟩ ?_ ?_ ?_
    · rintro i τ' S' ⟨_, _, _, kvs, _, rfl, _⟩
      refine ho _ fun b xs e => ?_
      have hb : b ≠ p := fun z => by rw [z, up_same] at e; cases e
      rw [up_ne hb] at e ⊢
      exact e
    · rintro i x τ' S' hx ⟨u, v, y, kvs, rfl, rfl, t, hkl⟩ R hR
      rw [List.getElem?_map] at hx
      cases e1 : ps[i]? with
      | none => rw [e1] at hx; cases hx
      | some pr =>
        rw [e1] at hx
        cases hx
        have hi : i < ps.length := (List.getElem?_eq_some_iff.mp e1).1
        have et : ps.take (i + 1) = ps.take i ++ [pr] := by
          obtain ⟨hlt, ex⟩ := List.getElem?_eq_some_iff.mp e1
          rw [List.take_succ_eq_append_getElem hlt, ex]
        obtain ⟨sg, b, c⟩ := pr
        have g := t.get sg
        have st := t.step (sg, b, c)
        have hput : (put kvs sg (.int (GS hW (ps.take i) sg + hW (sg, b, c)))).length ≤ i + 1 := by
          obtain ⟨k1, k2⟩ := put_keys kvs sg (.int (GS hW (ps.take i) sg + hW (sg, b, c)))
          by_cases z : sg ∈ kvs.map (·.1)
          · have := congrArg List.length (k1 z)
            rw [List.length_map, List.length_map] at this
            omega
          · have := congrArg List.length (k2 z)
            rw [List.length_append, List.length_map, List.length_map] at this
            simp at this
            omega
        have hN : N (ps.take (i + 1)) = N (ps.take i) + if b then 0 else c := by
          rw [et, N_app]
          simp [N]
        have hk : kvs.length < sizeLine := by omega
        cases b with
        | true =>
          simp [prD, sdD, sgD, g, hk]
          refine hR _ _ ?_
          refine ⟨some (sgD sg), some (.bl true), some (.int c), _, ?_, rfl, by rw [et]; exact st, hput⟩
          rw [hN]
          simp [sgD]
        | false =>
          simp [prD, sdD, sgD, g, hk]
          refine hR _ _ ?_
          refine ⟨some (sgD sg), some (.bl false), some (.int c), _, ?_, rfl, by rw [et]; exact st, hput⟩
          rw [hN]
          simp [sgD]
          omega
    · rintro τ' S' ⟨u, v, y, kvs, rfl, rfl, t, hkl⟩
      rw [List.length_map, List.take_length] at t
      rw [List.length_map, List.take_length]
      rw [List.length_map] at hkl
      simp
      intro p2 hp2
      obtain ⟨h21, hp2⟩ := if_none hp2
      have e21 : (up (up S p (.dT kvs)) p2 (.lst [])) p = some (.dT kvs) := by rw [up_ne (Ne.symm h21), up_same]
      rw [srcD_dT e21]
      have ek : (kvs.map fun z => D.tup (z.1.map kD)) = (kvs.map (·.1)).map sgD := by rw [List.map_map]; rfl
      have hok' : ∀ s ∈ kvs.map (·.1), Ok s := fun s hs => by
        obtain ⟨z, hz, e⟩ := (t.mem s).mp hs
        rw [← e]
        exact hok z hz
      rw [ek, opt_some]
      refine ⟨srt_signs hok', fun out pm hs p3 hp3 => ?_⟩
      obtain ⟨ss, es, _⟩ := signs_of (acc := out) fun y hy => by
        obtain ⟨s, hs', e⟩ := List.mem_map.mp (pm.mem_iff.mp hy)
        exact ⟨s, e.symm, hok' s hs'⟩
      subst es
      obtain ⟨h32, hp3⟩ := if_none hp3
      obtain ⟨h31, hp3⟩ := if_none hp3
      have sb : Sub S (up (up (up S p (.dT kvs)) p2 (.lst [])) p3 (.lst (ss.map sgD))) := by
        refine (((Sub.refl S).new hp).new (by rw [up_ne h21]; exact hp2)).new ?_
        rw [up_ne h32, up_ne h31]
        exact hp3
      have ep : ∀ {o o2 o3}, (up (up (up S p o) p2 o2) p3 o3) p = some o := fun {o o2 o3} => by rw [up_ne (Ne.symm h31), up_ne (Ne.symm h21), up_same]
      have ep2 : ∀ {o o2 o3}, (up (up (up S p o) p2 o2) p3 o3) p2 = some o2 := fun {o o2 o3} => by rw [up_ne (Ne.symm h32), up_same]
      have pm' : ss.Perm (kvs.map (·.1)) := by
        have h1 := pm.map fun d : D => d.tkey.getD []
        have e : ∀ l : List Sg, (l.map sgD).map (fun d : D => d.tkey.getD []) = l := fun l => by
          rw [List.map_map]
          exact (List.map_congr_left fun s _ => by simp [sgD]).trans (List.map_id l)
        rw [e, e] at h1
        exact h1
      have hmem : ∀ s, s ∈ ss ↔ ∃ p ∈ ps, p.1 = s := fun s => by rw [pm'.mem_iff, t.mem s]
      have hstr : ss.Pairwise fun s t => ltS s t = true := srt_strict (List.pairwise_map.mp hs) (pm'.nodup_iff.mpr t.nd)
      have hlen : ss.length ≤ ps.length := by rw [pm'.length_eq, List.length_map]; exact hkl
      refine for_inv (fun i τ' S' => ∃ (u v y : Option D) (l' : Int), τ' = [some d, some (.int l'), some (.loc p), u, v, y, some (.loc p2)] ∧ l' = l - N ps - ((ss.take i).map fun s => min (W ps s) 0).sum ∧ Sub S S' ∧ S' p = some (.dT kvs) ∧ S' p2 = some (.lst ((partsOf (W ps) (ss.take i)).map prD)) ∧ S' p3 = some (.lst (ss.map sgD)) ∧ (partsOf (W ps) (ss.take i)).length ≤ i)
        ⟨_, _, _, _, rfl, by simp, sb, ep, by rw [ep2]; rfl, up_same, by simp [partsOf]⟩ ?_ ?_ ?_
      · rintro i τ' S' ⟨_, _, _, _, _, _, _, _, _, e3, _⟩
        exact e3
      · rintro i x τ' S' hx ⟨u, v, y, l', rfl, hl', sb', e1, e2, e3, hpl⟩ R hR
        rw [List.getElem?_map] at hx
        cases ex : ss[i]? with
        | none => rw [ex] at hx; cases hx
        | some sg =>
          rw [ex] at hx
          cases hx
          have hi : i < ss.length := (List.getElem?_eq_some_iff.mp ex).1
          have et : ss.take (i + 1) = ss.take i ++ [sg] := by
            obtain ⟨hlt, ex⟩ := List.getElem?_eq_some_iff.mp ex
            rw [List.take_succ_eq_append_getElem hlt, ex]
          have hsg : sg ∈ kvs.map (·.1) := pm'.mem_iff.mp (List.mem_of_getElem? ex)
          have ev := t.val sg hsg
          rw [GS_W] at ev
          have epart : partsOf (W ps) (ss.take (i + 1)) = partsOf (W ps) (ss.take i) ++ partOf (W ps sg) sg := by
            unfold partsOf
            rw [et, List.flatMap_append]
            simp
          have emin : ((ss.take (i + 1)).map fun s => min (W ps s) 0).sum = ((ss.take i).map fun s => min (W ps s) 0).sum + min (W ps sg) 0 := by
            rw [et, List.map_append, List.sum_append]
            simp
          have hk : (partsOf (W ps) (ss.take i)).length < sizeLine := by omega
          have sbu : ∀ o, Sub S (up S' p2 o) := fun o => sb'.up hp2
          have ne2 : p ≠ p2 := Ne.symm h21
          by_cases c1 : 0 < W ps sg
          · have c2 : ¬ W ps sg < 0 := by omega
            have hpt : partOf (W ps sg) sg = [(sg, true, W ps sg)] := by unfold partOf; rw [if_pos c1]
            simp [sgD, e1, e2, ev, c1, c2, hk]
            refine ⟨by omega, hR _ _ ?_⟩
            refine ⟨_, _, _, l', rfl, by rw [emin, hl']; omega, sbu _, by rw [up_ne ne2]; exact e1, by rw [up_same, epart, hpt, List.map_append]; rfl, by rw [up_ne h32]; exact e3, ?_⟩
            rw [epart, hpt, List.length_append]
            simp
            omega
          · by_cases c2 : W ps sg < 0
            · have hpt : partOf (W ps sg) sg = [(sg, false, -W ps sg)] := by unfold partOf; rw [if_neg c1, if_pos c2]
              simp [sgD, e1, e2, ev, c1, c2, hk]
              refine ⟨by omega, hR _ _ ?_⟩
              refine ⟨_, _, _, l' - W ps sg, rfl, by rw [emin, hl']; omega, sbu _, by rw [up_ne ne2]; exact e1, by rw [up_same, epart, hpt, List.map_append]; rfl, by rw [up_ne h32]; exact e3, ?_⟩
              rw [epart, hpt, List.length_append]
              simp
              omega
            · have hpt : partOf (W ps sg) sg = [] := by unfold partOf; rw [if_neg c1, if_neg c2]
              simp [sgD, e1, e2, ev, c1, c2, hk]
              refine hR _ _ ?_
              refine ⟨_, _, _, l', rfl, by rw [emin, hl']; omega, sb', e1, by rw [epart, hpt, List.append_nil]; exact e2, e3, ?_⟩
              rw [epart, hpt, List.append_nil]
              omega
      · rintro τ' S' ⟨u, v, y, l', rfl, hl', sb', e1, e2, e3, hpl⟩
        rw [List.length_map, List.take_length] at hl' e2 hpl
        have nm := parts_norm hstr hmem hl'
        have e0 : (if l' < 0 then 0 else l') = max l' 0 := by split <;> omega
        simp [seqD_loc S' p2 e2, e0, sizeLine_eq]
        refine ⟨S, sb', q _ _ nm (fun r hr => ?_) (by omega)⟩
        obtain ⟨s, hs', h⟩ := List.mem_flatMap.mp hr
        rw [(part_mem h).1]
        exact hok' s (pm'.mem_iff.mp hs')
end
end K07
namespace K07
open PySem PySem.Spec PyProof.Rows L2 L3
mutual
theorem eqv_refl : ∀ d : D, d.lay = true → D.eqv d d = true
  | .non, _ => rfl
  | .bl b, _ => by simp
  | .int i, _ => by simp
  | .str x, _ => by simp
  | .tup ds, h => by
    rw [D.eqv]
    exact eqvAll_refl ds (by simpa [D.lay] using h)
  | .rol ds, h => by
    rw [D.eqv]
    exact eqvAll_refl ds (by simpa [D.lay] using h)
  | .ty _, h => by simp [D.lay] at h
  | .loc _, h => by simp [D.lay] at h
theorem eqvAll_refl : ∀ ds : List D, layAll ds = true → eqvAll ds ds = true
  | [], _ => rfl
  | d :: ds, h => by
    rw [layAll, Bool.and_eq_true] at h
    rw [eqvAll, eqv_refl d h.1, eqvAll_refl ds h.2]
    rfl
end
theorem bls_true (n : Nat) : blsD (List.replicate n (.bl true)) = some (List.replicate n true) := by
  have := blsD_map (List.replicate n true)
  rw [List.map_replicate] at this
  exact this
theorem all_call {S : Sto} {p : Addr} {ds : List D} {Q : VK3} (h : S p = some (.lst ds)) (ht : ∀ d ∈ ds, d = .bl true) (hq : Q (.bl true) S) : oAll [.loc p] S Q := by
  have e : ds = List.replicate ds.length (.bl true) := List.eq_replicate_iff.mpr ⟨rfl, ht⟩
  simp [oAll, oBls_eq, lstD_loc S p h]
  rw [e, bls_true]
  simp
  exact hq
section
variable {P : Program} {w : World} {K : PySem.W.Frag} {mg : Str → Option Value} {base : Heap}
theorem ok_denial (T : Txt K mg) : FnOk P w K mg base CX0 2 T.f_denial T.fd_denial ["row"] (spL K sp_denial) := by
  refine Fun.ok3 T.F_denial sc_denial (fun ds S Q h => ?_) fun cdv A outer s H E ds S Q hr h => ⟨rd_denial, tm_denial T (ok_norm T) hr (by omega), ?_⟩
  · obtain ⟨_, _, rfl, _⟩ := h; rfl
  · obtain ⟨qs, m, rfl, hok, hl, q⟩ := h
    have hsz := sz
    simp [rd_denial, start3, rowD]
    refine lc_mapm (fun q : Pr => prD (q.1, q.2.1, -q.2.2)) (by omega) trivial ?_ ?_
    · rintro ⟨s, b, c⟩ _ R h
      simp [prD, sdD, sgD, sizeLine_eq] at h ⊢
      exact h
    · intro p hp
      refine ⟨.loc p, neg qs, 1 - m, rfl, ?_, ?_, by simpa [neg] using hl, fun rs k hn ho hl' => ?_⟩
      · rw [seqD_loc _ p up_same]
        simp [neg]
      · intro x hx
        obtain ⟨y, hy, rfl⟩ := List.mem_map.mp hx
        exact hok y hy
      · exact ⟨S, (Sub.refl S).new hp, q rs k hn ho (by simpa [neg] using hl')⟩
theorem sec_prs (qs : List Pr) : secI (qs.map prD) = some (qs.map fun q => q.2.2) := by
  induction qs with
  | nil => rfl
  | cons q qs ih =>
    rw [List.map_cons, List.map_cons, prD, secI, ih]
    rfl
theorem ok_row_clashes (T : Txt K mg) (TB : GxR.TabB base mg T.c_row_clashes T.P_row_clashes) : FnOk P w K mg base CX0 1 T.f_row_clashes T.fd_row_clashes ["row"] (spL K (sp_row_clashes T.P_row_clashes)) := by
  refine Fun.okC3 T.F_row_clashes T.e_row_clashes sc_row_clashes (fun ds S Q h => ?_) fun A outer s H E ds S Q hr h => ⟨rd_row_clashes T.P_row_clashes, tm_row_clashes T TB hr (by omega), ?_⟩
  · obtain ⟨_, _, rfl, _⟩ := h; rfl
  · obtain ⟨qs, m, rfl, hP, q⟩ := h
    simp [rd_row_clashes, start3, rowD, sec_prs]
    exact ⟨hP, fg q⟩
theorem ok__law_twice (T : Txt K mg) : FnOk P w K mg base CX0 1 T.f__law_twice T.fd__law_twice ["row"] (spL K sp__law_twice) := by
  refine Fun.ok3 T.F__law_twice sc__law_twice (fun ds S Q h => ?_) fun cdv A outer s H E ds S Q hr h => ⟨rd__law_twice, tm__law_twice T hr (by omega), ?_⟩
  · obtain ⟨_, _, rfl, _⟩ := h; rfl
  · obtain ⟨qs, m, rfl, hl, q⟩ := h
    have hsz := sz
    simp [rd__law_twice, start3, rowD]
    refine lc_mapm (fun q : Pr => .int q.2.2) (by omega) trivial ?_ ?_
    · rintro ⟨s, b, c⟩ _ R h
      simp [prD, sdD, sgD] at h ⊢
      exact h
    · intro p hp
      refine sum_call (ns := qs.map fun q => q.2.2) (by rw [up_same, List.map_map]; rfl) ?_
      have e : (if 1 + (qs.map fun q => q.2.2).sum < m then 1 + (qs.map fun q => q.2.2).sum else m) = min m (1 + Tt qs) := by
        show (if 1 + Tt qs < m then 1 + Tt qs else m) = _
        split <;> omega
      simp [sizeLine_eq]
      rw [e]
      exact ⟨S, (Sub.refl S).new hp, q⟩
theorem ok_same0 (T : Txt K mg) : FnOk P w K mg base CX0 0 T.f__law_same T.fd__law_same ["told", "due"] (spL K fun _ _ _ => False) :=
  ⟨fun vs H Q E ⟨_, _, _, _, _, h, _⟩ => h.elim, fun _ _ _ _ _ _ _ _ _ _ _ _ _ ⟨_, _, _, _, _, h, _⟩ => h.elim⟩
theorem ok_same_go (T : Txt K mg) : ∀ n, FnOk P w K mg base CX0 (n + 1) T.f__law_same T.fd__law_same ["told", "due"] (spL K (spSame n))
  | 0 => by
    refine Fun.ok3 T.F__law_same sc__law_same (fun ds S Q h => ?_) fun cdv A outer s H E ds S Q hr h => ⟨rd__law_same _, tm__law_same T (ok_same0 T) hr (by omega) (by omega), ?_⟩
    · obtain ⟨_, rfl, _⟩ := h; rfl
    · obtain ⟨d, rfl, hd, q⟩ := h
      cases d with
      | bl b =>
        simp [rd__law_same, start3]
        exact fg q
      | int i =>
        simp [rd__law_same, start3]
        exact fg q
      | str x =>
        simp [rd__law_same, start3]
        exact fg q
      | _ => exact hd.elim
  | n + 1 => by
    have ih := ok_same_go T n
    refine Fun.ok3 T.F__law_same sc__law_same (fun ds S Q h => ?_) fun cdv A outer s H E ds S Q hr h => ⟨rd__law_same _, tm__law_same T ih hr (by omega) (by omega), ?_⟩
    · obtain ⟨_, rfl, _⟩ := h; rfl
    · obtain ⟨d, rfl, hd, q⟩ := h
      have hsz := sz
      cases d with
      | bl b =>
        simp [rd__law_same, start3]
        exact fg q
      | int i =>
        simp [rd__law_same, start3]
        exact fg q
      | str x =>
        simp [rd__law_same, start3]
        exact fg q
      | tup ds =>
        obtain ⟨hl, hd⟩ := hd
        simp [rd__law_same, start3]
        refine ⟨by omega, lc_each (fun S' => S' = S) (fun y => y = .bl true) (by rw [rng_length]; omega) rfl (fun _ _ => trivial) ?_ ?_⟩
        · rintro x hx S' rfl R hR
          obtain ⟨k, rfl, l0, l1⟩ := rng_mem hx
          obtain ⟨y, hy, ey⟩ := atI_in id ds k l0 (by omega)
          simp only [List.map_id, id] at ey
          simp [ey]
          exact ⟨y, rfl, hd y hy, hR _ _ rfl rfl⟩
        · rintro acc S' rfl _ hG p hp
          exact all_call up_same hG ⟨S', (Sub.refl S').new hp, q⟩
      | _ => exact hd.elim
theorem ok__law_same (T : Txt K mg) : FnOk P w K mg base CX0 7 T.f__law_same T.fd__law_same ["told", "due"] (spL K sp__law_same) := ok_same_go T 6
end
end K07
namespace K07
open PySem PySem.Spec PyProof.Rows L2 L3
def hA : Pr → Int := fun p => if p.2.1 then p.2.2 else 0
def hB : Pr → Int := fun p => if p.2.1 then 0 else p.2.2
theorem GS_AB (qs : List Pr) (s : Sg) : GS hA qs s - GS hB qs s = W qs s := by
  unfold GS W
  induction qs with
  | nil => rfl
  | cons q qs ih =>
    simp only [List.map_cons, List.sum_cons]
    rw [← ih]
    by_cases e : q.1 = s
    · simp only [e, if_true]
      unfold hA hB sgn
      cases q.2.1 <;> simp <;> omega
    · simp only [e, if_false]
      omega
theorem GS_N (ks : List Sg) (hn : ks.Nodup) (qs : List Pr) (h : ∀ p ∈ qs, p.1 ∈ ks) : (ks.map fun s => GS hB qs s).sum = N qs := by
  have := by_sign hB hn qs h
  unfold N
  exact this.symm
theorem keysOf_sg (s : Sg) : keysOf (s.map kD) = some s := keysOf_map s
theorem putAll_nodup {β : Type} : ∀ (ps acc : List (Sg × β)), ((acc ++ ps).map (·.1)).Nodup → putAll ps acc = acc ++ ps
  | [], acc, _ => by
    rw [List.append_nil]
    rfl
  | p :: ps, acc, h => by
    show putAll ps (put acc p.1 p.2) = _
    have hn : p.1 ∉ acc.map (·.1) := fun z => by
      rw [List.map_append, List.nodup_append] at h
      exact h.2.2 _ z _ (List.mem_cons_self) rfl
    have e : put acc p.1 p.2 = acc ++ [p] := by
      unfold put
      rw [if_neg (fun z => hn ((any_keys acc p.1).mp z))]
    rw [e, putAll_nodup ps (acc ++ [p]) (by simpa using h)]
    simp
theorem dep_keys (ks : List Key) : depAll (ks.map kD) = 0 := by
  induction ks with
  | nil => rfl
  | cons k ks ih =>
    rw [List.map_cons, depAll, ih]
    cases k <;> rfl
theorem dep_pr (p : Pr) : (prD p).dep = 3 := by
  simp [prD, sdD, sgD, D.dep, depAll, dep_keys]
theorem dep_prs (qs : List Pr) : depAll (qs.map prD) ≤ 3 := by
  induction qs with
  | nil => exact Nat.zero_le _
  | cons q qs ih =>
    rw [List.map_cons, depAll, dep_pr]
    omega
theorem lay_all : ∀ {ds : List D}, (∀ d ∈ ds, d.lay = true) → layAll ds = true
  | [], _ => rfl
  | d :: ds, h => by
    rw [layAll, h d List.mem_cons_self, lay_all fun x hx => h x (List.mem_cons_of_mem _ hx)]
    rfl
theorem plain_prs {qs : List Pr} (h : OkP qs) : (D.rol (qs.map prD)).plain := by
  refine ⟨?_, ?_⟩
  · rw [D.lay]
    exact lay_all (srt_prs h).lay
  · rw [D.dep]
    have := dep_prs qs
    omega
theorem ne_same {S : Sto} {p q : Addr} {ds : List D} {Q : VK3} (h1 : S p = some (.lst ds)) (h2 : S q = some (.lst ds)) (hp : (D.rol ds).plain) (hq : Q (.bl false) S) : oNe (.loc p) (.loc q) S Q := by
  show oEqG not (.loc p) (.loc q) S Q
  rw [oEq_loc, unl_loc S p h1, unl_loc S q h2, eqv_refl _ hp.1]
  exact ⟨hp, hp, hq⟩
theorem pairs_one (ss : List Sg) : pairsT (ss.map fun s => D.tup [sgD s, .int 1]) = some (ss.map fun s => (s, D.int 1)) := by
  induction ss with
  | nil => rfl
  | cons s ss ih =>
    rw [List.map_cons, pairsT, ih]
    simp [sgD]
section
variable {P : Program} {w : World} {K : PySem.W.Frag} {mg : Str → Option Value} {base : Heap}
theorem put_len (kvs : List (Sg × D)) (sg : Sg) (v : D) {i : Nat} (h : kvs.length ≤ i) : (put kvs sg v).length ≤ i + 1 := by
  obtain ⟨k1, k2⟩ := put_keys kvs sg v
  by_cases z : sg ∈ kvs.map (·.1)
  · have := congrArg List.length (k1 z)
    rw [List.length_map, List.length_map] at this
    omega
  · have := congrArg List.length (k2 z)
    rw [List.length_append, List.length_map, List.length_map] at this
    simp at this
    omega
theorem ok__law_lowest (T : Txt K mg) : FnOk P w K mg base CX0 1 T.f__law_lowest T.fd__law_lowest ["pairs"] (spL K sp__law_lowest) := by
  refine Fun.ok3 T.F__law_lowest sc__law_lowest (fun ds S Q h => ?_) fun cdv A outer s H E ds S Q hr h => ⟨rd__law_lowest, tm__law_lowest T hr (by omega), ?_⟩
  · obtain ⟨_, _, rfl, _⟩ := h; rfl
  · obtain ⟨b, ps, rfl, hb, hl, q⟩ := h
    have hsz := sz
    simp [rd__law_lowest, start3, tDNew3]
    right
    intro p hp
    right
    intro p2 hp2
    obtain ⟨h21, hp2⟩ := if_none hp2
    have hbp : b ≠ p := fun z => by rw [z, hp] at hb; cases hb
    have hbp2 : b ≠ p2 := fun z => by rw [z, hp2] at hb; cases hb
    have h12 : p ≠ p2 := Ne.symm h21
    simp [hbp, hbp2, hb]
    refine for_inv (fun i τ' S' => ∃ (u v x : Option D) (k1 k2 : List (Sg × D)), τ' = [some (.loc b), some (.loc p), some (.loc p2), u, v, x] ∧ Sub S S' ∧ S' p = some (.dT k1) ∧ S' p2 = some (.dT k2) ∧ S' b = some (.lst (ps.map prD)) ∧ Tab hA k1 (ps.take i) ∧ Tab hB k2 (ps.take i) ∧ k1.length ≤ i ∧ k2.length ≤ i)
      ⟨none, none, none, [], [], rfl, ((Sub.refl S).new hp).new (by rw [up_ne h21]; exact hp2), by rw [up_ne h12, up_same], up_same, by rw [up_ne hbp2, up_ne hbp]; exact hb, Tab.nil _, Tab.nil _, by simp, by simp⟩ ?_ ?_ ?_
    · rintro i τ' S' ⟨_, _, _, _, _, _, _, _, _, e, _⟩
      exact e
    · rintro i x τ' S' hx ⟨u, v, y, k1, k2, rfl, sb, e1, e2, e3, t1, t2, l1, l2⟩ R hR
      rw [List.getElem?_map] at hx
      cases ex : ps[i]? with
      | none => rw [ex] at hx; cases hx
      | some pr =>
        rw [ex] at hx
        cases hx
        have hi : i < ps.length := (List.getElem?_eq_some_iff.mp ex).1
        have et : ps.take (i + 1) = ps.take i ++ [pr] := by
          obtain ⟨hlt, ex⟩ := List.getElem?_eq_some_iff.mp ex
          rw [List.take_succ_eq_append_getElem hlt, ex]
        obtain ⟨sg, bb, c⟩ := pr
        have g1 := t1.get sg
        have g2 := t2.get sg
        have s1 := t1.step (sg, bb, c)
        have s2 := t2.step (sg, bb, c)
        have n1 : k1.length < sizeLine := by omega
        have n2 : k2.length < sizeLine := by omega
        cases bb with
        | true =>
          simp [prD, sdD, sgD, e1, e2, g1, g2, n1, n2, h12, h21]
          refine hR _ _ ?_
          refine ⟨_, _, _, _, _, rfl, (sb.up hp).up hp2, by rw [up_ne h12, up_same], up_same, by rw [up_ne hbp2, up_ne hbp]; exact e3, by rw [et]; simpa [hA] using s1, by rw [et]; simpa [hB] using s2, put_len _ _ _ l1, put_len _ _ _ l2⟩
        | false =>
          simp [prD, sdD, sgD, e1, e2, g1, g2, n1, n2, h12, h21]
          refine hR _ _ ?_
          refine ⟨_, _, _, _, _, rfl, (sb.up hp).up hp2, by rw [up_ne h12, up_same], up_same, by rw [up_ne hbp2, up_ne hbp]; exact e3, by rw [et]; simpa [hA] using s1, by rw [et]; simpa [hB] using s2, put_len _ _ _ l1, put_len _ _ _ l2⟩
    · rintro τ' S' ⟨u, v, y, k1, k2, rfl, sb, e1, e2, e3, t1, t2, l1, l2⟩
      rw [List.length_map, List.take_length] at t1 t2
      rw [List.length_map] at l1 l2
      simp
      refine ⟨p, .dT k1, .fT k1, e1, rfl, ?_⟩
      simp
      have em : (k1.map fun z => D.tup (z.1.map kD)) = (k1.map (·.1)).map sgD := by rw [List.map_map]; rfl
      rw [em]
      refine lc_mapm (fun s : Sg => .int (min (GS hA ps s) (GS hB ps s))) (by rw [List.length_map]; omega) up_same ?_ ?_
      · intro s hs R h
        have v1 := t1.val s hs
        have hs2 : s ∈ k2.map (·.1) := (t2.mem s).mpr ((t1.mem s).mp hs)
        have v2 := t2.val s hs2
        have e0 : (if GS hB ps s < GS hA ps s then GS hB ps s else GS hA ps s) = min (GS hA ps s) (GS hB ps s) := by split <;> omega
        simp [sgD, v1, e2, h21, v2, e0]
        exact h
      · intro p3 hp3
        have h3p : p3 ≠ p := fun z => by rw [z, up_same] at hp3; cases hp3
        have hp3' : S' p3 = none := by rwa [up_ne h3p] at hp3
        refine ⟨by rw [up_ne (Ne.symm h3p), up_same], ?_⟩
        refine sum_call (ns := (k1.map (·.1)).map fun s => min (GS hA ps s) (GS hB ps s)) (by rw [up_ne h3p, up_same]; simp [List.map_map, Function.comp_def]) ?_
        have ev : ((k1.map (·.1)).map fun s => min (GS hA ps s) (GS hB ps s)).sum = lowF ps := by
          have a1 : ∀ s, min (GS hA ps s) (GS hB ps s) = GS hB ps s + min (W ps s) 0 := fun s => by
            have := GS_AB ps s
            omega
          have a2 : ((k1.map (·.1)).map fun s => min (GS hA ps s) (GS hB ps s)) = (k1.map (·.1)).map fun s => GS hB ps s + min (W ps s) 0 := List.map_congr_left fun s _ => a1 s
          rw [a2, sum_add, GS_N _ t1.nd ps fun p hp => (t1.mem _).mpr ⟨p, hp, rfl⟩]
          unfold lowF
          congr 1
          have nz : ∀ s, min (W ps s) 0 ≠ 0 → ∃ p ∈ ps, p.1 = s := fun s h => W_mem fun z => h (by rw [z]; rfl)
          exact sum_cover _ t1.nd (keys_nodup ps) (fun s h => (t1.mem s).mpr (nz s h)) fun s h => (mem_keys ps s).mpr (nz s h)
        rw [ev]
        exact ⟨S, ((sb.up hp).new (by rw [up_ne h3p]; exact hp3')).up hp, q⟩
theorem ok__law_is_row (T : Txt K mg) : FnOk P w K mg base CX0 1 T.f__law_is_row T.fd__law_is_row ["row"] (spL K sp__law_is_row) := by
  refine Fun.ok3 T.F__law_is_row sc__law_is_row (fun ds S Q h => ?_) fun cdv A outer s H E ds S Q hr h => ⟨rd__law_is_row, tm__law_is_row T hr (by omega), ?_⟩
  · obtain ⟨_, _, rfl, _⟩ := h; rfl
  · obtain ⟨qs, m, rfl, hrow, hok, hl, q⟩ := h
    have hsz := sz
    have hm : ¬ m < 0 := by have := hrow.num; omega
    have hlen : (qs.map prD).length = qs.length := List.length_map ..
    simp [rd__law_is_row, start3, rowD, hm, sizeLine_eq]
    refine lc_mapm (fun q : Pr => sdD q.1 q.2.1) (by omega) trivial ?_ ?_
    · rintro ⟨s, b, c⟩ _ R h
      simp [prD] at h ⊢
      exact h
    intro p hp
    simp
    refine lc_mapm (f := fun q : Pr => sdD q.1 q.2.1) (fun q : Pr => sgD q.1) (by omega) up_same ?_ ?_
    · rintro ⟨s, b, c⟩ _ R h
      simp [sdD] at h ⊢
      exact h
    intro p2 hp2
    intro p3 hp3
    refine ⟨srt_prs hok, fun out pm hs p4 hp4 => ?_⟩
    obtain ⟨h43, hp4⟩ := if_none hp4
    have eout : out = qs.map prD := by
      refine srt_perm (lt := ltD) ?_ hs pm
      rw [List.pairwise_map]
      have hmem : ∀ {l : List Pr}, (∀ x ∈ l, Ok x.1) → l.Pairwise (fun p q => ltS p.1 q.1 = true) → l.Pairwise fun a b => ltD (prD a) (prD b) = true := by
        intro l
        induction l with
        | nil => exact fun _ _ => .nil
        | cons x l ih =>
          intro ho h
          have h' := List.pairwise_cons.mp h
          exact List.pairwise_cons.mpr ⟨fun y hy => pr_lt (h'.1 y hy) (ho x List.mem_cons_self) (ho y (List.mem_cons_of_mem _ hy)), ih (fun z hz => ho z (List.mem_cons_of_mem _ hz)) h'.2⟩
      exact hmem hok hrow.srt
    subst eout
    refine ne_same (ds := qs.map prD) (by rw [up_ne (Ne.symm h43), up_same]) up_same (plain_prs hok) ?_
    have hpp2 : p2 ≠ p := fun z => by rw [z, up_same] at hp2; cases hp2
    have h3p2 : p3 ≠ p2 := fun z => by rw [z, up_same] at hp3; cases hp3
    have h4p2 : p4 ≠ p2 := fun z => by rw [z, up_same] at hp4; cases hp4
    have h3p : p3 ≠ p := fun z => by rw [z, up_ne (Ne.symm hpp2), up_same] at hp3; cases hp3
    have h4p : p4 ≠ p := fun z => by rw [z, up_ne (Ne.symm hpp2), up_same] at hp4; cases hp4
    generalize eS : up (up (up (up S p (.lst (qs.map fun q => sdD q.1 q.2.1))) p2 (.lst (qs.map fun q => sgD q.1))) p3 (.lst (qs.map prD))) p4 (.lst (qs.map prD)) = S4
    have sb4 : Sub S S4 := by
      have n2 : S p2 = none := by rwa [up_ne hpp2] at hp2
      have n3 : S p3 = none := by rwa [up_ne h3p2, up_ne h3p] at hp3
      have n4 : S p4 = none := by rwa [up_ne h4p2, up_ne h4p] at hp4
      rw [← eS]
      exact ((((Sub.refl S).up hp).up n2).up n3).up n4
    have e2 : S4 p2 = some (.lst (qs.map fun q => sgD q.1)) := by rw [← eS, up_ne (Ne.symm h4p2), up_ne (Ne.symm h3p2), up_same]
    simp [e2]
    refine lc_mapm (f := fun q : Pr => sgD q.1) (fun q : Pr => .tup [sgD q.1, .int 1]) (by omega) e2 ?_ ?_
    · rintro ⟨s, b, c⟩ _ R h
      simp [sizeLine_eq] at h ⊢
      exact h
    intro p5 hp5
    have ep : pairsT (qs.map fun q : Pr => D.tup [sgD q.1, .int 1]) = some ((qs.map (·.1)).map fun s => (s, D.int 1)) := by
      have := pairs_one (qs.map (·.1))
      rw [List.map_map] at this
      exact this
    rw [lstD_loc _ p5 up_same, opt_some, ep, opt_some]
    intro p6 hp6
    have h5p2 : p5 ≠ p2 := fun z => by rw [z, e2] at hp5; cases hp5
    have h6p5 : p6 ≠ p5 := fun z => by rw [z, up_same] at hp6; cases hp6
    rw [up_ne h6p5] at hp6
    have h6p2 : p6 ≠ p2 := fun z => by rw [z, e2] at hp6; cases hp6
    have hnd : ((qs.map (·.1)).map fun s => (s, D.int 1)).length = qs.length := by simp
    have hpa : putAll ((qs.map (·.1)).map fun s => (s, D.int 1)) [] = (qs.map (·.1)).map fun s => (s, D.int 1) := by
      rw [putAll_nodup _ _ ?_, List.nil_append]
      rw [List.nil_append, List.map_map]
      have := nodup_of hrow.srt
      have e : (qs.map (·.1)).map ((·.1) ∘ fun s : Sg => (s, D.int 1)) = qs.map (·.1) := by
        exact (List.map_congr_left fun s _ => rfl).trans (List.map_id _)
      rw [e]
      exact this
    rw [hpa]
    have e2' : (up (up S4 p5 (.lst (qs.map fun q : Pr => D.tup [sgD q.1, .int 1]))) p6 (.dT ((qs.map (·.1)).map fun s => (s, D.int 1)))) p2 = some (.lst (qs.map fun q => sgD q.1)) := by
      rw [up_ne (Ne.symm h6p2), up_ne (Ne.symm h5p2)]
      exact e2
    rw [if_neg (Ne.symm h6p2), up_ne (Ne.symm h5p2), e2]
    simp
    refine lc_mapm (fun q : Pr => .bl true) (by omega) trivial ?_ ?_
    · rintro ⟨s, b, c⟩ hq R h
      have hc := hrow.pos _ hq
      simp at hc
      simp [prD, hc] at h ⊢
      exact h
    intro p7 hp7
    refine all_call up_same (fun d hd => ?_) ⟨S, ?_, q⟩
    · obtain ⟨_, _, e⟩ := List.mem_map.mp hd
      exact e.symm
    · exact ((sb4.new hp5).new (by rw [up_ne h6p5]; exact hp6)).new hp7
end
end K07
namespace K07
open PySem PySem.Spec PyProof.Rows L2 L3
section
variable {P : Program} {w : World} {K : PySem.W.Frag} {mg : Str → Option Value} {base : Heap}
theorem ok__law_meant (T : Txt K mg) : FnOk P w K mg base CX0 3 T.f__law_meant T.fd__law_meant ["feed", "signs", "pairs", "least", "row"] (spL K sp__law_meant) := by
  refine Fun.ok3 T.F__law_meant sc__law_meant (fun ds S Q h => ?_) fun cdv A outer s H E ds S Q hr h => ⟨rd__law_meant, tm__law_meant T (ok__law_pick T) ((ok__law_weight T).mono (by omega)) hr (by omega), ?_⟩
  · obtain ⟨_, _, _, _, _, _, _, _, _, rfl, _⟩ := h; rfl
  · obtain ⟨a, c, b, e, ss, ps, l, qs, m, rfl, F, hb, he, eb, ee, l1, l2, l3, hw, q⟩ := h
    have hsz := sz
    simp [rd__law_meant, start3]
    refine for_inv (fun i τ' S' => ∃ u v x : Option D, τ' = [some (.loc a), some (.loc b), some (.loc e), some (.int l), some (rowD qs m), u, v, x] ∧ Keep a S S' ∧ Feed S' a c)
      ⟨none, none, none, rfl, .refl a S, F⟩ (fun _ _ _ _ => trivial) ?_ ?_
    · rintro i x τ' S' hx ⟨u, v, y, rfl, k, F'⟩ R hR
      obtain ⟨n, rfl, _, _⟩ := rng_mem (List.mem_of_getElem? hx)
      simp [tDNew3]
      right
      intro f hf
      have nf := F'.ne hf
      have eb' := k b _ hb eb
      have hbf : b ≠ f := fun z => by rw [← z, eb'] at hf; cases hf
      simp [hbf, eb']
      refine for_inv (fun i τ' S2 => ∃ (x : Option D) (kvs : List (Sg × D)), τ' = [some (.loc a), some (.loc b), some (.loc e), some (.int l), some (rowD qs m), some (.int n), some (.loc f), x] ∧ Keep a S' S2 ∧ Feed S2 a c ∧ S2 f = some (.dT kvs) ∧ kvs.length ≤ i)
        ⟨y, [], rfl, (Keep.refl a S').new hf, F'.new hf, up_same, by simp⟩ ?_ ?_ ?_
      · rintro i τ' S2 ⟨_, _, _, k2, _⟩
        exact k2 b _ hb eb'
      · rintro i x τ' S2 hx ⟨z, kvs, rfl, k2, F2, ef, hl⟩ R2 hR2
        rw [List.getElem?_map] at hx
        cases ex : ss[i]? with
        | none => rw [ex] at hx; cases hx
        | some sg =>
          rw [ex] at hx
          cases hx
          have hi : i < ss.length := (List.getElem?_eq_some_iff.mp ex).1
          simp
          refine ⟨a, c, 2, rfl, F2, ⟨by omega, by omega⟩, fun r S3 r0 r1 k3 F3 => ?_⟩
          have ef3 := k3 f _ nf.1 ef
          by_cases h0 : r = 0
          · have hk : kvs.length < sizeLine := by omega
            simp [h0, ef3, sgD, hk]
            refine hR2 _ _ ?_
            refine ⟨_, _, rfl, ?_, F3.wr nf.1 nf.2, up_same, put_len _ _ _ hl⟩
            intro d o hd' eo
            rw [up_ne (fun z => by rw [z, hf] at eo; cases eo)]
            exact (k2.trans k3) d o hd' eo
          · simp [h0]
            refine hR2 _ _ ?_
            exact ⟨_, kvs, rfl, k2.trans k3, F3, ef3, by omega⟩
      · rintro τ' S2 ⟨z, kvs, rfl, k2, F2, ef, hl⟩
        have ee2 := (k.trans k2) e _ he ee
        have hw' := hw fun s => (look kvs s).isSome
        simp [rowD]
        refine ⟨.tup (qs.map prD), f, qs, kvs, rfl, rfl, l3, ef, ?_⟩
        simp
        refine ⟨.loc e, f, ps, kvs, rfl, seqD_loc _ e ee2, l2, ef, ?_⟩
        have hd : decide (m ≤ wt (fun s => (look kvs s).isSome) qs) = decide (l ≤ wt (fun s => (look kvs s).isSome) ps) := by
          rw [decide_eq_decide]
          exact hw'
        simp [hd]
        refine hR _ _ ?_
        exact ⟨_, _, _, rfl, k.trans k2, F2⟩
    · rintro τ' S' ⟨u, v, y, rfl, k, F'⟩
      simp
      exact fg (q S' k F')
end
end K07
namespace K07
open PySem PySem.Spec PyProof.Rows L2 L3
structure En (S0 : Sto) (a c b p1 p2 P : Addr) (ss : List Sg) (x1 x2 : List Pr) (S : Sto) : Prop where
  feed : Feed S a c
  n0 : S0 a = none
  nb : b ≠ a
  n1 : p1 ≠ a
  n2 : p2 ≠ a
  nP : P ≠ a
  sub : Sub S0 S
  es : S b = some (.lst (ss.map sgD))
  e1 : S p1 = some (.lst (x1.map prD))
  e2 : S p2 = some (.lst (x2.map prD))
  eP : S P = some .tbl
theorem sub_keep {S0 S S' : Sto} {a : Addr} (h : Sub S0 S) (n : S0 a = none) (k : Keep a S S') : Sub S0 S' := fun b o e => k b o (fun z => by rw [z, n] at e; cases e) (h b o e)
theorem En.step {S0 : Sto} {a c b p1 p2 P : Addr} {ss : List Sg} {x1 x2 : List Pr} {S S' : Sto} (e : En S0 a c b p1 p2 P ss x1 x2 S) (k : Keep a S S') (F : Feed S' a c) : En S0 a c b p1 p2 P ss x1 x2 S' :=
  ⟨F, e.n0, e.nb, e.n1, e.n2, e.nP, sub_keep e.sub e.n0 k, k _ _ e.nb e.es, k _ _ e.n1 e.e1, k _ _ e.n2 e.e2, k _ _ e.nP e.eP⟩
theorem up_keeps {S : Sto} {p q : Addr} {o u : MO} (h : S q = some u) (hp : S p = none) : up S p o q = some u := by
  rw [up_ne (fun z => by rw [z, hp] at h; cases h)]
  exact h
theorem En.new {S0 : Sto} {a c b p1 p2 P p : Addr} {ss : List Sg} {x1 x2 : List Pr} {S : Sto} {o : MO} (e : En S0 a c b p1 p2 P ss x1 x2 S) (hp : S p = none) : En S0 a c b p1 p2 P ss x1 x2 (up S p o) :=
  ⟨e.feed.new hp, e.n0, e.nb, e.n1, e.n2, e.nP, e.sub.new hp, up_keeps e.es hp, up_keeps e.e1 hp, up_keeps e.e2 hp, up_keeps e.eP hp⟩
theorem OkP.app {x y : List Pr} (h : OkP x) (k : OkP y) : OkP (x ++ y) := fun p hp => by
  rcases List.mem_append.mp hp with z | z
  · exact h p z
  · exact k p z
theorem sig_len {h : Str} {l : List Bool} (e : sig h = some l) : l.length ≤ 3 := by
  unfold sig at e
  repeat' split at e
  all_goals first
    | (cases e; done)
    | (cases e; decide)
theorem plain_key (n : Nat) (k : Key) : plainN n (kD k) := by cases k <;> cases n <;> exact trivial
theorem plain_bl (n : Nat) (b : Bool) : plainN n (.bl b) := by cases n <;> exact trivial
theorem plain_int (n : Nat) (b : Int) : plainN n (.int b) := by cases n <;> exact trivial
theorem plain_sg {s : Sg} (h : Ok s) (n : Nat) : plainN (n + 1) (sgD s) := by
  obtain ⟨x, r, rfl, e, _⟩ := h
  have hl := sig_len e
  rw [List.length_map] at hl
  refine ⟨by simp; omega, fun d hd => ?_⟩
  obtain ⟨k, _, rfl⟩ := List.mem_map.mp hd
  exact plain_key n k
theorem plain_pr {p : Pr} (h : Ok p.1) (n : Nat) : plainN (n + 3) (prD p) := by
  refine ⟨by simp, fun d hd => ?_⟩
  simp at hd
  rcases hd with e | e
  · subst e
    refine ⟨by simp, fun d hd => ?_⟩
    simp at hd
    rcases hd with e | e
    · subst e
      exact plain_sg h n
    · subst e
      exact plain_bl _ _
  · subst e
    exact plain_int _ _
theorem plain_row {qs : List Pr} (m : Int) (h : OkP qs) (hl : qs.length ≤ 1000) : plainN 6 (rowD qs m) := by
  refine ⟨by simp, fun d hd => ?_⟩
  simp at hd
  rcases hd with e | e
  · subst e
    refine ⟨by simpa using hl, fun d hd => ?_⟩
    obtain ⟨p, hp, rfl⟩ := List.mem_map.mp hd
    exact plain_pr (h p hp) 1
  · subst e
    exact plain_int _ _
def unPr : D → Pr
  | .tup [.tup [s, .bl b], .int c] => (s.tkey.getD [], b, c)
  | _ => ([], false, 0)
theorem un_pr (p : Pr) : unPr (prD p) = p := by
  obtain ⟨s, b, c⟩ := p
  simp [prD, sdD, sgD, unPr]
theorem perm_prs {ys : List D} {xs : List Pr} (h : ys.Perm (xs.map prD)) : ∃ zs : List Pr, ys = zs.map prD ∧ zs.Perm xs := by
  refine ⟨ys.map unPr, ?_, ?_⟩
  · rw [List.map_map]
    refine ((List.map_congr_left fun y hy => ?_).trans (List.map_id _)).symm
    obtain ⟨p, _, e⟩ := List.mem_map.mp (h.mem_iff.mp hy)
    show prD (unPr y) = y
    rw [← e, un_pr]
  · have := h.map unPr
    rw [List.map_map] at this
    have e : xs.map (unPr ∘ prD) = xs := (List.map_congr_left fun p _ => un_pr p).trans (List.map_id _)
    rwa [e] at this
section
variable {P : Program} {w : World} {K : PySem.W.Frag} {mg : Str → Option Value} {base : Heap}
theorem ok_law (T : Txt K mg) (TB : GxR.TabB base mg T.c_row_clashes T.P_row_clashes) : FnOk P w K mg base CX0 8 T.f_law T.fd_law ["script"] (spL K (sp_law T.P_row_clashes)) := by
  refine Fun.ok3 T.F_law sc_law (fun ds S Q h => ?_) fun cdv A outer s H E ds S Q hr h => ⟨rd_law T.P_row_clashes, tm_law T (ok__law_open T) (ok__law_signs T) (ok__law_of T) (ok__law_sum T) (ok__law_lowest T) (ok_norm T) (ok__law_is_row T) (ok__law_meant T) (ok__law_same T) (ok__law_mixed T) (ok__law_pick T) (ok_row_clashes T TB) (ok__law_twice T) (ok_denial T) hr (by omega), ?_⟩
  · obtain ⟨_, _, rfl, _⟩ := h; rfl
  · obtain ⟨dd, ns, rfl, hdd, hns, hP, q⟩ := h
    have hsz := sz
    generalize T.P_row_clashes = Pt at *
    simp [rd_law, start3]
    refine ⟨dd, ns, rfl, hdd, hns, fun S1 a c sb1 na nc F1 => ?_⟩
    have hPa : Pt ≠ a := fun z => by rw [z, na] at hP; cases hP
    simp [sizeLine_eq]
    intro p hp
    refine ⟨a, c, F1.new hp, .inl ⟨p, _, rfl, (F1.ne hp).1, up_same, by simp, by simp, fun x S2 hx k2 F2 => ?_⟩⟩
    have hx' : ∃ j : Int, x = .int j ∧ 0 ≤ j ∧ j ≤ 60 := by
      simp at hx
      rcases hx with e | e | e | e <;> exact ⟨_, e, by omega, by omega⟩
    obtain ⟨j, rfl, j0, j1⟩ := hx'
    have sb2 : Sub S S2 := sub_keep (sb1.new hp) na k2
    refine ⟨a, c, j, rfl, F2, j0, j1, fun ss b S3 s0 s1 hss hb nb k3 es F3 => ?_⟩
    have sb3 := sub_keep sb2 na k3
    simp
    intro p hp
    refine ⟨a, c, F3.new hp, .inl ⟨p, _, rfl, (F3.ne hp).1, up_same, by simp, by simp, fun x S4 hx k4 F4 => ?_⟩⟩
    have hx' : ∃ j : Int, x = .int j ∧ 0 ≤ j ∧ j ≤ 300 := by
      simp at hx
      rcases hx with e | e | e | e | e <;> exact ⟨_, e, by omega, by omega⟩
    obtain ⟨j, rfl, j0, j1⟩ := hx'
    have sb4 := sub_keep (sb3.new hp) na k4
    have es4 := k4 b _ nb (up_keeps es hp)
    refine ⟨a, c, b, j, ss, rfl, F4, nb, es4, s0, s1, hss, j0, j1, fun x1 p1 S5 ok1 l1 hp1 n1 k5 e1 F5 => ?_⟩
    have sb5 := sub_keep sb4 na k5
    have es5 := k5 b _ nb es4
    simp
    intro p hp
    refine ⟨a, c, F5.new hp, .inl ⟨p, _, rfl, (F5.ne hp).1, up_same, by simp, by simp, fun x S6 hx k6 F6 => ?_⟩⟩
    have hx' : ∃ j : Int, x = .int j ∧ 0 ≤ j ∧ j ≤ 300 := by
      simp at hx
      rcases hx with e | e | e | e <;> exact ⟨_, e, by omega, by omega⟩
    obtain ⟨j, rfl, j0, j1⟩ := hx'
    have es6 := k6 b _ nb (up_keeps es5 hp)
    have e16 := k6 p1 _ n1 (up_keeps e1 hp)
    refine ⟨a, c, b, j, ss, rfl, F6, nb, es6, s0, s1, hss, j0, j1, fun x2 p2 S7 ok2 l2 hp2 n2 k7 e2 F7 => ?_⟩
    have E7 : En S a c b p1 p2 Pt ss x1 x2 S7 := ⟨F7, na, nb, n1, n2, hPa, sub_keep (sub_keep (sb5.new hp) na k6) na k7, k7 b _ nb es6, k7 p1 _ n1 e16, e2, sub_keep (sub_keep (sb5.new hp) na k6) na k7 _ _ hP⟩
    refine ⟨p1, x1, rfl, E7.e1, by omega, ?_⟩
    refine ⟨p2, x2, rfl, E7.e2, by omega, ?_⟩
    refine ⟨⟨by omega, by omega, by omega⟩, ?_⟩
    intro p hp
    refine ⟨a, c, F7.new hp, .inl ⟨p, _, rfl, (F7.ne hp).1, up_same, by simp, by simp, fun x S8 hx k8 F8 => ?_⟩⟩
    have hx' : ∃ j : Int, x = .int j ∧ 0 ≤ j := by
      simp at hx
      rcases hx with e | e | e | e | e <;> exact ⟨_, e, by omega⟩
    obtain ⟨d1, rfl, d10⟩ := hx'
    have E8 := (E7.new hp).step k8 F8
    simp
    refine ⟨⟨by omega, by omega, by omega⟩, ?_⟩
    intro p hp
    refine ⟨a, c, F8.new hp, .inl ⟨p, _, rfl, (F8.ne hp).1, up_same, by simp, by simp, fun x S9 hx k9 F9 => ?_⟩⟩
    have hx' : ∃ j : Int, x = .int j ∧ 0 ≤ j := by
      simp at hx
      rcases hx with e | e | e | e <;> exact ⟨_, e, by omega⟩
    obtain ⟨d2, rfl, d20⟩ := hx'
    have E9 := (E8.new hp).step k9 F9
    simp [seqD_loc S9 p1 E9.e1, seqD_loc S9 p2 E9.e2, E9.e1, E9.e2]
    refine ⟨.tup (x1.map prD), x1, _, rfl, rfl, ok1, by omega, fun q1 m1 nm1 oq1 lq1 => ?_⟩
    simp [seqD_loc S9 p1 E9.e1, seqD_loc S9 p2 E9.e2, E9.e1, E9.e2]
    refine ⟨.tup (x2.map prD), x2, _, rfl, rfl, ok2, by omega, fun q2 m2 nm2 oq2 lq2 => ?_⟩
    simp [E9.e1, E9.e2]
    refine ⟨by omega, ?_⟩
    intro p hp
    have E10 := E9.new (o := .lst (x1.map prD ++ x2.map prD)) hp
    refine ⟨.tup (x1.map prD ++ x2.map prD), x1 ++ x2, _, rfl, by rw [List.map_append]; rfl, ok1.app ok2, by rw [List.length_append]; omega, fun q3 m3 nm3 oq3 lq3 => ?_⟩
    have lq3' : q3.length ≤ 1000 := by rw [List.length_append] at lq3; omega
    simp
    intro p' hp'
    have E11 := E10.new (o := .lst [rowD q1 m1, rowD q2 m2, rowD q3 m3]) hp'
    have hlow1 : lowF x1 = N x1 - N q1 := low_eq nm1
    have hlow2 : lowF x2 = N x2 - N q2 := low_eq nm2
    have hm1 : m1 = d1 := by have := nm1.num; omega
    have hm2 : m2 = d2 := by have := nm2.num; omega
    have hN3 : N q3 ≤ N q1 + N q2 → True := fun _ => trivial
    refine for_inv (fun i τ' S' => S' = up (up S9 p (.lst (x1.map prD ++ x2.map prD))) p' (.lst [rowD q1 m1, rowD q2 m2, rowD q3 m3]) ∧ ∃ z : Option D, τ' = [some dd, some (.loc a), some (.loc b), some (.loc p1), some (.loc p2), some (.int (lowF x1)), some (.int (lowF x2)), some (.int (lowF x1 + d1)), some (.int (lowF x2 + d2)), some (rowD q1 m1), some (rowD q2 m2), some (rowD q3 m3), z, none, none, none, none, none, none, none, none])
      ⟨rfl, _, rfl⟩ ?_ ?_ ?_
    · rintro i τ' S' ⟨rfl, _⟩
      exact up_same
    · rintro i x τ' S' hx ⟨rfl, z, rfl⟩ R hR
      have hx' : ∃ qs m, x = rowD qs m ∧ IsRow qs m ∧ OkP qs ∧ qs.length ≤ 1000 := by
        have := List.mem_of_getElem? hx
        simp at this
        rcases this with e | e | e
        · exact ⟨_, _, e, nm1.row, oq1, by omega⟩
        · exact ⟨_, _, e, nm2.row, oq2, by omega⟩
        · exact ⟨_, _, e, nm3.row, oq3, lq3'⟩
      obtain ⟨qs, m, rfl, r1, r2, r3⟩ := hx'
      simp
      refine ⟨qs, m, rfl, r1, r2, r3, ?_⟩
      simp
      exact hR _ _ ⟨rfl, _, rfl⟩
    rintro τ' S' ⟨rfl, z, rfl⟩
    generalize up (up S9 p (.lst (x1.map prD ++ x2.map prD))) p' (.lst [rowD q1 m1, rowD q2 m2, rowD q3 m3]) = S11 at E11 ⊢
    have hd1 : lowF x1 + d1 - lowF x1 = m1 := by omega
    have hd2 : lowF x2 + d2 - lowF x2 = m2 := by omega
    simp [rowD, hd1, hd2]
    refine ⟨a, c, b, p1, ss, x1, _, q1, m1, rfl, E11.feed, nb, n1, E11.es, E11.e1, by omega, by omega, by omega, meant_ok nm1, fun S12 k12 F12 => ?_⟩
    have E12 := E11.step k12 F12
    simp
    refine ⟨a, c, b, p2, ss, x2, _, q2, m2, rfl, E12.feed, nb, n2, E12.es, E12.e2, by omega, by omega, by omega, meant_ok nm2, fun S13 k13 F13 => ?_⟩
    have E13 := E12.step k13 F13
    simp [E13.e1, E13.e2]
    refine ⟨by omega, ?_⟩
    intro p hp
    have E14 := E13.new (o := .lst (x1.map prD ++ x2.map prD)) hp
    have hl12 : (x1 ++ x2).length ≤ 1000 := by rw [List.length_append]; omega
    refine ⟨a, c, b, p, ss, x1 ++ x2, _, q3, m3, rfl, E14.feed, nb, (E13.feed.ne hp).1, E14.es, by rw [up_same, List.map_append], by omega, hl12, lq3', meant_ok nm3, fun S15 k15 F15 => ?_⟩
    have E15 := E14.step k15 F15
    simp
    refine ⟨by omega, ?_⟩
    refine ⟨.tup (q1.map prD ++ q2.map prD), q1 ++ q2, _, rfl, by rw [List.map_append]; rfl, oq1.app oq2, by rw [List.length_append]; omega, fun r k nm _ _ => ?_⟩
    obtain ⟨rfl, rfl⟩ := nm3.uniq nm (fun s => by rw [W_app, W_app, nm1.W_eq, nm2.W_eq]) (by rw [N_app, N_app]; omega)
    refine ⟨rowD q3 m3, rfl, plain_row _ oq3 lq3', ?_⟩
    simp [E15.e1, E15.e2]
    refine ⟨by omega, ?_⟩
    intro p hp
    have E16 := E15.new (o := .lst (x1.map prD ++ x2.map prD)) hp
    refine ⟨a, c, p, _, rfl, E16.feed, (E15.feed.ne hp).1, up_same, by rw [List.length_append, List.length_map, List.length_map]; omega, fun ys pm S17 pmm hpm npm k17 em F17 => ?_⟩
    have E17 := E16.step k17 F17
    rw [← List.map_append] at pmm
    obtain ⟨zs, rfl, pz⟩ := perm_prs pmm
    dsimp only
    rw [seqD_loc S17 pm em, opt_some]
    refine ⟨.tup (zs.map prD), zs, _, rfl, rfl, fun z hz => (ok1.app ok2) z (pz.mem_iff.mp hz), by rw [pz.length_eq]; exact hl12, fun r k nm _ _ => ?_⟩
    obtain ⟨rfl, rfl⟩ := nm3.uniq nm (fun s => (W_perm pz s).symm) (by rw [N_perm pz])
    refine ⟨rowD q3 m3, rfl, plain_row _ oq3 lq3', ?_⟩
    simp
    refine ⟨a, c, 99, rfl, E17.feed, ⟨by omega, by omega⟩, fun tm S18 t0 t1 k18 F18 => ?_⟩
    have E18 := E17.step k18 F18
    simp
    refine lc_mapm (fun q : Pr => prD (q.1, q.2.1, (1 + tm) * q.2.2)) (by omega) trivial ?_ ?_
    · rintro ⟨s, b, c⟩ _ R h
      simp [prD, MulC, CMul, sizeLine_eq] at h ⊢
      exact ⟨.inl (.inl ⟨by omega, by omega⟩), h⟩
    intro p hp
    have E19 := E18.new (o := .lst (q1.map fun q : Pr => prD (q.1, q.2.1, (1 + tm) * q.2.2))) hp
    rw [seqD_loc _ p up_same, opt_some]
    simp [MulC, CMul, sizeLine_eq]
    have hpp : p1 ≠ p := fun z => by have := E18.e1; rw [z, hp] at this; cases this
    refine ⟨.inl (.inl ⟨by omega, by omega⟩), ?_⟩
    rw [if_neg hpp, E18.e1, walkL_lst]
    have escl : ∀ (x : List Pr), (scl (1 + tm) x).map prD = x.map fun q => prD (q.1, q.2.1, (1 + tm) * q.2.2) := fun x => by
      unfold scl
      rw [List.map_map]
      rfl
    generalize eS19 : up S18 p (.lst (q1.map fun q : Pr => prD (q.1, q.2.1, (1 + tm) * q.2.2))) = S19 at E19
    refine lc_mapm (fun q : Pr => prD (q.1, q.2.1, (1 + tm) * q.2.2)) (by omega) E19.e1 ?_ ?_
    · rintro ⟨s, b, c⟩ _ R h
      simp [prD, sdD, MulC, CMul, sizeLine_eq] at h ⊢
      exact ⟨.inl (.inl ⟨by omega, by omega⟩), h⟩
    intro p4 hp4
    have E20 := E19.new (o := .lst (x1.map fun q : Pr => prD (q.1, q.2.1, (1 + tm) * q.2.2))) hp4
    rw [seqD_loc _ p4 up_same, opt_some]
    refine ⟨.inl (.inl ⟨by omega, by omega⟩), ?_⟩
    refine ⟨_, scl (1 + tm) x1, _, rfl, by rw [escl]; rfl, fun z hz => ?_, by simp [scl]; omega, fun r k nm _ _ => ?_⟩
    · obtain ⟨y, hy, rfl⟩ := List.mem_map.mp hz
      exact ok1 y hy
    have hsc := (nm1.row.scl (t := 1 + tm) (by omega)).norm
    obtain ⟨rfl, rfl⟩ := hsc.uniq nm (fun s => by rw [W_scl, W_scl, nm1.W_eq]) (by
      rw [N_scl, N_scl, ← Int.mul_sub, ← Int.mul_sub]
      congr 1
      omega)
    refine ⟨rowD (scl (1 + tm) q1) ((1 + tm) * m1), by unfold rowD; rw [escl], plain_row _ (fun z hz => ?_) (by simp [scl]; omega), ?_⟩
    · obtain ⟨y, hy, rfl⟩ := List.mem_map.mp hz
      exact oq1 y hy
    generalize eS20 : up S19 p4 (.lst (x1.map fun q : Pr => prD (q.1, q.2.1, (1 + tm) * q.2.2))) = S20 at E20
    simp [E20.e1]
    refine lc_mapm (fun q : Pr => prD (q.1, !q.2.1, -q.2.2)) (by omega) E20.e1 ?_ ?_
    · rintro ⟨s, b, c⟩ _ R h
      simp [prD, sdD, sizeLine_eq] at h ⊢
      exact h
    intro p5 hp5
    have E21 := E20.new (o := .lst (x1.map fun q : Pr => prD (q.1, !q.2.1, -q.2.2))) hp5
    rw [seqD_loc _ p5 up_same, opt_some]
    generalize eS21 : up S20 p5 (.lst (x1.map fun q : Pr => prD (q.1, !q.2.1, -q.2.2))) = S21 at E21
    rw [E21.e1, walkL_lst]
    refine lc_mapm (fun q : Pr => .int q.2.2) (by omega) E21.e1 ?_ ?_
    · rintro ⟨s, b, c⟩ _ R h
      simp [prD, sdD] at h ⊢
      exact h
    intro p6 hp6
    refine sum_call (ns := x1.map fun q => q.2.2) (by rw [up_same, List.map_map]; rfl) ?_
    have E22 := E21.new (o := .lst (x1.map fun q : Pr => D.int q.2.2)) hp6
    generalize eS22 : up S21 p6 (.lst (x1.map fun q : Pr => D.int q.2.2)) = S22 at E22
    simp
    refine ⟨_, trn x1, _, rfl, by unfold trn; rw [List.map_map]; rfl, fun z hz => ?_, by simp [trn]; omega, fun r k nm _ _ => ?_⟩
    · obtain ⟨y, hy, rfl⟩ := List.mem_map.mp hz
      exact ok1 y hy
    obtain ⟨rfl, rfl⟩ := nm1.uniq nm (fun s => by rw [W_trn]) (by
      rw [N_trn]
      show _ = lowF x1 + d1 - Tt x1 - _
      omega)
    refine ⟨rowD q1 m1, rfl, plain_row _ oq1 (by omega), ?_⟩
    simp [E22.e1]
    refine ⟨a, c, 99, rfl, E22.feed, ⟨by omega, by omega⟩, fun r S23 r0 r1 k23 F23 => ?_⟩
    have E23 := E22.step k23 F23
    simp
    refine ⟨_, x1, _, rfl, rfl, ok1, by omega, fun r' k nm _ _ => ?_⟩
    have nmx : IsNorm x1 (lowF x1 - 1 - r) q1 (max (lowF x1 - 1 - r - N x1 + N q1) 0) := ⟨nm1.srt, nm1.pos, nm1.val, nm1.all, rfl⟩
    obtain ⟨rfl, hk⟩ := nmx.uniq nm (fun _ => rfl) rfl
    have hk0 : k = 0 := by omega
    subst hk0
    refine ⟨rowD q1 0, rfl, plain_row _ oq1 (by omega), ?_⟩
    simp
    refine lc_mapm (fun q : Pr => .int q.2.2) (by omega) trivial ?_ ?_
    · rintro ⟨s, b, c⟩ _ R h
      simp [prD] at h ⊢
      exact h
    intro p7 hp7
    refine sum_call (ns := q1.map fun q => q.2.2) (by rw [up_same, List.map_map]; rfl) ?_
    have E24 := E23.new (o := .lst (q1.map fun q : Pr => D.int q.2.2)) hp7
    generalize up S23 p7 (.lst (q1.map fun q : Pr => D.int q.2.2)) = S24 at E24 ⊢
    rw [show (q1.map fun q => q.2.2).sum = Tt q1 from rfl]
    have hT := Tt_nonneg nm1.pos
    have hm0 := nm1.row.num
    refine ⟨q1, m1, rfl, E24.eP, ?_⟩
    simp
    refine ⟨.bl _, rfl, plain_bl _ _, ?_⟩
    simp
    refine ⟨q1, Tt q1, rfl, E24.eP, ?_⟩
    simp
    refine ⟨.bl false, rfl, plain_bl _ _, ?_⟩
    simp
    refine ⟨q1, Tt q1 + 1, rfl, E24.eP, ?_⟩
    have hlt : Tt q1 < Tt q1 + 1 := by omega
    simp [hlt]
    refine ⟨.bl true, rfl, plain_bl _ _, ?_⟩
    simp
    refine ⟨q1, m1, rfl, oq1, by omega, fun rs k dn ors lrs => ?_⟩
    obtain ⟨rfl, ek⟩ := nm1.row.denial dn
    have rown := dn.row
    refine ⟨flp q1, k, rfl, ors, by omega, fun rs2 k2 dn2 _ _ => ?_⟩
    obtain ⟨rfl, ek2⟩ := rown.denial dn2
    rw [Tt_flp] at ek2
    refine ⟨q1, m1, rfl, by omega, ?_⟩
    have ek2' : k2 = min m1 (1 + Tt q1) := by omega
    refine ⟨rowD q1 (min m1 (1 + Tt q1)), by rw [flp_flp, ek2'], plain_row _ oq1 (by omega), ?_⟩
    simp
    refine ⟨q1, m1, rfl, oq1, by omega, fun rs k3 dn3 or3 l3 => ?_⟩
    obtain ⟨rfl, ek3⟩ := nm1.row.denial dn3
    have row3 := dn3.row
    refine ⟨flp q1, k3, rfl, row3, or3, by omega, ?_⟩
    simp [rowD]
    have lf : (flp q1).length = q1.length := by simp [flp]
    refine ⟨by omega, ?_⟩
    refine ⟨_, q1 ++ flp q1, _, rfl, by rw [List.map_append]; rfl, oq1.app or3, by rw [List.length_append]; omega, fun r k4 nm4 _ _ => ?_⟩
    have hw0 : ∀ s, W (q1 ++ flp q1) s = 0 := fun s => by
      rw [W_app, W_flp]
      omega
    have nm0 : IsNorm (q1 ++ flp q1) (m1 + k3) [] (max (m1 + k3 - N (q1 ++ flp q1) + N []) 0) := ⟨.nil, (fun q hq => by cases hq), (fun q hq => by cases hq), fun s h => (h (hw0 s)).elim, rfl⟩
    obtain ⟨rfl, hk4⟩ := nm0.uniq nm4 (fun _ => rfl) rfl
    rw [N_app, N_flp, show N [] = 0 from rfl] at hk4
    have ek4 : k4 = if 1 < m1 - Tt q1 then m1 - Tt q1 else 1 := by
      split <;> omega
    refine ⟨rowD [] k4, by rw [← ek4]; rfl, plain_row _ (fun p hp => (by cases hp)) (by simp), ?_⟩
    simp
    refine ⟨_, q1, _, rfl, rfl, oq1, by omega, fun r k5 nm5 _ _ => ?_⟩
    obtain ⟨rfl, rfl⟩ := nm1.row.norm.uniq nm5 (fun _ => rfl) rfl
    refine ⟨rowD q1 m1, rfl, plain_row _ oq1 (by omega), ?_⟩
    exact fg (q S24 E24.sub)
end
end K07
namespace K07
open PySem PySem.Spec PyProof.Rows L2 L3
/-- what the top has left of a def: its code object, its table still empty -/
def TabAt (mg : Str → Option Value) (h : Heap) (x : Str) : Prop := ∃ (a : Addr) (o : Obj) (fd : FuncData) (c P : Addr), mg x = some (.ref a) ∧ h.get? a = some o ∧ o.data = .func fd ∧ fd.code = .ref c ∧ h.IsCode c P #[] ∧ h.TableAt c P #[]
theorem walk_all {l : PySem.W.OpenLaw} {n k : Nat} {q : Program} {loose : List Str} {XP : (Str → Option Value) → Heap → Prop} {YP : World → Heap → Prop} {d : DefRec} {K : Params → PySem.W.Frag} {CX : World → CXT} {x : Str}
    (hn : l.most = some n) (hn2 : n ≤ sizeLine) (hdf : d.params.defaults = []) (hr : Room k callerA) (hY : ∀ (w : World) (h : Heap), YP w h → (K w.params).In h)
    (F : ∀ (w : World) (mg : Str → Option Value) (fa : Addr) (h : Heap), (K w.params).In h → h.Ns mainGlobals mg → mg d.name = some (.ref fa) → (∀ z : Str, ((recsOf q).any fun e => e.name == z) = true → TabAt mg h z) → LamX.LawAtS l w (K w.params) (CX w) k n x mg fa h)
    (hCX : ∀ (w : World) (H : Hp) (s : Shared) (e : Value) (s' : Shared), CX w [] H s (fun _ _ _ => False) e s' → False) :
    PySem.W.WalkO q loose XP YP l.row.toRowW d [] (fun f vs => PySem.call f vs) := by
  refine Att.attach_callB hn hdf fun w _ s₁ mg mb fa _ _ _ _ a vs ns G Y _ _ _ hmg hobj hints hlen hbits hg => ?_
  have X := hY w _ Y
  obtain ⟨fd, cs, sp, h1, h2, h3, h4, h5, h6⟩ := F w mg fa _ X G.T.g hmg fun z hz => by
    obtain ⟨e, he, en⟩ := List.any_eq_true.mp hz
    rw [← beq_iff_eq.mp en]
    exact G.T.tab e he
  refine LamX.law_callTs X G.T.g G.T.b G.T.builtins G.T.nolimit hg h1 h2 h3 G.T.bmain hobj hints ?_ hr h6 h4 (fun H i j => ?_) fun H e s' => hCX w H s₁ e s'
  · exact Nat.le_trans hlen hn2
  · exact h5 H a ns hlen hbits i j
theorem sp_start {K : PySem.W.Frag} {H : Hp} {a P : Addr} {ns : List Int} {n : Nat} (hn : n ≤ 63) (hl : ns.length ≤ n) (hP : H P = some (.tbl #[])) (hS : SqL K H a (ns.map V.int)) :
    spL K (sp_law P) [.ref a] H (fun v _ => v = .bl true) fun _ _ _ => False := by
  have fin : ∀ S : Sto, Cont K S H (fun d _ => d = .bl true) fun v _ => v = .bl true := fun S d S' v H' e _ _ dv => by
    subst e
    cases dv
    rfl
  have dvi : ∀ l : List Int, Dvs K H (l.map V.int) (l.map D.int) := fun l => by
    induction l with
    | nil => exact .nil
    | cons x l ih => exact .cons (.int x) ih
  have tr : TriplesOk (#[] : Array Value).toList := by trivial
  have rol : RoL K H a (ns.map V.int) → spL K (sp_law P) [.ref a] H (fun v _ => v = .bl true) fun _ _ _ => False := fun r => by
    refine ⟨[.rol (ns.map .int)], fun b => if b = P then some .tbl else none, _, .cons (.rol r (dvi ns)) .nil, fun b o e => ?_, ⟨_, ns, rfl, rfl, by omega, if_pos rfl, fun S' _ => rfl⟩, fin _⟩
    dsimp only at e
    by_cases z : b = P
    · rw [if_pos z] at e
      cases e
      exact ⟨.tbl #[], by rw [z]; exact hP, tr⟩
    · rw [if_neg z] at e
      cases e
  rcases hS with (h | ⟨o, h⟩) | h
  · have hne : a ≠ P := fun z => by rw [z, hP] at h; cases h
    refine ⟨[.loc a], fun b => if b = P then some .tbl else if b = a then some (.lst (ns.map .int)) else none, _, .cons (.loc a) .nil, fun b o e => ?_, ⟨_, ns, rfl, ?_, by omega, if_pos rfl, fun S' _ => rfl⟩, fin _⟩
    · dsimp only at e
      by_cases z : b = P
      · rw [if_pos z] at e
        cases e
        exact ⟨.tbl #[], by rw [z]; exact hP, tr⟩
      · rw [if_neg z] at e
        by_cases y : b = a
        · rw [if_pos y] at e
          cases e
          exact ⟨.lst (ns.map V.int), by rw [y]; exact h, dvi ns⟩
        · rw [if_neg y] at e
          cases e
    · exact seqD_loc _ a (by rw [if_neg hne, if_pos rfl])
  · exact rol (.inl ⟨o, h⟩)
  · exact rol (.inr h)
theorem all_mk {l : PySem.W.OpenLaw} {w : World} {K : PySem.W.Frag} {h : Heap} {mg : Str → Option Value} {fa : Addr} {n : Nat} (hn : n ≤ 63) (X : K.In h) (G : h.Ns mainGlobals mg) (hfa : mg "law" = some (.ref fa)) (tb : TabAt mg h "row_clashes")
    {od0 an0 : Option Addr} {sl0 : Array (Option Value)} {oc0 kV0 dc0 pm0 cd0 ct0 : Value} {f0 : Addr} (a0 : PySem.W.nsIn K mainGlobals "norm" = some (some (.ref f0))) (l0 : K.lookup f0 = some ⟨oc0, od0, .func (PySem.W.fnOf "norm" "norm" (defArgs s_norm) (defBody s_norm) (defScope s_norm) .none kV0 dc0 pm0 an0 cd0 ct0), sl0⟩) (c0 : PySem.W.codeIn K cd0 "norm" = true) (k0 : PySem.W.keepIn K (.ref f0) = true)
    {od1 an1 : Option Addr} {sl1 : Array (Option Value)} {oc1 kV1 dc1 pm1 cd1 ct1 : Value} {f1 : Addr} (a1 : PySem.W.nsIn K mainGlobals "denial" = some (some (.ref f1))) (l1 : K.lookup f1 = some ⟨oc1, od1, .func (PySem.W.fnOf "denial" "denial" (defArgs s_denial) (defBody s_denial) (defScope s_denial) .none kV1 dc1 pm1 an1 cd1 ct1), sl1⟩) (c1 : PySem.W.codeIn K cd1 "denial" = true) (k1 : PySem.W.keepIn K (.ref f1) = true)
    {od2 an2 : Option Addr} {sl2 : Array (Option Value)} {oc2 kV2 dc2 pm2 cd2 ct2 : Value} {f2 : Addr} (a2 : PySem.W.nsIn K mainGlobals "row_clashes" = some (some (.ref f2))) (l2 : K.lookup f2 = some ⟨oc2, od2, .func (PySem.W.fnOf "row_clashes" "row_clashes" (defArgs s_row_clashes) (defBody s_row_clashes) (defScope s_row_clashes) .none kV2 dc2 pm2 an2 cd2 ct2), sl2⟩) (c2 : PySem.W.codeIn K cd2 "row_clashes" = true) (k2 : PySem.W.keepIn K (.ref f2) = true)
    {od3 an3 : Option Addr} {sl3 : Array (Option Value)} {oc3 kV3 dc3 pm3 cd3 ct3 : Value} {f3 : Addr} (a3 : PySem.W.nsIn K mainGlobals "_law_mix" = some (some (.ref f3))) (l3 : K.lookup f3 = some ⟨oc3, od3, .func (PySem.W.fnOf "_law_mix" "_law_mix" (defArgs s__law_mix) (defBody s__law_mix) (defScope s__law_mix) .none kV3 dc3 pm3 an3 cd3 ct3), sl3⟩) (c3 : PySem.W.codeIn K cd3 "_law_mix" = true) (k3 : PySem.W.keepIn K (.ref f3) = true)
    {od4 an4 : Option Addr} {sl4 : Array (Option Value)} {oc4 kV4 dc4 pm4 cd4 ct4 : Value} {f4 : Addr} (a4 : PySem.W.nsIn K mainGlobals "_law_open" = some (some (.ref f4))) (l4 : K.lookup f4 = some ⟨oc4, od4, .func (PySem.W.fnOf "_law_open" "_law_open" (defArgs s__law_open) (defBody s__law_open) (defScope s__law_open) .none kV4 dc4 pm4 an4 cd4 ct4), sl4⟩) (c4 : PySem.W.codeIn K cd4 "_law_open" = true) (k4 : PySem.W.keepIn K (.ref f4) = true)
    {od5 an5 : Option Addr} {sl5 : Array (Option Value)} {oc5 kV5 dc5 pm5 cd5 ct5 : Value} {f5 : Addr} (a5 : PySem.W.nsIn K mainGlobals "_law_pick" = some (some (.ref f5))) (l5 : K.lookup f5 = some ⟨oc5, od5, .func (PySem.W.fnOf "_law_pick" "_law_pick" (defArgs s__law_pick) (defBody s__law_pick) (defScope s__law_pick) .none kV5 dc5 pm5 an5 cd5 ct5), sl5⟩) (c5 : PySem.W.codeIn K cd5 "_law_pick" = true) (k5 : PySem.W.keepIn K (.ref f5) = true)
    {od6 an6 : Option Addr} {sl6 : Array (Option Value)} {oc6 kV6 dc6 pm6 cd6 ct6 : Value} {f6 : Addr} (a6 : PySem.W.nsIn K mainGlobals "_law_of" = some (some (.ref f6))) (l6 : K.lookup f6 = some ⟨oc6, od6, .func (PySem.W.fnOf "_law_of" "_law_of" (defArgs s__law_of) (defBody s__law_of) (defScope s__law_of) .none kV6 dc6 pm6 an6 cd6 ct6), sl6⟩) (c6 : PySem.W.codeIn K cd6 "_law_of" = true) (k6 : PySem.W.keepIn K (.ref f6) = true)
    {od7 an7 : Option Addr} {sl7 : Array (Option Value)} {oc7 kV7 dc7 pm7 cd7 ct7 : Value} {f7 : Addr} (a7 : PySem.W.nsIn K mainGlobals "_law_mixed" = some (some (.ref f7))) (l7 : K.lookup f7 = some ⟨oc7, od7, .func (PySem.W.fnOf "_law_mixed" "_law_mixed" (defArgs s__law_mixed) (defBody s__law_mixed) (defScope s__law_mixed) .none kV7 dc7 pm7 an7 cd7 ct7), sl7⟩) (c7 : PySem.W.codeIn K cd7 "_law_mixed" = true) (k7 : PySem.W.keepIn K (.ref f7) = true)
    {od8 an8 : Option Addr} {sl8 : Array (Option Value)} {oc8 kV8 dc8 pm8 cd8 ct8 : Value} {f8 : Addr} (a8 : PySem.W.nsIn K mainGlobals "_law_same" = some (some (.ref f8))) (l8 : K.lookup f8 = some ⟨oc8, od8, .func (PySem.W.fnOf "_law_same" "_law_same" (defArgs s__law_same) (defBody s__law_same) (defScope s__law_same) .none kV8 dc8 pm8 an8 cd8 ct8), sl8⟩) (c8 : PySem.W.codeIn K cd8 "_law_same" = true) (k8 : PySem.W.keepIn K (.ref f8) = true)
    {od9 an9 : Option Addr} {sl9 : Array (Option Value)} {oc9 kV9 dc9 pm9 cd9 ct9 : Value} {f9 : Addr} (a9 : PySem.W.nsIn K mainGlobals "_law_names" = some (some (.ref f9))) (l9 : K.lookup f9 = some ⟨oc9, od9, .func (PySem.W.fnOf "_law_names" "_law_names" (defArgs s__law_names) (defBody s__law_names) (defScope s__law_names) .none kV9 dc9 pm9 an9 cd9 ct9), sl9⟩) (c9 : PySem.W.codeIn K cd9 "_law_names" = true) (k9 : PySem.W.keepIn K (.ref f9) = true)
    {od10 an10 : Option Addr} {sl10 : Array (Option Value)} {oc10 kV10 dc10 pm10 cd10 ct10 : Value} {f10 : Addr} (a10 : PySem.W.nsIn K mainGlobals "_law_signs" = some (some (.ref f10))) (l10 : K.lookup f10 = some ⟨oc10, od10, .func (PySem.W.fnOf "_law_signs" "_law_signs" (defArgs s__law_signs) (defBody s__law_signs) (defScope s__law_signs) .none kV10 dc10 pm10 an10 cd10 ct10), sl10⟩) (c10 : PySem.W.codeIn K cd10 "_law_signs" = true) (k10 : PySem.W.keepIn K (.ref f10) = true)
    {od11 an11 : Option Addr} {sl11 : Array (Option Value)} {oc11 kV11 dc11 pm11 cd11 ct11 : Value} {f11 : Addr} (a11 : PySem.W.nsIn K mainGlobals "_law_sum" = some (some (.ref f11))) (l11 : K.lookup f11 = some ⟨oc11, od11, .func (PySem.W.fnOf "_law_sum" "_law_sum" (defArgs s__law_sum) (defBody s__law_sum) (defScope s__law_sum) .none kV11 dc11 pm11 an11 cd11 ct11), sl11⟩) (c11 : PySem.W.codeIn K cd11 "_law_sum" = true) (k11 : PySem.W.keepIn K (.ref f11) = true)
    {od12 an12 : Option Addr} {sl12 : Array (Option Value)} {oc12 kV12 dc12 pm12 cd12 ct12 : Value} {f12 : Addr} (a12 : PySem.W.nsIn K mainGlobals "_law_weight" = some (some (.ref f12))) (l12 : K.lookup f12 = some ⟨oc12, od12, .func (PySem.W.fnOf "_law_weight" "_law_weight" (defArgs s__law_weight) (defBody s__law_weight) (defScope s__law_weight) .none kV12 dc12 pm12 an12 cd12 ct12), sl12⟩) (c12 : PySem.W.codeIn K cd12 "_law_weight" = true) (k12 : PySem.W.keepIn K (.ref f12) = true)
    {od13 an13 : Option Addr} {sl13 : Array (Option Value)} {oc13 kV13 dc13 pm13 cd13 ct13 : Value} {f13 : Addr} (a13 : PySem.W.nsIn K mainGlobals "_law_lowest" = some (some (.ref f13))) (l13 : K.lookup f13 = some ⟨oc13, od13, .func (PySem.W.fnOf "_law_lowest" "_law_lowest" (defArgs s__law_lowest) (defBody s__law_lowest) (defScope s__law_lowest) .none kV13 dc13 pm13 an13 cd13 ct13), sl13⟩) (c13 : PySem.W.codeIn K cd13 "_law_lowest" = true) (k13 : PySem.W.keepIn K (.ref f13) = true)
    {od14 an14 : Option Addr} {sl14 : Array (Option Value)} {oc14 kV14 dc14 pm14 cd14 ct14 : Value} {f14 : Addr} (a14 : PySem.W.nsIn K mainGlobals "_law_is_row" = some (some (.ref f14))) (l14 : K.lookup f14 = some ⟨oc14, od14, .func (PySem.W.fnOf "_law_is_row" "_law_is_row" (defArgs s__law_is_row) (defBody s__law_is_row) (defScope s__law_is_row) .none kV14 dc14 pm14 an14 cd14 ct14), sl14⟩) (c14 : PySem.W.codeIn K cd14 "_law_is_row" = true) (k14 : PySem.W.keepIn K (.ref f14) = true)
    {od15 an15 : Option Addr} {sl15 : Array (Option Value)} {oc15 kV15 dc15 pm15 cd15 ct15 : Value} {f15 : Addr} (a15 : PySem.W.nsIn K mainGlobals "_law_twice" = some (some (.ref f15))) (l15 : K.lookup f15 = some ⟨oc15, od15, .func (PySem.W.fnOf "_law_twice" "_law_twice" (defArgs s__law_twice) (defBody s__law_twice) (defScope s__law_twice) .none kV15 dc15 pm15 an15 cd15 ct15), sl15⟩) (c15 : PySem.W.codeIn K cd15 "_law_twice" = true) (k15 : PySem.W.keepIn K (.ref f15) = true)
    {od16 an16 : Option Addr} {sl16 : Array (Option Value)} {oc16 kV16 dc16 pm16 cd16 ct16 : Value} {f16 : Addr} (a16 : PySem.W.nsIn K mainGlobals "_law_meant" = some (some (.ref f16))) (l16 : K.lookup f16 = some ⟨oc16, od16, .func (PySem.W.fnOf "_law_meant" "_law_meant" (defArgs s__law_meant) (defBody s__law_meant) (defScope s__law_meant) .none kV16 dc16 pm16 an16 cd16 ct16), sl16⟩) (c16 : PySem.W.codeIn K cd16 "_law_meant" = true) (k16 : PySem.W.keepIn K (.ref f16) = true)
    {od17 an17 : Option Addr} {sl17 : Array (Option Value)} {oc17 kV17 dc17 pm17 cd17 ct17 : Value} {f17 : Addr} (a17 : PySem.W.nsIn K mainGlobals "law" = some (some (.ref f17))) (l17 : K.lookup f17 = some ⟨oc17, od17, .func (PySem.W.fnOf "law" "law" (defArgs s_law) (defBody s_law) (defScope s_law) .none kV17 dc17 pm17 an17 cd17 ct17), sl17⟩) (c17 : PySem.W.codeIn K cd17 "law" = true) (k17 : PySem.W.keepIn K (.ref f17) = true)
    (z_all : PySem.W.nsIn K mainGlobals "all" = some none)
    (z_bool : PySem.W.nsIn K mainGlobals "bool" = some none)
    (z_dict : PySem.W.nsIn K mainGlobals "dict" = some none)
    (z_int : PySem.W.nsIn K mainGlobals "int" = some none)
    (z_isinstance : PySem.W.nsIn K mainGlobals "isinstance" = some none)
    (z_len : PySem.W.nsIn K mainGlobals "len" = some none)
    (z_list : PySem.W.nsIn K mainGlobals "list" = some none)
    (z_max : PySem.W.nsIn K mainGlobals "max" = some none)
    (z_min : PySem.W.nsIn K mainGlobals "min" = some none)
    (z_range : PySem.W.nsIn K mainGlobals "range" = some none)
    (z_sorted : PySem.W.nsIn K mainGlobals "sorted" = some none)
    (z_str : PySem.W.nsIn K mainGlobals "str" = some none)
    (z_sum : PySem.W.nsIn K mainGlobals "sum" = some none)
    (z_tuple : PySem.W.nsIn K mainGlobals "tuple" = some none)
    {C_row_clashes P_row_clashes : Addr} {ce_row_clashes : Value} {cdd_row_clashes : Option Addr} {cv_row_clashes : Array Value} {cs_row_clashes : Array (Option Value)} (t1_row_clashes : cd2 = .ref C_row_clashes) (t2_row_clashes : K.lookup C_row_clashes = some ⟨ce_row_clashes, cdd_row_clashes, .fields cv_row_clashes, cs_row_clashes⟩) (t3_row_clashes : cv_row_clashes[11]? = some (.ref P_row_clashes)) (t4_row_clashes : K.lookup P_row_clashes = none) :
    LamX.LawAtS l w K CX0 8 n "script" mg fa h := by
  have e := hfa.symm.trans (PySem.W.mg_of X G a17)
  cases e
  subst t1_row_clashes
  have F0 := fun_mk (st := s_norm) l0 c0 k0
  have b0 := F0.binds (ps := ["pairs", "least"]) fun _ _ _ _ _ _ us hl => match us, hl with | [_, _], _ => rfl
  have F1 := fun_mk (st := s_denial) l1 c1 k1
  have b1 := F1.binds (ps := ["row"]) fun _ _ _ _ _ _ us hl => match us, hl with | [_], _ => rfl
  have F2 := fun_mk (st := s_row_clashes) l2 c2 k2
  have b2 := F2.binds (ps := ["row"]) fun _ _ _ _ _ _ us hl => match us, hl with | [_], _ => rfl
  have F3 := fun_mk (st := s__law_mix) l3 c3 k3
  have b3 := F3.binds (ps := ["seed", "turn"]) fun _ _ _ _ _ _ us hl => match us, hl with | [_, _], _ => rfl
  have F4 := fun_mk (st := s__law_open) l4 c4 k4
  have b4 := F4.binds (ps := ["script"]) fun _ _ _ _ _ _ us hl => match us, hl with | [_], _ => rfl
  have F5 := fun_mk (st := s__law_pick) l5 c5 k5
  have b5 := F5.binds (ps := ["feed", "many"]) fun _ _ _ _ _ _ us hl => match us, hl with | [_, _], _ => rfl
  have F6 := fun_mk (st := s__law_of) l6 c6 k6
  have b6 := F6.binds (ps := ["feed", "row"]) fun _ _ _ _ _ _ us hl => match us, hl with | [_, _], _ => rfl
  have F7 := fun_mk (st := s__law_mixed) l7 c7 k7
  have b7 := F7.binds (ps := ["feed", "row"]) fun _ _ _ _ _ _ us hl => match us, hl with | [_, _], _ => rfl
  have F8 := fun_mk (st := s__law_same) l8 c8 k8
  have b8 := F8.binds (ps := ["told", "due"]) fun _ _ _ _ _ _ us hl => match us, hl with | [_, _], _ => rfl
  have F9 := fun_mk (st := s__law_names) l9 c9 k9
  have b9 := F9.binds (ps := ["feed", "many"]) fun _ _ _ _ _ _ us hl => match us, hl with | [_, _], _ => rfl
  have F10 := fun_mk (st := s__law_signs) l10 c10 k10
  have b10 := F10.binds (ps := ["feed", "many"]) fun _ _ _ _ _ _ us hl => match us, hl with | [_, _], _ => rfl
  have F11 := fun_mk (st := s__law_sum) l11 c11 k11
  have b11 := F11.binds (ps := ["feed", "signs", "many"]) fun _ _ _ _ _ _ us hl => match us, hl with | [_, _, _], _ => rfl
  have F12 := fun_mk (st := s__law_weight) l12 c12 k12
  have b12 := F12.binds (ps := ["pairs", "setting"]) fun _ _ _ _ _ _ us hl => match us, hl with | [_, _], _ => rfl
  have F13 := fun_mk (st := s__law_lowest) l13 c13 k13
  have b13 := F13.binds (ps := ["pairs"]) fun _ _ _ _ _ _ us hl => match us, hl with | [_], _ => rfl
  have F14 := fun_mk (st := s__law_is_row) l14 c14 k14
  have b14 := F14.binds (ps := ["row"]) fun _ _ _ _ _ _ us hl => match us, hl with | [_], _ => rfl
  have F15 := fun_mk (st := s__law_twice) l15 c15 k15
  have b15 := F15.binds (ps := ["row"]) fun _ _ _ _ _ _ us hl => match us, hl with | [_], _ => rfl
  have F16 := fun_mk (st := s__law_meant) l16 c16 k16
  have b16 := F16.binds (ps := ["feed", "signs", "pairs", "least", "row"]) fun _ _ _ _ _ _ us hl => match us, hl with | [_, _, _, _, _], _ => rfl
  have F17 := fun_mk (st := s_law) l17 c17 k17
  have b17 := F17.binds (ps := ["script"]) fun _ _ _ _ _ _ us hl => match us, hl with | [_], _ => rfl
  let T : Txt K mg := {
    f_norm := f0, fd_norm := _, F_norm := F0, b_norm := b0, g_norm := PySem.W.mg_of X G a0,
    f_denial := f1, fd_denial := _, F_denial := F1, b_denial := b1, g_denial := PySem.W.mg_of X G a1,
    f_row_clashes := f2, fd_row_clashes := _, F_row_clashes := F2, b_row_clashes := b2, g_row_clashes := PySem.W.mg_of X G a2,
    c_row_clashes := C_row_clashes, P_row_clashes := P_row_clashes, e_row_clashes := rfl,
    f__law_mix := f3, fd__law_mix := _, F__law_mix := F3, b__law_mix := b3, g__law_mix := PySem.W.mg_of X G a3,
    f__law_open := f4, fd__law_open := _, F__law_open := F4, b__law_open := b4, g__law_open := PySem.W.mg_of X G a4,
    f__law_pick := f5, fd__law_pick := _, F__law_pick := F5, b__law_pick := b5, g__law_pick := PySem.W.mg_of X G a5,
    f__law_of := f6, fd__law_of := _, F__law_of := F6, b__law_of := b6, g__law_of := PySem.W.mg_of X G a6,
    f__law_mixed := f7, fd__law_mixed := _, F__law_mixed := F7, b__law_mixed := b7, g__law_mixed := PySem.W.mg_of X G a7,
    f__law_same := f8, fd__law_same := _, F__law_same := F8, b__law_same := b8, g__law_same := PySem.W.mg_of X G a8,
    f__law_names := f9, fd__law_names := _, F__law_names := F9, b__law_names := b9, g__law_names := PySem.W.mg_of X G a9,
    f__law_signs := f10, fd__law_signs := _, F__law_signs := F10, b__law_signs := b10, g__law_signs := PySem.W.mg_of X G a10,
    f__law_sum := f11, fd__law_sum := _, F__law_sum := F11, b__law_sum := b11, g__law_sum := PySem.W.mg_of X G a11,
    f__law_weight := f12, fd__law_weight := _, F__law_weight := F12, b__law_weight := b12, g__law_weight := PySem.W.mg_of X G a12,
    f__law_lowest := f13, fd__law_lowest := _, F__law_lowest := F13, b__law_lowest := b13, g__law_lowest := PySem.W.mg_of X G a13,
    f__law_is_row := f14, fd__law_is_row := _, F__law_is_row := F14, b__law_is_row := b14, g__law_is_row := PySem.W.mg_of X G a14,
    f__law_twice := f15, fd__law_twice := _, F__law_twice := F15, b__law_twice := b15, g__law_twice := PySem.W.mg_of X G a15,
    f__law_meant := f16, fd__law_meant := _, F__law_meant := F16, b__law_meant := b16, g__law_meant := PySem.W.mg_of X G a16,
    f_law := fa, fd_law := _, F_law := F17, b_law := b17, g_law := PySem.W.mg_of X G a17,
    m_all := PySem.W.mg_none_of X G z_all,
    m_bool := PySem.W.mg_none_of X G z_bool,
    m_dict := PySem.W.mg_none_of X G z_dict,
    m_int := PySem.W.mg_none_of X G z_int,
    m_isinstance := PySem.W.mg_none_of X G z_isinstance,
    m_len := PySem.W.mg_none_of X G z_len,
    m_list := PySem.W.mg_none_of X G z_list,
    m_max := PySem.W.mg_none_of X G z_max,
    m_min := PySem.W.mg_none_of X G z_min,
    m_range := PySem.W.mg_none_of X G z_range,
    m_sorted := PySem.W.mg_none_of X G z_sorted,
    m_str := PySem.W.mg_none_of X G z_str,
    m_sum := PySem.W.mg_none_of X G z_sum,
    m_tuple := PySem.W.mg_none_of X G z_tuple }
  have own : h.get? P_row_clashes = some { cls := .none, data := .fields #[] } ∧ PySem.W.CodeHd h C_row_clashes P_row_clashes := by
    obtain ⟨a', o', fd', c', P', g1, g2, g3, g4, g5, g6⟩ := tb
    rw [PySem.W.mg_of X G a2] at g1
    cases g1
    rw [X _ _ l2] at g2
    cases g2
    cases g3
    have e4 : C_row_clashes = c' := Value.ref.inj g4
    subst e4
    obtain ⟨⟨oc, vc, e1, _, e3, e4⟩, hP⟩ := id g6
    rw [X _ _ t2_row_clashes] at e1
    cases e1
    cases e3
    rw [t3_row_clashes] at e4
    cases e4
    exact ⟨hP, PySem.W.CodeHd.of g5 g6⟩
  refine ⟨_, [(C_row_clashes, P_row_clashes)], spL K (sp_law P_row_clashes), ?_, ?_, ?_, fun s v => .of_eq rfl, fun H a ns hl _ hT hS => ?_, fun base kb nb ht => ok_law T ⟨(ht _ List.mem_cons_self).code, (ht _ List.mem_cons_self).bm, (ht _ List.mem_cons_self).gP⟩⟩
  · intro p hp
    rw [List.mem_singleton.mp hp]
    exact own.1
  · intro p hp
    rw [List.mem_singleton.mp hp]
    exact t4_row_clashes
  · intro p hp
    rw [List.mem_singleton.mp hp]
    exact own.2
  · exact sp_start hn hl (hT _ List.mem_cons_self) hS
end K07
open PySem PySem.W PyProof.Rows
set_option maxRecDepth 100000 in
set_option maxHeartbeats 0 in
theorem PySem.Challenge.cw_aswritten_k07_norm_of_sums_of_rows_holds : PySem.Challenge.rw_aswritten_k07_norm_of_sums_of_rows.Holds := by
  w_on; o_law; k_head; (case hw => w_witness2)
  k_fill
  refine K07.walk_all (l := PySem.Challenge.rw_aswritten_k07_norm_of_sums_of_rows) (n := 63) (k := 8) (x := "script") (CX := fun _ => L2.CX0) rfl (by decide) rfl ⟨rfl, by decide, by decide⟩ (fun w h Y => PySem.W.kIn_of Y) ?F (fun _ _ _ _ _ z => z)
  case F =>
    intro w mg fa h KX G hmg tb
    refine' K07.all_mk (Nat.le_refl _) KX G hmg ?tb ?a0 ?l0 ?c0 ?k0 ?a1 ?l1 ?c1 ?k1 ?a2 ?l2 ?c2 ?k2 ?a3 ?l3 ?c3 ?k3 ?a4 ?l4 ?c4 ?k4 ?a5 ?l5 ?c5 ?k5 ?a6 ?l6 ?c6 ?k6 ?a7 ?l7 ?c7 ?k7 ?a8 ?l8 ?c8 ?k8 ?a9 ?l9 ?c9 ?k9 ?a10 ?l10 ?c10 ?k10 ?a11 ?l11 ?c11 ?k11 ?a12 ?l12 ?c12 ?k12 ?a13 ?l13 ?c13 ?k13 ?a14 ?l14 ?c14 ?k14 ?a15 ?l15 ?c15 ?k15 ?a16 ?l16 ?c16 ?k16 ?a17 ?l17 ?c17 ?k17 ?z_all ?z_bool ?z_dict ?z_int ?z_isinstance ?z_len ?z_list ?z_max ?z_min ?z_range ?z_sorted ?z_str ?z_sum ?z_tuple ?t1_row_clashes ?t2_row_clashes ?t3_row_clashes ?t4_row_clashes
    (case tb => exact tb "row_clashes" (by first | rfl | decide +kernel))
    (case a0 => k_is)
    (case l0 => k_is)
    (case c0 => k_is)
    (case k0 => k_is)
    (case a1 => k_is)
    (case l1 => k_is)
    (case c1 => k_is)
    (case k1 => k_is)
    (case a2 => k_is)
    (case l2 => k_is)
    (case c2 => k_is)
    (case k2 => k_is)
    (case a3 => k_is)
    (case l3 => k_is)
    (case c3 => k_is)
    (case k3 => k_is)
    (case a4 => k_is)
    (case l4 => k_is)
    (case c4 => k_is)
    (case k4 => k_is)
    (case a5 => k_is)
    (case l5 => k_is)
    (case c5 => k_is)
    (case k5 => k_is)
    (case a6 => k_is)
    (case l6 => k_is)
    (case c6 => k_is)
    (case k6 => k_is)
    (case a7 => k_is)
    (case l7 => k_is)
    (case c7 => k_is)
    (case k7 => k_is)
    (case a8 => k_is)
    (case l8 => k_is)
    (case c8 => k_is)
    (case k8 => k_is)
    (case a9 => k_is)
    (case l9 => k_is)
    (case c9 => k_is)
    (case k9 => k_is)
    (case a10 => k_is)
    (case l10 => k_is)
    (case c10 => k_is)
    (case k10 => k_is)
    (case a11 => k_is)
    (case l11 => k_is)
    (case c11 => k_is)
    (case k11 => k_is)
    (case a12 => k_is)
    (case l12 => k_is)
    (case c12 => k_is)
    (case k12 => k_is)
    (case a13 => k_is)
    (case l13 => k_is)
    (case c13 => k_is)
    (case k13 => k_is)
    (case a14 => k_is)
    (case l14 => k_is)
    (case c14 => k_is)
    (case k14 => k_is)
    (case a15 => k_is)
    (case l15 => k_is)
    (case c15 => k_is)
    (case k15 => k_is)
    (case a16 => k_is)
    (case l16 => k_is)
    (case c16 => k_is)
    (case k16 => k_is)
    (case a17 => k_is)
    (case l17 => k_is)
    (case c17 => k_is)
    (case k17 => k_is)
    (case z_all => k_is)
    (case z_bool => k_is)
    (case z_dict => k_is)
    (case z_int => k_is)
    (case z_isinstance => k_is)
    (case z_len => k_is)
    (case z_list => k_is)
    (case z_max => k_is)
    (case z_min => k_is)
    (case z_range => k_is)
    (case z_sorted => k_is)
    (case z_str => k_is)
    (case z_sum => k_is)
    (case z_tuple => k_is)
    (case t1_row_clashes => exact rfl)
    (case t2_row_clashes => first | exact rfl | kernel_rfl | k_is)
    (case t3_row_clashes => exact rfl)
    (case t4_row_clashes => first | exact rfl | kernel_rfl | k_is)
#print axioms PySem.Challenge.cw_aswritten_k07_norm_of_sums_of_rows_holds
