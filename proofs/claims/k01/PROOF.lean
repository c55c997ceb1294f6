import PyProof.Rows.All
import Wide.All
import OpenK.AllK
import Wide.FinOn
import HandS.ForMost
import HandS.Wide
import HandS.IsInst
import HandS.Flow
import HandS.Evl
import KE.SortData
import KE.SortKeyHeap
import HandS.Exc
import HandS.ExcOwn
import HandS.WordsExc
import PyProof.P3Eq
import PyProof.Claim2Refuses
import KE.LtData
import HandS.TupAny
import HandS.TupLe
import HandS.TupMul
import HandS.RaiseMore
import PyProof.ReprBulk
import PyProof.Rows.ReprShort
import KE.KxText
import PySem.Challenge.RW_thinnet_k01_names_and_times
set_option Elab.async false
set_option linter.all false
set_option maxRecDepth 100000
set_option maxHeartbeats 4000000
/-! DL: a layer of plain data over the hand layer: what a piece of the program computes, told as a function of plain data. -/
namespace DL
open PySem L2
abbrev D := PyData
abbrev KF := PySem.W.Frag
abbrev MG := Str → Option Value
/-! ### data stays data -/
mutual
theorem dp_up {K : KF} {I J : Hp} (s : Same I J) : ∀ (d : D) (v : V), Dp K I v d → Dp K J v d
  | .none, _, h => by cases h; exact .non
  | .bool b, _, h => by cases h; exact .bl b
  | .int i, _, h => by cases h; exact .int i
  | .str x, _, h => by cases h; exact .str x
  | .list ds, _, h => by
    cases h with
    | lst hs ha => exact .lst (s.seq hs) (dpa_up s ds _ ha)
  | .tuple ds, _, h => by
    cases h with
    | tup hs ha => exact .tup (Evl.ex_t s hs) (dpa_up s ds _ ha)
  | .dict _, _, h => by cases h
theorem dpa_up {K : KF} {I J : Hp} (s : Same I J) : ∀ (ds : List D) (vs : List V), DpAll K I vs ds → DpAll K J vs ds
  | [], _, h => by cases h; exact .nil
  | d :: ds, _, h => by
    cases h with
    | cons h1 h2 => exact .cons (dp_up s d _ h1) (dpa_up s ds _ h2)
end
theorem dpa_len {K : KF} {I : Hp} : ∀ {vs : List V} {ds : List D}, DpAll K I vs ds → vs.length = ds.length
  | [], [], _ => rfl
  | _ :: vs, _ :: ds, h => by
    cases h with
    | cons _ h2 => simp [dpa_len h2]
  | [], _ :: _, h => by cases h
  | _ :: _, [], h => by cases h
theorem dpa_get {K : KF} {I : Hp} : ∀ {vs : List V} {ds : List D} {i : Nat} {v : V}, DpAll K I vs ds → vs[i]? = some v → ∃ d, ds[i]? = some d ∧ Dp K I v d
  | _, _, i, v, .nil, h => by simp at h
  | _, _, 0, v, .cons a b, h => by simp at h; subst h; exact ⟨_, rfl, a⟩
  | _, _, i + 1, v, .cons a b, h => by simpa using dpa_get b (by simpa using h)
theorem dpa_get' {K : KF} {I : Hp} : ∀ {vs : List V} {ds : List D} {i : Nat} {d : D}, DpAll K I vs ds → ds[i]? = some d → ∃ v, vs[i]? = some v ∧ Dp K I v d
  | _, _, i, v, .nil, h => by simp at h
  | _, _, 0, v, .cons a b, h => by simp at h; subst h; exact ⟨_, rfl, a⟩
  | _, _, i + 1, v, .cons a b, h => by simpa using dpa_get' b (by simpa using h)
theorem dpa_app {K : KF} {I : Hp} : ∀ {vs ws : List V} {ds es : List D}, DpAll K I vs ds → DpAll K I ws es → DpAll K I (vs ++ ws) (ds ++ es)
  | _, _, _, _, .nil, h => h
  | _, _, _, _, .cons a b, h => .cons a (dpa_app b h)
theorem dpa_take {K : KF} {I : Hp} : ∀ {vs : List V} {ds : List D} (n : Nat), DpAll K I vs ds → DpAll K I (vs.take n) (ds.take n)
  | _, _, 0, _ => .nil
  | _, _, _ + 1, .nil => .nil
  | _, _, n + 1, .cons a b => .cons a (dpa_take n b)
theorem dpa_drop {K : KF} {I : Hp} : ∀ {vs : List V} {ds : List D} (n : Nat), DpAll K I vs ds → DpAll K I (vs.drop n) (ds.drop n)
  | _, _, 0, h => h
  | _, _, _ + 1, .nil => .nil
  | _, _, n + 1, .cons a b => dpa_drop n b
theorem dpa_set {K : KF} {I : Hp} {v : V} {d : D} (h : Dp K I v d) : ∀ {vs : List V} {ds : List D} (n : Nat), DpAll K I vs ds → DpAll K I (vs.set n v) (ds.set n d)
  | _, _, _, .nil => .nil
  | _, _, 0, .cons a b => .cons h b
  | _, _, n + 1, .cons a b => .cons a (dpa_set h n b)
theorem dpa_erase {K : KF} {I : Hp} : ∀ {vs : List V} {ds : List D} (n : Nat), DpAll K I vs ds → DpAll K I (vs.eraseIdx n) (ds.eraseIdx n)
  | _, _, _, .nil => by simp; exact .nil
  | _, _, 0, .cons a b => b
  | _, _, n + 1, .cons a b => .cons a (dpa_erase n b)
theorem dpa_dropLast {K : KF} {I : Hp} {vs : List V} {ds : List D} (h : DpAll K I vs ds) : DpAll K I vs.dropLast ds.dropLast := by
  rw [List.dropLast_eq_take, List.dropLast_eq_take, dpa_len h]
  exact dpa_take _ h
theorem dpa_rev {K : KF} {I : Hp} : ∀ {vs : List V} {ds : List D}, DpAll K I vs ds → DpAll K I vs.reverse ds.reverse
  | _, _, .nil => .nil
  | _, _, .cons a b => by
    rw [List.reverse_cons, List.reverse_cons]
    exact dpa_app (dpa_rev b) (.cons a .nil)
theorem dpa_ins {K : KF} {I : Hp} {v : V} {d : D} (h : Dp K I v d) {vs : List V} {ds : List D} (n : Nat) (a : DpAll K I vs ds) : DpAll K I (vs.take n ++ v :: vs.drop n) (ds.take n ++ d :: ds.drop n) :=
  dpa_app (dpa_take n a) (.cons h (dpa_drop n a))
/-! ### what a local holds -/
/-- a mutable thing of one's own -/
inductive MO where
  | lst (xs : List D)
  | dic (kvs : List (Key × D))
  | dit (kvs : List (List Key × D))
inductive S where
  | d (x : D)
  /-- somebody else's, read -/
  | bor (m : MO)
  /-- one's own; io: a parameter handed in to be changed -/
  | own (io : Bool) (m : MO)
structure Exc where
  cls : Str
  fs : List (Str × D)
inductive R (α : Type) where
  | ok (a : α)
  | ex (x : Exc)
abbrev Env := List (Option S)
abbrev EF (α : Type) := Env → Option (R α × Env)
def KvD {κ : Type} (K : KF) (I : Hp) : List (κ × V) → List (κ × D) → Prop := Paired fun (p : κ × V) (q : κ × D) => p.1 = q.1 ∧ Dp K I p.2 q.2
theorem kvd_up {κ : Type} {K : KF} {I J : Hp} (s : Same I J) : ∀ {ws : List (κ × V)} {ks : List (κ × D)}, KvD K I ws ks → KvD K J ws ks
  | _, _, .nil => .nil
  | _, _, .cons a b => .cons ⟨a.1, dp_up s _ _ a.2⟩ (kvd_up s b)
def MRel (K : KF) (I H : Hp) (a : Addr) : MO → Prop
  | .lst xs => ∃ vs, H a = some (.lst vs) ∧ DpAll K I vs xs
  | .dic kvs => ∃ ws, H a = some (.dK ws) ∧ KvD K I ws kvs
  | .dit kvs => ∃ ws, H a = some (.dT ws) ∧ KvD K I ws kvs
theorem mrel_up {K : KF} {I J H H' : Hp} {a : Addr} (s : Same I J) (e : H' a = H a) : ∀ {m : MO}, MRel K I H a m → MRel K J H' a m
  | .lst _, ⟨vs, h, p⟩ => ⟨vs, e.trans h, dpa_up s _ _ p⟩
  | .dic _, ⟨vs, h, p⟩ => ⟨vs, e.trans h, kvd_up s p⟩
  | .dit _, ⟨vs, h, p⟩ => ⟨vs, e.trans h, kvd_up s p⟩
theorem mrel_some {K : KF} {I H : Hp} {a : Addr} {m : MO} (h : MRel K I H a m) : ∃ o, H a = some o := by
  cases m with
  | lst xs => obtain ⟨vs, e, _⟩ := h; exact ⟨_, e⟩
  | dic xs => obtain ⟨vs, e, _⟩ := h; exact ⟨_, e⟩
  | dit xs => obtain ⟨vs, e, _⟩ := h; exact ⟨_, e⟩
theorem mrel_same {K : KF} {I J H H' : Hp} {a : Addr} (s : Same I J) (e : ∀ o, H a = some o → H' a = some o) {m : MO} (h : MRel K I H a m) : MRel K J H' a m := by
  obtain ⟨o, ho⟩ := mrel_some h
  exact mrel_up s ((e o ho).trans ho.symm) h
/-- a def's entry: the data then, the heap then, the addresses of what is handed in to be changed, by the slot -/
structure Cn where
  I0 : Hp
  H0 : Hp
  io : Nat → Option Addr
  /-- what may be borrowed -/
  bo : Addr → Prop
def SRel (K : KF) (C : Cn) (I H : Hp) (i : Nat) (v : V) : S → Prop
  | .d x => Dp K I v x
  | .bor m => ∃ a, v = .ref a ∧ C.bo a ∧ (∀ j, C.io j ≠ some a) ∧ MRel K C.I0 C.H0 a m
  | .own true m => ∃ a, v = .ref a ∧ I a = none ∧ MRel K I H a m ∧ C.io i = some a
  | .own false m => ∃ a, v = .ref a ∧ I a = none ∧ MRel K I H a m ∧ C.H0 a = none
structure Rel (K : KF) (C : Cn) (I H : Hp) (r : Env) (s : St) : Prop where
  len : s.length = r.length
  sub : Same I H
  mono : Same C.I0 I
  keep : ∀ a o, C.H0 a = some o → (∀ j, C.io j ≠ some a) → H a = some o
  dom : ∀ a, H a = none → C.H0 a = none
  bo : ∀ a, C.bo a → C.H0 a ≠ none
  iot : ∀ j a, C.io j = some a → C.H0 a ≠ none
  fresh : ∀ a, C.I0 a = none → C.H0 a ≠ none → I a = none
  slot : ∀ (i : Nat) (x : S), r[i]? = some (some x) → ∃ v, s[i]? = some (some v) ∧ SRel K C I H i v x
  dist : ∀ (i j : Nat) b c m n a, i ≠ j → r[i]? = some (some (.own b m)) → r[j]? = some (some (.own c n)) → s[i]? = some (some (.ref a)) → s[j]? = some (some (.ref a)) → False
/-- what an expression gives -/
def TRel (K : KF) (C : Cn) (I H : Hp) (r : Env) (s : St) (v : V) : S → Prop
  | .d x => Dp K I v x
  | .own false m => ∃ a, v = .ref a ∧ I a = none ∧ MRel K I H a m ∧ C.H0 a = none ∧ ∀ (i : Nat) b n, r[i]? = some (some (.own b n)) → s[i]? ≠ some (some (.ref a))
  | _ => False
def XRel (K : KF) (mg : MG) (I H : Hp) (c : Value) (dx : Option Addr) (x : Exc) : Prop :=
  mg x.cls = some c ∧ ((x.fs = [] ∧ dx = none) ∨ ∃ d ws, dx = some d ∧ H d = some (.xd ws) ∧ Paired (fun (p : Str × V) (q : Str × D) => p.1 = q.1 ∧ Dp K I p.2 q.2) ws x.fs)
theorem own_nz {K : KF} {C : Cn} {I H : Hp} {i : Nat} {v : V} {b : Bool} {m : MO} (h : SRel K C I H i v (.own b m)) : ∃ a, v = .ref a ∧ I a = none ∧ MRel K I H a m ∧ ((b = true ∧ C.io i = some a) ∨ (b = false ∧ C.H0 a = none)) := by
  cases b with
  | true => obtain ⟨a, e, n, m, q⟩ := h; exact ⟨a, e, n, m, .inl ⟨rfl, q⟩⟩
  | false => obtain ⟨a, e, n, m, q⟩ := h; exact ⟨a, e, n, m, .inr ⟨rfl, q⟩⟩
theorem own_mk {K : KF} {C : Cn} {I H : Hp} {i : Nat} {v : V} {b : Bool} {m : MO} {a : Addr} (e : v = .ref a) (n : I a = none) (q : MRel K I H a m) (h : (b = true ∧ C.io i = some a) ∨ (b = false ∧ C.H0 a = none)) : SRel K C I H i v (.own b m) := by
  cases b with
  | true =>
    rcases h with ⟨_, h⟩ | ⟨h, _⟩
    · exact ⟨a, e, n, q, h⟩
    · cases h
  | false =>
    rcases h with ⟨h, _⟩ | ⟨_, h⟩
    · cases h
    · exact ⟨a, e, n, q, h⟩
/-- a slot's word stays where data grows and its own object stands -/
theorem srel_up {K : KF} {C : Cn} {I J H H' : Hp} {i : Nat} {v : V} (s : Same I J) {x : S} (h : SRel K C I H i v x)
    (own : ∀ b m a, x = .own b m → v = .ref a → I a = none → (∃ o, H a = some o) → J a = none ∧ H' a = H a) : SRel K C J H' i v x := by
  cases x with
  | d x => exact dp_up s _ _ h
  | bor m => exact h
  | own b m =>
    obtain ⟨a, e, n, q, z⟩ := own_nz h
    obtain ⟨j, k⟩ := own b m a rfl e n (mrel_some q)
    exact own_mk e j (mrel_up s k q) z
/-- what is newly given: the data grows, nothing that stood is changed -/
structure Grow (I H I' H' : Hp) : Prop where
  i : Same I I'
  h : Same H H'
  sub : Same I' H'
  new : ∀ a o, H a = some o → I a = none → I' a = none
theorem Grow.refl {I H : Hp} (s : Same I H) : Grow I H I H := ⟨Same.refl I, Same.refl H, s, fun _ _ _ n => n⟩
theorem Rel.grow {K : KF} {C : Cn} {I H I' H' : Hp} {r : Env} {s : St} (R : Rel K C I H r s) (g : Grow I H I' H') : Rel K C I' H' r s where
  len := R.len
  sub := g.sub
  mono := R.mono.trans g.i
  keep := fun a o e n => g.h a o (R.keep a o e n)
  dom := fun a e => R.dom a (g.h.free e)
  bo := R.bo
  iot := R.iot
  fresh := fun a n z => by
    cases q : H a with
    | none => exact absurd (R.dom a q) z
    | some o => exact g.new a o q (R.fresh a n z)
  slot := fun i x e => by
    obtain ⟨v, h1, h2⟩ := R.slot i x e
    exact ⟨v, h1, srel_up g.i h2 fun b m a _ _ n ⟨o, z⟩ => ⟨g.new a o z n, (g.h a o z).trans z.symm⟩⟩
  dist := R.dist
/-- a new tuple is data -/
theorem grow_tup {I H : Hp} {p : Addr} {o : HO} (s : Same I H) (n : H p = none) : Grow I H (upd I p o) (upd H p o) where
  i := Evl.Ex.new (s.free n)
  h := Evl.Ex.new n
  sub := fun a u e => by
    by_cases h : a = p
    · subst h
      rw [upd_same] at e ⊢
      exact e
    · rw [upd_ne h] at e ⊢
      exact s a u e
  new := fun a u e z => by
    rw [upd_ne (ne_of_none e n)]
    exact z
/-- a new thing of one's own -/
theorem grow_own {I H : Hp} {p : Addr} {o : HO} (s : Same I H) (n : H p = none) : Grow I H I (upd H p o) where
  i := Same.refl I
  h := Evl.Ex.new n
  sub := s.trans (Evl.Ex.new n)
  new := fun a u e z => z
theorem Grow.trans {I H I1 H1 I2 H2 : Hp} (a : Grow I H I1 H1) (b : Grow I1 H1 I2 H2) : Grow I H I2 H2 :=
  ⟨a.i.trans b.i, a.h.trans b.h, b.sub, fun x o e n => b.new x o (a.h x o e) (a.new x o e n)⟩
/-- what an operation on values gives -/
def NewS (K : KF) (I H : Hp) (v : V) (I' H' : Hp) : S → Prop
  | .d x => Dp K I' v x
  | .own false m => ∃ a, v = .ref a ∧ H a = none ∧ I' a = none ∧ MRel K I' H' a m
  | _ => False
theorem Rel.newS {K : KF} {C : Cn} {I H I' H' : Hp} {r : Env} {s : St} {v : V} {x : S} (R : Rel K C I H r s) (g : Grow I H I' H') (n : NewS K I H v I' H' x) : TRel K C I' H' r s v x := by
  cases x with
  | d x => exact n
  | bor m => exact n.elim
  | own b m =>
    cases b with
    | true => exact n.elim
    | false =>
      obtain ⟨a, e, n, z, q⟩ := n
      refine ⟨a, e, z, q, R.dom a n, fun i b m h e1 => ?_⟩
      obtain ⟨v1, h1, h2⟩ := R.slot i _ h
      obtain ⟨a1, e2, _, q1, _⟩ := own_nz h2
      rw [e1] at h1
      cases h1
      cases e2
      obtain ⟨o, ho⟩ := mrel_some q1
      rw [n] at ho
      cases ho
/-- a list of one's own, just made, is made data -/
theorem Rel.freeze {K : KF} {C : Cn} {I H : Hp} {r : Env} {s : St} {v : V} {xs : List D} (R : Rel K C I H r s) (t : TRel K C I H r s v (.own false (.lst xs))) :
    ∃ I', Rel K C I' H r s ∧ Same I I' ∧ Dp K I' v (.list xs) := by
  obtain ⟨a, e, n, ⟨vs, hv, p⟩, h0, ne⟩ := t
  have s1 : Same I (upd I a (.lst vs)) := Evl.Ex.new n
  refine ⟨upd I a (.lst vs), ⟨R.len, fun b o q => ?_, R.mono.trans s1, R.keep, R.dom, R.bo, R.iot, fun b z1 z2 => ?_, fun i x h => ?_, R.dist⟩, s1, ?_⟩
  · by_cases h : b = a
    · subst h
      rw [upd_same] at q
      cases q
      exact hv
    · rw [upd_ne h] at q
      exact R.sub b o q
  · by_cases h : b = a
    · subst h
      exact absurd h0 z2
    · rw [upd_ne h]
      exact R.fresh b z1 z2
  · obtain ⟨w, h1, h2⟩ := R.slot i x h
    refine ⟨w, h1, srel_up s1 h2 fun b m c ex ew nc _ => ⟨?_, rfl⟩⟩
    have hc : c ≠ a := by
      rintro rfl
      subst ex
      rw [ew] at h1
      exact ne i b m h h1
    rw [upd_ne hc]
    exact nc
  · subst e
    exact .lst (Or.inl (Or.inl upd_same)) (dpa_up s1 _ _ p)
/-- a slot's list of one's own is made data -/
theorem Rel.freezeSlot {K : KF} {C : Cn} {I H : Hp} {r : Env} {s : St} {i : Nat} {xs : List D} (R : Rel K C I H r s) (h : r[i]? = some (some (.own false (.lst xs)))) :
    ∃ I' v, s[i]? = some (some v) ∧ Rel K C I' H (r.set i (some (.d (.list xs)))) s ∧ Same I I' ∧ Dp K I' v (.list xs) := by
  obtain ⟨v, hv, a, e, n, ⟨vs, ha, p⟩, h0⟩ := R.slot i _ h
  have s1 : Same I (upd I a (.lst vs)) := Evl.Ex.new n
  have dp : Dp K (upd I a (.lst vs)) v (.list xs) := by
    subst e
    exact .lst (Or.inl (Or.inl upd_same)) (dpa_up s1 _ _ p)
  have hi : i < r.length := (List.getElem?_eq_some_iff.mp h).1
  have back : ∀ {j : Nat} {x : S}, (r.set i (some (.d (.list xs))))[j]? = some (some x) → (j = i ∧ x = .d (.list xs)) ∨ (j ≠ i ∧ r[j]? = some (some x)) := fun {j x} q => by
    by_cases hj : j = i
    · subst hj
      rw [List.getElem?_set_self hi] at q
      cases q
      exact .inl ⟨rfl, rfl⟩
    · rw [List.getElem?_set_ne (Ne.symm hj)] at q
      exact .inr ⟨hj, q⟩
  refine ⟨upd I a (.lst vs), v, hv, ⟨by rw [List.length_set]; exact R.len, fun b o q => ?_, R.mono.trans s1, R.keep, R.dom, R.bo, R.iot, fun b z1 z2 => ?_, fun j x q => ?_, fun j k b c m n1 b1 ne q1 q2 e1 e2 => ?_⟩, s1, dp⟩
  · by_cases hb : b = a
    · subst hb
      rw [upd_same] at q
      cases q
      exact ha
    · rw [upd_ne hb] at q
      exact R.sub b o q
  · by_cases hb : b = a
    · subst hb
      exact absurd h0 z2
    · rw [upd_ne hb]
      exact R.fresh b z1 z2
  · rcases back q with ⟨rfl, rfl⟩ | ⟨hj, q⟩
    · exact ⟨v, hv, dp⟩
    · obtain ⟨w, h1, h2⟩ := R.slot j x q
      refine ⟨w, h1, srel_up s1 h2 fun b m c ex ew nc _ => ⟨?_, rfl⟩⟩
      have hc : c ≠ a := by
        rintro rfl
        subst ex ew e
        exact R.dist j i _ _ _ _ _ hj q h h1 hv
      rw [upd_ne hc]
      exact nc
  · rcases back q1 with ⟨_, z⟩ | ⟨_, q1⟩
    · cases z
    · rcases back q2 with ⟨_, z⟩ | ⟨_, q2⟩
      · cases z
      · exact R.dist j k b c m n1 b1 ne q1 q2 e1 e2
/-- a slot is forgotten -/
theorem Rel.drop {K : KF} {C : Cn} {I H : Hp} {r : Env} {s : St} (i : Nat) (R : Rel K C I H r s) : Rel K C I H (r.set i none) s := by
  have back : ∀ {j : Nat} {x : S}, (r.set i none)[j]? = some (some x) → j ≠ i ∧ r[j]? = some (some x) := fun {j x} q => by
    by_cases hj : j = i
    · subst hj
      by_cases hl : j < r.length
      · rw [List.getElem?_set_self hl] at q
        cases q
      · rw [List.getElem?_eq_none (by rw [List.length_set]; omega)] at q
        cases q
    · rw [List.getElem?_set_ne (Ne.symm hj)] at q
      exact ⟨hj, q⟩
  exact ⟨by rw [List.length_set]; exact R.len, R.sub, R.mono, R.keep, R.dom, R.bo, R.iot, R.fresh, fun j x q => R.slot j x (back q).2, fun j k b c m n a ne q1 q2 => R.dist j k b c m n a ne (back q1).2 (back q2).2⟩
/-- a name is stored -/
theorem Rel.put {K : KF} {C : Cn} {I H : Hp} {r : Env} {s : St} {i : Nat} {v : V} {x : S} (R : Rel K C I H r s) (t : TRel K C I H r s v x) : Rel K C I H (r.set i (some x)) (s.set i (some v)) := by
  have hlen := R.len
  have back : ∀ {j : Nat} {y : S}, (r.set i (some x))[j]? = some (some y) → (j = i ∧ i < r.length ∧ y = x) ∨ (j ≠ i ∧ r[j]? = some (some y)) := fun {j y} q => by
    by_cases hj : j = i
    · subst hj
      by_cases hl : j < r.length
      · rw [List.getElem?_set_self hl] at q
        cases q
        exact .inl ⟨rfl, hl, rfl⟩
      · rw [List.getElem?_eq_none (by rw [List.length_set]; omega)] at q
        cases q
    · rw [List.getElem?_set_ne (Ne.symm hj)] at q
      exact .inr ⟨hj, q⟩
  refine ⟨by simpa using R.len, R.sub, R.mono, R.keep, R.dom, R.bo, R.iot, R.fresh, fun j y q => ?_, fun j k b c m n a ne q1 q2 e1 e2 => ?_⟩
  · rcases back q with ⟨rfl, hl, rfl⟩ | ⟨hj, q⟩
    · refine ⟨v, by rw [List.getElem?_set_self (by omega)], ?_⟩
      cases y with
      | d y => exact t
      | bor m => exact t.elim
      | own b m =>
        cases b with
        | true => exact t.elim
        | false =>
          obtain ⟨a, e, n, q, h0, _⟩ := t
          exact ⟨a, e, n, q, h0⟩
    · obtain ⟨w, h1, h2⟩ := R.slot j y q
      exact ⟨w, by rw [List.getElem?_set_ne (Ne.symm hj)]; exact h1, h2⟩
  · rcases back q1 with ⟨rfl, hl, z1⟩ | ⟨hj, q1'⟩
    · rcases back q2 with ⟨rfl, _, _⟩ | ⟨hk, q2'⟩
      · exact ne rfl
      · rw [List.getElem?_set_self (by omega)] at e1
        rw [List.getElem?_set_ne (Ne.symm hk)] at e2
        cases e1
        subst z1
        cases b with
        | true => exact t
        | false =>
          obtain ⟨a', e, _, _, _, z⟩ := t
          cases e
          exact z k c n q2' e2
    · rw [List.getElem?_set_ne (Ne.symm hj)] at e1
      rcases back q2 with ⟨rfl, hl, z1⟩ | ⟨hk, q2'⟩
      · rw [List.getElem?_set_self (by omega)] at e2
        cases e2
        subst z1
        cases c with
        | true => exact t
        | false =>
          obtain ⟨a', e, _, _, _, z⟩ := t
          cases e
          exact z j b m q1' e1
      · rw [List.getElem?_set_ne (Ne.symm hk)] at e2
        exact R.dist j k b c m n a ne q1' q2' e1 e2
/-- what is one's own is changed -/
theorem Rel.mut {K : KF} {C : Cn} {I H : Hp} {r : Env} {s : St} {i : Nat} {a : Addr} {b : Bool} {m m' : MO} {o : HO} (R : Rel K C I H r s) (h : r[i]? = some (some (.own b m))) (hs : s[i]? = some (some (.ref a)))
    (q : MRel K I (upd H a o) a m') : Rel K C I (upd H a o) (r.set i (some (.own b m'))) s := by
  have hi : i < r.length := (List.getElem?_eq_some_iff.mp h).1
  obtain ⟨v, hv, z⟩ := R.slot i _ h
  rw [hs] at hv
  cases hv
  obtain ⟨a', e, n, q0, w⟩ := own_nz z
  cases e
  obtain ⟨u, hu⟩ := mrel_some q0
  have back : ∀ {j : Nat} {y : S}, (r.set i (some (.own b m')))[j]? = some (some y) → (j = i ∧ y = .own b m') ∨ (j ≠ i ∧ r[j]? = some (some y)) := fun {j y} q => by
    by_cases hj : j = i
    · subst hj
      rw [List.getElem?_set_self hi] at q
      cases q
      exact .inl ⟨rfl, rfl⟩
    · rw [List.getElem?_set_ne (Ne.symm hj)] at q
      exact .inr ⟨hj, q⟩
  refine ⟨by rw [List.length_set]; exact R.len, fun c u e => ?_, R.mono, fun c u e nc => ?_, fun c e => ?_, R.bo, R.iot, R.fresh, fun j y q2 => ?_, fun j k b1 c1 m1 n1 a1 ne q1 q2 e1 e2 => ?_⟩
  · rw [upd_ne (ne_of_none e n)]
    exact R.sub c u e
  · have hc : c ≠ a := by
      rintro rfl
      rcases w with ⟨_, w⟩ | ⟨_, w⟩
      · exact nc i w
      · rw [w] at e
        cases e
    rw [upd_ne hc]
    exact R.keep c u e nc
  · by_cases hc : c = a
    · subst hc
      rw [upd_same] at e
      cases e
    · rw [upd_ne hc] at e
      exact R.dom c e
  · rcases back q2 with ⟨rfl, rfl⟩ | ⟨hj, q2⟩
    · exact ⟨_, hs, own_mk rfl n q w⟩
    · obtain ⟨w1, h1, h2⟩ := R.slot j y q2
      refine ⟨w1, h1, srel_up (Same.refl I) h2 fun b1 m1 c ey ew nc _ => ⟨nc, ?_⟩⟩
      refine upd_ne ?_
      rintro rfl
      subst ey ew
      exact R.dist j i _ _ _ _ _ hj q2 h h1 hs
  · rcases back q1 with ⟨rfl, z1⟩ | ⟨hj, q1'⟩
    · cases z1
      rcases back q2 with ⟨rfl, _⟩ | ⟨hk, q2'⟩
      · exact ne rfl
      · exact R.dist j k _ _ _ _ a1 ne h q2' e1 e2
    · rcases back q2 with ⟨rfl, z2⟩ | ⟨hk, q2'⟩
      · cases z2
        exact R.dist j k _ _ _ _ a1 ne q1' h e1 e2
      · exact R.dist j k _ _ _ _ a1 ne q1' q2' e1 e2
end DL
namespace DL
open PySem L2
/-! ### small steps of what is computed -/
def eb {α β : Type} (a : EF α) (k : α → EF β) : EF β := fun r => match a r with
  | some (.ok x, r1) => k x r1
  | some (.ex x, r1) => some (.ex x, r1)
  | none => none
def er {α : Type} (x : α) : EF α := fun r => some (.ok x, r)
theorem eb_inv {α β : Type} {a : EF α} {k : α → EF β} {r r' : Env} {o : R β} (e : eb a k r = some (o, r')) :
    (∃ x r1, a r = some (.ok x, r1) ∧ k x r1 = some (o, r')) ∨ ∃ x, a r = some (.ex x, r') ∧ o = .ex x := by
  unfold eb at e
  split at e
  · rename_i x r1 h
    exact .inl ⟨x, r1, h, e⟩
  · rename_i x r1 h
    cases e
    exact .inr ⟨x, h, rfl⟩
  · cases e
inductive Od where
  | sl (i : Nat)
  | ex (f : EF D)
inductive Ov where
  | sl (i : Nat)
  | d (x : D)
def evO : List Od → EF (List Ov)
  | [] => er []
  | .sl i :: t => fun r => match r[i]? with
    | some (some _) => eb (evO t) (fun os => er (.sl i :: os)) r
    | _ => none
  | .ex f :: t => eb f fun d => eb (evO t) fun os => er (.d d :: os)
/-- what is read at a slot -/
def rdS (r : Env) (i : Nat) : Option S := match r[i]? with
  | some (some (.d x)) => some (.d x)
  | some (some (.bor m)) => some (.bor m)
  | some (some (.own _ m)) => some (.bor m)
  | _ => none
def Ov.get (r : Env) : Ov → Option S
  | .d x => some (.d x)
  | .sl i => rdS r i
def getAll (r : Env) : List Ov → Option (List S)
  | [] => some []
  | o :: t => match o.get r, getAll r t with
    | some x, some xs => some (x :: xs)
    | _, _ => none
/-- an operation on what some operands give -/
def dApp (ods : List Od) (op : List S → Option S) : EF S := eb (evO ods) fun os r => match getAll r os with
  | some ss => match op ss with
    | some x => some (.ok x, r)
    | none => none
  | none => none
/-- what was just made is made data -/
def dd (f : EF S) : EF D := eb f fun x r => match x with
  | .d x => some (.ok x, r)
  | .own false (.lst xs) => some (.ok (.list xs), r)
  | _ => none
def ds (f : EF D) : EF S := eb f fun x => er (.d x)
/-! ### the readings -/
section
variable (K : KF) (mg : MG) (W : WX)
def tE (f : EF S) : TE := fun s H Q => ∃ C I r o r', Rel K C I H r s ∧ f r = some (o, r') ∧ match o with
  | .ok x => ∀ v I' H', Rel K C I' H' r' s → Same I I' → TRel K C I' H' r' s v x → Q v H'
  | .ex x => ∀ c dx I' H', Rel K C I' H' r' s → Same I I' → XRel K mg I' H' c dx x → W c dx s H'
def tD (f : EF D) : TE := fun s H Q => ∃ C I r o r', Rel K C I H r s ∧ f r = some (o, r') ∧ match o with
  | .ok x => ∀ v I' H', Rel K C I' H' r' s → Same I I' → Dp K I' v x → Q v H'
  | .ex x => ∀ c dx I' H', Rel K C I' H' r' s → Same I I' → XRel K mg I' H' c dx x → W c dx s H'
def tT (f : EF Bool) : TT := fun s H Q => ∃ C I r o r', Rel K C I H r s ∧ f r = some (o, r') ∧ match o with
  | .ok x => ∀ I' H', Rel K C I' H' r' s → Same I I' → Q x H'
  | .ex x => ∀ c dx I' H', Rel K C I' H' r' s → Same I I' → XRel K mg I' H' c dx x → W c dx s H'
def tOd : Od → TE
  | .sl i => tVar i
  | .ex f => tD K mg W f
def tOds : List Od → TA
  | [] => tNil
  | o :: t => tCons (tOd K mg W o) (tOds t)
end
abbrev DE (X : Cx) (W : WX) (e : Expr) (f : EF S) : Prop := PE X e (tE X.K X.mg W f)
abbrev DD (X : Cx) (W : WX) (e : Expr) (f : EF D) : Prop := PE X e (tD X.K X.mg W f)
abbrev DT (X : Cx) (W : WX) (e : Expr) (f : EF Bool) : Prop := PT X e (tT X.K X.mg W f)
abbrev DO (X : Cx) (W : WX) (e : Expr) (o : Od) : Prop := PE X e (tOd X.K X.mg W o)
abbrev DA (X : Cx) (W : WX) (es : List Expr) (os : List Od) : Prop := PA X es (tOds X.K X.mg W os)
theorem pe_of {X : Cx} {e : Expr} {t t' : TE} (h : PE X e t) (w : ∀ s H Q, t' s H Q → t s H Q) : PE X e t' := ⟨fun pins s σ H Q I q => h.run pins s σ H Q I (w _ _ _ q)⟩
theorem pt_of {X : Cx} {e : Expr} {t t' : TT} (h : PT X e t) (w : ∀ s H Q, t' s H Q → t s H Q) : PT X e t' := ⟨fun pins s σ H Q I q => h.run pins s σ H Q I (w _ _ _ q)⟩
theorem ps_of {X : Cx} {e : Stmt} {t t' : TS} (h : PS X e t) (w : ∀ D s H, t' D s H → t D s H) : PS X e t' := ⟨fun pins s σ H Q I q => h.run pins s σ H Q I (w _ _ _ q)⟩
theorem pss_of {X : Cx} {e : List Stmt} {t t' : TS} (h : PSs X e t) (w : ∀ D s H, t' D s H → t D s H) : PSs X e t' := ⟨fun pins s σ H Q I q => h.run pins s σ H Q I (w _ _ _ q)⟩
section
variable {K : KF} {mg : MG} {W : WX} {C : Cn} {I H : Hp} {r : Env} {s : St}
/-! ### made data -/
theorem dd_ok {f : EF S} {Q : VK} (h : tD K mg W (dd f) s H Q) : tE K mg W f s H Q := by
  obtain ⟨C, I, r, o, r', R, e, q⟩ := h
  rcases eb_inv e with ⟨x, r1, hf, e⟩ | ⟨x, hf, rfl⟩
  · refine ⟨C, I, r, _, _, R, hf, fun v I' H' R' s' t => ?_⟩
    cases x with
    | d x =>
      cases e
      exact q v I' H' R' s' t
    | bor m => exact t.elim
    | own b m =>
      cases b with
      | true => exact t.elim
      | false =>
        cases m with
        | lst xs =>
          cases e
          obtain ⟨I2, R2, s2, p⟩ := R'.freeze t
          exact q v I2 H' R2 (s'.trans s2) p
        | dic xs => cases e
        | dit xs => cases e
  · exact ⟨C, I, r, _, _, R, hf, q⟩
theorem ds_ok {f : EF D} {Q : VK} (h : tE K mg W (ds f) s H Q) : tD K mg W f s H Q := by
  obtain ⟨C, I, r, o, r', R, e, q⟩ := h
  rcases eb_inv e with ⟨x, r1, hf, e⟩ | ⟨x, hf, rfl⟩
  · cases e
    exact ⟨C, I, r, _, _, R, hf, fun v I' H' R' s' t => q v I' H' R' s' t⟩
  · exact ⟨C, I, r, _, _, R, hf, q⟩
/-! ### operands -/
def OvRel (K : KF) (I : Hp) (s : St) (v : V) : Ov → Prop
  | .sl i => s[i]? = some (some v)
  | .d x => Dp K I v x
inductive OvAll (K : KF) (I : Hp) (s : St) : List V → List Ov → Prop
  | nil : OvAll K I s [] []
  | cons {v : V} {vs : List V} {o : Ov} {os : List Ov} : OvRel K I s v o → OvAll K I s vs os → OvAll K I s (v :: vs) (o :: os)
theorem ovRel_up {I J : Hp} (g : Same I J) {v : V} {o : Ov} (h : OvRel K I s v o) : OvRel K J s v o := by
  cases o with
  | sl i => exact h
  | d x => exact dp_up g _ _ h
theorem ovAll_up {I J : Hp} (g : Same I J) : ∀ {vs : List V} {os : List Ov}, OvAll K I s vs os → OvAll K J s vs os
  | _, _, .nil => .nil
  | _, _, .cons a b => .cons (ovRel_up g a) (ovAll_up g b)
theorem evO_ok : ∀ (ods : List Od) {I H : Hp} {r r' : Env} {o : R (List Ov)} (A : Rel K C I H r s) (e : evO ods r = some (o, r')) {Q : List V → Hp → Prop}
    (q : match o with
      | .ok os => ∀ vs I' H', Rel K C I' H' r' s → Same I I' → OvAll K I' s vs os → Q vs H'
      | .ex x => ∀ c dx I' H', Rel K C I' H' r' s → Same I I' → XRel K mg I' H' c dx x → W c dx s H'), tOds K mg W ods s H Q
  | [], I, H, r, r', o, A, e, Q, q => by
    cases e
    exact q [] I H A (Same.refl I) .nil
  | .sl i :: t, I, H, r, r', o, A, e, Q, q => by
    unfold evO at e
    split at e
    · rename_i y hr
      obtain ⟨v, hv, _⟩ := A.slot i y hr
      refine ⟨v, hv, ?_⟩
      rcases eb_inv e with ⟨os, r1, ht, e⟩ | ⟨x, ht, rfl⟩
      · cases e
        exact evO_ok t A ht (fun vs I' H' R' g a => q (v :: vs) I' H' R' g (.cons hv a))
      · exact evO_ok t A ht q
    · cases e
  | .ex f :: t, I, H, r, r', o, A, e, Q, q => by
    unfold evO at e
    rcases eb_inv e with ⟨d, r1, hf, e⟩ | ⟨x, hf, rfl⟩
    · refine ⟨C, I, r, _, _, A, hf, fun v I1 H1 R1 g1 p1 => ?_⟩
      rcases eb_inv e with ⟨os, r2, ht, e⟩ | ⟨x, ht, rfl⟩
      · cases e
        exact evO_ok t R1 ht (fun vs I' H' R' g a => q (v :: vs) I' H' R' (g1.trans g) (.cons (dp_up g _ _ p1) a))
      · exact evO_ok t R1 ht (fun c dx I' H' R' g => q c dx I' H' R' (g1.trans g))
    · exact ⟨C, I, r, _, _, A, hf, q⟩
/-- what an operation reads -/
def ARel (K : KF) (I H : Hp) (v : V) : S → Prop
  | .d x => Dp K I v x
  | .bor m => ∃ a, v = .ref a ∧ MRel K I H a m
  | .own _ _ => False
inductive AAll (K : KF) (I H : Hp) : List V → List S → Prop
  | nil : AAll K I H [] []
  | cons {v : V} {vs : List V} {x : S} {xs : List S} : ARel K I H v x → AAll K I H vs xs → AAll K I H (v :: vs) (x :: xs)
theorem mrel_keep {C : Cn} (R : Rel K C I H r s) {a : Addr} {m : MO} (n : ∀ j, C.io j ≠ some a) (h : MRel K C.I0 C.H0 a m) : MRel K I H a m := mrel_same R.mono (fun o e => R.keep a o e n) h
theorem get_ok (R : Rel K C I H r s) {v : V} {o : Ov} {x : S} (h : OvRel K I s v o) (e : o.get r = some x) : ARel K I H v x := by
  cases o with
  | d d =>
    cases e
    exact h
  | sl i =>
    have h' : s[i]? = some (some v) := h
    have e : rdS r i = some x := e
    unfold rdS at e
    split at e
    · rename_i d hr
      obtain ⟨w, hw, q⟩ := R.slot i _ hr
      rw [hw] at h'
      cases h'
      cases e
      exact q
    · rename_i m hr
      obtain ⟨w, hw, q⟩ := R.slot i _ hr
      rw [hw] at h'
      cases h'
      cases e
      obtain ⟨a, e1, _, n, m⟩ := q
      exact ⟨a, e1, mrel_keep R n m⟩
    · rename_i b m hr
      obtain ⟨w, hw, q⟩ := R.slot i _ hr
      rw [hw] at h'
      cases h'
      cases e
      obtain ⟨a, e1, _, m, _⟩ := own_nz q
      exact ⟨a, e1, m⟩
    · cases e
theorem getAll_ok (R : Rel K C I H r s) : ∀ {vs : List V} {os : List Ov} {xs : List S}, OvAll K I s vs os → getAll r os = some xs → AAll K I H vs xs
  | _, _, xs, .nil, e => by
    cases e
    exact .nil
  | _, _, xs, .cons (o := o) (os := os) a b, e => by
    unfold getAll at e
    split at e
    · rename_i x ys h1 h2
      cases e
      exact .cons (get_ok R a h1) (getAll_ok R b h2)
    · cases e
/-- what an operation on values is to do -/
def rApp (K : KF) (op : List S → Option S) : List V → Hp → VK → Prop := fun vs H Q => ∃ I ss x, Same I H ∧ AAll K I H vs ss ∧ op ss = some x ∧ ∀ v I' H', Grow I H I' H' → NewS K I H v I' H' x → Q v H'
/-- what is computed of some operands -/
theorem app_inv {ods : List Od} {op : List S → Option S} {r r' : Env} {o : R S} (e : dApp ods op r = some (o, r')) :
    (∃ os ss x, evO ods r = some (.ok os, r') ∧ getAll r' os = some ss ∧ op ss = some x ∧ o = .ok x) ∨ ∃ x, evO ods r = some (.ex x, r') ∧ o = .ex x := by
  rcases eb_inv e with ⟨os, r1, ho, e⟩ | ⟨x, ho, rfl⟩
  · split at e
    · rename_i ss h1
      split at e
      · rename_i x h2
        cases e
        exact .inl ⟨os, ss, x, ho, h1, h2, rfl⟩
      · cases e
    · cases e
  · exact .inr ⟨x, ho, rfl⟩
theorem app_gen {ods : List Od} {op : List S → Option S} {Q : VK} (h : tE K mg W (dApp ods op) s H Q) {P : List V → Hp → Prop}
    (p : ∀ C I r vs ss x H', Rel K C I H' r s → AAll K I H' vs ss → op ss = some x → (∀ v I2 H2, Grow I H' I2 H2 → NewS K I H' v I2 H2 x → Q v H2) → P vs H') : tOds K mg W ods s H P := by
  obtain ⟨C, I, r, o, r', R, e, q⟩ := h
  rcases app_inv e with ⟨os, ss, x, ho, hg, hx, rfl⟩ | ⟨x, ho, rfl⟩
  · exact evO_ok ods R ho fun vs I' H' R' g a => p C I' r' vs ss x H' R' (getAll_ok R' a hg) hx fun v I2 H2 gr n => q v I2 H2 (R'.grow gr) (g.trans gr.i) (R'.newS gr n)
  · exact evO_ok ods R ho q
theorem app_ok {ods : List Od} {op : List S → Option S} {Q : VK} (h : tE K mg W (dApp ods op) s H Q) : tOds K mg W ods s H fun vs H1 => rApp K op vs H1 Q :=
  app_gen h fun _ I _ _ ss x _ R a hx q => ⟨I, ss, x, R.sub, a, hx, q⟩
end
/-! ### the rules for what is made of operands -/
section
variable {X : Cx} {W : WX} {a b : Expr} {es : List Expr} {oa ob : Od} {os : List Od} {pos : Pos}
theorem do_d {f : EF D} (h : DD X W a f) : DO X W a (.ex f) := h
theorem dd_e {f : EF S} (h : DE X W a f) : DD X W a (dd f) := pe_of h fun _ _ _ q => dd_ok q
theorem de_d {f : EF D} (h : DD X W a f) : DE X W a (ds f) := pe_of h fun _ _ _ q => ds_ok q
theorem da_nil : DA X W [] [] := pa_nil
theorem da_cons (h : DO X W a oa) (t : DA X W es os) (hs : starEach (a :: es) X.env = (false, eval a X.env) :: starEach es X.env := by rfl) : DA X W (a :: es) (oa :: os) := pa_cons h t hs
def OpD (X : Cx) (f : Value → Value → Sem Value) (op : List S → Option S) : Prop := OpR X f fun x y H Q => rApp X.K op [x, y] H Q
def UnD (X : Cx) (f : Value → Sem Value) (op : List S → Option S) : Prop := UnR X f fun x H Q => rApp X.K op [x] H Q
abbrev CallD (X : Cx) (f : Value) (op : List S → Option S) : Prop := CallR X f (rApp X.K op)
theorem de_op {op : Operator} {f : List S → Option S} (ho : OpD X (binaryOp op) f) (ha : DO X W a oa) (hb : DO X W b ob) : DE X W (.BinOp a op b pos) (dApp [oa, ob] f) :=
  pe_of (pe_op ho ha hb) fun _ _ _ q => app_ok (ods := [oa, ob]) q
theorem de_un {op : UnaryOp} {f : List S → Option S} (ho : UnD X (unaryOp op) f) (ha : DO X W a oa) : DE X W (.UnaryOp op a pos) (dApp [oa] f) :=
  pe_of (pe_un ho ha) fun _ _ _ q => app_ok (ods := [oa]) q
theorem de_cmp {op : CmpOp} {f : List S → Option S} (ho : OpD X (compareOp op) f) (ha : DO X W a oa) (hb : DO X W b ob) (hm : behindInMarks op b = false) : DE X W (.Compare a [op] [b] pos) (dApp [oa, ob] f) :=
  pe_of (pe_cmpR ho ha hb hm) fun _ _ _ q => app_ok (ods := [oa, ob]) q
theorem de_ix {f : List S → Option S} (ho : IxR X fun x y H Q => rApp X.K f [x, y] H Q) (ha : DO X W a oa) (hb : DO X W b ob) (hs : PlainIx b) : DE X W (.Subscript a b pos) (dApp [oa, ob] f) :=
  pe_of (pe_ix ho ha hb hs) fun _ _ _ q => app_ok (ods := [oa, ob]) q
theorem de_callB {x : Str} {p : Pos} {id : String} {f : List S → Option S} (hc : CallD X (.builtin id) f) (hg : Gl X x) (hm : X.mg x = none) (hv : bootBuiltins x = some (.builtin id)) (ha : DA X W (a :: es) os) (hn : x ≠ "__name__" := by decide) (hdb : (x == ("__debug__" : Str)) = false := by decide)
    (he : starEach (a :: es) X.env = (false, eval a X.env) :: starEach es X.env := by rfl) (hpl : (backTo pos (starEach es X.env)).any (·.1) = false := by rfl) : DE X W (.Call (.Name x p) (a :: es) [] pos) (dApp os f) :=
  pe_of (pe_callB hc hg hm hv ha hn hdb he hpl) fun _ _ _ q => app_ok q
theorem de_callT {x : Str} {p : Pos} {id : String} {f : List S → Option S} (hc : CallD X (.type id) f) (hg : Gl X x) (hm : X.mg x = none) (hv : bootBuiltins x = some (.type id)) (ha : DA X W (a :: es) os) (hn : x ≠ "__name__" := by decide) (hdb : (x == ("__debug__" : Str)) = false := by decide)
    (he : starEach (a :: es) X.env = (false, eval a X.env) :: starEach es X.env := by rfl) (hpl : (backTo pos (starEach es X.env)).any (·.1) = false := by rfl) : DE X W (.Call (.Name x p) (a :: es) [] pos) (dApp os f) :=
  pe_of (pe_callTy hc hg hm hv ha hn hdb he hpl) fun _ _ _ q => app_ok q
/-- (a, b, ..), [a, b, ..] -/
def datas : List S → Option (List D)
  | [] => some []
  | .d x :: t => (datas t).map (x :: ·)
  | _ :: _ => none
theorem datas_ok {K : KF} {I H : Hp} : ∀ {vs : List V} {ss : List S} {xs : List D}, AAll K I H vs ss → datas ss = some xs → DpAll K I vs xs
  | _, _, _, .nil, e => by cases e; exact .nil
  | _, _, _, .cons (x := x) (xs := ss) a b, e => by
    cases x with
    | d d =>
      unfold datas at e
      obtain ⟨ys, h1, h2⟩ := Option.map_eq_some_iff.mp e
      subst h2
      exact .cons a (datas_ok b h1)
    | bor m => cases e
    | own b m => cases e
def opTup (ss : List S) : Option S := (datas ss).bind fun xs => if xs.length ≤ 16777216 then some (.d (.tuple xs)) else none
def opLst (ss : List S) : Option S := (datas ss).bind fun xs => if xs.length ≤ 16777216 then some (.own false (.lst xs)) else none
theorem de_tup {k : Nat} (ha : DA X W es os) : DE X W (.Tuple es k pos) (dApp os opTup) :=
  pe_of (pe_tup ha) fun s H Q q => app_gen q fun C I r vs ss x H' R a hx q => by
    unfold opTup at hx
    obtain ⟨xs, hd, hx⟩ := Option.bind_eq_some_iff.mp hx
    split at hx
    · rename_i hl
      cases hx
      have pa := datas_ok a hd
      refine ⟨by rw [dpa_len pa, sizeLine_eq]; exact hl, fun p hp => ?_⟩
      have gr := grow_tup (o := .tup vs) R.sub hp
      exact q (.ref p) _ _ gr (.tup (Or.inl (Or.inl upd_same)) (dpa_up gr.i _ _ pa))
    · cases hx
theorem de_lst (ha : DA X W es os) : DE X W (.List es pos) (dApp os opLst) :=
  pe_of (pe_lst ha) fun s H Q q => app_gen q fun C I r vs ss x H' R a hx q => by
    unfold opLst at hx
    obtain ⟨xs, hd, hx⟩ := Option.bind_eq_some_iff.mp hx
    split at hx
    · rename_i hl
      cases hx
      have pa := datas_ok a hd
      refine ⟨by rw [dpa_len pa, sizeLine_eq]; exact hl, fun p hp => ?_⟩
      have gr := grow_own (o := .lst vs) R.sub hp
      exact q (.ref p) _ _ gr ⟨p, rfl, hp, R.sub.free hp, vs, upd_same, pa⟩
    · cases hx
/-! ### names, constants -/
/-- a name's data; a list of one's own is made data -/
def dVar (i : Nat) : EF D := fun r => match r[i]? with
  | some (some (.d x)) => some (.ok x, r)
  | some (some (.own false (.lst xs))) => some (.ok (.list xs), r.set i (some (.d (.list xs))))
  | _ => none
def dC (x : D) : EF D := er x
theorem var_ok {K : KF} {mg : MG} {s : L2.St} {H : Hp} {i : Nat} {Q : VK} (h : tD K mg W (dVar i) s H Q) : tVar i s H Q := by
  obtain ⟨C, I, r, o, r', R, e, q⟩ := h
  unfold dVar at e
  split at e
  · rename_i x hr
    cases e
    obtain ⟨v, hv, p⟩ := R.slot i _ hr
    exact ⟨v, hv, q v I H R (Same.refl I) p⟩
  · rename_i xs hr
    cases e
    obtain ⟨I', v, hv, R', g, p⟩ := R.freezeSlot hr
    exact ⟨v, hv, q v I' H R' g p⟩
  · cases e
theorem dd_var {i : Nat} {x : Str} (h : PE X (.Name x pos) (tVar i)) : DD X W (.Name x pos) (dVar i) := pe_of h fun _ _ _ q => var_ok q
theorem do_var {i : Nat} {x : Str} (h : PE X (.Name x pos) (tVar i)) : DO X W (.Name x pos) (.sl i) := h
theorem c_ok {K : KF} {mg : MG} {s : St} {H : Hp} {v : V} {d : D} {Q : VK} (p : ∀ I, Dp K I v d) (h : tD K mg W (dC d) s H Q) : tC v s H Q := by
  obtain ⟨C, I, r, o, r', R, e, q⟩ := h
  cases e
  exact q v I H R (Same.refl I) (p I)
theorem dd_c {v : V} {d : D} (h : PE X a (tC v)) (p : ∀ I, Dp X.K I v d) : DD X W a (dC d) := pe_of h fun _ _ _ q => c_ok p q
theorem dd_int {i : Int} {j : Nat} : DD X W (.Constant (.int i) j pos) (dC (.int i)) := dd_c pe_int fun _ => .int i
theorem dd_bl {b : Bool} {j : Nat} : DD X W (.Constant (.bool b) j pos) (dC (.bool b)) := dd_c pe_bl fun _ => .bl b
theorem dd_non {j : Nat} : DD X W (.Constant .none j pos) (dC .none) := dd_c pe_non fun _ => .non
theorem dd_str {x : Str} {j : Nat} : DD X W (.Constant (.str x) j pos) (dC (.str x)) := dd_c pe_str fun _ => .str x
/-- a constant of the module -/
theorem dd_gint {x : Str} {i : Int} {t : Tok} (hg : Gl X x) (hm : X.mg x = some (.int i t)) (hd : (x == ("__debug__" : Str)) = false := by decide) : DD X W (.Name x pos) (dC (.int i)) := dd_c (v := .int i) (pe_glob hg hm ⟨t, rfl⟩ hd) fun _ => .int i
theorem dd_gstr {x z : Str} {t : Tok} (hg : Gl X x) (hm : X.mg x = some (.str z t)) (hd : (x == ("__debug__" : Str)) = false := by decide) : DD X W (.Name x pos) (dC (.str z)) := dd_c (v := .str z) (pe_glob hg hm ⟨t, rfl⟩ hd) fun _ => .str z
end
end DL
namespace DL
open PySem L2
/-! ### statements -/
inductive O where
  | nx | bk | ct
  | rt (x : S)
  | ex (x : Exc)
abbrev SM := Env → Option (O × Env)
section
variable (K : KF) (mg : MG) (W : WX)
def SPost (C : Cn) (D : Ends) (I : Hp) (o : O) (r' : Env) : Prop := match o with
  | .nx => ∀ s' I' H', Rel K C I' H' r' s' → Same I I' → D.nx s' H'
  | .bk => ∀ s' I' H', Rel K C I' H' r' s' → Same I I' → D.bk s' H'
  | .ct => ∀ s' I' H', Rel K C I' H' r' s' → Same I I' → D.ct s' H'
  | .rt x => ∀ v s' I' H', Rel K C I' H' r' s' → Same I I' → TRel K C I' H' r' s' v x → D.rt v H'
  | .ex x => ∀ c dx s' I' H', Rel K C I' H' r' s' → Same I I' → XRel K mg I' H' c dx x → W c dx s' H'
def tS (g : SM) : TS := fun D s H => ∃ C I r o r', Rel K C I H r s ∧ g r = some (o, r') ∧ SPost K mg W C D I o r'
end
abbrev DS (X : Cx) (W : WX) (st : Stmt) (g : SM) : Prop := PS X st (tS X.K X.mg W g)
abbrev DSs (X : Cx) (W : WX) (st : List Stmt) (g : SM) : Prop := PSs X st (tS X.K X.mg W g)
theorem spost_up {K : KF} {mg : MG} {W : WX} {C : Cn} {D : Ends} {I J : Hp} {o : O} {r : Env} (g : Same I J) (h : SPost K mg W C D I o r) : SPost K mg W C D J o r := by
  cases o with
  | nx => exact fun s' I' H' R s1 => h s' I' H' R (g.trans s1)
  | bk => exact fun s' I' H' R s1 => h s' I' H' R (g.trans s1)
  | ct => exact fun s' I' H' R s1 => h s' I' H' R (g.trans s1)
  | rt x => exact fun v s' I' H' R s1 => h v s' I' H' R (g.trans s1)
  | ex x => exact fun c dx s' I' H' R s1 => h c dx s' I' H' R (g.trans s1)
def sPass : SM := fun r => some (.nx, r)
def sBreak : SM := fun r => some (.bk, r)
def sCont : SM := fun r => some (.ct, r)
def sb (a b : SM) : SM := fun r => match a r with
  | some (.nx, r1) => b r1
  | z => z
theorem sb_inv {a b : SM} {r r' : Env} {o : O} (e : sb a b r = some (o, r')) : (∃ r1, a r = some (.nx, r1) ∧ b r1 = some (o, r')) ∨ (a r = some (o, r') ∧ o ≠ .nx) := by
  unfold sb at e
  split at e
  · rename_i r1 h
    exact .inl ⟨r1, h, e⟩
  · rename_i z h
    refine .inr ⟨e, fun q => ?_⟩
    subst q
    exact h _ e
/-- a statement that uses what an expression gives -/
def sx {α : Type} (f : EF α) (k : α → SM) : SM := fun r => match f r with
  | some (.ok x, r1) => k x r1
  | some (.ex x, r1) => some (.ex x, r1)
  | none => none
theorem sx_inv {α : Type} {f : EF α} {k : α → SM} {r r' : Env} {o : O} (e : sx f k r = some (o, r')) : (∃ x r1, f r = some (.ok x, r1) ∧ k x r1 = some (o, r')) ∨ ∃ x, f r = some (.ex x, r') ∧ o = .ex x := by
  unfold sx at e
  split at e
  · rename_i x r1 h
    exact .inl ⟨x, r1, h, e⟩
  · rename_i x r1 h
    cases e
    exact .inr ⟨x, h, rfl⟩
  · cases e
def sAsg (i : Nat) (f : EF S) : SM := sx f fun x r => some (.nx, r.set i (some x))
def sRet (f : EF S) : SM := sx f fun x r => some (.rt x, r)
def sRetN : SM := fun r => some (.rt (.d .none), r)
def sDrop (f : EF S) : SM := sx f fun _ r => some (.nx, r)
def sIf (c : EF Bool) (a b : SM) : SM := sx c fun k => if k = true then a else b
section
variable {X : Cx} {W : WX} {st : Stmt} {rest : List Stmt} {e : Expr} {pos : Pos} {a b : SM}
theorem dss_nil : DSs X W [] sPass := pss_of pss_nil fun D s H ⟨C, I, r, o, r', R, e, q⟩ => by
  cases e
  exact q s I H R (Same.refl I)
theorem dss_one (h : DS X W st a) : DSs X W [st] a := pss_one h
theorem dss_cons (h1 : DS X W st a) (h2 : DSs X W rest b) : DSs X W (st :: rest) (sb a b) := pss_of (pss_cons h1 h2) fun D s H ⟨C, I, r, o, r', R, e, q⟩ => by
  rcases sb_inv e with ⟨r1, e1, e2⟩ | ⟨e1, n⟩
  · exact ⟨C, I, r, .nx, r1, R, e1, fun s' I' H' R' g => ⟨C, I', r1, o, r', R', e2, spost_up g q⟩⟩
  · refine ⟨C, I, r, o, r', R, e1, ?_⟩
    cases o with
    | nx => exact absurd rfl n
    | bk => exact q
    | ct => exact q
    | rt x => exact q
    | ex x => exact q
theorem ds_pass : DS X W (.Pass pos) sPass := ps_of ps_pass fun D s H ⟨C, I, r, o, r', R, e, q⟩ => by
  cases e
  exact q s I H R (Same.refl I)
theorem ds_break : DS X W (.Break pos) sBreak := ps_of ps_break fun D s H ⟨C, I, r, o, r', R, e, q⟩ => by
  cases e
  exact q s I H R (Same.refl I)
theorem ds_cont : DS X W (.Continue pos) sCont := ps_of ps_continue fun D s H ⟨C, I, r, o, r', R, e, q⟩ => by
  cases e
  exact q s I H R (Same.refl I)
theorem ds_doc {x : Str} {j : Nat} {p : Pos} : DS X W (.Expr (.Constant (.str x) j p) pos) sPass := ps_of ps_doc fun D s H ⟨C, I, r, o, r', R, e, q⟩ => by
  cases e
  exact q s I H R (Same.refl I)
/-- an expression's reading within a statement's -/
theorem tE_sx {K : KF} {mg : MG} {f : EF S} {k : S → SM} {D : Ends} {s : L2.St} {H : Hp} (h : tS K mg W (sx f k) D s H) {P : VK}
    (p : ∀ C I H' r r' o x v, Rel K C I H' r s → TRel K C I H' r s v x → k x r = some (o, r') → SPost K mg W C D I o r' → P v H') : tE K mg W f s H P := by
  obtain ⟨C, I, r, o, r', R, e, q⟩ := h
  rcases sx_inv e with ⟨x, r1, hf, e⟩ | ⟨x, hf, rfl⟩
  · exact ⟨C, I, r, _, _, R, hf, fun v I' H' R' g t => p C I' H' r1 r' o x v R' t e (spost_up g q)⟩
  · exact ⟨C, I, r, _, _, R, hf, fun c dx I' H' R' g t => q c dx s I' H' R' g t⟩
theorem tT_sx {K : KF} {mg : MG} {f : EF Bool} {k : Bool → SM} {D : Ends} {s : L2.St} {H : Hp} (h : tS K mg W (sx f k) D s H) {P : Bool → Hp → Prop}
    (p : ∀ x H', tS K mg W (k x) D s H' → P x H') : tT K mg W f s H P := by
  obtain ⟨C, I, r, o, r', R, e, q⟩ := h
  rcases sx_inv e with ⟨x, r1, hf, e⟩ | ⟨x, hf, rfl⟩
  · exact ⟨C, I, r, _, _, R, hf, fun I' H' R' g => p x H' ⟨C, I', r1, o, r', R', e, spost_up g q⟩⟩
  · exact ⟨C, I, r, _, _, R, hf, fun c dx I' H' R' g t => q c dx s I' H' R' g t⟩
theorem ds_asg {f : EF S} {i : Nat} {x : Str} {p : Pos} (h : DE X W e f) (hN : X.N.Nodup) (hi : X.N[i]? = some x) (hx : Loc X.env.scope x) (hf : X.fn x = true ∨ X.env.scope.names.lookup x = some .local := by first | exact .inl rfl | exact .inr rfl | assumption)
    (hs : swapsWithSole [.Name x p] e pos.line X.env = pure false := by rfl) (hw : swappedStores [.Name x p] e X.env = pure none := by rfl) (h1 : (assignEach [.Name x p] X.env).map (·.2) = [assign (.Name x p) X.env] := by rfl) :
    DS X W (.Assign [.Name x p] e pos) (sAsg i f) :=
  ps_of (ps_asg h (pg_name hN hi hx hf) hs hw h1) fun D s H q => tE_sx q fun C I H' r r' o x v R t e q => by
    cases e
    exact q _ I H' (R.put t) (Same.refl I)
theorem ds_ret {f : EF S} (h : DE X W e f) : DS X W (.Return (some e) pos) (sRet f) :=
  ps_of (ps_ret h) fun D s H q => tE_sx q fun C I H' r r' o x v R t e q => by
    cases e
    exact q v _ I H' R (Same.refl I) t
theorem ds_retN : DS X W (.Return none pos) sRetN := ps_of ps_retN fun D s H ⟨C, I, r, o, r', R, e, q⟩ => by
  cases e
  exact q .non s I H R (Same.refl I) .non
theorem ds_expr {f : EF S} (h : DE X W e f) (hs : swapsWith e none pos.line X.env = pure false := by rfl) : DS X W (.Expr e pos) (sDrop f) :=
  ps_of (ps_expr h hs) fun D s H q => tE_sx q fun C I H' r r' o x v R t e q => by
    cases e
    exact q _ I H' R (Same.refl I)
theorem ds_if {f : EF Bool} {ta tb : List Stmt} {c : Expr} (hc : DT X W c f) (ha : DSs X W ta a) (hb : DSs X W tb b) : DS X W (.If c ta tb pos) (sIf f a b) :=
  ps_of (ps_if hc ha hb) fun D s H q => tT_sx q fun k H' q => by
    cases k with
    | true => exact q
    | false => exact q
/-! ### tests -/
def cTst (f : EF S) : EF Bool := eb f fun x => match x with
  | .d (.bool b) => er b
  | _ => fun _ => none
def truD : D → Option Bool
  | .none => some false
  | .bool b => some b
  | .int i => some (i != 0)
  | .str x => if x.length ≤ 16777216 then some (x.length != 0) else none
  | .list xs => some (!xs.isEmpty)
  | .tuple xs => some (!xs.isEmpty)
  | .dict _ => none
def kTru (b : Option Bool) : EF Bool := match b with
  | some b => er b
  | none => fun _ => none
def cTru (f : EF D) : EF Bool := eb f fun x => kTru (truD x)
theorem kTru_inv {b : Option Bool} {r r' : Env} {o : R Bool} (e : kTru b r = some (o, r')) : ∃ k, b = some k ∧ r' = r ∧ o = .ok k := by
  cases b with
  | none => cases e
  | some k => cases e; exact ⟨k, rfl, rfl, rfl⟩
def cAnd (f g : EF Bool) : EF Bool := eb f fun k => if k = true then g else er false
def cOr (f g : EF Bool) : EF Bool := eb f fun k => if k = true then er true else g
def cNot (f : EF Bool) : EF Bool := eb f fun k => er (!k)
theorem tT_eb {K : KF} {mg : MG} {f : EF Bool} {k : Bool → EF Bool} {s : L2.St} {H : Hp} {Q : Bool → Hp → Prop} (h : tT K mg W (eb f k) s H Q) {P : Bool → Hp → Prop}
    (p : ∀ x H', tT K mg W (k x) s H' Q → P x H') : tT K mg W f s H P := by
  obtain ⟨C, I, r, o, r', R, e, q⟩ := h
  rcases eb_inv e with ⟨x, r1, hf, e⟩ | ⟨x, hf, rfl⟩
  · refine ⟨C, I, r, _, _, R, hf, fun I' H' R' g => p x H' ⟨C, I', r1, o, r', R', e, ?_⟩⟩
    cases o with
    | ok y => exact fun I2 H2 R2 g2 => q I2 H2 R2 (g.trans g2)
    | ex y => exact fun c dx I2 H2 R2 g2 => q c dx I2 H2 R2 (g.trans g2)
  · exact ⟨C, I, r, _, _, R, hf, q⟩
theorem tT_er {K : KF} {mg : MG} {k : Bool} {s : L2.St} {H : Hp} {Q : Bool → Hp → Prop} (h : tT K mg W (er k) s H Q) : Q k H := by
  obtain ⟨C, I, r, o, r', R, e, q⟩ := h
  cases e
  exact q I H R (Same.refl I)
theorem dt_cmp {op : CmpOp} {f : List S → Option S} {c d : Expr} {oa ob : Od} (ho : OpD X (compareOp op) f) (ha : DO X W c oa) (hb : DO X W d ob) (hm : behindInMarks op d = false) : DT X W (.Compare c [op] [d] pos) (cTst (dApp [oa, ob] f)) :=
  pt_of (pt_cmpR ho ha hb hm) fun s H Q ⟨C, I, r, o, r', R, e, q⟩ => by
    have z : tE X.K X.mg W (dApp [oa, ob] f) s H fun v H1 => ∃ c, v = .bl c ∧ Q c H1 := by
      rcases eb_inv e with ⟨x, r1, hf, e⟩ | ⟨x, hf, rfl⟩
      · refine ⟨C, I, r, _, _, R, hf, fun v I' H' R' g t => ?_⟩
        cases x with
        | d x =>
          cases x with
          | bool b =>
            cases e
            have t : Dp X.K I' v (.bool b) := t
            cases t
            exact ⟨b, rfl, q I' H' R' g⟩
          | _ => cases e
        | _ => cases e
      · exact ⟨C, I, r, _, _, R, hf, q⟩
    exact app_ok (ods := [oa, ob]) z
theorem tru_ok' {K : KF} {I H : Hp} (g : Same I H) {v : V} {d : D} {b : Bool} (h : Dp K I v d) (e : truD d = some b) : TruV K v H b ∨ ∃ c, v = .bl c ∧ b = c := by
  cases h with
  | non => cases e; exact .inl rfl
  | bl c => cases e; exact .inr ⟨_, rfl, rfl⟩
  | int i => cases e; exact .inl rfl
  | str x =>
    have e : (if x.length ≤ 16777216 then some (x.length != 0) else none) = some b := e
    split at e
    · rename_i hl
      cases e
      refine .inl ⟨by rw [sizeLine_eq]; exact hl, ?_⟩
      cases hx : x.length with
      | zero => rfl
      | succ n =>
        have h1 : ((n + 1 : Nat) : Int) ≠ 0 := by omega
        simp [bne]
        omega
    · cases e
  | lst hs ha =>
    cases e
    refine .inl (.inl ⟨_, g.seq hs, ?_⟩)
    have := dpa_len ha
    rename_i xs ds
    cases xs <;> cases ds <;> first | rfl | simp at this
  | tup hs ha =>
    cases e
    refine .inl (.inr (.inl ⟨_, Evl.ex_t g hs, ?_⟩))
    have := dpa_len ha
    rename_i xs ds
    cases xs <;> cases ds <;> first | rfl | simp at this
/-- an expression whose value is a truth -/
def cVal (f : EF D) : EF Bool := eb f fun x => match x with
  | .bool b => er b
  | _ => fun _ => none
theorem dt_val {f : EF D} (h : DD X W e f) (he : ∀ whole, isTrue e X.env whole = (do let v ← whole; standAt e.pos; holding [v] (truthy v)) := by intro _; rfl) : DT X W e (cVal f) :=
  pt_of (pt_val h he) fun s H Q ⟨C, I, r, o, r', R, e, q⟩ => by
    rcases eb_inv e with ⟨x, r1, hf, e⟩ | ⟨x, hf, rfl⟩
    · refine ⟨C, I, r, _, _, R, hf, fun v I' H' R' g t => ?_⟩
      cases x with
      | bool b =>
        cases e
        cases t
        exact ⟨b, rfl, q I' H' R' g⟩
      | _ => cases e
    · exact ⟨C, I, r, _, _, R, hf, q⟩
abbrev DW (X : Cx) (W : WX) (e : Expr) (f : EF Bool) : Prop := PW X e (tT X.K X.mg W f)
theorem pw_of {X : Cx} {e : Expr} {t t' : TT} (h : PW X e t) (w : ∀ s H Q, t' s H Q → t s H Q) : PW X e t' := ⟨fun wh pins s σ H Q I q => h.run wh pins s σ H Q I (w _ _ _ q)⟩
variable {f g : EF Bool} {c d : Expr} {es : List Expr}
theorem dt_bool (h : DW X W c f) : DT X W c f := h.pt
theorem dw_and1 (h : DT X W c f) : DW X W (.BoolOp .And [c] pos) f := pw_and1 h
theorem dw_or1 (h : DT X W c f) : DW X W (.BoolOp .Or [c] pos) f := pw_or1 h
theorem dw_and (h : DT X W c f) (h2 : DW X W (.BoolOp .And (d :: es) pos) g) : DW X W (.BoolOp .And (c :: d :: es) pos) (cAnd f g) :=
  pw_of (pw_and h h2) fun s H Q q => tT_eb q fun k H' q => by
    cases k with
    | true => exact q
    | false => exact tT_er q
theorem dw_or (h : DT X W c f) (h2 : DW X W (.BoolOp .Or (d :: es) pos) g) : DW X W (.BoolOp .Or (c :: d :: es) pos) (cOr f g) :=
  pw_of (pw_or h h2) fun s H Q q => tT_eb q fun k H' q => by
    cases k with
    | true => exact tT_er q
    | false => exact q
theorem dt_not (h : DT X W c f) : DT X W (.UnaryOp .Not c pos) (cNot f) :=
  pt_of (pt_not h) fun s H Q q => tT_eb q fun k H' q => tT_er q
/-- a test by truth -/
theorem dt_tru {f : EF D} (h : DD X W e f) (he : ∀ whole, isTrue e X.env whole = (do let v ← whole; standAt e.pos; holding [v] (truthy v)) := by intro _; rfl) : DT X W e (cTru f) := by
  refine ⟨fun pins s σ H Q I q => ?_⟩
  obtain ⟨C, I1, r, o, r', R, e1, q⟩ := q
  have z : (tD X.K X.mg W f) σ H fun v H1 => ∃ k, (TruV X.K v H1 k ∨ ∃ c, v = .bl c ∧ k = c) ∧ Q k H1 := by
    rcases eb_inv e1 with ⟨x, r1, hf, e1⟩ | ⟨x, hf, rfl⟩
    · refine ⟨C, I1, r, _, _, R, hf, fun v I' H' R' g t => ?_⟩
      obtain ⟨b, hb, rfl, rfl⟩ := kTru_inv e1
      exact ⟨b, tru_ok' R'.sub t hb, q I' H' R' g⟩
    · exact ⟨C, I1, r, _, _, R, hf, q⟩
  refine PyProof.Rows.isTrue_plain (thn (h.run pins s σ H _ I z) fun v s1 ⟨x, H1, J1, r1, k, q1, q2⟩ => ?_) (he _)
  rcases q1 with q1 | ⟨c, rfl, rfl⟩
  · exact tru_ok pins s1 σ H1 x v Q J1 r1 ⟨k, q1, q2⟩
  · cases r1
    exact PySem.wpAny_truthy_bool ⟨H1, J1, q2⟩
/-! ### and, or, not, if as values -/
def kSel (b : Option Bool) (f g : EF D) : EF D := match b with
  | some true => f
  | some false => g
  | none => fun _ => none
def vAnd (f g : EF D) : EF D := eb f fun x => kSel (truD x) g (er x)
def vOr (f g : EF D) : EF D := eb f fun x => kSel (truD x) (er x) g
def vB (c : EF Bool) : EF D := eb c fun k => er (.bool k)
def vIf {α : Type} (c : EF Bool) (f g : EF α) : EF α := eb c fun k => if k = true then f else g
theorem tD_eb {K : KF} {mg : MG} {f : EF D} {k : D → EF D} {s : L2.St} {H : Hp} {Q : VK} (h : tD K mg W (eb f k) s H Q) {P : VK}
    (p : ∀ C I x v H' r o r', Rel K C I H' r s → Dp K I v x → k x r = some (o, r') → (match o with
      | .ok y => ∀ w I' H', Rel K C I' H' r' s → Same I I' → Dp K I' w y → Q w H'
      | .ex y => ∀ c dx I' H', Rel K C I' H' r' s → Same I I' → XRel K mg I' H' c dx y → W c dx s H') → P v H') : tD K mg W f s H P := by
  obtain ⟨C, I, r, o, r', R, e, q⟩ := h
  rcases eb_inv e with ⟨x, r1, hf, e⟩ | ⟨x, hf, rfl⟩
  · refine ⟨C, I, r, _, _, R, hf, fun v I' H' R' g t => p C I' x v H' r1 o r' R' t e ?_⟩
    cases o with
    | ok y => exact fun w I2 H2 R2 g2 => q w I2 H2 R2 (g.trans g2)
    | ex y => exact fun c dx I2 H2 R2 g2 => q c dx I2 H2 R2 (g.trans g2)
  · exact ⟨C, I, r, _, _, R, hf, q⟩
theorem tru_dp {K : KF} {I H : Hp} (g : Same I H) {v : V} {d : D} {b : Bool} (h : Dp K I v d) (e : truD d = some b) (n : ∀ c, d ≠ .bool c) : TruV K v H b := by
  rcases tru_ok' g h e with z | ⟨c, rfl, rfl⟩
  · exact z
  · cases h
    exact absurd rfl (n _)
theorem dd_and {f g : EF D} {c d : Expr} {es : List Expr} (h1 : DD X W c f) (h2 : DD X W (.BoolOp .And (d :: es) pos) g) : DD X W (.BoolOp .And (c :: d :: es) pos) (vAnd f g) := by
  refine ⟨fun pins s σ H Q I q => ?_⟩
  refine PyProof.Rows.BoolOp_and (thn (h1.run pins s σ H (fun v H1 => ∃ k, (TruV X.K v H1 k ∨ ∃ c, v = .bl c ∧ k = c) ∧ if k = true then tD X.K X.mg W g σ H1 Q else Q v H1) I ?_) fun v s1 ⟨x, H1, J1, r1, k, q1, q2⟩ => ?_)
  · refine tD_eb q fun C I x v H' r o r' R t e q => ?_
    cases hb : truD x with
    | none => rw [hb] at e; cases e
    | some b =>
      rw [hb] at e
      cases b with
      | true => exact ⟨true, tru_ok' R.sub t hb, by rw [if_pos rfl]; exact ⟨C, I, r, o, r', R, e, q⟩⟩
      | false =>
        cases e
        exact ⟨false, tru_ok' R.sub t hb, by rw [if_neg Bool.false_ne_true]; exact q v I H' R (Same.refl I) t⟩
  · have fin : ∀ s2, Inv X pins σ H1 s2 → wpAny (model X.prog X.w) X.A (if k = true then eval (.BoolOp .And (d :: es) pos) X.env else pure v) (EP X pins σ Q) X.xe s2 := fun s2 J2 => by
      cases k with
      | true => exact h2.run pins s2 σ H1 Q J2 q2
      | false => exact wpAny_pure ⟨x, H1, J2, r1, q2⟩
    rcases q1 with q1 | ⟨c, rfl, rfl⟩
    · refine thn (tru_ok pins s1 σ H1 x v (fun c H2 => c = k ∧ H2 = H1) J1 r1 ⟨k, q1, rfl, rfl⟩) fun c s2 ⟨H2, J2, e1, e2⟩ => ?_
      subst e1 e2
      cases c with
      | true => exact h2.run pins s2 σ H2 Q J2 q2
      | false => exact ⟨x, H2, J2, r1, q2⟩
    · cases r1
      refine PySem.wpAny_truthy_bool ?_
      cases k with
      | true => exact h2.run pins s1 σ H1 Q J1 q2
      | false => exact ⟨.bl false, H1, J1, rfl, q2⟩
theorem dd_or {f g : EF D} {c d : Expr} {es : List Expr} (h1 : DD X W c f) (h2 : DD X W (.BoolOp .Or (d :: es) pos) g) : DD X W (.BoolOp .Or (c :: d :: es) pos) (vOr f g) := by
  refine ⟨fun pins s σ H Q I q => ?_⟩
  refine PyProof.Rows.BoolOp_or (thn (h1.run pins s σ H (fun v H1 => ∃ k, (TruV X.K v H1 k ∨ ∃ c, v = .bl c ∧ k = c) ∧ if k = true then Q v H1 else tD X.K X.mg W g σ H1 Q) I ?_) fun v s1 ⟨x, H1, J1, r1, k, q1, q2⟩ => ?_)
  · refine tD_eb q fun C I x v H' r o r' R t e q => ?_
    cases hb : truD x with
    | none => rw [hb] at e; cases e
    | some b =>
      rw [hb] at e
      cases b with
      | true =>
        cases e
        exact ⟨true, tru_ok' R.sub t hb, by rw [if_pos rfl]; exact q v I H' R (Same.refl I) t⟩
      | false => exact ⟨false, tru_ok' R.sub t hb, by rw [if_neg Bool.false_ne_true]; exact ⟨C, I, r, o, r', R, e, q⟩⟩
  · rcases q1 with q1 | ⟨c, rfl, rfl⟩
    · refine thn (tru_ok pins s1 σ H1 x v (fun c H2 => c = k ∧ H2 = H1) J1 r1 ⟨k, q1, rfl, rfl⟩) fun c s2 ⟨H2, J2, e1, e2⟩ => ?_
      subst e1 e2
      cases c with
      | true => exact ⟨x, H2, J2, r1, q2⟩
      | false => exact h2.run pins s2 σ H2 Q J2 q2
    · cases r1
      refine PySem.wpAny_truthy_bool ?_
      cases k with
      | true => exact ⟨.bl true, H1, J1, rfl, q2⟩
      | false => exact h2.run pins s1 σ H1 Q J1 q2
theorem dd_one {op : BoolOp} {f : EF D} {c : Expr} (h : DD X W c f) : DD X W (.BoolOp op [c] pos) f := pe_one h
theorem dd_not {f : EF D} {c : Expr} (h : DD X W c f) : DD X W (.UnaryOp .Not c pos) (vB (cNot (cTru f))) := by
  refine ⟨fun pins s σ H Q I q => ?_⟩
  refine PyProof.Rows.UnaryOp_ (thn (h.run pins s σ H (fun v H1 => ∃ k, (TruV X.K v H1 k ∨ ∃ c, v = .bl c ∧ k = c) ∧ Q (.bl (!k)) H1) I ?_) fun v s1 ⟨x, H1, J1, r1, k, q1, q2⟩ => ?_)
  · obtain ⟨C, I, r, o, r', R, e, q⟩ := q
    rcases eb_inv e with ⟨b, r1, e1, e2⟩ | ⟨y, e1, rfl⟩
    · cases e2
      rcases eb_inv e1 with ⟨b2, r2, e3, e4⟩ | ⟨y, e3, z⟩
      · cases e4
        rcases eb_inv e3 with ⟨d, r3, e5, e6⟩ | ⟨y, e5, z⟩
        · refine ⟨C, I, r, _, _, R, e5, fun v I' H' R' g t => ?_⟩
          obtain ⟨k, hb, rfl, z⟩ := kTru_inv e6
          cases z
          exact ⟨_, tru_ok' R'.sub t hb, q _ I' H' R' g (.bl _)⟩
        · cases z
      · cases z
    · rcases eb_inv e1 with ⟨b2, r2, e3, e4⟩ | ⟨y2, e3, z⟩
      · cases e4
      · cases z
        rcases eb_inv e3 with ⟨d, r3, e5, e6⟩ | ⟨y3, e5, z⟩
        · obtain ⟨k, hb, _, z⟩ := kTru_inv e6
          cases z
        · cases z
          exact ⟨C, I, r, _, _, R, e5, q⟩
  · rcases q1 with q1 | ⟨c, rfl, rfl⟩
    · exact PyProof.Rows.not_of (thn (tru_ok pins s1 σ H1 x v (fun c H2 => c = k ∧ H2 = H1) J1 r1 ⟨k, q1, rfl, rfl⟩) fun c s2 ⟨H2, J2, e1, e2⟩ => by
        subst e1 e2
        exact ⟨.bl (!c), H2, J2, rfl, q2⟩)
    · cases r1
      exact PyProof.Rows.not_of (PySem.wpAny_truthy_bool ⟨.bl (!k), H1, J1, rfl, q2⟩)
theorem tT_if {α : Type} {K : KF} {mg : MG} {c : EF Bool} {fa fb : EF S} {s : L2.St} {H : Hp} {Q : VK} (h : tE K mg W (vIf c fa fb) s H Q) : tT K mg W c s H fun k H1 => if k = true then tE K mg W fa s H1 Q else tE K mg W fb s H1 Q := by
  obtain ⟨C, I, r, o, r', R, e, q⟩ := h
  rcases eb_inv e with ⟨x, r1, hf, e⟩ | ⟨x, hf, rfl⟩
  · refine ⟨C, I, r, _, _, R, hf, fun I' H' R' g => ?_⟩
    cases x with
    | true =>
      refine iteT ⟨C, I', r1, o, r', R', e, ?_⟩
      cases o with
      | ok y => exact fun v I2 H2 R2 g2 => q v I2 H2 R2 (g.trans g2)
      | ex y => exact fun c dx I2 H2 R2 g2 => q c dx I2 H2 R2 (g.trans g2)
    | false =>
      refine iteF ⟨C, I', r1, o, r', R', e, ?_⟩
      cases o with
      | ok y => exact fun v I2 H2 R2 g2 => q v I2 H2 R2 (g.trans g2)
      | ex y => exact fun c dx I2 H2 R2 g2 => q c dx I2 H2 R2 (g.trans g2)
  · exact ⟨C, I, r, _, _, R, hf, q⟩
theorem de_if {fa fb : EF S} {c d e : Expr} (hc : DT X W c f) (ha : DE X W d fa) (hb : DE X W e fb) : DE X W (.IfExp c d e pos) (vIf f fa fb) :=
  pe_of (pe_ifExp hc ha hb) fun s H Q q => tT_if (α := D) q
end
end DL
namespace DL
open PySem L2
open PyProof.Rows (envOfC)
/-! ### a def: what it computes, of data and of things handed in to be changed -/
abbrev FD := List S → Option (R S × List S)
/-- a parameter -/
def PR (K : KF) (I H : Hp) (v : V) : S → Prop
  | .d x => Dp K I v x
  | .bor m => ∃ a, v = .ref a ∧ MRel K I H a m
  | .own true m => ∃ a, v = .ref a ∧ I a = none ∧ MRel K I H a m
  | .own false _ => False
def isHeld : S → Bool
  | .d _ => false
  | _ => true
structure PRel (K : KF) (I H : Hp) (vs : List V) (ss : List S) : Prop where
  len : vs.length = ss.length
  each : ∀ (i : Nat) (x : S), ss[i]? = some x → ∃ v, vs[i]? = some v ∧ PR K I H v x
  apart : ∀ (i j : Nat) m y a, i ≠ j → ss[i]? = some (.own true m) → ss[j]? = some y → isHeld y = true → vs[i]? = some (.ref a) → vs[j]? = some (.ref a) → False
/-- behind a call -/
structure After (K : KF) (I H : Hp) (vs : List V) (ss ss' : List S) (I' H' : Hp) : Prop where
  i : Same I I'
  sub : Same I' H'
  keep : ∀ a o, H a = some o → (∀ (j : Nat) m, ss[j]? = some (.own true m) → vs[j]? ≠ some (.ref a)) → H' a = some o
  dom : ∀ a, H' a = none → H a = none
  new : ∀ a o, H a = some o → I a = none → I' a = none
  io : ∀ (j : Nat) m, ss[j]? = some (.own true m) → ∃ m' a, ss'[j]? = some (.own true m') ∧ vs[j]? = some (.ref a) ∧ MRel K I' H' a m'
def spF (K : KF) (mg : MG) (F : FD) : Sp := fun vs H Q E => ∃ I ss o ss', Same I H ∧ PRel K I H vs ss ∧ F ss = some (o, ss') ∧ match o with
  | .ok x => ∀ v I' H', After K I H vs ss ss' I' H' → NewS K I H v I' H' x → Q v H'
  | .ex x => ∀ c dx I' H', After K I H vs ss ss' I' H' → XRel K mg I' H' c dx x → E c dx H'
structure FnG (P : Program) (w : World) (K : KF) (mg : MG) (base : Heap) (k : Nat) (f : Addr) (fd : FuncData) (ps : List Str) (F : FD) : Prop where
  len : ∀ ss y, F ss = some y → ss.length = ps.length
  run : ∀ (A : Around) (outer : List PySem.Env) (s : Shared) (H : Hp) (args : Args) (us : List Value) (vs : List V) (Q : VK) (E : XK), Room k A → A.guards = some [] → Env0 P w K mg base A outer s H → BindsTo s fd args (ps.zip us) → Vals vs us → spF K mg F vs H Q E →
    codeAny (model P w) A (.call (.ref f) args) (CR (L2.CX P w) outer P w H s Q E) s
theorem FnG.mono {P : Program} {w : World} {K : KF} {mg : MG} {base : Heap} {j k : Nat} {f : Addr} {fd : FuncData} {ps : List Str} {F : FD} (G : FnG P w K mg base j f fd ps F) (h : j ≤ k) : FnG P w K mg base k f fd ps F :=
  ⟨G.len, fun A outer s H args us vs Q E hr => G.run A outer s H args us vs Q E (hr.mono h)⟩
/-! ### from a body -/
def outs : List S → Env → Option (List S)
  | [], _ => some []
  | .own true _ :: t, some (.own true m) :: r => (outs t r).map (S.own true m :: ·)
  | .own true _ :: _, _ => none
  | x :: t, _ :: r => (outs t r).map (x :: ·)
  | _ :: _, [] => none
/-- np parameters, n names -/
def runB (np n : Nat) (g : SM) : FD := fun ss => if ss.length = np then match g (ss.map some ++ List.replicate (n - ss.length) none) with
    | some (.rt x, r) => (outs ss r).map fun o => (.ok x, o)
    | some (.nx, r) => (outs ss r).map fun o => (.ok (.d .none), o)
    | some (.ex x, r) => (outs ss r).map fun o => (.ex x, o)
    | _ => none
  else none
theorem outs_io : ∀ {ss : List S} {r : Env} {o : List S}, outs ss r = some o → ∀ (j : Nat) m, ss[j]? = some (.own true m) → ∃ m', r[j]? = some (some (.own true m')) ∧ o[j]? = some (.own true m')
  | [], r, o, e, j, m, h => by simp at h
  | x :: t, [], o, e, j, m, h => by
    cases x with
    | own b n => cases b <;> simp [outs] at e
    | _ => simp [outs] at e
  | x :: t, y :: r, o, e, j, m, h => by
    have gen : ∀ z, (outs t r).map (z :: ·) = some o → ((∃ m', x = .own true m') → ∃ m', y = some (.own true m') ∧ z = .own true m') → ∃ m', (y :: r)[j]? = some (some (.own true m')) ∧ o[j]? = some (.own true m') := fun z e hz => by
      obtain ⟨o1, h1, h2⟩ := Option.map_eq_some_iff.mp e
      subst h2
      cases j with
      | zero =>
        have hx : x = .own true m := by simpa using h
        obtain ⟨m', e1, e2⟩ := hz ⟨m, hx⟩
        exact ⟨m', by simp [e1], by simp [e2]⟩
      | succ j =>
        obtain ⟨m', e1, e2⟩ := outs_io h1 j m (by simpa using h)
        exact ⟨m', by simpa using e1, by simpa using e2⟩
    cases x with
    | d x => exact gen _ e fun ⟨m', q⟩ => by cases q
    | bor x => exact gen _ e fun ⟨m', q⟩ => by cases q
    | own b n =>
      cases b with
      | false => exact gen _ e fun ⟨m', q⟩ => by cases q
      | true =>
        cases y with
        | none => simp [outs] at e
        | some y =>
          cases y with
          | d y => simp [outs] at e
          | bor y => simp [outs] at e
          | own c n' =>
            cases c with
            | false => simp [outs] at e
            | true => exact gen _ e fun _ => ⟨n', rfl, rfl⟩
theorem get_env {ss : List S} {n : Nat} {i : Nat} {x : S} (h : (ss.map some ++ List.replicate n none)[i]? = some (some x)) : ss[i]? = some x := by
  by_cases hi : i < ss.length
  · rw [List.getElem?_append_left (by simpa using hi), List.getElem?_map] at h
    cases e : ss[i]? with
    | none => rw [e] at h; cases h
    | some a => rw [e] at h; cases h; rfl
  · rw [List.getElem?_append_right (by simpa using hi), List.getElem?_replicate] at h
    split at h <;> cases h
theorem get_start {N : List Str} {vs : List V} {i : Nat} {v : V} (h : vs[i]? = some v) : (start N vs)[i]? = some (some v) := by
  unfold L2.start
  have hi := (List.getElem?_eq_some_iff.mp h).1
  rw [List.getElem?_append_left (by simpa using hi), List.getElem?_map, h]
  rfl
theorem get_start' {N : List Str} {vs : List V} {i : Nat} {v : V} (h : (start N vs)[i]? = some (some v)) : vs[i]? = some v := by
  unfold L2.start at h
  by_cases hi : i < vs.length
  · rw [List.getElem?_append_left (by simpa using hi), List.getElem?_map] at h
    cases e : vs[i]? with
    | none => rw [e] at h; cases h
    | some a => rw [e] at h; cases h; rfl
  · rw [List.getElem?_append_right (by simpa using hi), List.getElem?_replicate] at h
    split at h <;> cases h
/-- the context of an entry -/
def cnOf (I H : Hp) (vs : List V) (ss : List S) : Cn := ⟨I, H, fun j => match ss[j]?, vs[j]? with
  | some (.own true _), some (.ref a) => some a
  | _, _ => none, fun a => H a ≠ none⟩
theorem io_of {I H : Hp} {vs : List V} {ss : List S} {j : Nat} {a : Addr} (h : (cnOf I H vs ss).io j = some a) : (∃ m, ss[j]? = some (.own true m)) ∧ vs[j]? = some (.ref a) := by
  unfold cnOf at h
  dsimp only at h
  split at h
  · rename_i m b e1 e2
    cases h
    exact ⟨⟨_, e1⟩, e2⟩
  · cases h
theorem io_mk {I H : Hp} {vs : List V} {ss : List S} {j : Nat} {a : Addr} {m : MO} (h1 : ss[j]? = some (.own true m)) (h2 : vs[j]? = some (.ref a)) : (cnOf I H vs ss).io j = some a := by
  unfold cnOf
  dsimp only
  rw [h1, h2]
theorem rel_start {K : KF} {I H : Hp} {N : List Str} {vs : List V} {ss : List S} (s : Same I H) (p : PRel K I H vs ss) (hn : ss.length ≤ N.length) :
    Rel K (cnOf I H vs ss) I H (ss.map some ++ List.replicate (N.length - ss.length) none) (start N vs) where
  len := by
    unfold L2.start
    have := p.len
    simp only [List.length_append, List.length_map, List.length_replicate]
    omega
  sub := s
  mono := Same.refl I
  keep := fun a o e _ => e
  dom := fun a e => e
  bo := fun a e => e
  iot := fun j a e => by
    obtain ⟨⟨m, h1⟩, h2⟩ := io_of e
    obtain ⟨v, hv, q⟩ := p.each j _ h1
    rw [h2] at hv
    cases hv
    obtain ⟨b, e, _, q⟩ := q
    cases e
    obtain ⟨o, ho⟩ := mrel_some q
    show H a ≠ none
    rw [ho]
    exact fun z => by cases z
  fresh := fun a n _ => n
  slot := fun i x h => by
    have h1 := get_env h
    obtain ⟨v, hv, q⟩ := p.each i x h1
    refine ⟨v, get_start hv, ?_⟩
    cases x with
    | d x => exact q
    | bor m =>
      obtain ⟨a, e, q⟩ := q
      refine ⟨a, e, ?_, fun j hj => ?_, q⟩
      · obtain ⟨o, ho⟩ := mrel_some q
        show H a ≠ none
        rw [ho]
        exact fun z => by cases z
      · obtain ⟨⟨m', h2⟩, h3⟩ := io_of hj
        subst e
        have ne : j ≠ i := by
          rintro rfl
          rw [h1] at h2
          cases h2
        exact p.apart j i m' _ a ne h2 h1 rfl h3 hv
    | own b m =>
      cases b with
      | false => exact q.elim
      | true =>
        obtain ⟨a, e, n, q⟩ := q
        subst e
        exact ⟨a, rfl, n, q, io_mk h1 hv⟩
  dist := fun i j b c m n a ne h1 h2 e1 e2 => by
    have g1 := get_env h1
    have g2 := get_env h2
    obtain ⟨v, hv, q⟩ := p.each i _ g1
    cases b with
    | false => exact q
    | true => exact p.apart i j m _ a ne g1 g2 rfl (get_start' e1) (get_start' e2)
/-- behind the body -/
theorem after_of {K : KF} {I H I' H' : Hp} {vs : List V} {ss ss' : List S} {r : Env} {s' : L2.St} (p : PRel K I H vs ss) (R : Rel K (cnOf I H vs ss) I' H' r s') (o : outs ss r = some ss') : After K I H vs ss ss' I' H' where
  i := R.mono
  sub := R.sub
  keep := fun a o e n => R.keep a o e fun j hj => by
    obtain ⟨⟨m, h2⟩, h3⟩ := io_of hj
    exact n j m h2 h3
  dom := R.dom
  new := fun a o e n => R.fresh a n (by show H a ≠ none; rw [e]; exact fun z => by cases z)
  io := fun j m h => by
    obtain ⟨m', h1, h2⟩ := outs_io o j m h
    obtain ⟨v, hv, a, e, n, q, z⟩ := R.slot j _ h1
    exact ⟨m', a, h2, (io_of z).2, q⟩
theorem fnG_of {P : Program} {w : World} {K : KF} {mg : MG} {base : Heap} {k : Nat} {f : Addr} {name qual : Str} {params : Arguments} {body : List Stmt} {scope : Scope} {dV kV doc pm cdv ct oc : Value} {an od : Option Addr} {osl : Array (Option Value)} {N ps : List Str} {g : SM}
    (lk : K.lookup f = some ⟨oc, od, .func (PySem.W.fnOf name qual params body scope dV kV doc pm an cdv ct), osl⟩) (hcd : PySem.W.codeIn K cdv qual = true) (S : FnScope N ps scope)
    (hbody : ∀ (A : Around) (outer : List PySem.Env) (s : Shared) (H : Hp) (E : XK), Room k (A.deeper (envOfC qual scope s.heap.objs.size f cdv)) → A.guards = some [] →
      DSs (cxOf (L2.CX P w) P w K mg base N qual scope f cdv A outer s H E) (fun c d _ H => E c d H) body g) :
    FnG P w K mg base (k + 1) f (PySem.W.fnOf name qual params body scope dV kV doc pm an cdv ct) ps (runB ps.length N.length g) := by
  have hln : ∀ ss y, runB ps.length N.length g ss = some y → ss.length = ps.length := fun ss y e => by
    unfold runB at e
    split at e
    · assumption
    · cases e
  refine ⟨hln, fun A outer s H args us vs Q E hr hg e0 hb r hsp => ?_⟩
  obtain ⟨I, ss, o, ss', hs, pr, hF, post⟩ := hsp
  have hl : vs.length = ps.length := pr.len.trans (hln _ _ hF)
  have hpl : ps.length ≤ N.length := by
    have := congrArg List.length S.pre
    rw [List.length_take] at this
    omega
  have KX : K.In s.heap := e0.mod.kin.keeps fun b o e => (e0.bs b o e).1
  have lim : s.heap.NoLimit := e0.mod.nolimit.keeps fun b o e => (e0.bs b o e).1
  have hkind : ∀ y ∈ ps.zip us, scope.names.lookup y.1 = some .local ∨ (scope.names.lookup y.1 = some .cell ∧ ((cellsFrom (s.heap.objs.size + 1) scope.names []).lookup y.1).isSome = true) := fun ⟨n, v⟩ hy => by
    rcases S.par n (List.of_mem_zip hy).1 with q | q
    · exact .inl q
    · exact .inr ⟨q, PySem.W.cellsFrom_some _ _ _ (.inl q)⟩
  refine codeAny_call_function hr.depth (KX _ _ lk) rfl S.co S.gen rfl (PySem.W.codeRec_of KX hcd) (hb _ _ _ _ ?_)
  refine wpAny_newFunctionEnv_cells S.kind hkind fun env he s1 x => ?_
  subst he
  refine ⟨lim.keeps x.toInCall.keep, codeAny_func ?_⟩
  have hr' : Room k (A.deeper (envOfC qual scope s.heap.objs.size f cdv)) := Room.deeper hr _
  have ht := hbody A outer s H E hr' hg
  have J : Inv (cxOf (L2.CX P w) P w K mg base N qual scope f cdv A outer s H E) [] (start N vs) H s1 := inv_start S hr.hd e0 hl r x
  have hgr : ∃ go r', g (ss.map some ++ List.replicate (N.length - ss.length) none) = some (go, r') ∧ outs ss r' = some ss' ∧
      ((∃ y, go = .rt y ∧ o = .ok y) ∨ (go = .nx ∧ o = .ok (.d .none)) ∨ ∃ y, go = .ex y ∧ o = .ex y) := by
    unfold runB at hF
    split at hF
    · split at hF
      · rename_i y r' e
        obtain ⟨o1, h1, h2⟩ := Option.map_eq_some_iff.mp hF
        cases h2
        exact ⟨_, r', e, h1, .inl ⟨y, rfl, rfl⟩⟩
      · rename_i r' e
        obtain ⟨o1, h1, h2⟩ := Option.map_eq_some_iff.mp hF
        cases h2
        exact ⟨_, r', e, h1, .inr (.inl ⟨rfl, rfl⟩)⟩
      · rename_i y r' e
        obtain ⟨o1, h1, h2⟩ := Option.map_eq_some_iff.mp hF
        cases h2
        exact ⟨_, r', e, h1, .inr (.inr ⟨y, rfl, rfl⟩)⟩
      · cases hF
    · cases hF
  obtain ⟨go, r', hg1, ho, hcase⟩ := hgr
  have hq : tS K mg (fun c d _ H => E c d H) g { nx := fun _ H' => Q .non H', rt := Q } (start N vs) H := by
    refine ⟨cnOf I H vs ss, I, _, go, r', rel_start hs pr (by rw [hln _ _ hF]; exact hpl), hg1, ?_⟩
    rcases hcase with ⟨y, rfl, rfl⟩ | ⟨rfl, rfl⟩ | ⟨y, rfl, rfl⟩
    · intro v s' I' H' R g1 t
      refine post v I' H' (after_of pr R ho) ?_
      cases y with
      | d y => exact t
      | bor m => exact t.elim
      | own b m =>
        cases b with
        | true => exact t.elim
        | false =>
          obtain ⟨a, e, n, q, z, _⟩ := t
          exact ⟨a, e, z, n, q⟩
    · intro s' I' H' R g1
      exact post .non I' H' (after_of pr R ho) .non
    · intro c dx s' I' H' R g1 t
      exact post c dx I' H' (after_of pr R ho) t
  refine wpAny_mono (ht.run [] s1 (start N vs) H _ J hq) (fun fl s' hs => ?_) fun e s' hs => hs
  have fin : ∀ {σ' : L2.St} {H' : Hp} {v : V} {u : Value}, Inv (cxOf (L2.CX P w) P w K mg base N qual scope f cdv A outer s H E) [] σ' H' s' → RelV v u → Q v H' → CE outer P w H s Q u s' :=
    fun {σ' H' v u} J rv q => ⟨v, H', J.os, J.bare, J.base, J.hok, rv, q⟩
  cases fl with
  | ret u =>
    obtain ⟨v, σ', H', J, rv, q⟩ := hs
    exact fin J rv q
  | next =>
    obtain ⟨σ', H', J, q⟩ := hs
    exact fin (v := V.non) (u := Value.none) J rfl q
  | brk =>
    obtain ⟨_, _, _, q⟩ := hs
    exact False.elim q
  | cont =>
    obtain ⟨_, _, _, q⟩ := hs
    exact False.elim q
/-- a def of the text, by its body -/
theorem fun_ok {P : Program} {w : World} {K : KF} {mg : MG} {base : Heap} {x qual : Str} {st : Stmt} {f : Addr} {fd : FuncData} {N ps : List Str} {k : Nat} {g : SM} (F : Fun K x qual st f fd) (S : FnScope N ps (defScope st))
    (hbody : ∀ (cdv : Value) (A : Around) (outer : List PySem.Env) (s : Shared) (H : Hp) (E : XK), Room k (A.deeper (envOfC qual (defScope st) s.heap.objs.size f cdv)) → A.guards = some [] →
      DSs (cxOf (L2.CX P w) P w K mg base N qual (defScope st) f cdv A outer s H E) (fun c d _ H => E c d H) (defBody st) g) : FnG P w K mg base (k + 1) f fd ps (runB ps.length N.length g) := by
  obtain ⟨oc, od, kV, doc, pm, an, cdv, ct, osl, rfl, lk, hcd⟩ := F.ex
  exact fnG_of lk hcd S fun A outer s H E hr hg => hbody cdv A outer s H E hr hg
/-! ### a call -/
def callArgs (r : Env) : List Bool → List Ov → Option (List S)
  | [], [] => some []
  | false :: ms, o :: os => match o.get r, callArgs r ms os with
    | some x, some xs => some (x :: xs)
    | _, _ => none
  | true :: ms, .sl i :: os => match r[i]?, callArgs r ms os with
    | some (some (.own _ m)), some xs => some (.own true m :: xs)
    | _, _ => none
  | _, _ => none
/-- a slot that is handed in to be changed is handed in once -/
def ioOnce : List Bool → List Ov → Bool
  | true :: ms, .sl i :: os => (os.all fun o => match o with
      | .sl j => i != j
      | _ => true) && ioOnce ms os
  | false :: ms, .sl i :: os => ((ms.zip os).all fun p => match p with
      | (true, .sl j) => i != j
      | _ => true) && ioOnce ms os
  | _ :: ms, _ :: os => ioOnce ms os
  | _, _ => true
def putOwn (r : Env) (i : Nat) (m : MO) : Env := match r[i]? with
  | some (some (.own b _)) => r.set i (some (.own b m))
  | _ => r
def putBack : List Bool → List Ov → List S → Env → Env
  | true :: ms, .sl i :: os, .own true m :: ss, r => putBack ms os ss (putOwn r i m)
  | _ :: ms, _ :: os, _ :: ss, r => putBack ms os ss r
  | _, _, _, r => r
def dCall (F : FD) (ms : List Bool) (ods : List Od) : EF S := eb (evO ods) fun os r => match callArgs r ms os with
  | some ss => if ioOnce ms os = true then match F ss with
      | some (o, ss') => some (o, putBack ms os ss' r)
      | none => none
    else none
  | none => none
end DL
namespace DL
open PySem L2
open PyProof.Rows (envOfC)
theorem ovAll_at {K : KF} {I : Hp} {s : L2.St} : ∀ {vs : List V} {os : List Ov}, OvAll K I s vs os → ∀ {i : Nat} {o : Ov}, os[i]? = some o → ∃ v, vs[i]? = some v ∧ OvRel K I s v o
  | _, _, .nil, i, o, h => by simp at h
  | _, _, .cons a b, 0, o, h => by simp at h; subst h; exact ⟨_, rfl, a⟩
  | _, _, .cons a b, i + 1, o, h => by simpa using ovAll_at b (i := i) (by simpa using h)
theorem ovAll_len {K : KF} {I : Hp} {s : L2.St} : ∀ {vs : List V} {os : List Ov}, OvAll K I s vs os → vs.length = os.length
  | _, _, .nil => rfl
  | _, _, .cons a b => by simp [ovAll_len b]
theorem callArgs_len {r : Env} : ∀ {ms : List Bool} {os : List Ov} {ss : List S}, callArgs r ms os = some ss → ms.length = os.length ∧ ss.length = os.length
  | [], [], ss, e => by cases e; exact ⟨rfl, rfl⟩
  | false :: ms, o :: os, ss, e => by
    unfold callArgs at e
    split at e
    · rename_i h1 h2
      cases e
      have := callArgs_len h2
      simp [this.1, this.2]
    · cases e
  | true :: ms, .sl i :: os, ss, e => by
    unfold callArgs at e
    split at e
    · rename_i h1 h2
      cases e
      have := callArgs_len h2
      simp [this.1, this.2]
    · cases e
  | true :: ms, .d x :: os, ss, e => by simp [callArgs] at e
  | [], _ :: _, ss, e => by simp [callArgs] at e
  | _ :: _, [], ss, e => by simp [callArgs] at e
theorem callArgs_at {r : Env} : ∀ {ms : List Bool} {os : List Ov} {ss : List S}, callArgs r ms os = some ss → ∀ {i : Nat} {x : S}, ss[i]? = some x →
    (ms[i]? = some false ∧ ∃ o, os[i]? = some o ∧ o.get r = some x) ∨ (ms[i]? = some true ∧ ∃ k b m, os[i]? = some (.sl k) ∧ r[k]? = some (some (.own b m)) ∧ x = .own true m)
  | [], [], ss, e, i, x, h => by cases e; simp at h
  | false :: ms, o :: os, ss, e, i, x, h => by
    unfold callArgs at e
    split at e
    · rename_i y ys h1 h2
      cases e
      cases i with
      | zero => simp at h; subst h; exact .inl ⟨rfl, o, rfl, h1⟩
      | succ i => simpa using callArgs_at h2 (i := i) (by simpa using h)
    · cases e
  | true :: ms, .sl k :: os, ss, e, i, x, h => by
    unfold callArgs at e
    split at e
    · rename_i b m ys h1 h2
      cases e
      cases i with
      | zero => simp at h; subst h; exact .inr ⟨rfl, k, b, m, rfl, h1, rfl⟩
      | succ i => simpa using callArgs_at h2 (i := i) (by simpa using h)
    · cases e
  | true :: ms, .d x :: os, ss, e, _, _, _ => by simp [callArgs] at e
  | [], _ :: _, ss, e, _, _, _ => by simp [callArgs] at e
  | _ :: _, [], ss, e, _, _, _ => by simp [callArgs] at e
theorem ioOnce_tail {m : Bool} {o : Ov} {ms : List Bool} {os : List Ov} (h : ioOnce (m :: ms) (o :: os) = true) : ioOnce ms os = true := by
  cases m <;> cases o <;> simp [ioOnce] at h <;> first | exact h | exact h.2
theorem ioOnce_head {ms : List Bool} {os : List Ov} {k : Nat} (h : ioOnce (true :: ms) (.sl k :: os) = true) {j l : Nat} (e : os[j]? = some (.sl l)) : k ≠ l := by
  unfold ioOnce at h
  rw [Bool.and_eq_true, List.all_eq_true] at h
  have := h.1 _ (List.mem_of_getElem? e)
  simpa using this
theorem ioOnce_rest {b : Bool} {ms : List Bool} {os : List Ov} {k : Nat} (h : ioOnce (b :: ms) (.sl k :: os) = true) {j l : Nat} (e1 : ms[j]? = some true) (e : os[j]? = some (.sl l)) : k ≠ l := by
  cases b with
  | true => exact ioOnce_head h e
  | false =>
    unfold ioOnce at h
    rw [Bool.and_eq_true, List.all_eq_true] at h
    have hm : (true, Ov.sl l) ∈ ms.zip os := by
      refine List.mem_of_getElem? (i := j) ?_
      rw [List.getElem?_zip_eq_some]
      exact ⟨e1, e⟩
    have := h.1 _ hm
    simpa using this
theorem ioOnce_at : ∀ {ms : List Bool} {os : List Ov}, ioOnce ms os = true → ∀ {i j k l : Nat}, i ≠ j → ms[i]? = some true → os[i]? = some (.sl k) → os[j]? = some (.sl l) → k ≠ l
  | [], _, _, i, j, k, l, _, h1, _, _ => by simp at h1
  | _ :: _, [], _, i, j, k, l, _, _, h2, _ => by simp at h2
  | m :: ms, o :: os, h, 0, 0, k, l, n, _, _, _ => absurd rfl n
  | m :: ms, o :: os, h, 0, j + 1, k, l, n, h1, h2, h3 => by
    simp at h1 h2 h3
    subst h1 h2
    exact ioOnce_head h h3
  | m :: ms, o :: os, h, i + 1, 0, k, l, n, h1, h2, h3 => by
    simp at h1 h2 h3
    subst h3
    exact (ioOnce_rest h h1 h2).symm
  | m :: ms, o :: os, h, i + 1, j + 1, k, l, n, h1, h2, h3 => ioOnce_at (i := i) (j := j) (ioOnce_tail h) (fun e => n (by omega)) (by simpa using h1) (by simpa using h2) (by simpa using h3)
theorem putOwn_at {r : Env} {i k : Nat} {m : MO} {x : S} (h : (putOwn r i m)[k]? = some (some x)) : (r[k]? = some (some x) ∧ (k = i → ∀ b n, x ≠ .own b n)) ∨ (k = i ∧ ∃ b n, r[k]? = some (some (.own b n)) ∧ x = .own b m) := by
  unfold putOwn at h
  split at h
  · rename_i b n e
    by_cases hk : k = i
    · subst hk
      rw [List.getElem?_set_self (List.getElem?_eq_some_iff.mp e).1] at h
      cases h
      exact .inr ⟨rfl, b, n, e, rfl⟩
    · rw [List.getElem?_set_ne (Ne.symm hk)] at h
      exact .inl ⟨h, fun z => absurd z hk⟩
  · rename_i e
    refine .inl ⟨h, fun hk b n z => ?_⟩
    subst hk z
    exact e b n h
theorem putOwn_len {r : Env} {i : Nat} {m : MO} : (putOwn r i m).length = r.length := by
  unfold putOwn
  split <;> simp
theorem putBack_len : ∀ (ms : List Bool) (os : List Ov) (ss : List S) (r : Env), (putBack ms os ss r).length = r.length
  | true :: ms, .sl i :: os, .own true m :: ss, r => by
    show (putBack ms os ss (putOwn r i m)).length = r.length
    rw [putBack_len, putOwn_len]
  | true :: ms, .sl i :: os, .own false m :: ss, r => putBack_len ms os ss r
  | true :: ms, .sl i :: os, .d m :: ss, r => putBack_len ms os ss r
  | true :: ms, .sl i :: os, .bor m :: ss, r => putBack_len ms os ss r
  | true :: ms, .d _ :: os, _ :: ss, r => putBack_len ms os ss r
  | false :: ms, _ :: os, _ :: ss, r => putBack_len ms os ss r
  | [], _, _, r => by simp [putBack]
  | _ :: _, [], _, r => by simp [putBack]
  | _ :: _, _ :: _, [], r => by simp [putBack]
/-- a slot behind the call: as it was, or a handed-in thing's new state -/
theorem putBack_at : ∀ (ms : List Bool) (os : List Ov) (ss : List S) (r : Env) {k : Nat} {x : S}, (putBack ms os ss r)[k]? = some (some x) →
    (r[k]? = some (some x) ∧ ∀ b n, x = .own b n → ∀ (i : Nat) (m : MO), ms[i]? = some true → os[i]? = some (Ov.sl k) → ss[i]? = some (S.own true m) → False) ∨
      ∃ (i : Nat) (b : Bool) (m n : MO), ms[i]? = some true ∧ os[i]? = some (Ov.sl k) ∧ ss[i]? = some (S.own true m) ∧ r[k]? = some (some (.own b n)) ∧ x = .own b m := by
  intro ms
  induction ms with
  | nil => intro os ss r k x h; exact .inl ⟨by simpa [putBack] using h, fun b n _ i m e => by simp at e⟩
  | cons b ms ih =>
    intro os ss r k x h
    cases os with
    | nil => exact .inl ⟨by simpa [putBack] using h, fun b n _ i m _ e => by simp at e⟩
    | cons o os =>
      cases ss with
      | nil => exact .inl ⟨by simpa [putBack] using h, fun b n _ i m _ _ e => by simp at e⟩
      | cons y ss =>
        -- a head that is not handed in to be changed
        have plain : (putBack ms os ss r)[k]? = some (some x) → (∀ m, b = true → o = .sl k → y = .own true m → False) →
            (r[k]? = some (some x) ∧ ∀ b' n, x = .own b' n → ∀ (i : Nat) (m : MO), (b :: ms)[i]? = some true → (o :: os)[i]? = some (Ov.sl k) → (y :: ss)[i]? = some (S.own true m) → False) ∨
              ∃ (i : Nat) (b' : Bool) (m n : MO), (b :: ms)[i]? = some true ∧ (o :: os)[i]? = some (Ov.sl k) ∧ (y :: ss)[i]? = some (S.own true m) ∧ r[k]? = some (some (.own b' n)) ∧ x = .own b' m := fun h z => by
          rcases ih os ss r h with ⟨h1, h2⟩ | ⟨i, b', m, n, h1, h2, h3, h4, h5⟩
          · refine .inl ⟨h1, fun b' n e i m e1 e2 e3 => ?_⟩
            cases i with
            | zero => simp at e1 e2 e3; exact z m e1 e2 e3
            | succ i => exact h2 b' n e i m (by simpa using e1) (by simpa using e2) (by simpa using e3)
          · exact .inr ⟨i + 1, b', m, n, by simpa using h1, by simpa using h2, by simpa using h3, h4, h5⟩
        by_cases hc : ∃ i m, b = true ∧ o = .sl i ∧ y = .own true m
        · obtain ⟨i, m, rfl, rfl, rfl⟩ := hc
          have h : (putBack ms os ss (putOwn r i m))[k]? = some (some x) := h
          rcases ih os ss _ h with ⟨h1, h2⟩ | ⟨j, b', m', n, h1, h2, h3, h4, h5⟩
          · rcases putOwn_at h1 with ⟨g1, g2⟩ | ⟨rfl, b', n, g1, rfl⟩
            · refine .inl ⟨g1, fun b' n e i' m' e1 e2 e3 => ?_⟩
              cases i' with
              | zero =>
                simp at e2
                exact g2 e2.symm b' n e
              | succ i' => exact h2 b' n e i' m' (by simpa using e1) (by simpa using e2) (by simpa using e3)
            · exact .inr ⟨0, b', m, n, rfl, rfl, rfl, g1, rfl⟩
          · rcases putOwn_at h4 with ⟨g1, _⟩ | ⟨_, b2, n2, g1, g2⟩
            · exact .inr ⟨j + 1, b', m', n, by simpa using h1, by simpa using h2, by simpa using h3, g1, h5⟩
            · cases g2
              exact .inr ⟨j + 1, b', m', n2, by simpa using h1, by simpa using h2, by simpa using h3, g1, h5⟩
        · refine plain ?_ fun m e1 e2 e3 => hc ⟨k, m, e1, e2, e3⟩
          cases b with
          | false => exact h
          | true =>
            cases o with
            | d x => exact h
            | sl i =>
              cases y with
              | d x => exact h
              | bor m => exact h
              | own c m =>
                cases c with
                | false => exact h
                | true => exact absurd ⟨i, m, rfl, rfl, rfl⟩ hc
section
variable {K : KF} {mg : MG} {C : Cn} {I H I' H' : Hp} {r : Env} {s : L2.St} {ms : List Bool} {os : List Ov} {ss ss' : List S} {vs : List V}
theorem get_held (R : Rel K C I H r s) {v : V} {o : Ov} {x : S} (h : OvRel K I s v o) (e : o.get r = some x) (hx : isHeld x = true) : ∃ k y, o = .sl k ∧ s[k]? = some (some v) ∧ r[k]? = some (some y) ∧ ((∃ b m, y = .own b m) ∨ ∃ m, y = .bor m) := by
  cases o with
  | d d => cases e; cases hx
  | sl k =>
    have h' : s[k]? = some (some v) := h
    have e : rdS r k = some x := e
    unfold rdS at e
    split at e
    · cases e; cases hx
    · rename_i m hr
      exact ⟨k, _, rfl, h', hr, .inr ⟨m, rfl⟩⟩
    · rename_i b m hr
      exact ⟨k, _, rfl, h', hr, .inl ⟨b, m, rfl⟩⟩
    · cases e
theorem prel_of (R : Rel K C I H r s) (a : OvAll K I s vs os) (e : callArgs r ms os = some ss) (once : ioOnce ms os = true) : PRel K I H vs ss where
  len := (ovAll_len a).trans (callArgs_len e).2.symm
  each := fun i x h => by
    rcases callArgs_at e h with ⟨_, o, h1, h2⟩ | ⟨_, k, b, m, h1, h2, rfl⟩
    · obtain ⟨v, hv, q⟩ := ovAll_at a h1
      refine ⟨v, hv, ?_⟩
      have := get_ok R q h2
      cases x with
      | d x => exact this
      | bor m => exact this
      | own b m => exact this.elim
    · obtain ⟨v, hv, q⟩ := ovAll_at a h1
      refine ⟨v, hv, ?_⟩
      obtain ⟨w, hw, z⟩ := R.slot k _ h2
      have q : s[k]? = some (some v) := q
      rw [hw] at q
      cases q
      obtain ⟨a, e1, n, m, _⟩ := own_nz z
      exact ⟨a, e1, n, m⟩
  apart := fun i j m y a' ne h1 h2 hy e1 e2 => by
    rcases callArgs_at e h1 with ⟨_, o, g1, g2⟩ | ⟨gm, k, b, m', g1, g2, _⟩
    · obtain ⟨v, hv, q⟩ := ovAll_at a g1
      exact (get_ok R q g2).elim
    · obtain ⟨v, hv, q⟩ := ovAll_at a g1
      rw [e1] at hv
      cases hv
      have q : s[k]? = some (some (.ref a')) := q
      rcases callArgs_at e h2 with ⟨_, o, f1, f2⟩ | ⟨_, l, c, m2, f1, f2, _⟩
      · obtain ⟨v2, hv2, q2⟩ := ovAll_at a f1
        rw [e2] at hv2
        cases hv2
        obtain ⟨l, z, rfl, s2, r2, hz⟩ := get_held R q2 f2 hy
        have hkl : k ≠ l := ioOnce_at once ne gm g1 f1
        rcases hz with ⟨c, m2, rfl⟩ | ⟨m2, rfl⟩
        · exact R.dist k l _ _ _ _ _ hkl g2 r2 q s2
        · obtain ⟨w, hw, z1⟩ := R.slot k _ g2
          rw [q] at hw
          cases hw
          obtain ⟨a1, ea, _, _, io⟩ := own_nz z1
          cases ea
          obtain ⟨w2, hw2, a2, eb, bo, nio, _⟩ := R.slot l _ r2
          rw [s2] at hw2
          cases hw2
          cases eb
          rcases io with ⟨_, io⟩ | ⟨_, io⟩
          · exact nio _ io
          · exact R.bo _ bo io
      · obtain ⟨v2, hv2, q2⟩ := ovAll_at a f1
        rw [e2] at hv2
        cases hv2
        have hkl : k ≠ l := ioOnce_at once ne gm g1 f1
        exact R.dist k l _ _ _ _ _ hkl g2 f2 q q2
theorem Rel.call (R : Rel K C I H r s) (a : OvAll K I s vs os) (e : callArgs r ms os = some ss) (A : After K I H vs ss ss' I' H') : Rel K C I' H' (putBack ms os ss' r) s := by
  -- what is handed in to be changed is one's own
  have hio : ∀ (j : Nat) m, ss[j]? = some (.own true m) → ∃ k b m' a, ms[j]? = some true ∧ os[j]? = some (.sl k) ∧ r[k]? = some (some (.own b m')) ∧ vs[j]? = some (.ref a) ∧ s[k]? = some (some (.ref a)) := fun j m h => by
    rcases callArgs_at e h with ⟨_, o, g1, g2⟩ | ⟨gm, k, b, m', g1, g2, _⟩
    · obtain ⟨v, hv, q⟩ := ovAll_at a g1
      exact (get_ok R q g2).elim
    · obtain ⟨v, hv, q⟩ := ovAll_at a g1
      have q : s[k]? = some (some v) := q
      obtain ⟨w, hw, z⟩ := R.slot k _ g2
      rw [q] at hw
      cases hw
      obtain ⟨a1, ea, _⟩ := own_nz z
      subst ea
      exact ⟨k, b, m', a1, gm, g1, g2, hv, q⟩
  have hnew : ∀ {a : Addr}, I a = none → (∃ o, H a = some o) → I' a = none := fun n ⟨o, ho⟩ => A.new _ o ho n
  refine ⟨by rw [putBack_len]; exact R.len, A.sub, R.mono.trans A.i, fun c o h0 n => ?_, fun c h => R.dom c (A.dom c h), R.bo, R.iot, fun c n1 n2 => ?_, fun k x h => ?_, fun i j b c m n c' ne h1 h2 e1 e2 => ?_⟩
  · refine A.keep c o (R.keep c o h0 n) fun j m h z => ?_
    obtain ⟨k, b, m', a1, _, _, g2, hv, hs⟩ := hio j m h
    rw [z] at hv
    cases hv
    obtain ⟨w, hw, q⟩ := R.slot k _ g2
    rw [hs] at hw
    cases hw
    obtain ⟨a2, ea, _, _, io⟩ := own_nz q
    cases ea
    rcases io with ⟨_, io⟩ | ⟨_, io⟩
    · exact n _ io
    · rw [h0] at io
      cases io
  · refine hnew (R.fresh c n1 n2) ?_
    cases q : H c with
    | none => exact absurd (R.dom c q) n2
    | some o => exact ⟨o, rfl⟩
  · rcases putBack_at ms os ss' r h with ⟨h1, h2⟩ | ⟨i, b, m, n, h1, h2, h3, h4, rfl⟩
    · obtain ⟨v, hv, q⟩ := R.slot k x h1
      refine ⟨v, hv, srel_up A.i q fun b m c ex ev n ⟨o, ho⟩ => ⟨A.new c o ho n, ?_⟩⟩
      subst ex ev
      refine (A.keep c o ho fun j m' hj z => ?_).trans ho.symm
      obtain ⟨l, b', m2, a1, gm, g1, g2, gv, hs⟩ := hio j m' hj
      rw [z] at gv
      cases gv
      by_cases hl : l = k
      · subst hl
        obtain ⟨m3, a3, q1, _⟩ := A.io j m' hj
        exact h2 b m rfl j m3 gm g1 q1
      · exact R.dist l k _ _ _ _ _ hl g2 h1 hs hv
    · obtain ⟨v, hv, q⟩ := R.slot k _ h4
      obtain ⟨a1, ea, na, q1, io⟩ := own_nz q
      subst ea
      refine ⟨_, hv, ?_⟩
      have hlen := callArgs_len e
      have hi : i < ss.length := by
        have := (List.getElem?_eq_some_iff.mp h2).1
        omega
      obtain ⟨y, hy⟩ : ∃ y, ss[i]? = some y := ⟨_, List.getElem?_eq_getElem hi⟩
      rcases callArgs_at e hy with ⟨z, _⟩ | ⟨_, k', b', m', g1, g2, rfl⟩
      · rw [h1] at z
        cases z
      · obtain ⟨m3, a3, q2, q3, q4⟩ := A.io i m' hy
        rw [h3] at q2
        cases q2
        obtain ⟨v2, hv2, q5⟩ := ovAll_at a h2
        have q5 : s[k]? = some (some v2) := q5
        rw [q3] at hv2
        cases hv2
        rw [hv] at q5
        cases q5
        exact own_mk rfl (hnew na (mrel_some q1)) q4 io
  · have back : ∀ {k : Nat} {b : Bool} {m : MO}, (putBack ms os ss' r)[k]? = some (some (.own b m)) → ∃ n, r[k]? = some (some (.own b n)) := fun {k b m} h => by
      rcases putBack_at ms os ss' r h with ⟨h1, _⟩ | ⟨i, b', m', n, _, _, _, h4, h5⟩
      · exact ⟨m, h1⟩
      · cases h5
        exact ⟨n, h4⟩
    obtain ⟨m1, g1⟩ := back h1
    obtain ⟨n1, g2⟩ := back h2
    exact R.dist i j b c m1 n1 c' ne g1 g2 e1 e2
theorem Rel.called (R : Rel K C I H r s) (A : After K I H vs ss ss' I' H') {v : V} {x : S} (n : NewS K I H v I' H' x) : TRel K C I' H' (putBack ms os ss' r) s v x := by
  cases x with
  | d x => exact n
  | bor m => exact n.elim
  | own b m =>
    cases b with
    | true => exact n.elim
    | false =>
      obtain ⟨a, e, n, z, q⟩ := n
      refine ⟨a, e, z, q, R.dom a n, fun i b m h e1 => ?_⟩
      have : ∃ b n, r[i]? = some (some (.own b n)) := by
        rcases putBack_at ms os ss' r h with ⟨h1, _⟩ | ⟨_, b', _, n', _, _, _, h4, _⟩
        · exact ⟨_, _, h1⟩
        · exact ⟨_, _, h4⟩
      obtain ⟨b', n', h1⟩ := this
      obtain ⟨v1, hv, h2⟩ := R.slot i _ h1
      obtain ⟨a1, e2, _, q1, _⟩ := own_nz h2
      rw [e1] at hv
      cases hv
      cases e2
      obtain ⟨o, ho⟩ := mrel_some q1
      rw [n] at ho
      cases ho
end
section
variable {X : Cx} {W : WX} {k : Nat} {f : Addr} {fd : FuncData} {ps : List Str} {F : FD} {x : Str} {p pos : Pos} {e : Expr} {es : List Expr} {os : List Od} {ms : List Bool}
def tCallG (K : KF) (mg : MG) (F : FD) (W : WX) (t : TA) : TE := fun σ H Q => t σ H fun vs H1 => spF K mg F vs H1 Q fun c d H2 => W c d σ H2
theorem run_fnG {pins : List (Addr × Obj)} {σ : L2.St} {H : Hp} {s : Shared} {Q : VK} {us : List Value} {vs : List V} (G : FnG X.prog X.w X.K X.mg X.base k f fd ps F) (hr : Room k X.A) (hgd : X.A.guards = some []) (hb : Binds X.K fd ps []) (tk : Takes X W)
    (I : Inv X pins σ H s) (r : Vals vs us) (h : spF X.K X.mg F vs H Q fun c d H2 => W c d σ H2) : wpAny (model X.prog X.w) X.A (call (.ref f) us) (EP X pins σ Q) X.xe s := by
  have hl : us.length = ps.length := by
    obtain ⟨_, ss, _, _, _, pr, hF, _⟩ := id h
    rw [← r.length]
    exact pr.len.trans (G.len _ _ hF)
  have b := hb s us I.kIn (by rw [List.append_nil]; exact hl)
  rw [List.append_nil] at b
  refine wpAny_call (codeAny_mono (G.run X.A X.stack s H ⟨us, []⟩ us vs Q _ hr hgd I.env0 b r h) fun rr s' hq => ?_)
  cases rr with
  | error e => exact passAt tk σ pins H s e s' I hq
  | ok fl =>
    cases fl with
    | ret u => exact I.after hq
    | next => exact False.elim hq
    | brk => exact False.elim hq
    | cont => exact False.elim hq
theorem pe_callG {t : TA} (G : FnG X.prog X.w X.K X.mg X.base k f fd ps F) (hr : Room k X.A) (hgd : X.A.guards = some []) (hg : Gl X x) (hm : X.mg x = some (.ref f)) (hk : PySem.W.keepIn X.K (.ref f) = true) (hb : Binds X.K fd ps []) (tk : Takes X W)
    (ha : PA X (e :: es) t) (hdb : (x == ("__debug__" : Str)) = false := by decide) (he : starEach (e :: es) X.env = (false, eval e X.env) :: starEach es X.env := by rfl) (hpl : (backTo pos (starEach es X.env)).any (·.1) = false := by rfl) :
    PE X (.Call (.Name x p) (e :: es) [] pos) (tCallG X.K X.mg F W t) := by
  refine ⟨fun pins s σ H Q I h => ?_⟩
  refine wpAny_Call_Name_kw (ld_glob I hg hm ?_ hdb)
  refine PySem.W.callWith_K (h₀ := X.base) I.ok.mod.kin hk (thn (ha.run pos pins s σ H _ I h) fun us s1 ⟨vs, H1, I1, r, q⟩ => ⟨I1.kIn, ?_⟩) he hpl
  exact run_fnG G hr hgd hb tk I1 r q
theorem pe_callG0 (G : FnG X.prog X.w X.K X.mg X.base k f fd ps F) (hr : Room k X.A) (hgd : X.A.guards = some []) (hg : Gl X x) (hm : X.mg x = some (.ref f)) (hk : PySem.W.keepIn X.K (.ref f) = true) (hb : Binds X.K fd ps []) (tk : Takes X W)
    (hdb : (x == ("__debug__" : Str)) = false := by decide) : PE X (.Call (.Name x p) [] [] pos) (tCallG X.K X.mg F W tNil) := by
  refine ⟨fun pins s σ H Q I h => ?_⟩
  refine wpAny_Call_Name_kw (ld_glob I hg hm ?_ hdb)
  exact PySem.W.callWith_K0 I.kIn hk (run_fnG (us := []) G hr hgd hb tk I .nil h)
theorem call_ok {K : KF} {mg : MG} {s : L2.St} {H : Hp} {Q : VK} (h : tE K mg W (dCall F ms os) s H Q) : tCallG K mg F W (tOds K mg W os) s H Q := by
  obtain ⟨C, I, r, o, r', R, e, q⟩ := h
  rcases eb_inv e with ⟨ov, r1, ho, e⟩ | ⟨x, ho, rfl⟩
  · refine evO_ok os R ho fun vs I1 H1 R1 g a => ?_
    split at e
    · rename_i ss hc
      split at e
      · rename_i once
        split at e
        · rename_i o2 ss' hF
          cases e
          refine ⟨I1, ss, o, ss', R1.sub, prel_of R1 a hc once, hF, ?_⟩
          cases o with
          | ok x => exact fun v I' H' A n => q v I' H' (R1.call a hc A) (g.trans A.i) (R1.called A n)
          | ex x => exact fun c dx I' H' A n => q c dx I' H' (R1.call a hc A) (g.trans A.i) n
        · cases e
      · cases e
    · cases e
  · exact evO_ok os R ho q
theorem de_call (G : FnG X.prog X.w X.K X.mg X.base k f fd ps F) (hr : Room k X.A) (hgd : X.A.guards = some []) (hg : Gl X x) (hm : X.mg x = some (.ref f)) (hk : PySem.W.keepIn X.K (.ref f) = true) (hb : Binds X.K fd ps []) (tk : Takes X W)
    (ha : DA X W (e :: es) os) (hdb : (x == ("__debug__" : Str)) = false := by decide) (he : starEach (e :: es) X.env = (false, eval e X.env) :: starEach es X.env := by rfl) (hpl : (backTo pos (starEach es X.env)).any (·.1) = false := by rfl) :
    DE X W (.Call (.Name x p) (e :: es) [] pos) (dCall F ms os) := pe_of (pe_callG G hr hgd hg hm hk hb tk ha hdb he hpl) fun _ _ _ q => call_ok q
theorem de_call0 (G : FnG X.prog X.w X.K X.mg X.base k f fd ps F) (hr : Room k X.A) (hgd : X.A.guards = some []) (hg : Gl X x) (hm : X.mg x = some (.ref f)) (hk : PySem.W.keepIn X.K (.ref f) = true) (hb : Binds X.K fd ps []) (tk : Takes X W)
    (hdb : (x == ("__debug__" : Str)) = false := by decide) : DE X W (.Call (.Name x p) [] [] pos) (dCall F [] []) := pe_of (pe_callG0 G hr hgd hg hm hk hb tk hdb) fun _ _ _ q => call_ok (os := []) q
end
end DL
namespace DL
open PySem L2
open PyProof.Rows (envOfC)
/-! ### targets -/
inductive Tg where
  | nm (i : Nat)
  | tup (ts : List Tg)
mutual
def bindT : Tg → D → Env → Option Env
  | .nm i, d, r => some (r.set i (some (.d d)))
  | .tup ts, .tuple xs, r => bindTs ts xs r
  | .tup _, _, _ => none
def bindTs : List Tg → List D → Env → Option Env
  | [], [], r => some r
  | t :: ts, d :: xs, r => match bindT t d r with
    | some r1 => bindTs ts xs r1
    | none => none
  | _, _, _ => none
end
/-! the slots of a target -/
mutual
def Tg.sub (vs : List Nat) : Tg → Prop
  | .nm i => i ∈ vs
  | .tup ts => Tg.subs vs ts
def Tg.subs (vs : List Nat) : List Tg → Prop
  | [] => True
  | t :: ts => t.sub vs ∧ Tg.subs vs ts
end
theorem wipe_set {s : L2.St} {i : Nat} {x : Option V} : ∀ {vs : List Nat}, i ∈ vs → wipe (s.set i x) vs = wipe s vs
  | [], h => by simp at h
  | v :: vs, h => by
    unfold wipe
    by_cases hv : i ∈ vs
    · rw [wipe_set hv]
    · have e : v = i := by
        rcases List.mem_cons.mp h with e | e
        · exact e.symm
        · exact absurd e hv
      subst e
      have : ∀ (ws : List Nat), v ∉ ws → wipe (s.set v x) ws = (wipe s ws).set v x := by
        intro ws
        induction ws with
        | nil => intro _; rfl
        | cons w ws ih =>
          intro hw
          unfold wipe
          rw [ih (fun z => hw (List.mem_cons_of_mem _ z)), List.set_comm _ _ (fun z => hw (by rw [z]; exact List.mem_cons_self))]
      rw [this vs hv, List.set_set]
def tG (K : KF) (t : Tg) : TG := fun v s H Q => ∃ C I r d r', Rel K C I H r s ∧ Dp K I v d ∧ bindT t d r = some r' ∧ ∀ s', Rel K C I H r' s' → (∀ vs, t.sub vs → wipe s' vs = wipe s vs) → Q s' H
def tGs (K : KF) (ts : List Tg) : TGs := fun vs s H Q => ∃ C I r xs r', Rel K C I H r s ∧ DpAll K I vs xs ∧ bindTs ts xs r = some r' ∧ ∀ s', Rel K C I H r' s' → (∀ vs, Tg.subs vs ts → wipe s' vs = wipe s vs) → Q s' H
abbrev DG (X : Cx) (e : Expr) (t : Tg) : Prop := PG X e (tG X.K t)
abbrev DGs (X : Cx) (es : List Expr) (ts : List Tg) : Prop := PGs X es (tGs X.K ts)
section
variable {X : Cx} {pos : Pos}
theorem pg_of {e : Expr} {t t' : TG} (h : PG X e t) (w : ∀ v s H Q, t' v s H Q → t v s H Q) : PG X e t' := ⟨fun pins s σ H v u Q I r q => h.run pins s σ H v u Q I r (w _ _ _ _ q)⟩
theorem pgs_of {e : List Expr} {t t' : TGs} (h : PGs X e t) (w : ∀ v s H Q, t' v s H Q → t v s H Q) : PGs X e t' := ⟨fun pins s σ H v u Q I r q => h.run pins s σ H v u Q I r (w _ _ _ _ q)⟩
theorem dg_name {i : Nat} {x : Str} (hN : X.N.Nodup) (hi : X.N[i]? = some x) (hx : Loc X.env.scope x) (hf : X.fn x = true ∨ X.env.scope.names.lookup x = some .local := by first | exact .inl rfl | exact .inr rfl | assumption) : DG X (.Name x pos) (.nm i) :=
  pg_of (pg_name hN hi hx hf) fun v s H Q ⟨C, I, r, d, r', R, p, e, q⟩ => by
    unfold bindT at e
    cases e
    exact q _ (R.put (x := .d d) p) fun vs h => by unfold Tg.sub at h; exact wipe_set h
theorem dgs_nil : DGs X [] [] := pgs_of pgs_nil fun vs s H Q ⟨C, I, r, xs, r', R, p, e, q⟩ => by
  cases xs with
  | nil =>
    unfold bindTs at e
    cases e
    cases p
    exact ⟨rfl, q s R fun _ _ => rfl⟩
  | cons _ _ => simp [bindTs] at e
theorem dgs_cons {e : Expr} {es : List Expr} {t : Tg} {ts : List Tg} (h1 : DG X e t) (h2 : DGs X es ts) (hs : (assignEach (e :: es) X.env).map (·.2) = assign e X.env :: (assignEach es X.env).map (·.2) := by rfl) : DGs X (e :: es) (t :: ts) :=
  pgs_of (pgs_cons h1 h2 hs) fun vs s H Q ⟨C, I, r, xs, r', R, p, e, q⟩ => by
    cases xs with
    | nil => simp [bindTs] at e
    | cons d xs =>
      unfold bindTs at e
      split at e
      · rename_i r1 e1
        cases p with
        | cons p1 p2 => exact ⟨_, _, rfl, C, I, r, d, r1, R, p1, e1, fun s' R' w1 => ⟨C, I, r1, xs, r', R', p2, e, fun s2 R2 w2 => q s2 R2 fun ws h => by
          unfold Tg.subs at h
          rw [w2 ws h.2, w1 ws h.1]⟩⟩
      · cases e
theorem dg_tup {es : List Expr} {ts : List Tg} {k : Nat} (hc : X.calm = true) (h : DGs X es ts) (hl : es.length = ts.length := by rfl) (hst : (assignEach es X.env).findIdx? (·.1) = none := by rfl) (hn : (assignEach es X.env).length = es.length := by rfl) : DG X (.Tuple es k pos) (.tup ts) :=
  pg_of (pg_tup hc h (n := ts.length) (hn.trans hl) hst) fun v s H Q ⟨C, I, r, d, r', R, p, e, q⟩ => by
    cases d with
    | tuple xs =>
      unfold bindT at e
      cases p with
      | @tup a vs _ hs ha =>
        refine ⟨a, vs, rfl, Evl.ex_t R.sub hs, ?_, C, I, r, xs, r', R, ha, e, fun s' R' w => q s' R' fun ws h => w ws (by unfold Tg.sub at h; exact h)⟩
        rw [dpa_len ha]
        have : ∀ (ts : List Tg) (xs : List D) (r r' : Env), bindTs ts xs r = some r' → xs.length = ts.length := by
          intro ts
          induction ts with
          | nil => intro xs r r' e; cases xs with
            | nil => rfl
            | cons _ _ => simp [bindTs] at e
          | cons t ts ih => intro xs r r' e; cases xs with
            | nil => simp [bindTs] at e
            | cons d xs =>
              unfold bindTs at e
              split at e
              · simp [ih _ _ _ e]
              · cases e
        exact this ts xs r r' e
    | _ => simp [bindT] at e
/-! ### what is walked -/
def Cext (C C' : Cn) : Prop := C'.I0 = C.I0 ∧ C'.io = C.io ∧ Same C.H0 C'.H0
/-- an iterator that gives some data, one after another -/
def JD (K : KF) (C : Cn) (I0 : Hp) (J : It) (xs : List D) : Prop := ∀ (C' : Cn) (i : Nat) (I H : Hp) (r : Env) (s : L2.St), Cext C C' → Rel K C' I H r s → Same I0 I →
  (∀ d, xs[i]? = some d → J.go i H ∧ ∀ x H', J.yld i H x H' → ∃ I', Rel K C' I' H' r s ∧ Same I I' ∧ Dp K I' x d) ∧ (xs.length ≤ i → J.stop i H)
def tI (K : KF) (mg : MG) (W : WX) (f : EF (List D)) : TI := fun s H P => ∃ C I r o r', Rel K C I H r s ∧ f r = some (o, r') ∧ match o with
  | .ok xs => ∀ J I' H', Rel K C I' H' r' s → Same I I' → JD K C I' J xs → P J H'
  | .ex x => ∀ c dx I' H', Rel K C I' H' r' s → Same I I' → XRel K mg I' H' c dx x → W c dx s H'
abbrev DI (X : Cx) (W : WX) (tg e : Expr) (f : EF (List D)) : Prop := PI X tg e (tI X.K X.mg W f)
theorem pi_of {tg e : Expr} {t t' : TI} (h : PI X tg e t) (w : ∀ s H Q, t' s H Q → t s H Q) : PI X tg e t' := ⟨fun pins s σ H Q I q => h.run pins s σ H Q I (w _ _ _ q)⟩
theorem pi_or {tg e : Expr} {t t' u : TI} (h : PI X tg e t) (h' : PI X tg e t') (w : ∀ s H Q, u s H Q → t s H Q ∨ t' s H Q) : PI X tg e u := ⟨fun pins s σ H Q I q => (w _ _ _ q).elim (fun q => h.run pins s σ H Q I q) fun q => h'.run pins s σ H Q I q⟩
theorem jd_list {K : KF} {C : Cn} {I0 : Hp} {a : Addr} {vs : List V} {xs : List D} (h : SqL K I0 a vs) (p : DpAll K I0 vs xs) : JD K C I0 (Itl K a) xs := fun C' i I H r s _ R g => by
  have hs : SqL K H a vs := (g.trans R.sub).seq h
  refine ⟨fun d e => ?_, fun hl => ⟨vs, hs, by rw [dpa_len p]; exact hl⟩⟩
  obtain ⟨v, hv, q⟩ := dpa_get' p e
  refine ⟨⟨vs, v, hs, hv⟩, fun x H' ⟨e1, e2⟩ => ?_⟩
  subst e1
  have := e2 vs hs
  rw [hv] at this
  cases this
  exact ⟨I, R, Same.refl I, dp_up g _ _ q⟩
theorem jd_tup {K : KF} {C : Cn} {I0 : Hp} {a : Addr} {vs : List V} {xs : List D} (h : SqT K I0 a vs) (p : DpAll K I0 vs xs) : JD K C I0 (Itt K a) xs := fun C' i I H r s _ R g => by
  have hs : SqT K H a vs := Evl.ex_t (g.trans R.sub) h
  refine ⟨fun d e => ?_, fun hl => ⟨vs, hs, by rw [dpa_len p]; exact hl⟩⟩
  obtain ⟨v, hv, q⟩ := dpa_get' p e
  refine ⟨⟨vs, v, hs, hv⟩, fun x H' ⟨e1, e2⟩ => ?_⟩
  subst e1
  have := e2 vs hs
  rw [hv] at this
  cases this
  exact ⟨I, R, Same.refl I, dp_up g _ _ q⟩
/-- a borrowed list -/
theorem jd_bor {K : KF} {C : Cn} {I0 : Hp} {a : Addr} {xs : List D} (n : ∀ j, C.io j ≠ some a) (h : MRel K C.I0 C.H0 a (.lst xs)) : JD K C I0 (Itl K a) xs := fun C' i I H r s ⟨c1, c2, c3⟩ R g => by
  obtain ⟨vs, ha, p⟩ := h
  have hH : H a = some (.lst vs) := R.keep a _ (c3 a _ ha) (by rw [c2]; exact n)
  have hs : SqL K H a vs := SqL.of hH
  have m : Same C.I0 I := by rw [← c1]; exact R.mono
  refine ⟨fun d e => ?_, fun hl => ⟨vs, hs, by rw [dpa_len p]; exact hl⟩⟩
  obtain ⟨v, hv, q⟩ := dpa_get' p e
  refine ⟨⟨vs, v, hs, hv⟩, fun x H' ⟨e1, e2⟩ => ?_⟩
  subst e1
  have := e2 vs hs
  rw [hv] at this
  cases this
  exact ⟨I, R, Same.refl I, dp_up m _ _ q⟩
def signs (z : Str) : List D := z.cps.toList.map fun c => .str ⟨#[c]⟩
theorem jd_str {K : KF} {C : Cn} {I0 : Hp} {z : Str} : JD K C I0 (Its z) (signs z) := fun C' i I H r s _ R g => by
  refine ⟨fun d e => ?_, fun hl => by
    have : z.cps.size ≤ i := by simpa [signs] using hl
    exact this⟩
  unfold signs at e
  rw [List.getElem?_map] at e
  obtain ⟨c, h1, h2⟩ := Option.map_eq_some_iff.mp e
  subst h2
  have h1' : z.cps[i]? = some c := by simpa using h1
  refine ⟨(Array.getElem?_eq_some_iff.mp h1').1, fun x H' ⟨e1, c2, e2, e3⟩ => ?_⟩
  subst e1 e3
  rw [h1'] at e2
  cases e2
  exact ⟨I, R, Same.refl I, .str _⟩
def rngD (n : Nat) (lo : Int) : List D := (List.range n).map fun (i : Nat) => PyData.int (lo + (i : Int))
theorem jd_rng {K : KF} {C : Cn} {I0 : Hp} {lo : Int} {n : Nat} : JD K C I0 (Itr lo n) (rngD n lo) := fun C' i I H r s _ R g => by
  refine ⟨fun d e => ?_, fun hl => by
    have : n ≤ i := by simpa [rngD] using hl
    exact this⟩
  unfold rngD at e
  rw [List.getElem?_map] at e
  obtain ⟨c, h1, h2⟩ := Option.map_eq_some_iff.mp e
  subst h2
  have hi : i < n := by simpa using (List.getElem?_eq_some_iff.mp h1).1
  rw [List.getElem?_range hi] at h1
  cases h1
  refine ⟨hi, fun x H' ⟨e1, e2⟩ => ?_⟩
  subst e1 e2
  exact ⟨I, R, Same.refl I, .int _⟩
/-- the items of data that is walked -/
def itemsD : D → Option (List D)
  | .list xs => some xs
  | .tuple xs => some xs
  | .str z => some (signs z)
  | _ => none
def kOpt {α : Type} (b : Option α) : EF α := match b with
  | some x => er x
  | none => fun _ => none
theorem kOpt_inv {α : Type} {b : Option α} {r r' : Env} {o : R α} (e : kOpt b r = some (o, r')) : ∃ k, b = some k ∧ r' = r ∧ o = .ok k := by
  cases b with
  | none => cases e
  | some k => cases e; exact ⟨k, rfl, rfl, rfl⟩
def iD (f : EF D) : EF (List D) := eb f fun d => kOpt (itemsD d)
theorem di_d {W : WX} {tg e : Expr} {f : EF D} (h : DD X W e f) : DI X W tg e (iD f) := by
  refine pi_or (pi_list h) (pi_or (u := fun s H Q => iTup X.K (tD X.K X.mg W f) s H Q ∨ iStr (tD X.K X.mg W f) s H Q) (pi_tup h) (pi_str h) fun _ _ _ q => q) fun s H P ⟨C, I, r, o, r', R, e, q⟩ => ?_
  rcases eb_inv e with ⟨d, r1, hf, e⟩ | ⟨x, hf, rfl⟩
  · obtain ⟨xs, hx, rfl, rfl⟩ := kOpt_inv e
    cases d with
    | list ys =>
      cases hx
      refine .inl ⟨C, I, r, _, _, R, hf, fun v I' H' R' g p => ?_⟩
      cases p with
      | lst hs ha => exact ⟨_, rfl, ⟨_, R'.sub.seq hs⟩, q _ I' H' R' g (jd_list hs ha)⟩
    | tuple ys =>
      cases hx
      refine .inr (.inl ⟨C, I, r, _, _, R, hf, fun v I' H' R' g p => ?_⟩)
      cases p with
      | tup hs ha => exact ⟨_, rfl, ⟨_, Evl.ex_t R'.sub hs⟩, q _ I' H' R' g (jd_tup hs ha)⟩
    | str z =>
      cases hx
      refine .inr (.inr ⟨C, I, r, _, _, R, hf, fun v I' H' R' g p => ?_⟩)
      cases p
      exact ⟨z, rfl, q _ I' H' R' g jd_str⟩
    | _ => cases hx
  · exact .inl ⟨C, I, r, _, _, R, hf, q⟩
/-- a name that is walked: data, a borrowed list, a list of one's own (made data) -/
def iVar (i : Nat) : EF (List D) := fun r => match r[i]? with
  | some (some (.bor (.lst xs))) => some (.ok xs, r)
  | _ => iD (dVar i) r
theorem di_var {W : WX} {tg : Expr} {i : Nat} {x : Str} (h : PE X (.Name x pos) (tVar i)) : DI X W tg (.Name x pos) (iVar i) := by
  refine pi_or (pi_list h) (di_d (W := W) (dd_var h)) fun s H P ⟨C, I, r, o, r', R, e, q⟩ => ?_
  unfold iVar at e
  split at e
  · rename_i xs hr
    cases e
    obtain ⟨v, hv, a, ea, _, n, m⟩ := R.slot i _ hr
    subst ea
    obtain ⟨vs, hvs, _⟩ := mrel_keep R n m
    exact .inl ⟨_, hv, a, rfl, ⟨vs, SqL.of hvs⟩, q _ I H R (Same.refl I) (jd_bor n m)⟩
  · exact .inr ⟨C, I, r, o, r', R, e, q⟩
/-- range(n), range(a, b) -/
def rng1 : List S → Option (List D)
  | [.d (.int n)] => if -(2 ^ 62) ≤ n ∧ n < 2 ^ 62 then some (rngD n.toNat 0) else none
  | _ => none
def rng2 : List S → Option (List D)
  | [.d (.int a), .d (.int b)] => if -(2 ^ 62) ≤ a ∧ a < 2 ^ 62 ∧ -(2 ^ 62) ≤ b ∧ b < 2 ^ 62 then some (rngD (b - a).toNat a) else none
  | _ => none
def iApp (ods : List Od) (op : List S → Option (List D)) : EF (List D) := eb (evO ods) fun os r => match getAll r os with
  | some ss => kOpt (op ss) r
  | none => none
theorem iApp_gen {K : KF} {mg : MG} {W : WX} {ods : List Od} {op : List S → Option (List D)} {s : L2.St} {H : Hp} {P : It → Hp → Prop} (h : tI K mg W (iApp ods op) s H P) {Q : List V → Hp → Prop}
    (p : ∀ C I vs ss xs r H', Rel K C I H' r s → AAll K I H' vs ss → op ss = some xs → (∀ J I2 H2, Rel K C I2 H2 r s → Same I I2 → JD K C I2 J xs → P J H2) → Q vs H') : tOds K mg W ods s H Q := by
  obtain ⟨C, I, r, o, r', R, e, q⟩ := h
  rcases eb_inv e with ⟨os, r1, ho, e⟩ | ⟨x, ho, rfl⟩
  · split at e
    · rename_i ss hg
      obtain ⟨xs, hx, rfl, rfl⟩ := kOpt_inv e
      exact evO_ok ods R ho fun vs I' H' R' g a => p C I' vs ss xs _ H' R' (getAll_ok R' a hg) hx fun J I2 H2 R2 g2 j => q J I2 H2 R2 (g.trans g2) j
    · cases e
  · exact evO_ok ods R ho q
theorem di_rng1 {W : WX} {tg a : Expr} {oa : Od} {p : Pos} (hg : Gl X "range") (hm : X.mg "range" = none) (ha : DA X W [a] [oa]) (hs : starEach [a] X.env = [(false, eval a X.env)] := by rfl) : DI X W tg (.Call (.Name "range" p) [a] [] pos) (iApp [oa] rng1) :=
  pi_of (pi_range1 hg hm ha hs) fun s H P q => iApp_gen q fun C I vs ss xs r H' R a e q => by
    cases a with
    | cons a1 a2 =>
      rename_i v vs x ss
      cases a2 with
      | nil =>
        cases x with
        | d d =>
          cases d with
          | int n =>
            have e : (if -(2 ^ 62) ≤ n ∧ n < 2 ^ 62 then some (rngD n.toNat 0) else none) = some xs := e
            split at e
            · rename_i hb
              cases e
              have a1 : Dp X.K I v (.int n) := a1
              cases a1
              exact ⟨n, rfl, hb.1, hb.2, q _ I H' R (Same.refl I) jd_rng⟩
            · cases e
          | _ => simp [rng1] at e
        | _ => simp [rng1] at e
      | cons _ _ => simp [rng1] at e
    | nil => simp [rng1] at e
theorem di_rng2 {W : WX} {tg a b : Expr} {oa ob : Od} {p : Pos} (hg : Gl X "range") (hm : X.mg "range" = none) (ha : DA X W [a, b] [oa, ob]) (hs : starEach [a, b] X.env = [(false, eval a X.env), (false, eval b X.env)] := by rfl) (hs2 : starEach [b] X.env = [(false, eval b X.env)] := by rfl) :
    DI X W tg (.Call (.Name "range" p) [a, b] [] pos) (iApp [oa, ob] rng2) :=
  pi_of (pi_range2 hg hm ha hs hs2) fun s H P q => iApp_gen q fun C I vs ss xs r H' R a e q => by
    have key : ∃ i j, ss = [.d (.int i), .d (.int j)] ∧ (-(2 ^ 62) ≤ i ∧ i < 2 ^ 62 ∧ -(2 ^ 62) ≤ j ∧ j < 2 ^ 62) ∧ xs = rngD (j - i).toNat i := by
      unfold rng2 at e
      split at e
      · split at e
        · rename_i i j hb
          cases e
          exact ⟨i, j, rfl, hb, rfl⟩
        · cases e
      · cases e
    obtain ⟨i, j, rfl, hb, rfl⟩ := key
    cases a with
    | cons a1 a2 =>
      cases a2 with
      | cons a2 a3 =>
        cases a3
        rename_i v w
        have a1 : Dp X.K I v (.int i) := a1
        have a2 : Dp X.K I w (.int j) := a2
        cases a1
        cases a2
        exact ⟨i, j, rfl, hb, q _ I H' R (Same.refl I) jd_rng⟩
/-! ### for, while -/
def sForL (t : Tg) (g : SM) : List D → SM
  | [] => fun r => some (.nx, r)
  | d :: xs => fun r => match bindT t d r with
    | none => none
    | some r1 => match g r1 with
      | some (.nx, r2) => sForL t g xs r2
      | some (.ct, r2) => sForL t g xs r2
      | some (.bk, r2) => some (.nx, r2)
      | z => z
def sFor (f : EF (List D)) (t : Tg) (g : SM) : SM := sx f fun xs => sForL t g xs
theorem ds_for {W : WX} {tg iter : Expr} {body : List Stmt} {f : EF (List D)} {t : Tg} {g : SM} (hp : PassesOwn (model X.prog X.w) X.A X.env X.xe) (hc : X.calm = true) (hi : DI X W tg iter f) (hg : DG X tg t) (hb : DSs X W body g)
    (hs : ∀ x, foldedSetIterable iter X.env x = pure x := by intro _; rfl) : DS X W (.For tg iter body [] pos) (sFor f t g) :=
  ps_of (ps_for hp hc hi hg hb hs) fun D s H ⟨C, I, r, o, r', R, e, q⟩ => by
    rcases sx_inv e with ⟨xs, r1, hf, e⟩ | ⟨x, hf, rfl⟩
    · refine ⟨C, I, r, _, _, R, hf, fun J I1 H1 R1 g1 j => ?_⟩
      have q := spost_up g1 q
      refine ⟨fun i m σ H => m = xs.length - i ∧ i ≤ xs.length ∧ ∃ I2 r2, Rel X.K C I2 H r2 σ ∧ Same I1 I2 ∧ sForL t g (xs.drop i) r2 = some (o, r'), ⟨xs.length, by simp, Nat.zero_le _, I1, r1, R1, Same.refl I1, e⟩, ?_⟩
      rintro i m σ H2 ⟨rfl, hi, I2, r2, R2, g2, e2⟩
      by_cases hl : i < xs.length
      · have hd : xs.drop i = xs[i] :: xs.drop (i + 1) := List.drop_eq_getElem_cons hl
        rw [hd] at e2
        unfold sForL at e2
        obtain ⟨j1, j2⟩ := (j C i I2 H2 r2 σ ⟨rfl, rfl, Same.refl _⟩ R2 g2).1 xs[i] (List.getElem?_eq_getElem hl)
        split at e2
        · cases e2
        · rename_i r3 hb3
          refine .inr ⟨j1, fun σ' H' => ∃ I4 r4, Rel X.K C I4 H' r4 σ' ∧ Same I1 I4 ∧ sForL t g (xs.drop (i + 1)) r4 = some (o, r'), fun σ' H' ⟨I4, r4, R4, g4, e4⟩ => ⟨xs.length - (i + 1), by omega, rfl, hl, I4, r4, R4, g4, e4⟩, fun x H' y => ?_⟩
          obtain ⟨I3, R3, g3, p3⟩ := j2 x H' y
          refine ⟨C, I3, r2, xs[i], r3, R3, p3, hb3, fun s' R4 _ => ?_⟩
          have g13 := g2.trans g3
          split at e2
          · rename_i r5 hg5
            exact ⟨C, I3, r3, _, _, R4, hg5, fun s' I' H' R' g' => ⟨I', r5, R', g13.trans g', e2⟩⟩
          · rename_i r5 hg5
            exact ⟨C, I3, r3, _, _, R4, hg5, fun s' I' H' R' g' => ⟨I', r5, R', g13.trans g', e2⟩⟩
          · rename_i r5 hg5
            cases e2
            exact ⟨C, I3, r3, _, _, R4, hg5, fun s' I' H' R' g' => q s' I' H' R' (g13.trans g')⟩
          · rename_i z h1 h2 h3
            refine ⟨C, I3, r3, o, r', R4, e2, ?_⟩
            cases o with
            | nx => exact absurd e2 (h1 _)
            | bk => exact absurd e2 (h3 _)
            | ct => exact absurd e2 (h2 _)
            | rt x => exact fun v s' I' H' R' g' => q v s' I' H' R' (g13.trans g')
            | ex x => exact fun c dx s' I' H' R' g' => q c dx s' I' H' R' (g13.trans g')
      · have hd : xs.drop i = [] := List.drop_eq_nil_of_le (by omega)
        rw [hd] at e2
        cases e2
        exact .inl ⟨(j C i I2 H2 _ σ ⟨rfl, rfl, Same.refl _⟩ R2 g2).2 (by omega), q σ I2 H2 R2 g2⟩
    · exact ⟨C, I, r, _, _, R, hf, fun c dx I' H' R' g' t => q c dx s I' H' R' g' t⟩
/-- a turn, then k -/
def sStep (c : EF Bool) (g k : SM) : SM := fun r => match c r with
  | some (.ok true, r1) => (match g r1 with
    | some (.nx, r2) => k r2
    | some (.ct, r2) => k r2
    | some (.bk, r2) => some (.nx, r2)
    | z => z)
  | some (.ok false, r1) => some (.nx, r1)
  | some (.ex x, r1) => some (.ex x, r1)
  | none => none
/-- at most n turns -/
def sWh (c : EF Bool) (g : SM) : Nat → SM
  | 0 => fun _ => none
  | n + 1 => sStep c g (sWh c g n)
open Classical in
noncomputable def sWhile (c : EF Bool) (g : SM) : SM := fun r => if h : ∃ z n, sWh c g n r = some z then some h.choose else none
theorem sStep_mono {c : EF Bool} {g k k' : SM} (h : ∀ r z, k r = some z → k' r = some z) {r : Env} {z : O × Env} (e : sStep c g k r = some z) : sStep c g k' r = some z := by
  unfold sStep at e ⊢
  cases hc : c r with
  | none => rw [hc] at e; cases e
  | some p =>
    obtain ⟨o, r1⟩ := p
    rw [hc] at e
    cases o with
    | ex x => exact e
    | ok b =>
      cases b with
      | false => exact e
      | true =>
        dsimp only at e ⊢
        cases hg : g r1 with
        | none => rw [hg] at e; cases e
        | some p =>
          obtain ⟨o, r2⟩ := p
          rw [hg] at e
          cases o with
          | nx => exact h _ _ e
          | ct => exact h _ _ e
          | bk => exact e
          | rt x => exact e
          | ex x => exact e
theorem sWh_mono {c : EF Bool} {g : SM} : ∀ {n : Nat} {r : Env} {z : O × Env}, sWh c g n r = some z → ∀ m, n ≤ m → sWh c g m r = some z
  | 0, r, z, e, _, _ => by cases e
  | n + 1, r, z, e, 0, h => by omega
  | n + 1, r, z, e, m + 1, h => sStep_mono (fun r z e => sWh_mono e m (by omega)) e
theorem sWhile_of {c : EF Bool} {g : SM} {n : Nat} {r : Env} {z : O × Env} (h : sWh c g n r = some z) : sWhile c g r = some z := by
  unfold sWhile
  have hx : ∃ z n, sWh c g n r = some z := ⟨z, n, h⟩
  rw [dif_pos hx]
  obtain ⟨m, hm⟩ := hx.choose_spec
  have e1 := sWh_mono hm (n + m) (by omega)
  have e2 := sWh_mono h (n + m) (by omega)
  rw [e1] at e2
  exact e2
theorem sWhile_inv {c : EF Bool} {g : SM} {r : Env} {z : O × Env} (h : sWhile c g r = some z) : ∃ n, sWh c g n r = some z := by
  unfold sWhile at h
  split at h
  · rename_i hx
    cases h
    exact hx.choose_spec
  · cases h
theorem ds_while {W : WX} {c : Expr} {body : List Stmt} {f : EF Bool} {g : SM} (hp : PassesOwn (model X.prog X.w) X.A X.env X.xe) (hc : DT X W c f) (hb : DSs X W body g) : DS X W (.While c body [] pos) (sWhile f g) :=
  ps_of (ps_while hp hc hb) fun D s H ⟨C, I, r, o, r', R, e, q⟩ => by
    obtain ⟨n, e⟩ := sWhile_inv e
    refine ⟨fun m σ H => ∃ I2 r2, Rel X.K C I2 H r2 σ ∧ Same I I2 ∧ sWh f g m r2 = some (o, r'), ⟨n, I, r, R, Same.refl I, e⟩, ?_⟩
    rintro m σ H2 ⟨I2, r2, R2, g2, e2⟩
    cases m with
    | zero => cases e2
    | succ m =>
      have e2 : sStep f g (sWh f g m) r2 = some (o, r') := e2
      unfold sStep at e2
      split at e2
      · rename_i r3 h3
        refine ⟨C, I2, r2, _, _, R2, h3, fun I3 H3 R3 g3 => iteT ⟨fun σ' H' => ∃ I4 r4, Rel X.K C I4 H' r4 σ' ∧ Same I I4 ∧ sWh f g m r4 = some (o, r'), fun σ' H' h => ⟨m, Nat.lt_succ_self m, h⟩, ?_⟩⟩
        have g13 := g2.trans g3
        split at e2
        · rename_i r5 hg5
          exact ⟨C, I3, r3, _, _, R3, hg5, fun s' I' H' R' g' => ⟨I', r5, R', g13.trans g', e2⟩⟩
        · rename_i r5 hg5
          exact ⟨C, I3, r3, _, _, R3, hg5, fun s' I' H' R' g' => ⟨I', r5, R', g13.trans g', e2⟩⟩
        · rename_i r5 hg5
          cases e2
          exact ⟨C, I3, r3, _, _, R3, hg5, fun s' I' H' R' g' => q s' I' H' R' (g13.trans g')⟩
        · rename_i z h1 h2 h4
          refine ⟨C, I3, r3, o, r', R3, e2, ?_⟩
          cases o with
          | nx => exact absurd e2 (h1 _)
          | bk => exact absurd e2 (h4 _)
          | ct => exact absurd e2 (h2 _)
          | rt x => exact fun v s' I' H' R' g' => q v s' I' H' R' (g13.trans g')
          | ex x => exact fun c dx s' I' H' R' g' => q c dx s' I' H' R' (g13.trans g')
      · rename_i r3 h3
        cases e2
        exact ⟨C, I2, r2, _, _, R2, h3, fun I3 H3 R3 g3 => iteF (q σ I3 H3 R3 (g2.trans g3))⟩
      · rename_i x r3 h3
        cases e2
        exact ⟨C, I2, r2, _, _, R2, h3, fun c dx I' H' R' g' t => q c dx σ I' H' R' (g2.trans g') t⟩
      · cases e2
end
end DL
namespace DL
open PySem L2
open PyProof.Rows (envOfC)
/-! ### comprehensions -/
def wipeE (r : Env) : List Nat → Env
  | [] => r
  | v :: vs => (wipeE r vs).set v none
def keepD : Option (Option S) → Option S
  | some (some (.d x)) => some (.d x)
  | _ => none
def restE (r0 r1 : Env) : List Nat → Env
  | [] => r1
  | v :: vs => (restE r0 r1 vs).set v (keepD r0[v]?)
def cmpL (t : Tg) (c : EF Bool) (f : EF D) (vs : List Nat) : List D → EF (List D)
  | [] => er []
  | d :: xs => fun r => match bindT t d r with
    | none => none
    | some r1 => match c r1 with
      | some (.ok true, r2) => (match f r2 with
        | some (.ok y, r3) => (match cmpL t c f vs xs (wipeE r3 vs) with
          | some (.ok ys, r4) => some (.ok (y :: ys), r4)
          | _ => none)
        | _ => none)
      | some (.ok false, r2) => cmpL t c f vs xs (wipeE r2 vs)
      | _ => none
def dComp (fi : EF (List D)) (t : Tg) (c : EF Bool) (f : EF D) (vs : List Nat) : EF S := eb fi fun xs r => if xs.length ≤ 16777216 then
    match cmpL t c f vs xs (wipeE r vs) with
    | some (.ok ys, r') => some (.ok (.own false (.lst ys)), restE r r' vs)
    | _ => none
  else none
theorem wipeE_len (r : Env) : ∀ vs : List Nat, (wipeE r vs).length = r.length
  | [] => rfl
  | v :: vs => by unfold wipeE; rw [List.length_set, wipeE_len r vs]
theorem wipeE_some {r : Env} {i : Nat} {x : S} : ∀ {vs : List Nat}, (wipeE r vs)[i]? = some (some x) → r[i]? = some (some x) ∧ i ∉ vs
  | [], h => ⟨h, by simp⟩
  | v :: vs, h => by
    unfold wipeE at h
    by_cases hi : v = i
    · subst hi
      by_cases hv : v < (wipeE r vs).length
      · rw [List.getElem?_set_self hv] at h; cases h
      · rw [List.getElem?_eq_none (by simpa using hv)] at h; cases h
    · rw [List.getElem?_set_ne hi] at h
      obtain ⟨h1, h2⟩ := wipeE_some h
      exact ⟨h1, by simp only [List.mem_cons, not_or]; exact ⟨fun e => hi e.symm, h2⟩⟩
theorem wipe_some' {s : L2.St} {i : Nat} {x : V} : ∀ {vs : List Nat}, s[i]? = some (some x) → i ∉ vs → (wipe s vs)[i]? = some (some x)
  | [], h, _ => h
  | v :: vs, h, n => by
    simp only [List.mem_cons, not_or] at n
    unfold wipe
    rw [List.getElem?_set_ne (Ne.symm n.1)]
    exact wipe_some' h n.2
theorem wipe_none {s : L2.St} {vs : List Nat} {v : Nat} (h : v ∈ vs) : (wipe s vs).set v none = wipe s vs := by
  refine List.ext_getElem? fun k => ?_
  by_cases hk : v = k
  · subst hk
    by_cases hlk : v < (wipe s vs).length
    · rw [List.getElem?_set_self hlk]
      cases q1 : (wipe s vs)[v]? with
      | none =>
        rw [List.getElem?_eq_none_iff] at q1
        omega
      | some u =>
        cases u with
        | none => rfl
        | some u => exact absurd h (wipe_some q1).2
    · rw [List.getElem?_eq_none (by simpa using hlk), List.getElem?_eq_none (by simpa using hlk)]
  · rw [List.getElem?_set_ne hk]
theorem wipe_sub {s : L2.St} {vs : List Nat} : ∀ {ws : List Nat}, (∀ v ∈ ws, v ∈ vs) → wipe (wipe s vs) ws = wipe s vs
  | [], _ => rfl
  | v :: ws, h => by
    show (wipe (wipe s vs) ws).set v none = wipe s vs
    rw [wipe_sub fun u hu => h u (List.mem_cons_of_mem _ hu), wipe_none (h v List.mem_cons_self)]
theorem restE_len (r0 r1 : Env) : ∀ vs : List Nat, (restE r0 r1 vs).length = r1.length
  | [] => rfl
  | v :: vs => by unfold restE; rw [List.length_set, restE_len r0 r1 vs]
theorem restE_at {r0 r1 : Env} {i : Nat} {x : S} : ∀ {vs : List Nat}, (restE r0 r1 vs)[i]? = some (some x) → (∃ d, x = .d d ∧ r0[i]? = some (some (.d d))) ∨ (i ∉ vs ∧ r1[i]? = some (some x))
  | [], h => .inr ⟨by simp, h⟩
  | v :: vs, h => by
    unfold restE at h
    by_cases hi : v = i
    · subst hi
      by_cases hv : v < (restE r0 r1 vs).length
      · rw [List.getElem?_set_self hv] at h
        have h : keepD r0[v]? = some x := Option.some.inj h
        unfold keepD at h
        split at h
        · rename_i d e
          cases h
          exact .inl ⟨d, rfl, e⟩
        · cases h
      · rw [List.getElem?_eq_none (by simpa using hv)] at h; cases h
    · rw [List.getElem?_set_ne hi] at h
      rcases restE_at h with h | ⟨h1, h2⟩
      · exact .inl h
      · exact .inr ⟨by simp only [List.mem_cons, not_or]; exact ⟨fun e => hi e.symm, h1⟩, h2⟩
section
variable {K : KF} {mg : MG} {C : Cn} {I H : Hp} {r : Env} {s : L2.St}
theorem Rel.wipe (R : Rel K C I H r s) (vs : List Nat) : Rel K C I H (wipeE r vs) (L2.wipe s vs) where
  len := by rw [wipeE_len, wipe_length]; exact R.len
  sub := R.sub
  mono := R.mono
  keep := R.keep
  dom := R.dom
  bo := R.bo
  iot := R.iot
  fresh := R.fresh
  slot := fun i x h => by
    obtain ⟨h1, h2⟩ := wipeE_some h
    obtain ⟨v, hv, q⟩ := R.slot i x h1
    exact ⟨v, wipe_some' hv h2, q⟩
  dist := fun i j b c m n a ne h1 h2 e1 e2 => R.dist i j b c m n a ne (wipeE_some h1).1 (wipeE_some h2).1 (wipe_some e1).1 (wipe_some e2).1
/-- no slot holds the thing at a -/
def NoSlot (r : Env) (s : L2.St) (a : Addr) : Prop := ∀ (i : Nat) b m, r[i]? = some (some (.own b m)) → s[i]? ≠ some (some (.ref a))
theorem NoSlot.wipe {a : Addr} (h : NoSlot r s a) (vs : List Nat) : NoSlot (wipeE r vs) (L2.wipe s vs) a := fun i b m e z => h i b m (wipeE_some e).1 (wipe_some z).1
def Cn.push (C : Cn) (a : Addr) (o : HO) : Cn := { C with H0 := upd C.H0 a o }
theorem push_ext {a : Addr} {o : HO} (h : C.H0 a = none) : Cext C (C.push a o) := ⟨rfl, rfl, Evl.Ex.new h⟩
theorem srel_push {a : Addr} {o : HO} {i : Nat} {v : V} {x : S} (h0 : C.H0 a = none) (q : SRel K C I H i v x) (n : ∀ b m, x = .own b m → v ≠ .ref a) : SRel K (C.push a o) I H i v x := by
  cases x with
  | d x => exact q
  | bor m =>
    obtain ⟨c, e, b, k, z⟩ := q
    refine ⟨c, e, b, k, mrel_same (Same.refl _) (fun u hu => ?_) z⟩
    exact Evl.Ex.new h0 _ _ hu
  | own b m =>
    obtain ⟨c, e, k, z, w⟩ := own_nz q
    subst e
    have hc : c ≠ a := fun e => n b m rfl (by rw [e])
    refine own_mk rfl k z ?_
    rcases w with w | ⟨w1, w2⟩
    · exact .inl w
    · exact .inr ⟨w1, by show upd C.H0 a o c = none; rw [upd_ne hc]; exact w2⟩
theorem Rel.hide {a : Addr} {o : HO} (R : Rel K C I H r s) (hD : H a = some o) (n : I a = none) (h0 : C.H0 a = none) (no : NoSlot r s a) : Rel K (C.push a o) I H r s where
  len := R.len
  sub := R.sub
  mono := R.mono
  keep := fun c u e k => by
    have e : upd C.H0 a o c = some u := e
    by_cases hc : c = a
    · subst hc
      rw [upd_same] at e
      cases e
      exact hD
    · rw [upd_ne hc] at e
      exact R.keep c u e k
  dom := fun c e => by
    show upd C.H0 a o c = none
    have hc : c ≠ a := by
      rintro rfl
      rw [hD] at e
      cases e
    rw [upd_ne hc]
    exact R.dom c e
  bo := fun c e => by
    show upd C.H0 a o c ≠ none
    have hc : c ≠ a := by
      rintro rfl
      exact R.bo _ e h0
    rw [upd_ne hc]
    exact R.bo c e
  iot := fun j c e => by
    show upd C.H0 a o c ≠ none
    have hc : c ≠ a := by
      rintro rfl
      exact R.iot _ _ e h0
    rw [upd_ne hc]
    exact R.iot j c e
  fresh := fun c e1 e2 => by
    by_cases hc : c = a
    · rw [hc]
      exact n
    · have e2 : upd C.H0 a o c ≠ none := e2
      rw [upd_ne hc] at e2
      exact R.fresh c e1 e2
  slot := fun i x h => by
    obtain ⟨v, hv, q⟩ := R.slot i x h
    exact ⟨v, hv, srel_push h0 q fun b m e z => no i b m (by rw [h, e]) (by rw [hv, z])⟩
  dist := R.dist
theorem Rel.unhide {a : Addr} {o : HO} (R : Rel K (C.push a o) I H r s) (h0 : C.H0 a = none) (i0 : C.I0 a = none) (bo : ∀ c, C.bo c → C.H0 c ≠ none) (iot : ∀ j c, C.io j = some c → C.H0 c ≠ none) :
    Rel K C I H r s ∧ H a = some o ∧ I a = none ∧ NoSlot r s a := by
  have hp : (C.push a o).H0 a = some o := upd_same
  have nio : ∀ j, C.io j ≠ some a := fun j e => iot j a e h0
  have hH : H a = some o := R.keep a o hp nio
  have hI : I a = none := R.fresh a i0 (by rw [hp]; exact fun z => by cases z)
  have back : ∀ {c : Addr} {u : HO}, C.H0 c = some u → (C.push a o).H0 c = some u := fun {c u} e => by
    have hc : c ≠ a := by
      rintro rfl
      rw [h0] at e
      cases e
    show upd C.H0 a o c = some u
    rw [upd_ne hc]
    exact e
  have no : NoSlot r s a := fun i b m e z => by
    obtain ⟨v, hv, q⟩ := R.slot i _ e
    rw [z] at hv
    cases hv
    obtain ⟨c, e1, _, _, w⟩ := own_nz q
    cases e1
    rcases w with ⟨_, w⟩ | ⟨_, w⟩
    · exact nio i w
    · rw [hp] at w
      cases w
  refine ⟨⟨R.len, R.sub, R.mono, fun c u e k => R.keep c u (back e) k, fun c e => ?_, bo, iot, fun c e1 e2 => ?_, fun i x h => ?_, R.dist⟩, hH, hI, no⟩
  · cases q : C.H0 c with
    | none => rfl
    | some u =>
      have := R.dom c e
      rw [back q] at this
      cases this
  · refine R.fresh c e1 ?_
    cases q : C.H0 c with
    | none => exact absurd q e2
    | some u =>
      rw [back q]
      exact fun z => by cases z
  · obtain ⟨v, hv, q⟩ := R.slot i x h
    refine ⟨v, hv, ?_⟩
    cases x with
    | d x => exact q
    | bor m =>
      obtain ⟨c, e, b, k, z⟩ := q
      have hc : c ≠ a := by
        rintro rfl
        exact bo _ b h0
      exact ⟨c, e, b, k, mrel_up (Same.refl _) (by show C.H0 c = upd C.H0 a o c; rw [upd_ne hc]) z⟩
    | own b m =>
      obtain ⟨c, e, k, z, w⟩ := own_nz q
      subst e
      refine own_mk rfl k z ?_
      rcases w with w | ⟨w1, w2⟩
      · exact .inl w
      · refine .inr ⟨w1, ?_⟩
        cases q2 : C.H0 c with
        | none => rfl
        | some u =>
          rw [back q2] at w2
          cases w2
/-- what nobody's slot holds is changed -/
theorem Rel.updFree {a : Addr} {o : HO} (R : Rel K C I H r s) (n : I a = none) (h0 : C.H0 a = none) (no : NoSlot r s a) : Rel K C I (upd H a o) r s where
  len := R.len
  sub := fun c u e => by
    rw [upd_ne (ne_of_none e n)]
    exact R.sub c u e
  mono := R.mono
  keep := fun c u e k => by
    rw [upd_ne (ne_of_none e h0)]
    exact R.keep c u e k
  dom := fun c e => by
    by_cases hc : c = a
    · rw [hc]
      exact h0
    · rw [upd_ne hc] at e
      exact R.dom c e
  bo := R.bo
  iot := R.iot
  fresh := R.fresh
  slot := fun i x h => by
    obtain ⟨v, hv, q⟩ := R.slot i x h
    refine ⟨v, hv, srel_up (Same.refl I) q fun b m c ex ev nc _ => ⟨nc, upd_ne ?_⟩⟩
    rintro rfl
    subst ex ev
    exact no i b m h hv
  dist := R.dist
theorem Rel.rest {r0 : Env} {H0 I0 : Hp} {vs : List Nat} (R : Rel K C I H r (L2.wipe s vs)) (R0 : Rel K C I0 H0 r0 s) (g : Same I0 I) : Rel K C I H (restE r0 r vs) s where
  len := by
    rw [restE_len, ← R.len, wipe_length]
  sub := R.sub
  mono := R.mono
  keep := R.keep
  dom := R.dom
  bo := R.bo
  iot := R.iot
  fresh := R.fresh
  slot := fun i x h => by
    rcases restE_at h with ⟨d, rfl, e⟩ | ⟨_, e⟩
    · obtain ⟨v, hv, q⟩ := R0.slot i _ e
      exact ⟨v, hv, dp_up g _ _ q⟩
    · obtain ⟨v, hv, q⟩ := R.slot i x e
      exact ⟨v, (wipe_some hv).1, q⟩
  dist := fun i j b c m n a ne h1 h2 e1 e2 => by
    rcases restE_at h1 with ⟨d, z, _⟩ | ⟨n1, h1⟩
    · cases z
    · rcases restE_at h2 with ⟨d, z, _⟩ | ⟨n2, h2⟩
      · cases z
      · exact R.dist i j b c m n a ne h1 h2 (wipe_some' e1 n1) (wipe_some' e2 n2)
end
def W0 : WX := fun _ _ _ _ => False
theorem pts_of {X : Cx} {ifs : List Expr} {t t' : TT} (h : PTs X ifs t) (w : ∀ s H Q, t' s H Q → t s H Q) : PTs X ifs t' := ⟨fun pins s σ H Q I q => h.run pins s σ H Q I (w _ _ _ q)⟩
abbrev DTs (X : Cx) (W : WX) (ifs : List Expr) (f : EF Bool) : Prop := PTs X ifs (tT X.K X.mg W f)
theorem dts_nil {X : Cx} {W : WX} : DTs X W [] (er true) := pts_of pts_nil fun s H Q q => tT_er q
theorem dts_one {X : Cx} {W : WX} {c : Expr} {f : EF Bool} (h : DT X W c f) : DTs X W [c] f := pts_one h
/-- the comprehension's loop -/
theorem comp_ok {K : KF} {mg : MG} {W : WX} {fi : EF (List D)} {t : Tg} {c : EF Bool} {f : EF D} {vs : List Nat} {s : L2.St} {H : Hp} {Q : VK} (hv : t.sub vs) (h : tE K mg W (dComp fi t c f vs) s H Q) :
    tLc (tI K mg W fi) (tG K t) (tT K mg W0 c) (tD K mg W0 f) vs s H Q := by
  obtain ⟨C, I, r, o, r', R, e, q⟩ := h
  rcases eb_inv e with ⟨xs, r1, hf, e⟩ | ⟨x, hf, rfl⟩
  · split at e
    · rename_i hlen
      split at e
      · rename_i ys rE he
        cases e
        refine ⟨C, I, r, _, _, R, hf, fun J I1 H1 R1 g1 j L hL => ?_⟩
        have c0 : C.H0 L = none := R1.dom L hL
        have i1 : I1 L = none := R1.sub.free hL
        have i0 : C.I0 L = none := R1.mono.free i1
        have no1 : NoSlot (wipeE r1 vs) (wipe s vs) L := NoSlot.wipe (fun i b m e1 e2 => by
          obtain ⟨v, hv, z⟩ := R1.slot i _ e1
          rw [e2] at hv
          cases hv
          obtain ⟨a, ea, _, mm, _⟩ := own_nz z
          cases ea
          obtain ⟨u, hu⟩ := mrel_some mm
          rw [hL] at hu
          cases hu) vs
        refine ⟨fun i m H => m = xs.length - i ∧ i ≤ xs.length ∧ ∃ I2 r2 acc vacc rest, Rel K C I2 H r2 (wipe s vs) ∧ Same I1 I2 ∧ H L = some (.lst vacc) ∧ DpAll K I2 vacc acc ∧ I2 L = none ∧ NoSlot r2 (wipe s vs) L ∧ acc.length ≤ i ∧
            cmpL t c f vs (xs.drop i) r2 = some (.ok rest, rE) ∧ acc ++ rest = ys, ⟨xs.length, by simp, Nat.zero_le _, I1, wipeE r1 vs, [], [], ys, (R1.wipe vs).updFree i1 c0 no1, Same.refl I1, upd_same, .nil, i1, no1, Nat.le_refl _, ?_, rfl⟩, ?_⟩
        · exact he
        · rintro i m H2 ⟨rfl, hi, I2, r2, acc, vacc, rest, R2, g2, hD, pa, iD, no, hacc, e2, hys⟩
          have R2' := R2.hide (o := .lst vacc) hD iD c0 no
          have j' := j (C.push L (.lst vacc)) i I2 H2 r2 (wipe s vs) (push_ext c0) R2' g2
          by_cases hl : i < xs.length
          · have hd : xs.drop i = xs[i] :: xs.drop (i + 1) := List.drop_eq_getElem_cons hl
            rw [hd] at e2
            unfold cmpL at e2
            obtain ⟨j1, j2⟩ := j'.1 xs[i] (List.getElem?_eq_getElem hl)
            split at e2
            · cases e2
            · rename_i r3 hb3
              refine .inr ⟨j1, fun H' => i + 1 ≤ xs.length ∧ ∃ I2 r2 acc vacc rest, Rel K C I2 H' r2 (wipe s vs) ∧ Same I1 I2 ∧ H' L = some (.lst vacc) ∧ DpAll K I2 vacc acc ∧ I2 L = none ∧ NoSlot r2 (wipe s vs) L ∧ acc.length ≤ i + 1 ∧
                cmpL t c f vs (xs.drop (i + 1)) r2 = some (.ok rest, rE) ∧ acc ++ rest = ys, fun H' z => ⟨xs.length - (i + 1), by omega, rfl, z⟩, fun x H' y => ?_⟩
              obtain ⟨I3, R3, g3, p3⟩ := j2 x H' y
              refine ⟨_, I3, r2, xs[i], r3, R3, p3, hb3, fun s4 R4 w4 => ?_⟩
              have w4 : wipe s4 vs = wipe s vs := (w4 vs hv).trans (wipe_sub fun v h => h)
              refine ⟨w4, ?_⟩
              have g13 := g2.trans g3
              split at e2
              · rename_i r5 h5
                refine ⟨_, I3, r3, _, _, R4, h5, fun I6 H6 R6 g6 => iteT ?_⟩
                split at e2
                · rename_i y r7 h7
                  split at e2
                  · rename_i ys2 r8 h8
                    cases e2
                    refine ⟨_, I6, r5, _, _, R6, h7, fun v I9 H9 R9 g9 p9 => ?_⟩
                    obtain ⟨Ra, hDa, iDa, noa⟩ := R9.unhide c0 i0 R.bo R.iot
                    have gg := (g13.trans g6).trans g9
                    have hln : vacc.length < sizeLine := by
                      rw [dpa_len pa, sizeLine_eq]
                      omega
                    refine ⟨vacc, hDa, hln, by omega, I9, wipeE r7 vs, acc ++ [y], vacc ++ [v], ys2, ?_, gg, upd_same, dpa_app (dpa_up ((g3.trans g6).trans g9) _ _ pa) (.cons p9 .nil), iDa, ?_, by simp; omega, h8, by simpa using hys⟩
                    · have := (Ra.wipe vs).updFree (o := .lst (vacc ++ [v])) iDa c0 (noa.wipe vs)
                      rw [w4] at this
                      exact this
                    · have := noa.wipe vs
                      rw [w4] at this
                      exact this
                  · cases e2
                · cases e2
              · rename_i r5 h5
                refine ⟨_, I3, r3, _, _, R4, h5, fun I6 H6 R6 g6 => iteF ?_⟩
                obtain ⟨Ra, hDa, iDa, noa⟩ := R6.unhide c0 i0 R.bo R.iot
                refine ⟨by omega, I6, wipeE r5 vs, acc, vacc, rest, ?_, g13.trans g6, hDa, dpa_up (g3.trans g6) _ _ pa, iDa, ?_, by omega, e2, hys⟩
                · have := Ra.wipe vs
                  rw [w4] at this
                  exact this
                · have := noa.wipe vs
                  rw [w4] at this
                  exact this
              · cases e2
          · have hd : xs.drop i = [] := List.drop_eq_nil_of_le (by omega)
            rw [hd] at e2
            cases e2
            refine .inl ⟨j'.2 (by omega), ?_⟩
            have Rr := Rel.rest (s := s) R2 R1 g2
            refine q (.ref L) I2 H2 Rr (g1.trans g2) ⟨L, rfl, iD, ⟨vacc, hD, ?_⟩, c0, fun i b m h1 h2 => ?_⟩
            · rw [← hys, List.append_nil]
              exact pa
            · rcases restE_at h1 with ⟨d, z, _⟩ | ⟨n1, h1⟩
              · cases z
              · exact no i b m h1 (wipe_some' h2 n1)
      · cases e
    · cases e
  · exact ⟨C, I, r, _, _, R, hf, q⟩
section
variable {X : Cx} {W : WX} {elt tg iter : Expr} {ifs : List Expr} {scope : Scope} {own : List (Str × Nat)} {pos : Pos} {fi : EF (List D)} {t : Tg} {c : EF Bool} {f : EF D}
theorem de_comp (hc : X.calm = true) (hN : X.N.Nodup) (hi : DI X W tg iter fi) (ok : BlkOk X.N X.env.scope scope own)
    (hg : ∀ (s : Shared) (H : Hp) (C : Addr) (cl : List (Str × Addr)) (fp : List Addr), DG (X.blk s H scope (PySem.compEnvC scope cl C X.env) fp) tg t) (ht : ∀ (s : Shared) (H : Hp) (C : Addr) (cl : List (Str × Addr)) (fp : List Addr), DTs (X.blk s H scope (PySem.compEnvC scope cl C X.env) fp) W0 ifs c)
    (he : ∀ (s : Shared) (H : Hp) (C : Addr) (cl : List (Str × Addr)) (fp : List Addr), DD (X.blk s H scope (PySem.compEnvC scope cl C X.env) fp) W0 elt f) (hv : t.sub (own.map (·.2))) (hs : ∀ x, foldedSetIterable iter X.env x = pure x := by intro _; rfl) :
    DE X W (.ListComp elt [⟨tg, iter, ifs, 0⟩] scope pos) (dComp fi t c f (own.map (·.2))) := pe_of (pe_lc hc hN hi ok hg ht he hs) fun s H Q q => comp_ok hv q
/-- name = [..] -/
theorem ds_setComp {i : Nat} {y : Str} {py spos : Pos} (hc : X.calm = true) (hN : X.N.Nodup) (hy : X.N[i]? = some y) (hyl : X.env.scope.names.lookup y = some .local)
    (hsw : swapsWith (.ListComp elt [⟨tg, iter, ifs, 0⟩] scope pos) (some (.Name y py)) spos.line X.env = pure true) (hi : DI X W tg iter fi) (ok : BlkOk X.N X.env.scope scope own)
    (hg : ∀ (s : Shared) (H : Hp) (C : Addr) (cl : List (Str × Addr)) (fp : List Addr), DG (X.blk s H scope (PySem.compEnvC scope cl C X.env) fp) tg t) (ht : ∀ (s : Shared) (H : Hp) (C : Addr) (cl : List (Str × Addr)) (fp : List Addr), DTs (X.blk s H scope (PySem.compEnvC scope cl C X.env) fp) W0 ifs c)
    (he : ∀ (s : Shared) (H : Hp) (C : Addr) (cl : List (Str × Addr)) (fp : List Addr), DD (X.blk s H scope (PySem.compEnvC scope cl C X.env) fp) W0 elt f) (hv : t.sub (own.map (·.2))) (hs : ∀ x, foldedSetIterable iter X.env x = pure x := by intro _; rfl) :
    DS X W (.Assign [.Name y py] (.ListComp elt [⟨tg, iter, ifs, 0⟩] scope pos) spos) (sAsg i (dComp fi t c f (own.map (·.2)))) :=
  ps_of (ps_setLc hc hN hy hyl hsw hi ok hg ht he hs) fun D s H q => comp_ok hv (tE_sx q fun C I H' r r' o x v R t e q => by
    cases e
    exact q _ I H' (R.put t) (Same.refl I))
end
end DL
namespace DL
open PySem L2
open PyProof.Rows (envOfC)
/-! ### == of data -/
mutual
def nd : PyData → Bool
  | .list xs => nds xs
  | .tuple xs => nds xs
  | .dict _ => false
  | _ => true
def nds : List PyData → Bool
  | [] => true
  | x :: xs => nd x && nds xs
end
mutual
theorem dp_nd {K : KF} {I : Hp} : ∀ (d : D) (v : V), Dp K I v d → nd d = true
  | .none, _, _ => rfl
  | .bool _, _, _ => rfl
  | .int _, _, _ => rfl
  | .str _, _, _ => rfl
  | .list xs, _, h => by
    cases h with
    | lst _ ha => unfold nd; exact dpa_nd xs _ ha
  | .tuple xs, _, h => by
    cases h with
    | tup _ ha => unfold nd; exact dpa_nd xs _ ha
  | .dict _, _, h => by cases h
theorem dpa_nd {K : KF} {I : Hp} : ∀ (ds : List D) (vs : List V), DpAll K I vs ds → nds ds = true
  | [], _, _ => rfl
  | d :: ds, _, h => by
    cases h with
    | cons h1 h2 => unfold nds; rw [dp_nd d _ h1, dpa_nd ds _ h2]; rfl
end
mutual
theorem eqv_self : ∀ d : D, nd d = true → PyData.eqv d d = true
  | .none, _ => rfl
  | .bool b, _ => by simp [PyData.eqv]
  | .int i, _ => by simp [PyData.eqv]
  | .str x, _ => by simp [PyData.eqv]
  | .list xs, h => by unfold nd at h; unfold PyData.eqv; exact eqvs_self xs h
  | .tuple xs, h => by unfold nd at h; unfold PyData.eqv; exact eqvs_self xs h
  | .dict _, h => by cases h
theorem eqvs_self : ∀ ds : List D, nds ds = true → PyData.eqvAll ds ds = true
  | [], _ => rfl
  | d :: ds, h => by
    unfold nds at h
    rw [Bool.and_eq_true] at h
    unfold PyData.eqvAll
    rw [eqv_self d h.1, eqvs_self ds h.2]
    rfl
end
def EqOk (A : Around) (s : Shared) (a b : Value) (k : Bool) : Prop := SeqAt.EqAt A s a b k ∧ SeqAt.RcAt A s a b k ∧ SeqAt.RcNeAt A s a b (!k)
/-- one of the two is no list, no tuple, or they are of two kinds -/
theorem eq_flat {da db : D} {A : Around} {s : Shared} {a b : Value} {as bs : List Addr} (ra : Reads s.heap a da as) (rb : Reads s.heap b db bs) (ha : nd da = true) (hb : nd db = true) (hu : A.units < cLine)
    (h1 : ∀ xs ys, da = .list xs → db ≠ .list ys) (h2 : ∀ xs ys, da = .tuple xs → db ≠ .tuple ys) : EqOk A s a b (PyData.eqv da db) := by
  cases ra with
  | none =>
    cases rb with
    | none => exact ⟨SeqAt.EqAt.same _, SeqAt.RcAt.none_none, SeqAt.RcNeAt.none_none⟩
    | bool y => exact ⟨SeqAt.EqAt.none_bool y, SeqAt.RcAt.none_bool y, SeqAt.RcNeAt.none_bool y⟩
    | int y yt => exact ⟨SeqAt.EqAt.none_int y yt, SeqAt.RcAt.none_int y yt, SeqAt.RcNeAt.none_int y yt⟩
    | str y yt => exact ⟨SeqAt.EqAt.none_str y yt, SeqAt.RcAt.none_str y yt, SeqAt.RcNeAt.none_str y yt⟩
    | list y1 y2 y3 y4 => exact ⟨SeqAt.EqAt.none_list ⟨_, y1, y2, _, y3⟩ hu, SeqAt.RcAt.none_list ⟨_, y1, y2, _, y3⟩ hu, SeqAt.RcNeAt.none_list ⟨_, y1, y2, _, y3⟩ hu⟩
    | tuple y1 y2 y3 y4 => exact ⟨SeqAt.EqAt.none_tuple ⟨_, y1, y2, _, y3⟩ hu, SeqAt.RcAt.none_tuple ⟨_, y1, y2, _, y3⟩ hu, SeqAt.RcNeAt.none_tuple ⟨_, y1, y2, _, y3⟩ hu⟩
    | dict => cases hb
  | bool x =>
    cases rb with
    | none => exact ⟨SeqAt.EqAt.bool_none x, SeqAt.RcAt.bool_none x, SeqAt.RcNeAt.bool_none x⟩
    | bool y => exact ⟨SeqAt.EqAt.bool_bool x y, SeqAt.RcAt.bool_bool x y, SeqAt.RcNeAt.bool_bool x y⟩
    | int y yt => exact ⟨SeqAt.EqAt.bool_int x y yt, SeqAt.RcAt.bool_int x y yt, SeqAt.RcNeAt.bool_int x y yt⟩
    | str y yt => exact ⟨SeqAt.EqAt.bool_str x y yt, SeqAt.RcAt.bool_str x y yt, SeqAt.RcNeAt.bool_str x y yt⟩
    | list y1 y2 y3 y4 => exact ⟨SeqAt.EqAt.bool_list x ⟨_, y1, y2, _, y3⟩ hu, SeqAt.RcAt.bool_list x ⟨_, y1, y2, _, y3⟩ hu, SeqAt.RcNeAt.bool_list x ⟨_, y1, y2, _, y3⟩ hu⟩
    | tuple y1 y2 y3 y4 => exact ⟨SeqAt.EqAt.bool_tuple x ⟨_, y1, y2, _, y3⟩ hu, SeqAt.RcAt.bool_tuple x ⟨_, y1, y2, _, y3⟩ hu, SeqAt.RcNeAt.bool_tuple x ⟨_, y1, y2, _, y3⟩ hu⟩
    | dict => cases hb
  | int x xt =>
    cases rb with
    | none => exact ⟨SeqAt.EqAt.int_none x xt, SeqAt.RcAt.int_none x xt, SeqAt.RcNeAt.int_none x xt⟩
    | bool y => exact ⟨SeqAt.EqAt.int_bool x xt y, SeqAt.RcAt.int_bool x xt y, SeqAt.RcNeAt.int_bool x xt y⟩
    | int y yt => exact ⟨SeqAt.EqAt.int_int x xt y yt, SeqAt.RcAt.int_int x xt y yt, SeqAt.RcNeAt.int_int x xt y yt⟩
    | str y yt => exact ⟨SeqAt.EqAt.int_str x xt y yt, SeqAt.RcAt.int_str x xt y yt, SeqAt.RcNeAt.int_str x xt y yt⟩
    | list y1 y2 y3 y4 => exact ⟨SeqAt.EqAt.int_list x xt ⟨_, y1, y2, _, y3⟩ hu, SeqAt.RcAt.int_list x xt ⟨_, y1, y2, _, y3⟩ hu, SeqAt.RcNeAt.int_list x xt ⟨_, y1, y2, _, y3⟩ hu⟩
    | tuple y1 y2 y3 y4 => exact ⟨SeqAt.EqAt.int_tuple x xt ⟨_, y1, y2, _, y3⟩ hu, SeqAt.RcAt.int_tuple x xt ⟨_, y1, y2, _, y3⟩ hu, SeqAt.RcNeAt.int_tuple x xt ⟨_, y1, y2, _, y3⟩ hu⟩
    | dict => cases hb
  | str x xt =>
    cases rb with
    | none => exact ⟨SeqAt.EqAt.str_none x xt, SeqAt.RcAt.str_none x xt, SeqAt.RcNeAt.str_none x xt⟩
    | bool y => exact ⟨SeqAt.EqAt.str_bool x xt y, SeqAt.RcAt.str_bool x xt y, SeqAt.RcNeAt.str_bool x xt y⟩
    | int y yt => exact ⟨SeqAt.EqAt.str_int x xt y yt, SeqAt.RcAt.str_int x xt y yt, SeqAt.RcNeAt.str_int x xt y yt⟩
    | str y yt => exact ⟨SeqAt.EqAt.str_str x xt y yt, SeqAt.RcAt.str_str x xt y yt, SeqAt.RcNeAt.str_str x xt y yt⟩
    | list y1 y2 y3 y4 => exact ⟨SeqAt.EqAt.str_list x xt ⟨_, y1, y2, _, y3⟩ hu, SeqAt.RcAt.str_list x xt ⟨_, y1, y2, _, y3⟩ hu, SeqAt.RcNeAt.str_list x xt ⟨_, y1, y2, _, y3⟩ hu⟩
    | tuple y1 y2 y3 y4 => exact ⟨SeqAt.EqAt.str_tuple x xt ⟨_, y1, y2, _, y3⟩ hu, SeqAt.RcAt.str_tuple x xt ⟨_, y1, y2, _, y3⟩ hu, SeqAt.RcNeAt.str_tuple x xt ⟨_, y1, y2, _, y3⟩ hu⟩
    | dict => cases hb
  | list x1 x2 x3 x4 =>
    cases rb with
    | none => exact ⟨SeqAt.EqAt.list_none ⟨_, x1, x2, _, x3⟩ hu, SeqAt.RcAt.list_none ⟨_, x1, x2, _, x3⟩ hu, SeqAt.RcNeAt.list_none ⟨_, x1, x2, _, x3⟩ hu⟩
    | bool y => exact ⟨SeqAt.EqAt.list_bool y ⟨_, x1, x2, _, x3⟩ hu, SeqAt.RcAt.list_bool y ⟨_, x1, x2, _, x3⟩ hu, SeqAt.RcNeAt.list_bool y ⟨_, x1, x2, _, x3⟩ hu⟩
    | int y yt => exact ⟨SeqAt.EqAt.list_int y yt ⟨_, x1, x2, _, x3⟩ hu, SeqAt.RcAt.list_int y yt ⟨_, x1, x2, _, x3⟩ hu, SeqAt.RcNeAt.list_int y yt ⟨_, x1, x2, _, x3⟩ hu⟩
    | str y yt => exact ⟨SeqAt.EqAt.list_str y yt ⟨_, x1, x2, _, x3⟩ hu, SeqAt.RcAt.list_str y yt ⟨_, x1, x2, _, x3⟩ hu, SeqAt.RcNeAt.list_str y yt ⟨_, x1, x2, _, x3⟩ hu⟩
    | list y1 y2 y3 y4 => exact absurd rfl (h1 _ _ rfl)
    | tuple y1 y2 y3 y4 => exact ⟨SeqAt.EqAt.list_tuple ⟨_, x1, x2, _, x3⟩ ⟨_, y1, y2, _, y3⟩ hu, SeqAt.RcAt.list_tuple ⟨_, x1, x2, _, x3⟩ ⟨_, y1, y2, _, y3⟩ hu, SeqAt.RcNeAt.list_tuple ⟨_, x1, x2, _, x3⟩ ⟨_, y1, y2, _, y3⟩ hu⟩
    | dict => cases hb
  | tuple x1 x2 x3 x4 =>
    cases rb with
    | none => exact ⟨SeqAt.EqAt.tuple_none ⟨_, x1, x2, _, x3⟩ hu, SeqAt.RcAt.tuple_none ⟨_, x1, x2, _, x3⟩ hu, SeqAt.RcNeAt.tuple_none ⟨_, x1, x2, _, x3⟩ hu⟩
    | bool y => exact ⟨SeqAt.EqAt.tuple_bool y ⟨_, x1, x2, _, x3⟩ hu, SeqAt.RcAt.tuple_bool y ⟨_, x1, x2, _, x3⟩ hu, SeqAt.RcNeAt.tuple_bool y ⟨_, x1, x2, _, x3⟩ hu⟩
    | int y yt => exact ⟨SeqAt.EqAt.tuple_int y yt ⟨_, x1, x2, _, x3⟩ hu, SeqAt.RcAt.tuple_int y yt ⟨_, x1, x2, _, x3⟩ hu, SeqAt.RcNeAt.tuple_int y yt ⟨_, x1, x2, _, x3⟩ hu⟩
    | str y yt => exact ⟨SeqAt.EqAt.tuple_str y yt ⟨_, x1, x2, _, x3⟩ hu, SeqAt.RcAt.tuple_str y yt ⟨_, x1, x2, _, x3⟩ hu, SeqAt.RcNeAt.tuple_str y yt ⟨_, x1, x2, _, x3⟩ hu⟩
    | list y1 y2 y3 y4 => exact ⟨SeqAt.EqAt.tuple_list ⟨_, x1, x2, _, x3⟩ ⟨_, y1, y2, _, y3⟩ hu, SeqAt.RcAt.tuple_list ⟨_, x1, x2, _, x3⟩ ⟨_, y1, y2, _, y3⟩ hu, SeqAt.RcNeAt.tuple_list ⟨_, x1, x2, _, x3⟩ ⟨_, y1, y2, _, y3⟩ hu⟩
    | tuple y1 y2 y3 y4 => exact absurd rfl (h2 _ _ rfl)
    | dict => cases hb
  | dict => cases ha
theorem reads_len {h : Heap} : ∀ (xs : List D) (vs : List Value) (as : List Addr), ReadsAll h vs xs as → vs.length = xs.length := fun xs vs as r => SeqAt.ReadsAll.length xs vs as r
def pairE (xs ys : List D) (j : Nat) : Bool := SeqAt.pairEq xs ys j
mutual
theorem eq_deep : ∀ (da db : D) (A : Around) (s : Shared) (a b : Value) (as bs : List Addr), Reads s.heap a da as → Reads s.heap b db bs → nd da = true → nd db = true → A.units + min da.depth db.depth < cLine → EqOk A s a b (PyData.eqv da db)
  | .list xs, .list ys, A, s, _, _, _, _, ra, rb, ha, hb, hu => by
    cases ra with
    | @list l o vs n _ as1 h1 h2 h3 h4 =>
      cases rb with
      | @list l' o' vs' n' _ bs1 k1 k2 k3 k4 =>
        have hl : s.heap.IsList l vs := ⟨_, h1, h2, _, h3⟩
        have hl' : s.heap.IsList l' vs' := ⟨_, k1, k2, _, k3⟩
        have n1 : vs.size = xs.length := by simpa using reads_len _ _ _ h4
        have n2 : vs'.size = ys.length := by simpa using reads_len _ _ _ k4
        have hr := SeqAt.room_here hu
        have ha' : nds xs = true := by unfold nd at ha; exact ha
        have hb' : nds ys = true := by unfold nd at hb; exact hb
        have he : ∀ j (j1 : j < vs.size) (j2 : j < vs'.size), SeqAt.EqAt A.in1 s vs[j] vs'[j] (SeqAt.pairEq xs ys j) := fun j j1 j2 => by
          have := eq_deeps xs ys A.in1 s vs.toList vs'.toList _ _ h4 k4 ha' hb' (SeqAt.room_in hu) j (by simpa using j1) (by simpa using j2)
          simpa using this
        show EqOk A s (.ref l) (.ref l') (PyData.eqvAll xs ys)
        have rc : SeqAt.RcAt A s (.ref l) (.ref l') (PyData.eqvAll xs ys) ∧ SeqAt.RcNeAt A s (.ref l) (.ref l') (!PyData.eqvAll xs ys) := by
          by_cases hsz : vs.size = vs'.size
          · rw [← SeqAt.eqvAll_same_length (by omega : xs.length = ys.length), ← n1]
            exact ⟨SeqAt.RcAt.lists hl hl' hsz hr he, SeqAt.RcNeAt.lists hl hl' hsz hr he⟩
          · rw [SeqAt.eqvAll_other_length (by omega : xs.length ≠ ys.length)]
            exact ⟨SeqAt.RcAt.lists_lengths hl hl' (by simpa using hsz) hr, SeqAt.RcNeAt.lists_lengths hl hl' (by simpa using hsz) hr⟩
        refine ⟨?_, rc.1, rc.2⟩
        by_cases hll : l = l'
        · subst hll
          have e := (PySem.Reads.unique (Reads.list h1 h2 h3 h4) _ _ (Reads.list k1 k2 k3 k4)).1
          injection e with e
          subst e
          rw [eqvs_self xs ha']
          exact SeqAt.EqAt.same _
        · exact SeqAt.EqAt.of_refs hll rc.1
  | .tuple xs, .tuple ys, A, s, _, _, _, _, ra, rb, ha, hb, hu => by
    cases ra with
    | @tuple l o vs n _ as1 h1 h2 h3 h4 =>
      cases rb with
      | @tuple l' o' vs' n' _ bs1 k1 k2 k3 k4 =>
        have hl : s.heap.IsTuple l vs := ⟨_, h1, h2, _, h3⟩
        have hl' : s.heap.IsTuple l' vs' := ⟨_, k1, k2, _, k3⟩
        have n1 : vs.size = xs.length := by simpa using reads_len _ _ _ h4
        have n2 : vs'.size = ys.length := by simpa using reads_len _ _ _ k4
        have hr := SeqAt.room_here hu
        have ha' : nds xs = true := by unfold nd at ha; exact ha
        have hb' : nds ys = true := by unfold nd at hb; exact hb
        have he : ∀ j (j1 : j < vs.size) (j2 : j < vs'.size), SeqAt.EqAt A.in1 s vs[j] vs'[j] (SeqAt.pairEq xs ys j) := fun j j1 j2 => by
          have := eq_deeps xs ys A.in1 s vs.toList vs'.toList _ _ h4 k4 ha' hb' (SeqAt.room_in hu) j (by simpa using j1) (by simpa using j2)
          simpa using this
        show EqOk A s (.ref l) (.ref l') (PyData.eqvAll xs ys)
        have rc : SeqAt.RcAt A s (.ref l) (.ref l') (PyData.eqvAll xs ys) ∧ SeqAt.RcNeAt A s (.ref l) (.ref l') (!PyData.eqvAll xs ys) := by
          rw [← SeqAt.eqvAll_eq xs ys, ← n1, ← n2]
          exact ⟨SeqAt.RcAt.tuples hl hl' hr he, SeqAt.RcNeAt.tuples hl hl' hr he⟩
        refine ⟨?_, rc.1, rc.2⟩
        by_cases hll : l = l'
        · subst hll
          have e := (PySem.Reads.unique (Reads.tuple h1 h2 h3 h4) _ _ (Reads.tuple k1 k2 k3 k4)).1
          injection e with e
          subst e
          rw [eqvs_self xs ha']
          exact SeqAt.EqAt.same _
        · exact SeqAt.EqAt.of_refs hll rc.1
  | .list xs, .none, A, s, _, _, _, _, ra, rb, ha, hb, hu => eq_flat ra rb ha hb (SeqAt.room_here hu) (fun _ _ _ e => by cases e) fun _ _ e => by cases e
  | .list xs, .bool _, A, s, _, _, _, _, ra, rb, ha, hb, hu => eq_flat ra rb ha hb (SeqAt.room_here hu) (fun _ _ _ e => by cases e) fun _ _ e => by cases e
  | .list xs, .int _, A, s, _, _, _, _, ra, rb, ha, hb, hu => eq_flat ra rb ha hb (SeqAt.room_here hu) (fun _ _ _ e => by cases e) fun _ _ e => by cases e
  | .list xs, .str _, A, s, _, _, _, _, ra, rb, ha, hb, hu => eq_flat ra rb ha hb (SeqAt.room_here hu) (fun _ _ _ e => by cases e) fun _ _ e => by cases e
  | .list xs, .tuple _, A, s, _, _, _, _, ra, rb, ha, hb, hu => eq_flat ra rb ha hb (SeqAt.room_here hu) (fun _ _ _ e => by cases e) fun _ _ e => by cases e
  | .list xs, .dict _, A, s, _, _, _, _, ra, rb, ha, hb, hu => by cases hb
  | .tuple xs, .none, A, s, _, _, _, _, ra, rb, ha, hb, hu => eq_flat ra rb ha hb (SeqAt.room_here hu) (fun _ _ e => by cases e) fun _ _ _ e => by cases e
  | .tuple xs, .bool _, A, s, _, _, _, _, ra, rb, ha, hb, hu => eq_flat ra rb ha hb (SeqAt.room_here hu) (fun _ _ e => by cases e) fun _ _ _ e => by cases e
  | .tuple xs, .int _, A, s, _, _, _, _, ra, rb, ha, hb, hu => eq_flat ra rb ha hb (SeqAt.room_here hu) (fun _ _ e => by cases e) fun _ _ _ e => by cases e
  | .tuple xs, .str _, A, s, _, _, _, _, ra, rb, ha, hb, hu => eq_flat ra rb ha hb (SeqAt.room_here hu) (fun _ _ e => by cases e) fun _ _ _ e => by cases e
  | .tuple xs, .list _, A, s, _, _, _, _, ra, rb, ha, hb, hu => eq_flat ra rb ha hb (SeqAt.room_here hu) (fun _ _ e => by cases e) fun _ _ _ e => by cases e
  | .tuple xs, .dict _, A, s, _, _, _, _, ra, rb, ha, hb, hu => by cases hb
  | .none, _, A, s, _, _, _, _, ra, rb, ha, hb, hu => eq_flat ra rb ha hb (SeqAt.room_here hu) (fun _ _ e => by cases e) fun _ _ e => by cases e
  | .bool _, _, A, s, _, _, _, _, ra, rb, ha, hb, hu => eq_flat ra rb ha hb (SeqAt.room_here hu) (fun _ _ e => by cases e) fun _ _ e => by cases e
  | .int _, _, A, s, _, _, _, _, ra, rb, ha, hb, hu => eq_flat ra rb ha hb (SeqAt.room_here hu) (fun _ _ e => by cases e) fun _ _ e => by cases e
  | .str _, _, A, s, _, _, _, _, ra, rb, ha, hb, hu => eq_flat ra rb ha hb (SeqAt.room_here hu) (fun _ _ e => by cases e) fun _ _ e => by cases e
  | .dict _, _, _, _, _, _, _, _, _, _, ha, _, _ => by cases ha
theorem eq_deeps : ∀ (xs ys : List D) (A : Around) (s : Shared) (vs ws : List Value) (as bs : List Addr), ReadsAll s.heap vs xs as → ReadsAll s.heap ws ys bs → nds xs = true → nds ys = true →
    A.units + min (PyData.depthAll xs) (PyData.depthAll ys) < cLine → ∀ j (h1 : j < vs.length) (h2 : j < ws.length), SeqAt.EqAt A s vs[j] ws[j] (SeqAt.pairEq xs ys j)
  | [], _, _, _, _, _, _, _, ra, _, _, _, _, j, h1, _ => by cases ra; exact absurd h1 (Nat.not_lt_zero _)
  | _ :: _, [], _, _, _, _, _, _, _, rb, _, _, _, j, _, h2 => by cases rb; exact absurd h2 (Nat.not_lt_zero _)
  | x :: xs, y :: ys, A, s, _, _, _, _, ra, rb, ha, hb, hu, j, h1, h2 => by
    unfold nds at ha hb
    rw [Bool.and_eq_true] at ha hb
    cases ra with
    | cons r rs =>
      cases rb with
      | cons r' rs' =>
        cases j with
        | zero => exact (eq_deep x y A s _ _ _ _ r r' ha.1 hb.1 (SeqAt.room_head hu)).1
        | succ j => exact eq_deeps xs ys A s _ _ _ _ rs rs' ha.2 hb.2 (SeqAt.room_tail hu) j (Nat.lt_of_succ_lt_succ h1) (Nat.lt_of_succ_lt_succ h2)
end
end DL
namespace DL
open PySem L2
open PyProof.Rows (envOfC)
/-! ### operations on values -/
theorem aall1 {K : KF} {I H : Hp} {x : V} {ss : List S} (h : AAll K I H [x] ss) : ∃ p, ss = [p] ∧ ARel K I H x p := by
  cases h with
  | cons a b => cases b; exact ⟨_, rfl, a⟩
theorem aall2 {K : KF} {I H : Hp} {x y : V} {ss : List S} (h : AAll K I H [x, y] ss) : ∃ p q, ss = [p, q] ∧ ARel K I H x p ∧ ARel K I H y q := by
  cases h with
  | cons a b =>
    cases b with
    | cons b c => cases c; exact ⟨_, _, rfl, a, b⟩
theorem or_inv {α : Type} {a b : Option α} {z : α} (h : a.or b = some z) : a = some z ∨ b = some z := by
  cases a with
  | none => exact .inr h
  | some x => exact .inl h
theorem OpD.or {X : Cx} {f : Value → Value → Sem Value} {a b : List S → Option S} (ha : OpD X f a) (hb : OpD X f b) : OpD X f fun ss => (a ss).or (b ss) := by
  intro pins s σ H x y v u Q I rx ry h
  obtain ⟨I', ss, z, g, p, e, q⟩ := h
  rcases or_inv e with e | e
  · exact ha pins s σ H x y v u Q I rx ry ⟨I', ss, z, g, p, e, q⟩
  · exact hb pins s σ H x y v u Q I rx ry ⟨I', ss, z, g, p, e, q⟩
theorem CallD.or {X : Cx} {f : Value} {a b : List S → Option S} (ha : CallD X f a) (hb : CallD X f b) : CallD X f fun ss => (a ss).or (b ss) := by
  intro pins s σ H xs us Q I r h
  obtain ⟨I', ss, z, g, p, e, q⟩ := h
  rcases or_inv e with e | e
  · exact ha pins s σ H xs us Q I r ⟨I', ss, z, g, p, e, q⟩
  · exact hb pins s σ H xs us Q I r ⟨I', ss, z, g, p, e, q⟩
/-- lists, tuples as operands -/
def lstS : S → Option (List D)
  | .d (.list xs) => some xs
  | .bor (.lst xs) => some xs
  | _ => none
def tupS : S → Option (List D)
  | .d (.tuple xs) => some xs
  | _ => none
def seqS : S → Option (List D)
  | .d (.list xs) => some xs
  | .bor (.lst xs) => some xs
  | .d (.tuple xs) => some xs
  | _ => none
def datS : S → Option D
  | .d x => some x
  | .bor (.lst xs) => some (.list xs)
  | _ => none
theorem lstS_ok {K : KF} {I H : Hp} {v : V} {x : S} {xs : List D} (g : Same I H) (h : ARel K I H v x) (e : lstS x = some xs) : ∃ a vs, v = .ref a ∧ SqL K H a vs ∧ DpAll K I vs xs := by
  unfold lstS at e
  split at e
  · cases e
    cases h with
    | lst hs ha => exact ⟨_, _, rfl, g.seq hs, ha⟩
  · cases e
    obtain ⟨a, e1, vs, h1, h2⟩ := h
    exact ⟨a, vs, e1, SqL.of h1, h2⟩
  · cases e
theorem tupS_ok {K : KF} {I H : Hp} {v : V} {x : S} {xs : List D} (g : Same I H) (h : ARel K I H v x) (e : tupS x = some xs) : ∃ a vs, v = .ref a ∧ SqT K H a vs ∧ DpAll K I vs xs := by
  unfold tupS at e
  split at e
  · cases e
    cases h with
    | tup hs ha => exact ⟨_, _, rfl, Evl.ex_t g hs, ha⟩
  · cases e
theorem seqS_ok {K : KF} {I H : Hp} {v : V} {x : S} {xs : List D} (g : Same I H) (h : ARel K I H v x) (e : seqS x = some xs) : ∃ a vs, v = .ref a ∧ (SqL K H a vs ∨ SqT K H a vs) ∧ DpAll K I vs xs := by
  unfold seqS at e
  split at e
  · rename_i ys
    have e : lstS (.d (.list ys)) = some xs := e
    obtain ⟨a, vs, h1, h2, h3⟩ := lstS_ok g h e
    exact ⟨a, vs, h1, .inl h2, h3⟩
  · rename_i ys
    have e : lstS (.bor (.lst ys)) = some xs := e
    obtain ⟨a, vs, h1, h2, h3⟩ := lstS_ok g h e
    exact ⟨a, vs, h1, .inl h2, h3⟩
  · rename_i ys
    have e : tupS (.d (.tuple ys)) = some xs := e
    obtain ⟨a, vs, h1, h2, h3⟩ := tupS_ok g h e
    exact ⟨a, vs, h1, .inr h2, h3⟩
  · cases e
theorem datS_ok {K : KF} {I H : Hp} {v : V} {x : S} {d : D} (g : Same I H) (h : ARel K I H v x) (e : datS x = some d) : Dp K H v d := by
  unfold datS at e
  split at e
  · cases e
    exact dp_up g _ _ h
  · cases e
    obtain ⟨a, e1, vs, h1, h2⟩ := h
    subst e1
    exact .lst (SqL.of h1) (dpa_up g _ _ h2)
  · cases e
/-! ints -/
def mulOk (i j : Int) : Bool := decide (i.natAbs < 2 ^ 256) && decide (j.natAbs < 2 ^ 256)
def iAdd : List S → Option S
  | [.d (.int i), .d (.int j)] => some (.d (.int (i + j)))
  | _ => none
def iSub : List S → Option S
  | [.d (.int i), .d (.int j)] => some (.d (.int (i - j)))
  | _ => none
def iMul : List S → Option S
  | [.d (.int i), .d (.int j)] => if mulOk i j = true then some (.d (.int (i * j))) else none
  | _ => none
def iDiv : List S → Option S
  | [.d (.int i), .d (.int j)] => if 0 < j ∧ j.natAbs < 2 ^ 256 then some (.d (.int (i / j))) else none
  | _ => none
def iMod : List S → Option S
  | [.d (.int i), .d (.int j)] => if 0 < j then some (.d (.int (i % j))) else none
  | _ => none
def iPow : List S → Option S
  | [.d (.int i), .d (.int j)] => if 0 ≤ j ∧ j ≤ 1000 ∧ i.natAbs < 2 ^ 64 then some (.d (.int (i ^ j.toNat))) else none
  | _ => none
def iShl : List S → Option S
  | [.d (.int i), .d (.int j)] => if 0 ≤ j ∧ j ≤ 1000 ∧ i.natAbs < 2 ^ 64 then some (.d (.int (i * 2 ^ j.toNat))) else none
  | _ => none
def iNeg : List S → Option S
  | [.d (.int i)] => some (.d (.int (-i)))
  | _ => none
def iCmp (p : Int → Int → Bool) : List S → Option S
  | [.d (.int i), .d (.int j)] => some (.d (.bool (p i j)))
  | _ => none
section
variable {X : Cx}
/-- from a rule on ints -/
theorem opI_of {f : Value → Value → Sem Value} {r : R2} {op : List S → Option S} (h : OpR X f r)
    (e : ∀ ss z, op ss = some z → ∃ i j d, ss = [.d (.int i), .d (.int j)] ∧ z = .d d ∧ ∀ (H : Hp) (Q : VK), (∀ v, (∀ I, Dp X.K I v d) → Q v H) → r (.int i) (.int j) H Q) : OpD X f op := by
  intro pins s σ H x y v u Q I rx ry h1
  obtain ⟨I', ss, z, g, p, e1, q⟩ := h1
  obtain ⟨i, j, d, rfl, rfl, hr⟩ := e ss z e1
  obtain ⟨p1, p2, e2, a1, a2⟩ := aall2 p
  cases e2
  have a1 : Dp X.K I' x (.int i) := a1
  have a2 : Dp X.K I' y (.int j) := a2
  cases a1
  cases a2
  exact h pins s σ H _ _ v u Q I rx ry (hr H Q fun w hw => q w I' H (Grow.refl g) (hw I'))
theorem ok_iAdd : OpD X (binaryOp .Add) iAdd := opI_of op_add fun ss z e => by
  unfold iAdd at e
  split at e
  · rename_i i j
    cases e
    exact ⟨i, j, _, rfl, rfl, fun H Q q => ⟨i, j, rfl, rfl, q _ fun _ => .int _⟩⟩
  · cases e
theorem ok_iSub : OpD X (binaryOp .Sub) iSub := opI_of op_sub fun ss z e => by
  unfold iSub at e
  split at e
  · rename_i i j
    cases e
    exact ⟨i, j, _, rfl, rfl, fun H Q q => ⟨i, j, rfl, rfl, q _ fun _ => .int _⟩⟩
  · cases e
theorem ok_iMul : OpD X (binaryOp .Mult) iMul := opI_of op_mulW fun ss z e => by
  unfold iMul at e
  split at e
  · rename_i i j
    split at e
    · rename_i hm
      cases e
      unfold mulOk at hm
      rw [Bool.and_eq_true, decide_eq_true_eq, decide_eq_true_eq] at hm
      exact ⟨i, j, _, rfl, rfl, fun H Q q => ⟨i, j, rfl, rfl, wide_mul hm.1 hm.2 (by decide) (by decide) (by decide), q _ fun _ => .int _⟩⟩
    · cases e
  · cases e
theorem ok_iDiv : OpD X (binaryOp .FloorDiv) iDiv := opI_of op_fdivW fun ss z e => by
  unfold iDiv at e
  split at e
  · rename_i i j
    split at e
    · rename_i hm
      cases e
      exact ⟨i, j, _, rfl, rfl, fun H Q q => ⟨i, j, rfl, rfl, wide_div hm.1 hm.2 (by decide) (by decide), q _ fun _ => .int _⟩⟩
    · cases e
  · cases e
theorem ok_iMod : OpD X (binaryOp .Mod) iMod := opI_of op_mod fun ss z e => by
  unfold iMod at e
  split at e
  · rename_i i j
    split at e
    · rename_i hm
      cases e
      exact ⟨i, j, _, rfl, rfl, fun H Q q => ⟨i, j, rfl, rfl, hm, q _ fun _ => .int _⟩⟩
    · cases e
  · cases e
theorem ok_iPow : OpD X (binaryOp .Pow) iPow := opI_of op_pow fun ss z e => by
  unfold iPow at e
  split at e
  · rename_i i j
    split at e
    · rename_i hm
      cases e
      exact ⟨i, j, _, rfl, rfl, fun H Q q => ⟨i, j, rfl, rfl, ⟨hm.1, by omega, hm.2.2⟩, q _ fun _ => .int _⟩⟩
    · cases e
  · cases e
theorem ok_iShl : OpD X (binaryOp .LShift) iShl := opI_of op_shl fun ss z e => by
  unfold iShl at e
  split at e
  · rename_i i j
    split at e
    · rename_i hm
      cases e
      exact ⟨i, j, _, rfl, rfl, fun H Q q => ⟨i, j, rfl, rfl, ⟨hm.1, by omega, hm.2.2⟩, q _ fun _ => .int _⟩⟩
    · cases e
  · cases e
theorem ok_iNeg : UnD X (unaryOp .USub) iNeg := by
  intro pins s σ H x v Q I rx h1
  obtain ⟨I', ss, z, g, p, e, q⟩ := h1
  unfold iNeg at e
  split at e
  · rename_i i
    cases e
    obtain ⟨p1, e2, a1⟩ := aall1 p
    cases e2
    have a1 : Dp X.K I' x (.int i) := a1
    cases a1
    exact un_neg pins s σ H _ v Q I rx ⟨i, rfl, q _ I' H (Grow.refl g) (.int _)⟩
  · cases e
theorem iCmp_of {f : Value → Value → Sem Value} {p : Int → Int → Bool} (h : OpR X f (rI0 fun i j => .bl (p i j))) : OpD X f (iCmp p) := opI_of h fun ss z e => by
  unfold iCmp at e
  split at e
  · rename_i i j
    cases e
    exact ⟨i, j, _, rfl, rfl, fun H Q q => ⟨i, j, rfl, rfl, q _ fun _ => .bl _⟩⟩
  · cases e
theorem ok_iLt : OpD X (compareOp .Lt) (iCmp fun i j => decide (i < j)) := iCmp_of op_lt
theorem ok_iLe : OpD X (compareOp .LtE) (iCmp fun i j => decide (i ≤ j)) := iCmp_of op_le
theorem ok_iGt : OpD X (compareOp .Gt) (iCmp fun i j => decide (j < i)) := iCmp_of op_gt
theorem ok_iGe : OpD X (compareOp .GtE) (iCmp fun i j => decide (j ≤ i)) := iCmp_of op_ge
/-! texts, lists, tuples put together -/
def sAdd : List S → Option S
  | [.d (.str a), .d (.str b)] => if a.length + b.length ≤ 16777216 then some (.d (.str (a ++ b))) else none
  | _ => none
theorem ok_sAdd : OpD X (binaryOp .Add) sAdd := by
  intro pins s σ H x y v u Q I rx ry h1
  obtain ⟨I', ss, z, g, p, e, q⟩ := h1
  unfold sAdd at e
  split at e
  · rename_i a b
    split at e
    · rename_i hl
      cases e
      obtain ⟨p1, p2, e2, a1, a2⟩ := aall2 p
      cases e2
      have a1 : Dp X.K I' x (.str a) := a1
      have a2 : Dp X.K I' y (.str b) := a2
      cases a1
      cases a2
      exact op_add_str pins s σ H _ _ v u Q I rx ry ⟨a, b, rfl, rfl, by rw [sizeLine_eq]; exact hl, q _ I' H (Grow.refl g) (.str _)⟩
    · cases e
  · cases e
def tAddD : List S → Option S
  | [p, q] => match tupS p, tupS q with
    | some xs, some ys => if xs.length + ys.length ≤ 16777216 then some (.d (.tuple (xs ++ ys))) else none
    | _, _ => none
  | _ => none
theorem ok_tAdd : OpD X (binaryOp .Add) tAddD := by
  intro pins s σ H x y v u Q I rx ry h1
  obtain ⟨I', ss, z, g, p, e, q⟩ := h1
  obtain ⟨p1, p2, rfl, a1, a2⟩ := aall2 p
  unfold tAddD at e
  dsimp only at e
  split at e
  · rename_i xs ys e1 e2
    split at e
    · rename_i hl
      cases e
      obtain ⟨a, vs, rfl, h1, d1⟩ := tupS_ok g a1 e1
      obtain ⟨b, ws, rfl, h2, d2⟩ := tupS_ok g a2 e2
      have l1 := dpa_len d1
      have l2 := dpa_len d2
      -- each answer reads as the two together
      have fin : ∀ (c : Addr), SqT X.K I' c (vs ++ ws) → Q (.ref c) H := fun c hc => q _ I' H (Grow.refl g) (.tup hc (dpa_app d1 d2))
      have i1 : SqT X.K I' a vs := by
        unfold tupS at e1
        split at e1
        · cases e1
          have a1 : Dp X.K I' (.ref a) (.tuple xs) := a1
          cases a1 with
          | tup hs ha =>
            have := I.tuple_inj (Evl.ex_t g hs) h1
            rw [← this]
            exact hs
        · cases e1
      have i2 : SqT X.K I' b ws := by
        unfold tupS at e2
        split at e2
        · cases e2
          have a2 : Dp X.K I' (.ref b) (.tuple ys) := a2
          cases a2 with
          | tup hs ha =>
            have := I.tuple_inj (Evl.ex_t g hs) h2
            rw [← this]
            exact hs
        · cases e2
      refine op_catA pins s σ H _ _ v u Q I rx ry ⟨a, b, vs, ws, rfl, rfl, h1, h2, by rw [l1, l2, sizeLine_eq]; exact hl, fun hx => ?_, fun _ hy => ?_, fun _ _ c hc => ?_⟩
      · subst hx
        exact fin b i2
      · subst hy
        refine fin a ?_
        rw [List.append_nil]
        exact i1
      · have gr := grow_tup (o := .tup (vs ++ ws)) g hc
        exact q _ _ _ gr (.tup (Or.inl (Or.inl upd_same)) (dpa_app (dpa_up gr.i _ _ d1) (dpa_up gr.i _ _ d2)))
    · cases e
  · cases e
def lAddD : List S → Option S
  | [p, q] => match lstS p, lstS q with
    | some xs, some ys => if xs.length + ys.length ≤ 16777216 then some (.own false (.lst (xs ++ ys))) else none
    | _, _ => none
  | _ => none
theorem ok_lAdd : OpD X (binaryOp .Add) lAddD := by
  intro pins s σ H x y v u Q I rx ry h1
  obtain ⟨I', ss, z, g, p, e, q⟩ := h1
  obtain ⟨p1, p2, rfl, a1, a2⟩ := aall2 p
  unfold lAddD at e
  dsimp only at e
  split at e
  · rename_i xs ys e1 e2
    split at e
    · rename_i hl
      cases e
      obtain ⟨a, vs, rfl, h1, d1⟩ := lstS_ok g a1 e1
      obtain ⟨b, ws, rfl, h2, d2⟩ := lstS_ok g a2 e2
      cases rx
      cases ry
      obtain ⟨its, r1, ⟨⟨c1, dd1, dt1, sl1⟩, n1, o1, k1, m1, w1⟩, z1⟩ := I.list h1
      obtain ⟨its2, r2, ⟨⟨c2, dd2, dt2, sl2⟩, n2, o2, k2, m2, w2⟩, z2⟩ := I.list h2
      simp only at k1 w1 k2 w2
      subst k1 w1 k2 w2
      have hz : (vs ++ ws).length ≤ sizeLine := by
        rw [List.length_append, dpa_len d1, dpa_len d2, sizeLine_eq]
        exact hl
      refine PySem.concat_meets ⟨_, o1, rfl⟩ ⟨_, o2, rfl⟩ PySem.noFill_list_add PySem.seq_list_add PySem.F.slot_list_add PySem.F.entry_list_add (PySem.F.args_list_add_2 _ _)
        (PyProof.Rows.list_addW a b its.toArray its2.toArray n1 n2 dd1 dd2 sl1 sl2 (by
          have q1 := r1.length
          have q2 := r2.length
          rw [List.length_append] at hz
          simp only [List.size_toArray]
          omega)) ⟨o1, o2, ?_⟩
      have ea : its.toArray ++ its2.toArray = (its ++ its2).toArray := by simp
      rw [ea]
      have gr := grow_own (o := .lst (vs ++ ws)) g I.fresh
      exact ⟨.ref _, _, I.lnew (t' := s.toks) (r1.append r2) hz, rfl, q _ _ _ gr ⟨_, rfl, I.fresh, g.free I.fresh, _, upd_same, dpa_app d1 d2⟩⟩
    · cases e
  · cases e
def opAdd (ss : List S) : Option S := (iAdd ss).or ((sAdd ss).or ((tAddD ss).or (lAddD ss)))
theorem ok_add : OpD X (binaryOp .Add) opAdd := ok_iAdd.or (ok_sAdd.or (ok_tAdd.or ok_lAdd))
end
end DL
namespace DL
open PySem L2
open PyProof.Rows (envOfC)
/-! ### comparisons -/
def eqD (neg : Bool) : List S → Option S
  | [p, q] => match datS p, datS q with
    | some d, some e => if min d.depth e.depth ≤ 64 then some (.d (.bool (if neg = true then !PyData.eqv d e else PyData.eqv d e))) else none
    | _, _ => none
  | _ => none
section
variable {X : Cx}
theorem eqD_use (hu : X.A.units + 64 < cLine) {pins : List (Addr × Obj)} {s : Shared} {σ : L2.St} {H : Hp} {x y : V} {v u : Value} (I : Inv X pins σ H s) (rx : RelV x v) (ry : RelV y u) {d e : D} (hd : Dp X.K H x d) (he : Dp X.K H y e) (hm : min d.depth e.depth ≤ 64) :
    EqOk X.A s v u (PyData.eqv d e) := by
  obtain ⟨as, r1⟩ := Dp.reads I d x v hd rx
  obtain ⟨bs, r2⟩ := Dp.reads I e y u he ry
  exact eq_deep d e X.A s v u as bs r1 r2 (dp_nd _ _ hd) (dp_nd _ _ he) (by omega)
theorem ok_eq (hu : X.A.units + 64 < cLine) : OpD X (compareOp .Eq) (eqD false) := by
  intro pins s σ H x y v u Q I rx ry h1
  obtain ⟨I', ss, z, g, p, e, q⟩ := h1
  obtain ⟨p1, p2, rfl, a1, a2⟩ := aall2 p
  unfold eqD at e
  dsimp only at e
  split at e
  · rename_i d1 d2 e1 e2
    split at e
    · rename_i hm
      cases e
      have k := eqD_use hu I rx ry (datS_ok g a1 e1) (datS_ok g a2 e2) hm
      exact k.2.1 X.prog X.w X.xe (EP X pins σ Q) ⟨.bl _, H, I, rfl, q _ I' H (Grow.refl g) (.bl _)⟩
    · cases e
  · cases e
theorem ok_ne (hu : X.A.units + 64 < cLine) : OpD X (compareOp .NotEq) (eqD true) := by
  intro pins s σ H x y v u Q I rx ry h1
  obtain ⟨I', ss, z, g, p, e, q⟩ := h1
  obtain ⟨p1, p2, rfl, a1, a2⟩ := aall2 p
  unfold eqD at e
  dsimp only at e
  split at e
  · rename_i d1 d2 e1 e2
    split at e
    · rename_i hm
      cases e
      have k := eqD_use hu I rx ry (datS_ok g a1 e1) (datS_ok g a2 e2) hm
      exact k.2.2 X.prog X.w X.xe (EP X pins σ Q) ⟨.bl _, H, I, rfl, q _ I' H (Grow.refl g) (.bl _)⟩
    · cases e
  · cases e
/-- x in xs, xs a list or a tuple -/
def inD (neg : Bool) : List S → Option S
  | [p, q] => match datS p, seqS q with
    | some d, some xs => if d.depth ≤ 60 then some (.d (.bool (if neg = true then !(xs.any fun y => PyData.eqv y d) else xs.any fun y => PyData.eqv y d))) else none
    | _, _ => none
  | _ => none
open Classical in
/-- == of what a value reads as, and d -/
noncomputable def eqTo (h : Heap) (d : D) (u : Value) : Bool := decide (∃ d' as, Reads h u d' as ∧ PyData.eqv d' d = true)
open Classical in
theorem eqTo_of {h : Heap} {d d' : D} {u : Value} {as : List Addr} (r : Reads h u d' as) : eqTo h d u = PyData.eqv d' d := by
  unfold eqTo
  by_cases e : PyData.eqv d' d = true
  · rw [e, decide_eq_true ⟨d', as, r, e⟩]
  · rw [Bool.eq_false_iff.mpr e, decide_eq_false]
    rintro ⟨d2, as2, r2, e2⟩
    have := (PySem.Reads.unique r2 _ _ r).1
    subst this
    exact e e2
theorem any_eqTo {h : Heap} {d : D} : ∀ {us : List Value} {xs : List D} {as : List Addr}, ReadsAll h us xs as → us.any (eqTo h d) = xs.any fun y => PyData.eqv y d
  | _, _, _, .nil => rfl
  | _, _, _, .cons r rs => by rw [List.any_cons, List.any_cons, eqTo_of r, any_eqTo rs]
theorem readsAll_mem {h : Heap} : ∀ {us : List Value} {xs : List D} {as : List Addr}, ReadsAll h us xs as → ∀ u ∈ us, ∃ d as', d ∈ xs ∧ Reads h u d as'
  | _, _, _, .nil, u, hu => by simp at hu
  | _, _, _, .cons r rs, u, hu => by
    rcases List.mem_cons.mp hu with rfl | hu
    · exact ⟨_, _, List.mem_cons_self, r⟩
    · obtain ⟨d, as, h1, h2⟩ := readsAll_mem rs u hu
      exact ⟨d, as, List.mem_cons_of_mem _ h1, h2⟩
theorem nds_mem : ∀ {xs : List D} {d : D}, nds xs = true → d ∈ xs → nd d = true
  | x :: xs, d, h, m => by
    unfold nds at h
    rw [Bool.and_eq_true] at h
    rcases List.mem_cons.mp m with rfl | m
    · exact h.1
    · exact nds_mem h.2 m
theorem items_eqTo {A : Around} {s : Shared} {us : List Value} {xs : List D} {as bs : List Addr} {v : Value} {d : D} (r : ReadsAll s.heap us xs as) (rv : Reads s.heap v d bs) (hx : nds xs = true) (hd : nd d = true) (hu : A.units + 1 + d.depth < cLine) :
    ∀ u ∈ us, SeqAt.EqAt A.in1 s u v (eqTo s.heap d u) := fun u hm => by
  obtain ⟨d', as', h1, h2⟩ := readsAll_mem r u hm
  rw [eqTo_of h2]
  refine (eq_deep d' d A.in1 s u v as' bs h2 rv (nds_mem hx h1) hd ?_).1
  show A.units + 1 + min d'.depth d.depth < cLine
  have : min d'.depth d.depth ≤ d.depth := Nat.min_le_right _ _
  omega
theorem in_use (hu : X.A.units + 64 < cLine) {pins : List (Addr × Obj)} {s : Shared} {σ : L2.St} {H I' : Hp} {x y : V} {v u : Value} (I : Inv X pins σ H s) (rx : RelV x v) (ry : RelV y u) {p q : S} {d : D} {xs : List D} (g : Same I' H) (a1 : ARel X.K I' H x p) (a2 : ARel X.K I' H y q)
    (e1 : datS p = some d) (e2 : seqS q = some xs) (hm : d.depth ≤ 60) {Q : Value → Shared → Prop} :
    (Q (.bool (xs.any fun y => PyData.eqv y d)) s → wpAny (model X.prog X.w) X.A (compareOp .In v u) Q X.xe s) ∧ (Q (.bool (!xs.any fun y => PyData.eqv y d)) s → wpAny (model X.prog X.w) X.A (compareOp .NotIn v u) Q X.xe s) := by
  obtain ⟨a, vs, rfl, hs, da⟩ := seqS_ok g a2 e2
  have hx := datS_ok g a1 e1
  obtain ⟨bs, rv⟩ := Dp.reads I d x v hx rx
  cases ry
  have hr : X.A.units + 1 + d.depth < cLine := by omega
  have da' : DpAll X.K H vs xs := dpa_up g _ _ da
  have hn := dpa_nd _ _ da'
  rcases hs with hs | hs
  · obtain ⟨its, r, pl, _⟩ := I.list hs
    obtain ⟨as, ra⟩ := Dp.readsAll I xs vs its da' r
    have hi := items_eqTo (A := X.A) ra rv hn (dp_nd _ _ hx) hr
    have e : its.toArray.any (eqTo s.heap d) = xs.any fun y => PyData.eqv y d := by rw [← any_eqTo ra]; simp
    exact ⟨fun k => SeqAt.in_listAt (eqTo s.heap d) pl.isList (fun w hw => hi w (by simpa using hw)) (by rw [e]; exact k), fun k => SeqAt.notIn_listAt (eqTo s.heap d) pl.isList (fun w hw => hi w (by simpa using hw)) (by rw [e]; exact k)⟩
  · obtain ⟨its, r, pl, _⟩ := I.tuple hs
    obtain ⟨as, ra⟩ := Dp.readsAll I xs vs its da' r
    have hi := items_eqTo (A := X.A) ra rv hn (dp_nd _ _ hx) hr
    have e : its.toArray.any (eqTo s.heap d) = xs.any fun y => PyData.eqv y d := by rw [← any_eqTo ra]; simp
    exact ⟨fun k => SeqAt.in_tupleAt (eqTo s.heap d) pl (fun w hw => hi w (by simpa using hw)) (by rw [e]; exact k), fun k => SeqAt.notIn_tupleAt (eqTo s.heap d) pl (fun w hw => hi w (by simpa using hw)) (by rw [e]; exact k)⟩
theorem ok_in (hu : X.A.units + 64 < cLine) : OpD X (compareOp .In) (inD false) := by
  intro pins s σ H x y v u Q I rx ry h1
  obtain ⟨I', ss, z, g, p, e, q⟩ := h1
  obtain ⟨p1, p2, rfl, a1, a2⟩ := aall2 p
  unfold inD at e
  dsimp only at e
  split at e
  · rename_i d xs e1 e2
    split at e
    · rename_i hm
      cases e
      exact (in_use hu I rx ry g a1 a2 e1 e2 hm).1 ⟨.bl _, H, I, rfl, q _ I' H (Grow.refl g) (.bl _)⟩
    · cases e
  · cases e
theorem ok_notIn (hu : X.A.units + 64 < cLine) : OpD X (compareOp .NotIn) (inD true) := by
  intro pins s σ H x y v u Q I rx ry h1
  obtain ⟨I', ss, z, g, p, e, q⟩ := h1
  obtain ⟨p1, p2, rfl, a1, a2⟩ := aall2 p
  unfold inD at e
  dsimp only at e
  split at e
  · rename_i d xs e1 e2
    split at e
    · rename_i hm
      cases e
      exact (in_use hu I rx ry g a1 a2 e1 e2 hm).2 ⟨.bl _, H, I, rfl, q _ I' H (Grow.refl g) (.bl _)⟩
    · cases e
  · cases e
/-- a text in a text -/
def hasSub (i j : Str) : Bool := !(Builtin.Str.occurrences j i 0 j.length 1).isEmpty
def inS (neg : Bool) : List S → Option S
  | [.d (.str a), .d (.str b)] => some (.d (.bool (if neg = true then !hasSub a b else hasSub a b)))
  | _ => none
theorem ok_inS : OpD X (compareOp .In) (inS false) := by
  intro pins s σ H x y v u Q I rx ry h1
  obtain ⟨I', ss, z, g, p, e, q⟩ := h1
  unfold inS at e
  split at e
  · rename_i a b
    cases e
    obtain ⟨p1, p2, e2, a1, a2⟩ := aall2 p
    cases e2
    have a1 : Dp X.K I' x (.str a) := a1
    have a2 : Dp X.K I' y (.str b) := a2
    cases a1
    cases a2
    exact op_in_str pins s σ H _ _ v u Q I rx ry ⟨a, b, rfl, rfl, q _ I' H (Grow.refl g) (.bl _)⟩
  · cases e
theorem ok_notInS : OpD X (compareOp .NotIn) (inS true) := by
  intro pins s σ H x y v u Q I rx ry h1
  obtain ⟨I', ss, z, g, p, e, q⟩ := h1
  unfold inS at e
  split at e
  · rename_i a b
    cases e
    obtain ⟨p1, p2, e2, a1, a2⟩ := aall2 p
    cases e2
    have a1 : Dp X.K I' x (.str a) := a1
    have a2 : Dp X.K I' y (.str b) := a2
    cases a1
    cases a2
    exact op_notIn_str pins s σ H _ _ v u Q I rx ry ⟨a, b, rfl, rfl, q _ I' H (Grow.refl g) (.bl _)⟩
  · cases e
def opIn (ss : List S) : Option S := (inD false ss).or (inS false ss)
def opNotIn (ss : List S) : Option S := (inD true ss).or (inS true ss)
theorem ok_opIn (hu : X.A.units + 64 < cLine) : OpD X (compareOp .In) opIn := (ok_in hu).or ok_inS
theorem ok_opNotIn (hu : X.A.units + 64 < cLine) : OpD X (compareOp .NotIn) opNotIn := (ok_notIn hu).or ok_notInS
/-- is None, is not None, of anything -/
def isNon : D → Bool
  | .none => true
  | _ => false
def isD (neg : Bool) : List S → Option S
  | [.d d, .d .none] => some (.d (.bool (if neg = true then !isNon d else isNon d)))
  | [.bor _, .d .none] => some (.d (.bool neg))
  | _ => none
theorem isN_dec {K : KF} {I : Hp} {v : V} {d : D} (h : Dp K I v d) : decide (v = V.non) = isNon d := by
  cases h <;> simp [isNon]
theorem ok_is : OpD X (compareOp .Is) (isD false) := by
  intro pins s σ H x y v u Q I rx ry h1
  obtain ⟨I', ss, z, g, p, e, q⟩ := h1
  unfold isD at e
  split at e
  · rename_i d
    cases e
    obtain ⟨p1, p2, e2, a1, a2⟩ := aall2 p
    cases e2
    have a1 : Dp X.K I' x d := a1
    have a2 : Dp X.K I' y .none := a2
    cases a2
    refine op_isN pins s σ H _ _ v u Q I rx ry ⟨rfl, q _ I' H (Grow.refl g) ?_⟩
    rw [isN_dec a1]
    exact .bl _
  · rename_i m
    cases e
    obtain ⟨p1, p2, e2, a1, a2⟩ := aall2 p
    cases e2
    obtain ⟨a, ea, _⟩ := a1
    have a2 : Dp X.K I' y .none := a2
    cases a2
    subst ea
    exact op_isN pins s σ H _ _ v u Q I rx ry ⟨rfl, q _ I' H (Grow.refl g) (.bl _)⟩
  · cases e
theorem ok_isNot : OpD X (compareOp .IsNot) (isD true) := by
  intro pins s σ H x y v u Q I rx ry h1
  obtain ⟨I', ss, z, g, p, e, q⟩ := h1
  unfold isD at e
  split at e
  · rename_i d
    cases e
    obtain ⟨p1, p2, e2, a1, a2⟩ := aall2 p
    cases e2
    have a1 : Dp X.K I' x d := a1
    have a2 : Dp X.K I' y .none := a2
    cases a2
    refine op_notN pins s σ H _ _ v u Q I rx ry ⟨rfl, q _ I' H (Grow.refl g) ?_⟩
    rw [isN_dec a1]
    exact .bl _
  · rename_i m
    cases e
    obtain ⟨p1, p2, e2, a1, a2⟩ := aall2 p
    cases e2
    obtain ⟨a, ea, _⟩ := a1
    have a2 : Dp X.K I' y .none := a2
    cases a2
    subst ea
    exact op_notN pins s σ H _ _ v u Q I rx ry ⟨rfl, q _ I' H (Grow.refl g) (.bl _)⟩
  · cases e
def isB (neg : Bool) : List S → Option S
  | [.d (.bool a), .d (.bool b)] => some (.d (.bool (if neg = true then !(a == b) else a == b)))
  | _ => none
theorem dec_beq (a b : Bool) : decide (a = b) = (a == b) := by cases a <;> cases b <;> rfl
theorem ok_isB : OpD X (compareOp .Is) (isB false) := by
  intro pins s σ H x y v u Q I rx ry h1
  obtain ⟨I', ss, z, g, p, e, q⟩ := h1
  unfold isB at e
  split at e
  · rename_i a b
    cases e
    obtain ⟨p1, p2, e2, a1, a2⟩ := aall2 p
    cases e2
    have a1 : Dp X.K I' x (.bool a) := a1
    have a2 : Dp X.K I' y (.bool b) := a2
    cases a1
    cases a2
    refine op_is_bl pins s σ H _ _ v u Q I rx ry ⟨a, b, rfl, rfl, q _ I' H (Grow.refl g) ?_⟩
    rw [dec_beq]
    exact .bl _
  · cases e
theorem ok_isNotB : OpD X (compareOp .IsNot) (isB true) := by
  intro pins s σ H x y v u Q I rx ry h1
  obtain ⟨I', ss, z, g, p, e, q⟩ := h1
  unfold isB at e
  split at e
  · rename_i a b
    cases e
    obtain ⟨p1, p2, e2, a1, a2⟩ := aall2 p
    cases e2
    have a1 : Dp X.K I' x (.bool a) := a1
    have a2 : Dp X.K I' y (.bool b) := a2
    cases a1
    cases a2
    refine op_isnot_bl pins s σ H _ _ v u Q I rx ry ⟨a, b, rfl, rfl, q _ I' H (Grow.refl g) ?_⟩
    rw [dec_beq]
    exact .bl _
  · cases e
def opIs (ss : List S) : Option S := (isD false ss).or (isB false ss)
def opIsNot (ss : List S) : Option S := (isD true ss).or (isB true ss)
theorem ok_opIs : OpD X (compareOp .Is) opIs := ok_is.or ok_isB
theorem ok_opIsNot : OpD X (compareOp .IsNot) opIsNot := ok_isNot.or ok_isNotB
/-! ### what is subscripted -/
/-- xs[i], t[i], s[i] -/
def ixD : List S → Option S
  | [p, .d (.int i)] => match seqS p with
    | some xs => (atI xs i).map .d
    | none => match p with
      | .d (.str z) => if z.length ≤ 16777216 then (atI z.cps.toList i).map fun c => .d (.str ⟨#[c]⟩) else none
      | _ => none
  | _ => none
theorem atI_dpa {K : KF} {I : Hp} {vs : List V} {ds : List D} {i : Int} {d : D} (p : DpAll K I vs ds) (e : atI ds i = some d) : ∃ v, atI vs i = some v ∧ Dp K I v d := by
  unfold atI at e ⊢
  rw [dpa_len p]
  obtain ⟨j, h1, h2⟩ := Option.bind_eq_some_iff.mp e
  obtain ⟨v, h3, h4⟩ := dpa_get' p h2
  exact ⟨v, by rw [h1]; exact h3, h4⟩
theorem ok_ix : IxR X fun x y H Q => rApp X.K ixD [x, y] H Q := by
  intro value slice pins s σ H x y v u Q I rx ry h1 hs
  obtain ⟨I', ss, z, g, p, e, q⟩ := h1
  obtain ⟨p1, p2, rfl, a1, a2⟩ := aall2 p
  unfold ixD at e
  split at e
  · rename_i p i heq
    cases heq
    have a2 : Dp X.K I' y (.int i) := a2
    cases a2
    split at e
    · rename_i xs e1
      obtain ⟨d, h1, h2⟩ := Option.map_eq_some_iff.mp e
      subst h2
      obtain ⟨a, vs, rfl, hq, da⟩ := seqS_ok g a1 e1
      obtain ⟨w, h3, h4⟩ := atI_dpa da h1
      rcases hq with hq | hq
      · exact ix_seq value slice pins s σ H _ _ v u Q I rx ry (.inl ⟨a, vs, i, w, rfl, rfl, hq, h3, q w I' H (Grow.refl g) h4⟩) hs
      · exact ix_seq value slice pins s σ H _ _ v u Q I rx ry (.inr (.inl ⟨a, vs, i, w, rfl, rfl, hq, h3, q w I' H (Grow.refl g) h4⟩)) hs
    · split at e
      · rename_i z _
        split at e
        · rename_i hl
          obtain ⟨c, h1, h2⟩ := Option.map_eq_some_iff.mp e
          subst h2
          have a1 : Dp X.K I' x (.str z) := a1
          cases a1
          exact ix_seq value slice pins s σ H _ _ v u Q I rx ry (.inr (.inr ⟨z, i, c, rfl, rfl, by rw [sizeLine_eq]; exact hl, h1, q _ I' H (Grow.refl g) (.str _)⟩)) hs
        · cases e
      · cases e
  · cases e
/-- a[lo:hi] -/
def cutD {α : Type} (xs : List α) (lo hi : Option Int) : List α := (xs.drop (HT.sIx xs.length 0 lo)).take (HT.sIx xs.length xs.length hi - HT.sIx xs.length 0 lo)
def slD (p : S) (lo hi : Option Int) : Option S := match lstS p with
  | some xs => some (.own false (.lst (cutD xs lo hi)))
  | none => match p with
    | .d (.tuple xs) => some (.d (.tuple (cutD xs lo hi)))
    | .d (.str z) => if z.length ≤ 16777216 then some (.d (.str (cutS z lo hi))) else none
    | _ => none
theorem cut_dpa {K : KF} {I : Hp} {vs : List V} {ds : List D} (p : DpAll K I vs ds) (lo hi : Option Int) : DpAll K I (cutV vs lo hi) (cutD ds lo hi) := by
  unfold cutV cutD
  rw [dpa_len p]
  exact dpa_take _ (dpa_drop _ p)
end
end DL
namespace DL
open PySem L2
open PyProof.Rows (envOfC)
/-! ### one operand at a time -/
def ev1 : Od → EF Ov
  | .sl i => fun r => match r[i]? with
    | some (some _) => some (.ok (.sl i), r)
    | _ => none
  | .ex f => eb f fun d => er (.d d)
def evI : Option (EF D) → EF (Option Int)
  | none => er none
  | some f => eb f fun d => match d with
    | .int i => er (some i)
    | _ => fun _ => none
section
variable {K : KF} {mg : MG} {W : WX} {C : Cn} {I H : Hp} {r r' : Env} {s : L2.St}
/-- an exception's wish -/
def XPost (K : KF) (mg : MG) (W : WX) (C : Cn) (I : Hp) (r' : Env) (s : L2.St) (x : Exc) : Prop := ∀ c dx I' H', Rel K C I' H' r' s → Same I I' → XRel K mg I' H' c dx x → W c dx s H'
theorem XPost.up {I J : Hp} {x : Exc} (g : Same I J) (h : XPost K mg W C I r' s x) : XPost K mg W C J r' s x := fun c dx I' H' R s1 => h c dx I' H' R (g.trans s1)
theorem od_eb {α : Type} {o : Od} {k : Ov → EF α} {z : R α} {Q : VK} (R0 : Rel K C I H r s) (e : eb (ev1 o) k r = some (z, r')) (hx : ∀ x, z = .ex x → XPost K mg W C I r' s x)
    (p : ∀ v I' H' ov r1, Rel K C I' H' r1 s → Same I I' → OvRel K I' s v ov → k ov r1 = some (z, r') → Q v H') : tOd K mg W o s H Q := by
  cases o with
  | sl i =>
    rcases eb_inv e with ⟨ov, r1, h1, e⟩ | ⟨x, h1, _⟩
    · have h1 : (match r[i]? with
        | some (some _) => some (R.ok (Ov.sl i), r)
        | _ => none) = some (.ok ov, r1) := h1
      split at h1
      · rename_i y hr
        cases h1
        obtain ⟨v, hv, _⟩ := R0.slot i y hr
        exact ⟨v, hv, p v I H (.sl i) _ R0 (Same.refl I) hv e⟩
      · cases h1
    · have h1 : (match r[i]? with
        | some (some _) => some (R.ok (Ov.sl i), r)
        | _ => none) = some (.ex x, r') := h1
      split at h1 <;> cases h1
  | ex f =>
    rcases eb_inv e with ⟨ov, r1, h1, e⟩ | ⟨x, h1, rfl⟩
    · rcases eb_inv h1 with ⟨d, r2, h2, h3⟩ | ⟨x, _, h2⟩
      · cases h3
        exact ⟨C, I, r, _, _, R0, h2, fun v I' H' R' g t => p v I' H' (.d d) _ R' g t e⟩
      · cases h2
    · rcases eb_inv h1 with ⟨d, r2, h2, h3⟩ | ⟨y, h2, h3⟩
      · cases h3
      · cases h3
        exact ⟨C, I, r, _, _, R0, h2, hx x rfl⟩
theorem part_eb {α : Type} {f : EF D} {k : Option Int → EF α} {z : R α} {Q : VK} (R0 : Rel K C I H r s) (e : eb (evI (some f)) k r = some (z, r')) (hx : ∀ x, z = .ex x → XPost K mg W C I r' s x)
    (p : ∀ i I' H' r1, Rel K C I' H' r1 s → Same I I' → k (some i) r1 = some (z, r') → Q (.int i) H') : tD K mg W f s H fun v H1 => (∃ i, v = .int i) ∧ Q v H1 := by
  rcases eb_inv e with ⟨ov, r1, h1, e⟩ | ⟨x, h1, rfl⟩
  · rcases eb_inv h1 with ⟨d, r2, h2, h3⟩ | ⟨x, _, h2⟩
    · refine ⟨C, I, r, _, _, R0, h2, fun v I' H' R' g t => ?_⟩
      cases d with
      | int i =>
        cases h3
        cases t
        exact ⟨⟨i, rfl⟩, p i I' H' _ R' g e⟩
      | _ => cases h3
    · cases h2
  · rcases eb_inv h1 with ⟨d, r2, h2, h3⟩ | ⟨y, h2, h3⟩
    · cases d <;> cases h3
    · cases h3
      exact ⟨C, I, r, _, _, R0, h2, hx x rfl⟩
end
/-- a[lo:hi] -/
def dSl (o : Od) (lo hi : Option (EF D)) : EF S := eb (ev1 o) fun ov => eb (evI lo) fun l => eb (evI hi) fun h => fun r => match ov.get r with
  | some p => (match slD p l h with
    | some x => some (.ok x, r)
    | none => none)
  | none => none
section
variable {X : Cx} {W : WX} {a : Expr} {oa : Od} {pos p2 : Pos}
def rSlA3 (K : KF) : V → Option Int → Option Int → Hp → VK → Prop := fun x lo hi H Q => (rSlL K x lo hi H Q ∨ rSlA K x lo hi H Q) ∨ rSlS x lo hi H Q
theorem sl_all : SlR X (rSlA3 X.K) := (sl_list.or sl_tupA).or sl_str
theorem slD_ok {H I' : Hp} {x : V} {p z : S} {lo hi : Option Int} {Q : VK} (g : Same I' H) (a1 : ARel X.K I' H x p) (e : slD p lo hi = some z) (q : ∀ v I2 H2, Grow I' H I2 H2 → NewS X.K I' H v I2 H2 z → Q v H2) :
    rSlA3 X.K x lo hi H Q := by
  unfold slD at e
  split at e
  · rename_i xs e1
    cases e
    obtain ⟨a, vs, rfl, hs, da⟩ := lstS_ok g a1 e1
    refine .inl (.inl ⟨a, vs, rfl, hs, fun c hc => ?_⟩)
    have gr := grow_own (o := .lst (cutV vs lo hi)) g hc
    exact q _ _ _ gr ⟨c, rfl, hc, g.free hc, _, upd_same, cut_dpa da lo hi⟩
  · split at e
    · rename_i xs _
      cases e
      have a1 : Dp X.K I' x (.tuple xs) := a1
      cases a1 with
      | @tup a vs _ hs ha =>
        refine .inl (.inr ⟨a, vs, rfl, Evl.ex_t g hs, fun hw => ?_, fun _ c hc => ?_⟩)
        · refine q _ I' H (Grow.refl g) (.tup hs ?_)
          have : cutV vs lo hi = vs := by
            unfold cutV
            rw [hw.1, hw.2]
            simp
          rw [← this]
          exact cut_dpa ha lo hi
        · have gr := grow_tup (o := .tup (cutV vs lo hi)) g hc
          exact q _ _ _ gr (.tup (Or.inl (Or.inl upd_same)) (dpa_up gr.i _ _ (cut_dpa ha lo hi)))
    · rename_i zz _
      split at e
      · rename_i hl
        cases e
        have a1 : Dp X.K I' x (.str zz) := a1
        cases a1
        exact .inr ⟨zz, rfl, by rw [sizeLine_eq]; exact hl, q _ I' H (Grow.refl g) (.str _)⟩
      · cases e
    · cases e
theorem de_sl_ab {f h : EF D} {e1 e2 : Expr} (ha : DO X W a oa) (h1 : DD X W e1 f) (h2 : DD X W e2 h) : DE X W (.Subscript a (.Slice (some e1) (some e2) none p2) pos) (dSl oa (some f) (some h)) :=
  pe_of (pe_slice sl_all ha (po_some h1) (po_some h2)) fun s H Q ⟨C, I, r, o, r', R, e, q⟩ => by
    refine od_eb R e (fun x z => by subst z; exact q) fun v I1 H1 ov r1 R1 g1 ov1 e => ?_
    have q1 : ∀ x, o = .ex x → XPost X.K X.mg W C I1 r' s x := fun x z => by subst z; exact XPost.up g1 q
    obtain ⟨C2, I2, r2, o2, r2', R2, e2, z2⟩ := part_eb R1 e q1 (Q := fun v2 H2 => ∃ i, v2 = .int i ∧ tD X.K X.mg W h s H2 fun v3 H3 => ∃ j, v3 = .int j ∧ rSlA3 X.K v (some i) (some j) H3 Q) fun i I2 H2 r2 R2 g2 e => by
      refine ⟨i, rfl, ?_⟩
      have q2 : ∀ x, o = .ex x → XPost X.K X.mg W C I2 r' s x := fun x z => XPost.up g2 (q1 x z)
      obtain ⟨C3, I3, r3, o3, r3', R3, e3, z3⟩ := part_eb R2 e q2 (Q := fun v3 H3 => ∃ j, v3 = .int j ∧ rSlA3 X.K v (some i) (some j) H3 Q) fun j I3 H3 r3 R3 g3 e => by
        refine ⟨j, rfl, ?_⟩
        split at e
        · rename_i p hp
          split at e
          · rename_i x hx
            cases e
            refine slD_ok R3.sub (get_ok R3 (ovRel_up (g2.trans g3) ov1) hp) hx fun w I4 H4 gr n => q w I4 H4 (R3.grow gr) (((g1.trans g2).trans g3).trans gr.i) (R3.newS gr n)
          · cases e
        · cases e
      exact ⟨C3, I3, r3, o3, r3', R3, e3, by cases o3 with
        | ok d => exact fun w I' H' R' g t => (z3 w I' H' R' g t).2
        | ex x => exact z3⟩
    exact ⟨C2, I2, r2, o2, r2', R2, e2, by cases o2 with
      | ok d => exact fun w I' H' R' g t => (z2 w I' H' R' g t).2
      | ex x => exact z2⟩
theorem de_sl_a {f : EF D} {e1 : Expr} (ha : DO X W a oa) (h1 : DD X W e1 f) : DE X W (.Subscript a (.Slice (some e1) none none p2) pos) (dSl oa (some f) none) :=
  pe_of (pe_slice sl_all ha (po_some h1) po_none) fun s H Q ⟨C, I, r, o, r', R, e, q⟩ => by
    refine od_eb R e (fun x z => by subst z; exact q) fun v I1 H1 ov r1 R1 g1 ov1 e => ?_
    have q1 : ∀ x, o = .ex x → XPost X.K X.mg W C I1 r' s x := fun x z => by subst z; exact XPost.up g1 q
    obtain ⟨C2, I2, r2, o2, r2', R2, e2, z2⟩ := part_eb R1 e q1 (Q := fun v2 H2 => ∃ i, v2 = .int i ∧ rSlA3 X.K v (some i) none H2 Q) fun i I2 H2 r2 R2 g2 e => by
      refine ⟨i, rfl, ?_⟩
      have e : (match ov.get r2 with
        | some p => (match slD p (some i) none with
          | some x => some (DL.R.ok x, r2)
          | none => none)
        | none => none) = some (o, r') := e
      split at e
      · rename_i p hp
        split at e
        · rename_i x hx
          cases e
          exact slD_ok R2.sub (get_ok R2 (ovRel_up g2 ov1) hp) hx fun w I4 H4 gr n => q w I4 H4 (R2.grow gr) ((g1.trans g2).trans gr.i) (R2.newS gr n)
        · cases e
      · cases e
    exact ⟨C2, I2, r2, o2, r2', R2, e2, by cases o2 with
      | ok d => exact fun w I' H' R' g t => (z2 w I' H' R' g t).2
      | ex x => exact z2⟩
theorem de_sl_b {f : EF D} {e1 : Expr} (ha : DO X W a oa) (h1 : DD X W e1 f) : DE X W (.Subscript a (.Slice none (some e1) none p2) pos) (dSl oa none (some f)) :=
  pe_of (pe_slice sl_all ha po_none (po_some h1)) fun s H Q ⟨C, I, r, o, r', R, e, q⟩ => by
    refine od_eb R e (fun x z => by subst z; exact q) fun v I1 H1 ov r1 R1 g1 ov1 e => ?_
    have q1 : ∀ x, o = .ex x → XPost X.K X.mg W C I1 r' s x := fun x z => by subst z; exact XPost.up g1 q
    have e : eb (evI (some f)) (fun h => fun r => match ov.get r with
      | some p => (match slD p none h with
        | some x => some (DL.R.ok x, r)
        | none => none)
      | none => none) r1 = some (o, r') := e
    obtain ⟨C2, I2, r2, o2, r2', R2, e2, z2⟩ := part_eb R1 e q1 (Q := fun v2 H2 => ∃ i, v2 = .int i ∧ rSlA3 X.K v none (some i) H2 Q) fun i I2 H2 r2 R2 g2 e => by
      refine ⟨i, rfl, ?_⟩
      split at e
      · rename_i p hp
        split at e
        · rename_i x hx
          cases e
          exact slD_ok R2.sub (get_ok R2 (ovRel_up g2 ov1) hp) hx fun w I4 H4 gr n => q w I4 H4 (R2.grow gr) ((g1.trans g2).trans gr.i) (R2.newS gr n)
        · cases e
      · cases e
    exact ⟨C2, I2, r2, o2, r2', R2, e2, by cases o2 with
      | ok d => exact fun w I' H' R' g t => (z2 w I' H' R' g t).2
      | ex x => exact z2⟩
/-! ### built-ins -/
def lenD : List S → Option S
  | [p] => match seqS p with
    | some xs => some (.d (.int xs.length))
    | none => match p with
      | .d (.str z) => if z.length ≤ 16777216 then some (.d (.int z.length)) else none
      | .bor (.dic kvs) => some (.d (.int kvs.length))
      | _ => none
  | _ => none
theorem ok_len : CallD X (.builtin "len") lenD := by
  intro pins s σ H xs us Q I r h
  obtain ⟨I', ss, z, g, p, e, q⟩ := h
  unfold lenD at e
  split at e
  · rename_i pp
    cases p with
    | cons a1 a2 =>
      cases a2
      rename_i x
      split at e
      · rename_i ys e1
        cases e
        obtain ⟨a, vs, rfl, hq, da⟩ := seqS_ok g a1 e1
        exact call_len_seq pins s σ H _ us Q I r ⟨a, vs, rfl, hq, q _ I' H (Grow.refl g) (by rw [dpa_len da]; exact .int _)⟩
      · split at e
        · rename_i zz _
          split at e
          · rename_i hl
            cases e
            have a1 : Dp X.K I' x (.str zz) := a1
            cases a1
            exact call_len_str pins s σ H _ us Q I r ⟨zz, rfl, by rw [sizeLine_eq]; exact hl, q _ I' H (Grow.refl g) (.int _)⟩
          · cases e
        · rename_i kvs _
          cases e
          obtain ⟨a, ea, ws, h1, h2⟩ := a1
          subst ea
          have hkl : ws.length = kvs.length := Paired.length h2
          obtain ⟨u, rfl, ru⟩ := vals1 r
          cases ru
          refine d_len I (.inl h1) fun t s' I2 => ?_
          exact ⟨.int ws.length, H, I2, ⟨t, rfl⟩, q _ I' H (Grow.refl g) (by rw [hkl]; exact .int _)⟩
        · cases e
  · cases e
def lstD : List S → Option S
  | [p] => (seqS p).map fun xs => .own false (.lst xs)
  | _ => none
theorem ok_list : CallD X (.type "list") lstD := by
  intro pins s σ H xs us Q I r h
  obtain ⟨I', ss, z, g, p, e, q⟩ := h
  unfold lstD at e
  split at e
  · obtain ⟨ys, e1, e2⟩ := Option.map_eq_some_iff.mp e
    subst e2
    cases p with
    | cons a1 a2 =>
      cases a2
      obtain ⟨a, vs, rfl, hq, da⟩ := seqS_ok g a1 e1
      refine call_list_of pins s σ H _ us Q I r ⟨a, vs, rfl, hq, fun c hc => ?_⟩
      have gr := grow_own (o := .lst vs) g hc
      exact q _ _ _ gr ⟨c, rfl, hc, g.free hc, _, upd_same, da⟩
  · cases e
def tplD : List S → Option S
  | [p] => (seqS p).map fun xs => .d (.tuple xs)
  | _ => none
theorem ok_tuple : CallD X (.type "tuple") tplD := by
  intro pins s σ H xs us Q I r h
  obtain ⟨I', ss, z, g, p, e, q⟩ := h
  unfold tplD at e
  split at e
  · rename_i pp
    obtain ⟨ys, e1, e2⟩ := Option.map_eq_some_iff.mp e
    subst e2
    cases p with
    | cons a1 a2 =>
      cases a2
      cases e3 : lstS pp with
      | some zs =>
        have hz : zs = ys := by
          unfold lstS at e3
          unfold seqS at e1
          split at e3 <;> simp_all
        subst hz
        obtain ⟨a, vs, rfl, hq, da⟩ := lstS_ok g a1 e3
        refine call_tuple_of pins s σ H _ us Q I r ⟨a, vs, rfl, .inl ⟨hq, fun c hc => ?_⟩⟩
        have gr := grow_tup (o := .tup vs) g hc
        exact q _ _ _ gr (.tup (Or.inl (Or.inl upd_same)) (dpa_up gr.i _ _ da))
      | none =>
        unfold lstS at e3
        unfold seqS at e1
        split at e1
        · cases e3
        · cases e3
        · cases e1
          have a1 : Dp X.K I' _ (.tuple ys) := a1
          cases a1 with
          | @tup a vs _ hs ha => exact call_tuple_of pins s σ H _ us Q I r ⟨a, vs, rfl, .inr ⟨Evl.ex_t g hs, q _ I' H (Grow.refl g) (.tup hs ha)⟩⟩
        · cases e1
  · cases e
def absD : List S → Option S
  | [.d (.int i)] => some (.d (.int (if i < 0 then -i else i)))
  | _ => none
theorem ok_abs : CallD X (.builtin "abs") absD := by
  intro pins s σ H xs us Q I r h
  obtain ⟨I', ss, z, g, p, e, q⟩ := h
  unfold absD at e
  split at e
  · rename_i i
    cases e
    cases p with
    | cons a1 a2 =>
      cases a2
      have a1 : Dp X.K I' _ (.int i) := a1
      cases a1
      exact call_abs pins s σ H _ us Q I r ⟨i, rfl, q _ I' H (Grow.refl g) (.int _)⟩
  · cases e
def max2D : List S → Option S
  | [.d (.int i), .d (.int j)] => some (.d (.int (if j > i then j else i)))
  | _ => none
def min2D : List S → Option S
  | [.d (.int i), .d (.int j)] => some (.d (.int (if j < i then j else i)))
  | _ => none
theorem ok_max2 (hc : X.calm = true) : CallD X (.builtin "max") max2D := by
  intro pins s σ H xs us Q I r h
  obtain ⟨I', ss, z, g, p, e, q⟩ := h
  unfold max2D at e
  split at e
  · rename_i i j
    cases e
    cases p with
    | cons a1 a2 =>
      cases a2 with
      | cons a2 a3 =>
        cases a3
        have a1 : Dp X.K I' _ (.int i) := a1
        have a2 : Dp X.K I' _ (.int j) := a2
        cases a1
        cases a2
        exact call_max2 hc pins s σ H _ us Q I r ⟨i, j, rfl, q _ I' H (Grow.refl g) (.int _)⟩
  · cases e
theorem ok_min2 (hc : X.calm = true) : CallD X (.builtin "min") min2D := by
  intro pins s σ H xs us Q I r h
  obtain ⟨I', ss, z, g, p, e, q⟩ := h
  unfold min2D at e
  split at e
  · rename_i i j
    cases e
    cases p with
    | cons a1 a2 =>
      cases a2 with
      | cons a2 a3 =>
        cases a3
        have a1 : Dp X.K I' _ (.int i) := a1
        have a2 : Dp X.K I' _ (.int j) := a2
        cases a1
        cases a2
        exact call_min2 hc pins s σ H _ us Q I r ⟨i, j, rfl, q _ I' H (Grow.refl g) (.int _)⟩
  · cases e
/-- the truths, the numbers, the texts of a list -/
def boolsD : List D → Option (List Bool)
  | [] => some []
  | .bool b :: xs => (boolsD xs).map (b :: ·)
  | _ => none
def intsD : List D → Option (List Int)
  | [] => some []
  | .int b :: xs => (intsD xs).map (b :: ·)
  | _ => none
def strsD : List D → Option (List Str)
  | [] => some []
  | .str b :: xs => (strsD xs).map (b :: ·)
  | _ => none
theorem boolsD_ok {K : KF} {I : Hp} : ∀ {xs : List D} {bs : List Bool} {vs : List V}, boolsD xs = some bs → DpAll K I vs xs → vs = bs.map V.bl
  | [], bs, vs, e, h => by cases e; cases h; rfl
  | x :: xs, bs, vs, e, h => by
    cases h with
    | cons h1 h2 =>
      cases x with
      | bool b =>
        obtain ⟨cs, e1, e2⟩ := Option.map_eq_some_iff.mp (show (boolsD xs).map (b :: ·) = some bs from e)
        subst e2
        cases h1
        rw [boolsD_ok e1 h2]
        rfl
      | _ => simp [boolsD] at e
theorem intsD_ok {K : KF} {I : Hp} : ∀ {xs : List D} {bs : List Int} {vs : List V}, intsD xs = some bs → DpAll K I vs xs → vs = bs.map V.int
  | [], bs, vs, e, h => by cases e; cases h; rfl
  | x :: xs, bs, vs, e, h => by
    cases h with
    | cons h1 h2 =>
      cases x with
      | int b =>
        obtain ⟨cs, e1, e2⟩ := Option.map_eq_some_iff.mp (show (intsD xs).map (b :: ·) = some bs from e)
        subst e2
        cases h1
        rw [intsD_ok e1 h2]
        rfl
      | _ => simp [intsD] at e
theorem strsD_ok {K : KF} {I : Hp} : ∀ {xs : List D} {bs : List Str} {vs : List V}, strsD xs = some bs → DpAll K I vs xs → vs = bs.map V.str
  | [], bs, vs, e, h => by cases e; cases h; rfl
  | x :: xs, bs, vs, e, h => by
    cases h with
    | cons h1 h2 =>
      cases x with
      | str b =>
        obtain ⟨cs, e1, e2⟩ := Option.map_eq_some_iff.mp (show (strsD xs).map (b :: ·) = some bs from e)
        subst e2
        cases h1
        rw [strsD_ok e1 h2]
        rfl
      | _ => simp [strsD] at e
def allD : List S → Option S
  | [p] => ((lstS p).bind boolsD).map fun bs => .d (.bool (bs.all id))
  | _ => none
theorem ok_all (hc : X.calm = true) : CallD X (.builtin "all") allD := by
  intro pins s σ H xs us Q I r h
  obtain ⟨I', ss, z, g, p, e, q⟩ := h
  unfold allD at e
  split at e
  · obtain ⟨bs, e1, e2⟩ := Option.map_eq_some_iff.mp e
    subst e2
    obtain ⟨ys, e3, e4⟩ := Option.bind_eq_some_iff.mp e1
    cases p with
    | cons a1 a2 =>
      cases a2
      obtain ⟨a, vs, rfl, hq, da⟩ := lstS_ok g a1 e3
      rw [boolsD_ok e4 da] at hq
      exact cr_all hc pins s σ H _ us Q I r ⟨a, bs, rfl, hq, q _ I' H (Grow.refl g) (.bl _)⟩
  · cases e
def sumD : List S → Option S
  | [p] => ((lstS p).bind intsD).map fun bs => .d (.int bs.sum)
  | _ => none
theorem ok_sum (hc : X.calm = true) : CallD X (.builtin "sum") sumD := by
  intro pins s σ H xs us Q I r h
  obtain ⟨I', ss, z, g, p, e, q⟩ := h
  unfold sumD at e
  split at e
  · obtain ⟨bs, e1, e2⟩ := Option.map_eq_some_iff.mp e
    subst e2
    obtain ⟨ys, e3, e4⟩ := Option.bind_eq_some_iff.mp e1
    cases p with
    | cons a1 a2 =>
      cases a2
      obtain ⟨a, vs, rfl, hq, da⟩ := lstS_ok g a1 e3
      rw [intsD_ok e4 da] at hq
      exact cr_sum hc pins s σ H _ us Q I r ⟨a, bs, rfl, hq, q _ I' H (Grow.refl g) (.int _)⟩
  · cases e
/-- int(n), int(a truth) -/
def intD : List S → Option S
  | [.d (.int i)] => some (.d (.int i))
  | [.d (.bool b)] => some (.d (.int (if b = true then 1 else 0)))
  | _ => none
/-! ### isinstance -/
inductive Ty where
  | int | bool | str | tuple | list
def Ty.name : Ty → String
  | .int => "int"
  | .bool => "bool"
  | .str => "str"
  | .tuple => "tuple"
  | .list => "list"
def isTy : Ty → D → Bool
  | .int, .int _ => true
  | .int, .bool _ => true
  | .bool, .bool _ => true
  | .str, .str _ => true
  | .tuple, .tuple _ => true
  | .list, .list _ => true
  | _, _ => false
def tyN : D → String
  | .none => "NoneType"
  | .bool _ => "bool"
  | .int _ => "int"
  | .str _ => "str"
  | .list _ => "list"
  | .tuple _ => "tuple"
  | .dict _ => "dict"
theorem tyX_of {K : KF} {H : Hp} {v : V} {d : D} (h : Dp K H v d) : TyX K H v (.type (tyN d)) := by
  cases h with
  | non => exact .base .non
  | bl b => exact .base (.bl b)
  | int i => exact .base (.int i)
  | str x => exact .base (.str x)
  | lst hs _ =>
    rcases hs with (h | ⟨o, h⟩) | ⟨o, its, n, h1, h2, _⟩
    · exact .base (.lst h)
    · exact .base (.frz h)
    · exact .kList h1 h2
  | tup hs _ =>
    rcases hs with (h | ⟨o, h⟩) | ⟨o, its, n, h1, h2, _⟩
    · exact .base (.tup h)
    · exact .fTuple h
    · exact .kTuple h1 h2
theorem kit_all (t : Ty) (d : D) (h : nd d = true) : kitB (tyN d) t.name = some (isTy t d) := by
  cases d with
  | none => cases t <;> (show kitB _ _ = some _; decide +kernel)
  | bool b => cases t <;> (simp only [tyN, Ty.name, isTy]; decide +kernel)
  | int b => cases t <;> (simp only [tyN, Ty.name, isTy]; decide +kernel)
  | str b => cases t <;> (simp only [tyN, Ty.name, isTy]; decide +kernel)
  | list b => cases t <;> (simp only [tyN, Ty.name, isTy]; decide +kernel)
  | tuple b => cases t <;> (simp only [tyN, Ty.name, isTy]; decide +kernel)
  | dict _ => cases h
def isiD (t : Ty) : List S → Option S
  | [p] => (datS p).map fun d => .d (.bool (isTy t d))
  | _ => none
theorem de_isi {t : Ty} {x : Str} {p p3 : Pos} (hg : Gl X "isinstance") (hm : X.mg "isinstance" = none) (hg2 : Gl X x) (hm2 : X.mg x = none) (hv : bootBuiltins x = some (.type t.name)) (ha : DO X W a oa) (hn : x ≠ "__name__" := by decide) (hd : (x == ("__debug__" : Str)) = false := by decide)
    (he : starEach [a, .Name x p3] X.env = (false, eval a X.env) :: starEach [.Name x p3] X.env := by rfl) (he2 : starEach [.Name x p3] X.env = [(false, eval (.Name x p3) X.env)] := by rfl) (hpl : (backTo pos (starEach [.Name x p3] X.env)).any (·.1) = false := by rfl) :
    DE X W (.Call (.Name "isinstance" p) [a, .Name x p3] [] pos) (dApp [oa] (isiD t)) :=
  pe_of (pe_callB call_isi hg hm (by decide +kernel) (pa_cons ha (pa_cons (pe_bltn (v := .ty t.name) hg2 hm2 hv rfl hn hd) pa_nil he2) he) (by decide) (by decide) he hpl) fun s H Q q => by
    have z : tOds X.K X.mg W [oa] s H fun vs H1 => rIsi X.K (vs ++ [V.ty t.name]) H1 Q := app_gen (ods := [oa]) q fun C I r vs ss x H' R a e q => by
      unfold isiD at e
      split at e
      · obtain ⟨d, e1, e2⟩ := Option.map_eq_some_iff.mp e
        subst e2
        cases a with
        | cons a1 a2 =>
          cases a2
          have hd := datS_ok R.sub a1 e1
          exact ⟨_, _, _, _, _, rfl, .ty _, tyX_of hd, kit_ty (kit_all t d (dp_nd _ _ hd)), q _ I H' (Grow.refl R.sub) (.bl _)⟩
      · cases e
    exact z
end
end DL
namespace DL
open PySem L2
open PyProof.Rows (envOfC)
/-! ### a name is handed back: what it holds of its own goes along -/
def dMove (i : Nat) : EF S := fun r => match r[i]? with
  | some (some (.d x)) => some (.ok (.d x), r)
  | some (some (.own false m)) => some (.ok (.own false m), r.set i none)
  | _ => none
theorem move_ok {K : KF} {mg : MG} {W : WX} {s : L2.St} {H : Hp} {i : Nat} {Q : VK} (h : tE K mg W (dMove i) s H Q) : tVar i s H Q := by
  obtain ⟨C, I, r, o, r', R, e, q⟩ := h
  unfold dMove at e
  split at e
  · rename_i x hr
    cases e
    obtain ⟨v, hv, p⟩ := R.slot i _ hr
    exact ⟨v, hv, q v I H R (Same.refl I) p⟩
  · rename_i m hr
    cases e
    obtain ⟨v, hv, a, e, n, mm, h0⟩ := R.slot i _ hr
    subst e
    refine ⟨_, hv, q _ I H (R.drop i) (Same.refl I) ⟨a, rfl, n, mm, h0, fun j b m2 hj hs => ?_⟩⟩
    have hji : j ≠ i := by
      rintro rfl
      rw [List.getElem?_set_self (List.getElem?_eq_some_iff.mp hr).1] at hj
      cases hj
    rw [List.getElem?_set_ne (Ne.symm hji)] at hj
    exact R.dist j i _ _ _ _ _ hji hj hr hs hv
  · cases e
section
variable {X : Cx} {W : WX} {pos : Pos}
theorem de_move {i : Nat} {x : Str} (h : PE X (.Name x pos) (tVar i)) : DE X W (.Name x pos) (dMove i) := pe_of h fun _ _ _ q => move_ok q
/-- a name's value is dropped -/
theorem de_var {i : Nat} {x : Str} (h : PE X (.Name x pos) (tVar i)) : DE X W (.Name x pos) (ds (dVar i)) := de_d (dd_var h)
/-! ### a list's methods that change it -/
def rM (K : KF) (op : MO → List S → Option (D × MO)) : V → List V → Hp → VK → Prop := fun x vs H Q => ∃ I a m ss d m', Same I H ∧ x = .ref a ∧ I a = none ∧ MRel K I H a m ∧ AAll K I H vs ss ∧ op m ss = some (d, m') ∧
  ∀ v o, Dp K I v d → MRel K I (upd H a o) a m' → Q v (upd H a o)
def isLst : Option (Option S) → Bool
  | some (some (.own _ (.lst _))) => true
  | _ => false
def dMth (i : Nat) (ods : List Od) (op : MO → List S → Option (D × MO)) : EF S := fun r => if isLst r[i]? = true then eb (evO ods) (fun os r => match getAll r os with
    | some ss => (match r[i]? with
      | some (some (.own b m)) => (match op m ss with
        | some (d, m') => some (.ok (.d d), r.set i (some (.own b m')))
        | none => none)
      | _ => none)
    | none => none) r
  else none
theorem mth_ok {K : KF} {mg : MG} {s : L2.St} {H : Hp} {i : Nat} {ods : List Od} {op : MO → List S → Option (D × MO)} {Q : VK} (h : tE K mg W (dMth i ods op) s H Q) :
    tBM K "list" (rM K op) (tVar i) (tOds K mg W ods) s H Q := by
  obtain ⟨C, I, r, o, r', R, e, q⟩ := h
  unfold dMth at e
  split at e
  · rename_i hl
    unfold isLst at hl
    split at hl
    · rename_i b xs hr
      obtain ⟨v, hv, z⟩ := R.slot i _ hr
      obtain ⟨a, ea, _, ⟨vs, h1, _⟩, _⟩ := own_nz z
      subst ea
      refine ⟨_, hv, .inl ⟨rfl, vs, SqL.of h1⟩, ?_⟩
      rcases eb_inv e with ⟨os, r1, ho, e⟩ | ⟨x, ho, rfl⟩
      · refine evO_ok ods R ho fun ws I' H' R' g aa => ?_
        split at e
        · rename_i ss hg
          split at e
          · rename_i b2 m hr2
            split at e
            · rename_i d m' hop
              cases e
              obtain ⟨v2, hv2, z2⟩ := R'.slot i _ hr2
              rw [hv] at hv2
              cases hv2
              obtain ⟨a2, ea2, na, mr, _⟩ := own_nz z2
              cases ea2
              exact ⟨I', a, m, ss, d, m', R'.sub, rfl, na, mr, getAll_ok R' aa hg, hop, fun w o p mm => q w I' _ (R'.mut hr2 hv mm) g p⟩
            · cases e
          · cases e
        · cases e
      · exact evO_ok ods R ho q
    · cases hl
  · cases e
abbrev MtD (X : Cx) (id : String) (op : MO → List S → Option (D × MO)) : Prop := MtR X id (rM X.K op)
theorem de_mth {i : Nat} {x name : Str} {id : String} {op : MO → List S → Option (D × MO)} {e : Expr} {es : List Expr} {os : List Od} {p apos cpos : Pos} (slot : Slot "list" name id) (hty : typeOf (.builtin id) = pure (.type "method_descriptor")) (hm : MtD X id op)
    (ho : PE X (.Name x p) (tVar i)) (ha : DA X W (e :: es) os) (hbase : attributeBase (.Name x p) name X.env (eval (.Name x p) X.env) = eval (.Name x p) X.env := by rfl)
    (hk : ((backTo cpos (starEach (e :: es) X.env)).all (fun x => !x.1) && (backToKw cpos (keywordEach [] X.env)).all (fun x => x.1.isSome)
      && decide ((e :: es).length + ([] : List Keyword).length + (if ([] : List Keyword).isEmpty then 0 else 1) < 30)) = true := by rfl)
    (hline : (apos.endLine == cpos.line) = true := by rfl) (he : starEach (e :: es) X.env = (false, eval e X.env) :: starEach es X.env := by rfl) (hpl : (backTo cpos (starEach es X.env)).any (·.1) = false := by rfl) :
    DE X W (.Call (.Attribute (.Name x p) name apos) (e :: es) [] cpos) (dMth i os op) :=
  pe_of (pe_bm PySem.F.plainAttrs_list slot hty hm ho ha hbase hk hline he hpl) fun s H Q q => mth_ok q
theorem de_mth0 {i : Nat} {x name : Str} {id : String} {op : MO → List S → Option (D × MO)} {p apos cpos : Pos} (slot : Slot "list" name id) (hty : typeOf (.builtin id) = pure (.type "method_descriptor")) (hm : MtD X id op)
    (ho : PE X (.Name x p) (tVar i)) (hbase : attributeBase (.Name x p) name X.env (eval (.Name x p) X.env) = eval (.Name x p) X.env := by rfl) (hline : (apos.endLine == cpos.line) = true := by rfl) :
    DE X W (.Call (.Attribute (.Name x p) name apos) [] [] cpos) (dMth i [] op) :=
  pe_of (pe_bm0 PySem.F.plainAttrs_list slot hty hm ho hbase hline) fun s H Q q => mth_ok q
def mAppend : MO → List S → Option (D × MO)
  | .lst xs, [.d x] => if xs.length < 16777216 then some (.none, .lst (xs ++ [x])) else none
  | _, _ => none
theorem mt_app : MtD X "list.append" mAppend := by
  intro pins s σ H x vs v us Q I rx rv h
  obtain ⟨I', a, m, ss, d, m', g, rfl, na, mr, aa, e, q⟩ := h
  unfold mAppend at e
  split at e
  · rename_i xs y
    split at e
    · rename_i hl
      cases e
      cases aa with
      | cons a1 a2 =>
        cases a2
        obtain ⟨ws, h1, h2⟩ := mr
        rename_i yv
        refine mt_append pins s σ H _ _ v us Q I rx rv ⟨a, ws, yv, rfl, rfl, h1, by rw [dpa_len h2, sizeLine_eq]; exact hl, q .non _ .non ⟨_, upd_same, dpa_app h2 (.cons a1 .nil)⟩⟩
    · cases e
  · cases e
def mPop : MO → List S → Option (D × MO)
  | .lst xs, [] => (xs[xs.length - 1]?).map fun x => (x, .lst xs.dropLast)
  | _, _ => none
theorem mt_popL : MtD X "list.pop" mPop := by
  intro pins s σ H x vs v us Q I rx rv h
  obtain ⟨I', a, m, ss, d, m', g, rfl, na, mr, aa, e, q⟩ := h
  unfold mPop at e
  split at e
  · rename_i xs
    obtain ⟨y, e1, e2⟩ := Option.map_eq_some_iff.mp e
    cases e2
    cases aa
    obtain ⟨ws, h1, h2⟩ := mr
    obtain ⟨w, h3, h4⟩ := dpa_get' h2 e1
    exact mt_pop pins s σ H _ _ v us Q I rx rv ⟨a, ws, w, rfl, rfl, h1, by rw [dpa_len h2]; exact h3, q w _ h4 ⟨_, upd_same, dpa_dropLast h2⟩⟩
  · cases e
def mPopAt : MO → List S → Option (D × MO)
  | .lst xs, [.d (.int i)] => (ixN xs.length i).bind fun k => (xs[k]?).map fun x => (x, .lst (xs.eraseIdx k))
  | _, _ => none
theorem mt_popI : MtD X "list.pop" mPopAt := by
  intro pins s σ H x vs v us Q I rx rv h
  obtain ⟨I', a, m, ss, d, m', g, rfl, na, mr, aa, e, q⟩ := h
  unfold mPopAt at e
  split at e
  · rename_i xs i
    obtain ⟨k, e0, e⟩ := Option.bind_eq_some_iff.mp e
    obtain ⟨y, e1, e2⟩ := Option.map_eq_some_iff.mp e
    cases e2
    cases aa with
    | cons a1 a2 =>
      cases a2
      rename_i iv
      have a1 : Dp X.K I' iv (.int i) := a1
      cases a1
      obtain ⟨ws, h1, h2⟩ := mr
      obtain ⟨w, h3, h4⟩ := dpa_get' h2 e1
      obtain ⟨k1, k2, k3, k4⟩ := ixN_seq e0
      have hz := (I.lstM h1).1
      have hl := dpa_len h2
      have hs := sizeLine_eq
      exact mt_popAt pins s σ H _ _ v us Q I rx rv ⟨a, ws, i, k, w, rfl, rfl, h1, by omega, by omega, by rw [hl]; exact k1, h3, q w _ h4 ⟨_, upd_same, dpa_erase k h2⟩⟩
  · cases e
def mReverse : MO → List S → Option (D × MO)
  | .lst xs, [] => some (.none, .lst xs.reverse)
  | _, _ => none
theorem mt_rev : MtD X "list.reverse" mReverse := by
  intro pins s σ H x vs v us Q I rx rv h
  obtain ⟨I', a, m, ss, d, m', g, rfl, na, mr, aa, e, q⟩ := h
  unfold mReverse at e
  split at e
  · cases e
    cases aa
    obtain ⟨ws, h1, h2⟩ := mr
    exact mt_reverse pins s σ H _ _ v us Q I rx rv ⟨a, ws, rfl, rfl, h1, q .non _ .non ⟨_, upd_same, dpa_rev h2⟩⟩
  · cases e
/-! ### xs[k] = v -/
def sSetL (i : Nat) (k : EF D) (f : EF D) : SM := sx f fun d => sx (ev1 (.sl i)) fun _ => sx k fun kk => fun r => match kk with
  | .int j => (match r[i]? with
    | some (some (.own b (.lst xs))) => (match ixN xs.length j with
      | some n => some (.nx, r.set i (some (.own b (.lst (xs.set n d)))))
      | none => none)
    | _ => none)
  | _ => none
theorem tD_sx {K : KF} {mg : MG} {f : EF D} {k : D → SM} {D0 : Ends} {s : L2.St} {H : Hp} (h : tS K mg W (sx f k) D0 s H) {P : VK}
    (p : ∀ C I H' r r' o x v, Rel K C I H' r s → Dp K I v x → k x r = some (o, r') → SPost K mg W C D0 I o r' → P v H') : tD K mg W f s H P := by
  obtain ⟨C, I, r, o, r', R, e, q⟩ := h
  rcases sx_inv e with ⟨x, r1, hf, e⟩ | ⟨x, hf, rfl⟩
  · exact ⟨C, I, r, _, _, R, hf, fun v I' H' R' g t => p C I' H' r1 r' o x v R' t e (spost_up g q)⟩
  · exact ⟨C, I, r, _, _, R, hf, fun c dx I' H' R' g t => q c dx s I' H' R' g t⟩
theorem ds_setL {i : Nat} {x : Str} {p1 p2 : Pos} {ei ev : Expr} {k f : EF D} (ho : PE X (.Name x p1) (tVar i)) (hi : DD X W ei k) (hv : DD X W ev f)
    (hs : swapsWithSole [.Subscript (.Name x p1) ei p2] ev pos.line X.env = pure false := by rfl) (hw : swappedStores [.Subscript (.Name x p1) ei p2] ev X.env = pure none := by rfl)
    (h1 : (assignEach [.Subscript (.Name x p1) ei p2] X.env).map (·.2) = [assign (.Subscript (.Name x p1) ei p2) X.env] := by rfl)
    (ha : ∀ v, assign (.Subscript (.Name x p1) ei p2) X.env v = (do
      let ov ← holding [v] (eval (.Name x p1) X.env)
      let iv ← holding [v, ov] (eval ei X.env)
      standAt p2
      holding [v, ov, iv] (setItem ov iv v)
      release [v, ov, iv] []) := by intro _; rfl) : DS X W (.Assign [.Subscript (.Name x p1) ei p2] ev pos) (sSetL i k f) :=
  ps_of (ps_asg hv (pg_sub ho hi set_list ha) hs hw h1) fun D s H q => tD_sx q fun C I H' r r' o d v R t e q => by
    rcases sx_inv e with ⟨ov, r0, h0, e⟩ | ⟨x, h0, rfl⟩
    · have h0 : (match r[i]? with
        | some (some _) => some (DL.R.ok (Ov.sl i), r)
        | _ => none) = some (.ok ov, r0) := h0
      split at h0
      · rename_i y hr0
        cases h0
        obtain ⟨v0, hv0, _⟩ := R.slot i y hr0
        refine ⟨v0, hv0, ?_⟩
        rcases sx_inv e with ⟨kk, r1, hk, e⟩ | ⟨x, hk, rfl⟩
        · refine ⟨C, I, r, _, _, R, hk, fun iv I2 H2 R2 g2 t2 => ?_⟩
          cases kk with
          | int j =>
            dsimp only at e
            split at e
            · rename_i b xs hr
              split at e
              · rename_i n hn
                cases e
                cases t2
                obtain ⟨v2, hv2, z2⟩ := R2.slot i _ hr
                rw [hv0] at hv2
                cases hv2
                obtain ⟨a2, ea2, na, ⟨ws, h1, h2⟩, _⟩ := own_nz z2
                subst ea2
                refine ⟨a2, ws, j, n, rfl, rfl, h1, by rw [dpa_len h2]; exact hn, ?_⟩
                exact q s I2 _ (R2.mut hr hv0 ⟨_, upd_same, dpa_set (dp_up g2 _ _ t) n h2⟩) g2
              · cases e
            · cases e
          | _ => cases e
        · exact ⟨C, I, r, _, _, R, hk, fun c dx I' H' R' g t => q c dx s I' H' R' g t⟩
      · cases h0
    · have h0 : (match r[i]? with
        | some (some _) => some (DL.R.ok (Ov.sl i), r)
        | _ => none) = some (.ex x, r') := h0
      split at h0 <;> cases h0
end
end DL
namespace DL
open PySem L2
open PyProof.Rows (envOfC)
/-! ### the built-ins are not shadowed -/
structure Blt (mg : MG) : Prop where
  len : mg "len" = none
  isinstance : mg "isinstance" = none
  list : mg "list" = none
  tuple : mg "tuple" = none
  abs : mg "abs" = none
  all : mg "all" = none
  sum : mg "sum" = none
  max : mg "max" = none
  min : mg "min" = none
  int : mg "int" = none
  bool : mg "bool" = none
  str : mg "str" = none
  repr : mg "repr" = none
  sorted : mg "sorted" = none
  dict : mg "dict" = none
  set : mg "set" = none
  range : mg "range" = none
  enumerate : mg "enumerate" = none
  zip : mg "zip" = none
  reversed : mg "reversed" = none
section
variable {X : Cx} {W : WX} {pos : Pos}
theorem dd_gint' {x : Str} {i : Int} (hg : Gl X x) (hm : ∃ t, X.mg x = some (.int i t)) (hd : (x == ("__debug__" : Str)) = false := by decide) : DD X W (.Name x pos) (dC (.int i)) := by
  obtain ⟨t, hm⟩ := hm
  exact dd_gint hg hm hd
theorem dd_gstr' {x z : Str} (hg : Gl X x) (hm : ∃ t, X.mg x = some (.str z t)) (hd : (x == ("__debug__" : Str)) = false := by decide) : DD X W (.Name x pos) (dC (.str z)) := by
  obtain ⟨t, hm⟩ := hm
  exact dd_gstr hg hm hd
/-! ### texts compared -/
def sCmp (p : Str → Str → Bool) : List S → Option S
  | [.d (.str i), .d (.str j)] => some (.d (.bool (p i j)))
  | _ => none
theorem sCmp_of {f : Value → Value → Sem Value} {p : Str → Str → Bool} (h : OpR X f (fun x y H Q => ∃ i j, x = .str i ∧ y = .str j ∧ Q (.bl (p i j)) H)) : OpD X f (sCmp p) := by
  intro pins s σ H x y v u Q I rx ry h1
  obtain ⟨I', ss, z, g, q, e, k⟩ := h1
  unfold sCmp at e
  split at e
  · rename_i a b
    cases e
    obtain ⟨p1, p2, e2, a1, a2⟩ := aall2 q
    cases e2
    have a1 : Dp X.K I' x (.str a) := a1
    have a2 : Dp X.K I' y (.str b) := a2
    cases a1
    cases a2
    exact h pins s σ H _ _ v u Q I rx ry ⟨a, b, rfl, rfl, k _ I' H (Grow.refl g) (.bl _)⟩
  · cases e
def ltS (i j : Str) : Bool := decide (i.cps.toList < j.cps.toList)
def opLt (ss : List S) : Option S := (iCmp (fun i j => decide (i < j)) ss).or (sCmp ltS ss)
def opLe (ss : List S) : Option S := (iCmp (fun i j => decide (i ≤ j)) ss).or (sCmp (fun i j => !ltS j i) ss)
def opGt (ss : List S) : Option S := (iCmp (fun i j => decide (j < i)) ss).or (sCmp (fun i j => ltS j i) ss)
def opGe (ss : List S) : Option S := (iCmp (fun i j => decide (j ≤ i)) ss).or (sCmp (fun i j => !ltS i j) ss)
theorem ok_lt (hu : X.A.units + 64 < cLine) : OpD X (compareOp .Lt) opLt := ok_iLt.or (sCmp_of op_lt_str)
theorem ok_le : OpD X (compareOp .LtE) opLe := ok_iLe.or (sCmp_of op_le_str)
theorem ok_gt : OpD X (compareOp .Gt) opGt := ok_iGt.or (sCmp_of op_gt_str)
theorem ok_ge : OpD X (compareOp .GtE) opGe := ok_iGe.or (sCmp_of op_ge_str)
/-! ### a[i] -/
def opIx (ss : List S) : Option S := ixD ss
theorem de_item {a b : Expr} {oa ob : Od} (hu : X.A.units + 64 < cLine) (ha : DO X W a oa) (hb : DO X W b ob) (hs : PlainIx b) (hs2 : NoSl b) : DE X W (.Subscript a b pos) (dApp [oa, ob] opIx) := de_ix ok_ix ha hb hs
theorem de_in {a b : Expr} {oa ob : Od} (hu : X.A.units + 64 < cLine) (ha : DO X W a oa) (hb : DO X W b ob) (hm : behindInMarks .In b = false) : DE X W (.Compare a [.In] [b] pos) (dApp [oa, ob] opIn) := de_cmp (ok_opIn hu) ha hb hm
theorem de_notin {a b : Expr} {oa ob : Od} (hu : X.A.units + 64 < cLine) (ha : DO X W a oa) (hb : DO X W b ob) (hm : behindInMarks .NotIn b = false) : DE X W (.Compare a [.NotIn] [b] pos) (dApp [oa, ob] opNotIn) := de_cmp (ok_opNotIn hu) ha hb hm
theorem dt_in {a b : Expr} {oa ob : Od} (hu : X.A.units + 64 < cLine) (ha : DO X W a oa) (hb : DO X W b ob) (hm : behindInMarks .In b = false) : DT X W (.Compare a [.In] [b] pos) (cTst (dApp [oa, ob] opIn)) := dt_cmp (ok_opIn hu) ha hb hm
theorem dt_notin {a b : Expr} {oa ob : Od} (hu : X.A.units + 64 < cLine) (ha : DO X W a oa) (hb : DO X W b ob) (hm : behindInMarks .NotIn b = false) : DT X W (.Compare a [.NotIn] [b] pos) (cTst (dApp [oa, ob] opNotIn)) := dt_cmp (ok_opNotIn hu) ha hb hm
/-! ### a op b op c -/
def dChain (f g : List S → Option S) (oa ob oc : Od) : EF S := eb (ev1 oa) fun x => eb (ev1 ob) fun y => fun r => match getAll r [x, y] with
  | some ss => (match f ss with
    | some (.d (.bool true)) => eb (ev1 oc) (fun z => fun r => match getAll r [y, z] with
      | some ss => (match g ss with
        | some v => some (.ok v, r)
        | none => none)
      | none => none) r
    | some (.d (.bool false)) => some (.ok (.d (.bool false)), r)
    | _ => none)
  | none => none
theorem chain_ok {K : KF} {mg : MG} {f g : List S → Option S} {oa ob oc : Od} {s : L2.St} {H : Hp} {Q : VK} (h : tE K mg W (dChain f g oa ob oc) s H Q) :
    tChain (fun x y H Q => rApp K f [x, y] H Q) (fun x y H Q => rApp K g [x, y] H Q) (tOd K mg W oa) (tOd K mg W ob) (tOd K mg W oc) s H Q := by
  obtain ⟨C, I, r, o, r', R, e, q⟩ := h
  refine od_eb R e (fun x z => by subst z; exact q) fun v I1 H1 ov r1 R1 g1 ov1 e => ?_
  have q1 : ∀ x, o = .ex x → XPost K mg W C I1 r' s x := fun x z => by subst z; exact XPost.up g1 q
  refine od_eb R1 e q1 fun u I2 H2 ou r2 R2 g2 ov2 e => ?_
  have q2 : ∀ x, o = .ex x → XPost K mg W C I2 r' s x := fun x z => XPost.up g2 (q1 x z)
  split at e
  · rename_i ss hg
    have aa : OvAll K I2 s [v, u] [ov, ou] := .cons (ovRel_up g2 ov1) (.cons ov2 .nil)
    have ar := getAll_ok R2 aa hg
    split at e
    · rename_i hf
      refine ⟨I2, ss, _, R2.sub, ar, hf, fun w I3 H3 gr n => ?_⟩
      have n : Dp K I3 w (.bool true) := n
      cases n
      refine ⟨true, rfl, iteT ?_⟩
      have R3 := R2.grow gr
      have q3 : ∀ x, o = .ex x → XPost K mg W C I3 r' s x := fun x z => XPost.up gr.i (q2 x z)
      refine od_eb R3 e q3 fun w I4 H4 ow r4 R4 g4 ov4 e => ?_
      split at e
      · rename_i ss2 hg2
        have aa2 : OvAll K I4 s [u, w] [ou, ow] := .cons (ovRel_up g4 (ovRel_up gr.i ov2)) (.cons ov4 .nil)
        have ar2 := getAll_ok R4 aa2 hg2
        split at e
        · rename_i z hz
          cases e
          exact ⟨I4, ss2, z, R4.sub, ar2, hz, fun x I5 H5 gr5 n5 => q x I5 H5 (R4.grow gr5) ((((g1.trans g2).trans gr.i).trans g4).trans gr5.i) (R4.newS gr5 n5)⟩
        · cases e
      · cases e
    · rename_i hf
      cases e
      refine ⟨I2, ss, _, R2.sub, ar, hf, fun w I3 H3 gr n => ?_⟩
      have n : Dp K I3 w (.bool false) := n
      cases n
      exact ⟨false, rfl, iteF (q _ I3 H3 (R2.grow gr) ((g1.trans g2).trans gr.i) (.bl _))⟩
    · cases e
  · cases e
theorem de_chain {op op' : CmpOp} {f g : List S → Option S} {a b c : Expr} {oa ob oc : Od} (h1 : OpD X (compareOp op) f) (h2 : OpD X (compareOp op') g) (ha : DO X W a oa) (hb : DO X W b ob) (hc : DO X W c oc)
    (hm : lastMarks [op, op'] [b, c] = false := by with_unfolding_all rfl) : DE X W (.Compare a [op, op'] [b, c] pos) (dChain f g oa ob oc) :=
  pe_of (pe_chain h1 h2 ha hb hc hm) fun s H Q q => chain_ok q
theorem dt_chain {op op' : CmpOp} {f g : List S → Option S} {a b c : Expr} {oa ob oc : Od} (h1 : OpD X (compareOp op) f) (h2 : OpD X (compareOp op') g) (ha : DO X W a oa) (hb : DO X W b ob) (hc : DO X W c oc)
    (hm : lastMarks [op, op'] [b, c] = false := by with_unfolding_all rfl) : DT X W (.Compare a [op, op'] [b, c] pos) (cTst (dChain f g oa ob oc)) :=
  pt_of (pt_chain h1 h2 ha hb hc hm) fun s H Q ⟨C, I, r, o, r', R, e, q⟩ => by
    refine chain_ok (W := W) (mg := X.mg) ?_
    rcases eb_inv e with ⟨x, r1, hf, e⟩ | ⟨x, hf, rfl⟩
    · refine ⟨C, I, r, _, _, R, hf, fun v I' H' R' g t => ?_⟩
      cases x with
      | d x =>
        cases x with
        | bool b =>
          cases e
          have t : Dp X.K I' v (.bool b) := t
          cases t
          exact ⟨b, rfl, q I' H' R' g⟩
        | _ => cases e
      | _ => cases e
    · exact ⟨C, I, r, _, _, R, hf, q⟩
/-! ### a, b = e -/
def sUnp (t : Tg) (f : EF D) : SM := sx f fun d => fun r => match bindT t d r with
  | some r' => some (.nx, r')
  | none => none
theorem ds_unp {tg e : Expr} {t : Tg} {f : EF D} (hv : DD X W e f) (hg : DG X tg t) (hs : swapsWithSole [tg] e pos.line X.env = pure false := by rfl) (hw : swappedStores [tg] e X.env = pure none := by rfl)
    (h1 : (assignEach [tg] X.env).map (·.2) = [assign tg X.env] := by rfl) : DS X W (.Assign [tg] e pos) (sUnp t f) :=
  ps_of (ps_asg hv hg hs hw h1) fun D s H q => tD_sx q fun C I H' r r' o d v R p e q => by
    split at e
    · rename_i r1 hb
      cases e
      exact ⟨C, I, r, d, _, R, p, hb, fun s' R' _ => q s' I H' R' (Same.refl I)⟩
    · cases e
def sSet (i : Nat) (k f : EF D) : SM := sSetL i k f
theorem ds_set {i : Nat} {x : Str} {p1 p2 : Pos} {ei ev : Expr} {k f : EF D} (hu : X.A.units + 64 < cLine) (ho : PE X (.Name x p1) (tVar i)) (hi : DD X W ei k) (hv : DD X W ev f)
    (hs : swapsWithSole [.Subscript (.Name x p1) ei p2] ev pos.line X.env = pure false := by rfl) (hw : swappedStores [.Subscript (.Name x p1) ei p2] ev X.env = pure none := by rfl)
    (h1 : (assignEach [.Subscript (.Name x p1) ei p2] X.env).map (·.2) = [assign (.Subscript (.Name x p1) ei p2) X.env] := by rfl)
    (ha : ∀ v, assign (.Subscript (.Name x p1) ei p2) X.env v = (do
      let ov ← holding [v] (eval (.Name x p1) X.env)
      let iv ← holding [v, ov] (eval ei X.env)
      standAt p2
      holding [v, ov, iv] (setItem ov iv v)
      release [v, ov, iv] []) := by intro _; rfl) : DS X W (.Assign [.Subscript (.Name x p1) ei p2] ev pos) (sSet i k f) := ds_setL ho hi hv hs hw h1 ha
end
end DL
namespace DL
open PySem L2
open PyProof.Rows (envOfC)
/-! ### repr, int, str -/
mutual
theorem nd_noDict : ∀ d : D, nd d = true → d.hasDict = false
  | .none, _ => by simp [PyData.hasDict]
  | .bool _, _ => by simp [PyData.hasDict]
  | .int _, _ => by simp [PyData.hasDict]
  | .str _, _ => by simp [PyData.hasDict]
  | .list xs, h => by simp only [PyData.hasDict]; exact nds_noDict xs (by simpa [nd] using h)
  | .tuple xs, h => by simp only [PyData.hasDict]; exact nds_noDict xs (by simpa [nd] using h)
  | .dict _, h => by simp [nd] at h
theorem nds_noDict : ∀ xs : List D, nds xs = true → PyData.hasDictAll xs = false
  | [], _ => by simp [PyData.hasDictAll]
  | x :: xs, h => by
    unfold nds at h
    rw [Bool.and_eq_true] at h
    simp only [PyData.hasDictAll, nd_noDict x h.1, nds_noDict xs h.2, Bool.or_self]
end
def reprD : List S → Option S
  | [p] => (datS p).bind fun d => if d.showable = true ∧ d.depth ≤ 60 ∧ d.shown.length ≤ 16777216 then some (.d (.str d.shown)) else none
  | _ => none
section
variable {X : Cx} {W : WX} {pos : Pos}
theorem ok_repr (hu : X.A.units + 64 < cLine) (hg : X.A.guards = some []) : CallD X (.builtin "repr") reprD := by
  intro pins s σ H xs us Q I r h
  obtain ⟨I', ss, z, g, p, e, q⟩ := h
  unfold reprD at e
  split at e
  · rename_i pp
    obtain ⟨d, e1, e2⟩ := Option.bind_eq_some_iff.mp e
    split at e2
    · rename_i hd
      cases e2
      cases p with
      | cons a1 a2 =>
        cases a2
        rename_i x
        have hx := datS_ok g a1 e1
        obtain ⟨u, rfl, ru⟩ := vals1 r
        have fin : ∀ h' t k, (∀ b o, s.heap.get? b = some o → h'.get? b = some o) → EP X pins σ Q (.str d.shown t) { s with heap := h', toks := k } := fun h' t k hk =>
          ⟨.str _, H, I.kept hk, ⟨t, rfl⟩, q _ I' H (Grow.refl g) (.str _)⟩
        have nd' := nd_noDict d (dp_nd _ _ hx)
        obtain ⟨as, rd⟩ := Dp.reads I d x u hx ru
        have hz : d.shown.length ≤ sizeLine := by rw [sizeLine_eq]; exact hd.2.2
        cases hx with
        | non =>
          cases ru
          refine PySem.P.repr_of_none ?_
          simp only [PyData.shown] at fin
          exact fin s.heap _ _ fun _ _ h => h
        | bl b =>
          cases ru
          refine PySem.P.repr_of_bool ?_
          have fin := fun h' t k hk => fin h' t k hk
          simp only [PyData.shown] at fin
          exact fin s.heap _ _ fun _ _ h => h
        | int i =>
          obtain ⟨t, rfl⟩ := ru
          refine PySem.P.repr_of_int (by simpa [PyData.showable] using hd.1) ?_
          simp only [PyData.shown] at fin
          exact fin s.heap _ _ fun _ _ h => h
        | str x =>
          obtain ⟨t, rfl⟩ := ru
          simp only [PyData.shown] at fin hz
          exact PySem.P.repr_of_str (fin s.heap _ _ fun _ _ h => h) hz
        | lst hs ha =>
          cases ru
          exact PySem.repr_of_reads' rd hd.1 (fun z => by rw [nd'] at z; cases z) hg (by omega) (fun _ _ h => h) (fun h' u tk hk => fin h' u tk hk) hz
        | tup hs ha =>
          cases ru
          exact PySem.repr_of_reads' rd hd.1 (fun z => by rw [nd'] at z; cases z) hg (by omega) (fun _ _ h => h) (fun h' u tk hk => fin h' u tk hk) hz
    · cases e2
  · cases e
theorem ok_int : CallD X (.type "int") intD := by
  intro pins s σ H xs us Q I r h
  obtain ⟨I', ss, z, g, p, e, q⟩ := h
  unfold intD at e
  split at e
  · rename_i i
    cases e
    cases p with
    | cons a1 a2 =>
      cases a2
      have a1 : Dp X.K I' _ (.int i) := a1
      cases a1
      exact call_int1 pins s σ H _ us Q I r (.inl ⟨i, rfl, q _ I' H (Grow.refl g) (.int _)⟩)
  · rename_i b
    cases e
    cases p with
    | cons a1 a2 =>
      cases a2
      have a1 : Dp X.K I' _ (.bool b) := a1
      cases a1
      exact call_int1 pins s σ H _ us Q I r (.inr ⟨b, rfl, q _ I' H (Grow.refl g) (.int _)⟩)
  · cases e
def strD : List S → Option S
  | [.d (.int i)] => if i.natAbs.log2 < 1920 then some (.d (.str (toString i))) else none
  | [.d (.str a)] => some (.d (.str a))
  | _ => none
theorem ok_str : CallD X (.type "str") strD := by
  intro pins s σ H xs us Q I r h
  obtain ⟨I', ss, z, g, p, e, q⟩ := h
  unfold strD at e
  split at e
  · rename_i i
    split at e
    · rename_i hl
      cases e
      cases p with
      | cons a1 a2 =>
        cases a2
        have a1 : Dp X.K I' _ (.int i) := a1
        cases a1
        exact call_str_int pins s σ H _ us Q I r ⟨i, rfl, hl, q _ I' H (Grow.refl g) (.str _)⟩
    · cases e
  · rename_i a
    cases e
    cases p with
    | cons a1 a2 =>
      cases a2
      have a1 : Dp X.K I' _ (.str a) := a1
      cases a1
      exact SkE.call_str_str pins s σ H _ us Q I r ⟨a, rfl, q _ I' H (Grow.refl g) (.str _)⟩
  · cases e
/-! ### methods of a text -/
def dStr (o : Od) (ods : List Od) (op : Str → List S → Option S) : EF S := eb (ev1 o) fun ov r => match ov.get r with
  | some (.d (.str a)) => dApp ods (op a) r
  | _ => none
abbrev MtS (X : Cx) (id : String) (op : Str → List S → Option S) : Prop := MtR X id fun x xs H Q => ∃ a, x = .str a ∧ rApp X.K (op a) xs H Q
theorem de_str1 {id : String} {name : Str} {o e : Expr} {oo oe : Od} {op : Str → List S → Option S} {apos : Pos} (slot : Slot "str" name id) (ty : typeOf (.builtin id) = pure (.type "method_descriptor")) (rule : MtS X id op) (ho : DO X W o oo) (he : DO X W e oe)
    (hs : starEach [e] X.env = [(false, eval e X.env)] := by rfl) (hbase : attributeBase o name X.env (eval o X.env) = eval o X.env := by rfl) (hline : (apos.endLine == pos.line) = true := by rfl) :
    DE X W (.Call (.Attribute o name apos) [e] [] pos) (dStr oo [oe] op) :=
  pe_of (pe_m1 slot ty rule ho he hs hbase hline) fun s H Q ⟨C, I, r, o, r', R, e, q⟩ => by
    refine od_eb R e (fun x z => by subst z; exact q) fun v I1 H1 ov r1 R1 g1 ov1 e => ?_
    split at e
    · rename_i a ha
      have ar := get_ok R1 ov1 ha
      have ar : Dp X.K I1 v (.str a) := ar
      cases ar
      refine ⟨⟨a, rfl⟩, ?_⟩
      have z : tE X.K X.mg W (dApp [oe] (op a)) s H1 Q := by
        refine ⟨C, I1, r1, o, r', R1, e, ?_⟩
        cases o with
        | ok x => exact fun v I' H' R' g t => q v I' H' R' (g1.trans g) t
        | ex x => exact fun c dx I' H' R' g t => q c dx I' H' R' (g1.trans g) t
      have z2 := app_ok (ods := [oe]) z
      have hc : tCons (tOd X.K X.mg W oe) tNil s H1 (fun vs H2 => rApp X.K (op a) vs H2 Q) := z2
      have : (tOd X.K X.mg W oe) s H1 fun y H2 => ∃ a', V.str a = .str a' ∧ rApp X.K (op a') [y] H2 Q := by
        refine (?_ : (tOd X.K X.mg W oe) s H1 fun y H2 => ∃ a', V.str a = .str a' ∧ rApp X.K (op a') [y] H2 Q)
        have hc : (tOd X.K X.mg W oe) s H1 fun y H2 => rApp X.K (op a) [y] H2 Q := hc
        cases oe with
        | sl i =>
          obtain ⟨w, h1, h2⟩ := hc
          exact ⟨w, h1, a, rfl, h2⟩
        | ex f =>
          obtain ⟨C, I, r, o, r', R, e, q⟩ := hc
          refine ⟨C, I, r, o, r', R, e, ?_⟩
          cases o with
          | ok x => exact fun v I' H' R' g t => ⟨a, rfl, q v I' H' R' g t⟩
          | ex x => exact q
      exact this
    · cases e
def joinO (a : Str) : List S → Option S
  | [p] => ((seqS p).bind strsD).bind fun ys => if (ys.map (·.length)).sum + ys.length * a.length ≤ 16777216 then some (.d (.str (Txt.join a ys))) else none
  | _ => none
theorem mt_joinD : MtS X "str.join" joinO := by
  intro pins s σ H x xs v us Q I rx rs h
  obtain ⟨a, rfl, I', ss, z, g, p, e, q⟩ := h
  unfold joinO at e
  split at e
  · rename_i pp
    obtain ⟨ys, e1, e2⟩ := Option.bind_eq_some_iff.mp e
    obtain ⟨zs, e3, e4⟩ := Option.bind_eq_some_iff.mp e1
    split at e2
    · rename_i hz
      cases e2
      cases p with
      | cons a1 a2 =>
        cases a2
        obtain ⟨b, vs, rfl, hq, da⟩ := seqS_ok g a1 e3
        rw [strsD_ok e4 da] at hq
        exact mt_join pins s σ H _ _ v us Q I rx rs ⟨a, b, ys, rfl, rfl, hq, hz, q _ I' H (Grow.refl g) (.str _)⟩
    · cases e2
  · cases e
def joinD := dStr
theorem de_join {o e : Expr} {oo oe : Od} {apos : Pos} (ho : DO X W o oo) (he : DO X W e oe) (hs : starEach [e] X.env = [(false, eval e X.env)] := by rfl) (hbase : attributeBase o "join" X.env (eval o X.env) = eval o X.env := by rfl) (hline : (apos.endLine == pos.line) = true := by rfl) :
    DE X W (.Call (.Attribute o "join" apos) [e] [] pos) (dStr oo [oe] joinO) := de_str1 F.slot_str_join F.type_str_join mt_joinD ho he hs hbase hline
/-! ### a text times a number -/
def sMul : List S → Option S
  | [.d (.str a), .d (.int n)] => if a.length ≤ 1000 ∧ n ≤ 1000 ∧ -1000 ≤ n then some (.d (.str (Txt.mul a n))) else none
  | _ => none
theorem ok_sMul : OpD X (binaryOp .Mult) sMul := by
  intro pins s σ H x y v u Q I rx ry h1
  obtain ⟨I', ss, z, g, p, e, q⟩ := h1
  unfold sMul at e
  split at e
  · rename_i a n
    split at e
    · rename_i hl
      cases e
      obtain ⟨p1, p2, e2, a1, a2⟩ := aall2 p
      cases e2
      have a1 : Dp X.K I' x (.str a) := a1
      have a2 : Dp X.K I' y (.int n) := a2
      cases a1
      cases a2
      obtain ⟨t, rfl⟩ := rx
      obtain ⟨t2, rfl⟩ := ry
      refine PySem.SB.mul ⟨?_, fun h1 h2 => ?_, fun h1 h2 => ?_⟩ fun t' k => ⟨.str _, H, I.tok _, ⟨t', rfl⟩, q _ I' H (Grow.refl g) (.str _)⟩
      · rw [decide_eq_false (by omega), decide_eq_false (by omega)]
        rfl
      · have : (1000 : Int) ≤ (2 ^ 63 - 1) / n := (Int.le_ediv_iff_mul_le (by omega)).mpr (by omega)
        omega
      · unfold Builtin.Str.tooLong
        rw [sizeLine_eq]
        have : a.length * n.toNat ≤ 1000 * 1000 := Nat.mul_le_mul hl.1 (by omega)
        exact decide_eq_false (by omega)
    · cases e
  · cases e
def opMul (ss : List S) : Option S := (iMul ss).or (sMul ss)
theorem ok_mul : OpD X (binaryOp .Mult) opMul := ok_iMul.or ok_sMul
end
end DL
namespace DL
open PySem L2
open PyProof.Rows (envOfC IntsAre)
open PySem PySem.W PySem.Calls PyProof.Rows in
abbrev caller0 : Around := callerA
open PySem PySem.W PySem.Calls PyProof.Rows in
/-- what the row asks behind the law's call -/
def Told (s1 : Shared) (r : Result) (s' : Shared) : Prop := r = .ok (.ret (.bool true)) ∧ OldK s1.heap s'.heap ∧ s'.os = s1.os ∧ AllBare s'.gens
/-! ### a def as callers see it -/
def Cl (P : Program) (w : World) (K : KF) (mg : MG) (base : Heap) (k : Nat) (x : Str) (ps : List Str) (F : FD) : Prop :=
  ∃ (f : Addr) (fd : FuncData), FnG P w K mg base k f fd ps F ∧ mg x = some (.ref f) ∧ PySem.W.keepIn K (.ref f) = true ∧ Binds K fd ps []
theorem Cl.mono {P : Program} {w : World} {K : KF} {mg : MG} {base : Heap} {j k : Nat} {x : Str} {ps : List Str} {F : FD} (c : Cl P w K mg base j x ps F) (h : j ≤ k) : Cl P w K mg base k x ps F := by
  obtain ⟨f, fd, G, a, b, d⟩ := c
  exact ⟨f, fd, G.mono h, a, b, d⟩
section
variable {X : Cx} {W : WX} {k : Nat} {ps : List Str} {F : FD} {x : Str} {p pos : Pos} {e : Expr} {es : List Expr} {os : List Od} {ms : List Bool}
theorem de_callC (c : Cl X.prog X.w X.K X.mg X.base k x ps F) (hr : Room k X.A) (hgd : X.A.guards = some []) (hg : Gl X x) (tk : Takes X W)
    (ha : DA X W (e :: es) os) (hdb : (x == ("__debug__" : Str)) = false := by decide) (he : starEach (e :: es) X.env = (false, eval e X.env) :: starEach es X.env := by rfl) (hpl : (backTo pos (starEach es X.env)).any (·.1) = false := by rfl) :
    DE X W (.Call (.Name x p) (e :: es) [] pos) (dCall F ms os) := by
  obtain ⟨f, fd, G, a, b, d⟩ := c
  exact de_call G hr hgd hg a b d tk ha hdb he hpl
theorem de_callC0 (c : Cl X.prog X.w X.K X.mg X.base k x ps F) (hr : Room k X.A) (hgd : X.A.guards = some []) (hg : Gl X x) (tk : Takes X W) (hdb : (x == ("__debug__" : Str)) = false := by decide) :
    DE X W (.Call (.Name x p) [] [] pos) (dCall F [] []) := by
  obtain ⟨f, fd, G, a, b, d⟩ := c
  exact de_call0 G hr hgd hg a b d tk hdb
end
theorem takesW0 {X : Cx} : Takes X W0 := takes0
/-! ### the row's end -/
/-- the law's call, from a heap in which at most the script at a is tracked -/
theorem law_core {P : Program} {w : World} {K : KF} {mg mb : MG} {k : Nat} {fa a : Addr} {fd : FuncData} {x : Str} {F : FD} {s1 : Shared} {vs : List Value} {ns : List Int} {H : Hp}
    (KX : K.In s1.heap) (hns : s1.heap.Ns mainGlobals mg) (hb : s1.heap.Ns builtinsNs mb) (hbb : ∀ x : Str, x ≠ "__name__" → mb x = bootBuiltins x) (hlim : s1.heap.NoLimit) (hg : s1.gens = #[])
    (ha : s1.heap.get? a = some { cls := .type "list", data := .seq vs.toArray }) (hr : Room k caller0)
    (G : ∀ base : Heap, K.In base → base.Ns mainGlobals mg → FnG P w K mg base k fa fd [x] F) (hbind : ∀ (s : Shared) (u : Value), BindsTo s fd ⟨[u], []⟩ [(x, u)])
    (hF : ∃ o, F [.d (.list (ns.map PyData.int))] = some (.ok (.d (.bool true)), o))
    (hS : SqL K H a (ns.map V.int)) (hok : HOk P w H s1.heap) (hA : ∀ b, H b ≠ none → b = a) (hfrz : ∀ u, H a = some u → ∃ ob y, u = .frz ob y) (hK : H a ≠ none → K.lookup a = none) :
    codeAny (model P w) caller0 (.call (.ref fa) ⟨[.ref a], []⟩) (Told s1) s1 := by
  have clear : ∀ {b : Addr} {o : Obj}, s1.heap.get? b = some o → (b = a → H a = none) → (hidT s1.heap H).get? b = some o := fun {b o} e n => hidT_get e (by
    cases q : H b with
    | none => rfl
    | some u =>
      have hba := hA b (by rw [q]; exact fun z => by cases z)
      subst hba
      rw [n rfl] at q
      cases q)
  have dicts : ∀ {b : Addr} {m : Str → Option Value}, s1.heap.Ns b m → (hidT s1.heap H).Ns b m := fun {b m} ⟨o, es, ep, e, d, z⟩ => ⟨o, es, ep, clear e (fun hba => by
    subst hba
    rw [ha] at e
    cases e
    cases d), d, z⟩
  have kin : K.In (hidT s1.heap H) := fun b o e => clear (KX b o e) fun hba => by
    subst hba
    cases q : H b with
    | none => rfl
    | some u =>
      rw [hK (by rw [q]; exact fun z => by cases z)] at e
      cases e
  have md : Mod K mg (hidT s1.heap H) := ⟨kin, dicts hns, ⟨mb, dicts hb, hbb⟩, let ⟨mc, h1, h2⟩ := hlim; ⟨mc, dicts h1, h2⟩⟩
  have e0 : Env0 P w K mg (hidT s1.heap H) caller0 [] s1 H :=
    ⟨rfl, md, fun b o e => of_hidT e, Nat.le_of_eq (hidT_size _ _), trivial, fun b z => absurd (show b ∈ ([] : List Addr) from z) (by simp), hok, .of_eq hg⟩
  obtain ⟨o, hF⟩ := hF
  have dp : Dp K H (.ref a) (.list (ns.map PyData.int)) := .lst hS (by
    clear hF hS
    induction ns with
    | nil => exact .nil
    | cons n ns ih => exact .cons (.int n) ih)
  have sp : spF K mg F [.ref a] H (fun v _ => v = .bl true) fun _ _ _ => False := by
    refine ⟨H, [.d (.list (ns.map PyData.int))], _, o, Same.refl H, ⟨rfl, fun i y hy => ?_, fun i j m y c ne h1 => ?_⟩, hF, fun v I' H' A n => ?_⟩
    · cases i with
      | zero => simp at hy; subst hy; exact ⟨_, rfl, dp⟩
      | succ i => simp at hy
    · cases i <;> simp at h1
    · have n : Dp K I' v (.bool true) := n
      cases n
      rfl
  refine codeAny_mono ((G _ kin (dicts hns)).run caller0 [] s1 H ⟨[.ref a], []⟩ [.ref a] [.ref a] _ _ hr rfl e0 (hbind s1 (.ref a)) (.cons rfl .nil) sp) fun r s' h => ?_
  cases r with
  | error e =>
    obtain ⟨_, _, _, _, _, _, _, _, _, _, _, _, z⟩ := h
    exact z.elim
  | ok fl =>
    cases fl with
    | next => exact False.elim h
    | brk => exact False.elim h
    | cont => exact False.elim h
    | ret u =>
      obtain ⟨v, H', os, bare, un, hok', rv, q⟩ := h
      have q : v = .bl true := q
      subst q
      obtain rfl : u = Value.bool true := rv
      refine ⟨rfl, OldK.of_keep fun b ob e => ?_, os, bare⟩
      cases q : H b with
      | none => exact un.keep b ob e q (fun z => absurd (show b ∈ ([] : List Addr) from z) (by simp)) (by simp)
      | some u =>
        have hba := hA b (by rw [q]; exact fun z => by cases z)
        subst hba
        obtain ⟨oz, y, rfl⟩ := hfrz u q
        obtain ⟨e1, _⟩ := hok b _ q
        obtain ⟨e2, _⟩ := hok' b _ (un.frzs b oz y q)
        rw [e] at e1
        cases e1
        exact e2
theorem law_callG {P : Program} {w : World} {K : KF} {mg mb : MG} {k : Nat} {fa a : Addr} {fd : FuncData} {x : Str} {F : FD} {s1 : Shared} {vs : List Value} {ns : List Int}
    (KX : K.In s1.heap) (hns : s1.heap.Ns mainGlobals mg) (hb : s1.heap.Ns builtinsNs mb) (hbb : ∀ x : Str, x ≠ "__name__" → mb x = bootBuiltins x) (hlim : s1.heap.NoLimit) (hg : s1.gens = #[])
    (ha : s1.heap.get? a = some { cls := .type "list", data := .seq vs.toArray }) (hi : IntsAre vs ns) (hl : ns.length ≤ sizeLine) (hr : Room k caller0)
    (G : ∀ base : Heap, K.In base → base.Ns mainGlobals mg → FnG P w K mg base k fa fd [x] F) (hbind : ∀ (s : Shared) (u : Value), BindsTo s fd ⟨[u], []⟩ [(x, u)])
    (hF : ∃ o, F [.d (.list (ns.map PyData.int))] = some (.ok (.d (.bool true)), o)) :
    codeAny (model P w) caller0 (.call (.ref fa) ⟨[.ref a], []⟩) (Told s1) s1 := by
  have rv := vals_ints hi
  have lenV := hi.length
  cases hk : K.lookup a with
  | some o =>
    have e := KX a o hk
    rw [ha] at e
    cases e
    exact law_core (H := fun _ => none) KX hns hb hbb hlim hg ha hr G hbind hF (.inr ⟨_, vs.toArray, _, hk, rfl, rfl, rfl, by rw [List.size_toArray, lenV]; exact hl, by simpa using rv⟩)
      (fun b u z => by have z : (none : Option HO) = some u := z; cases z) (fun b z => absurd rfl z) (fun u z => by have z : (none : Option HO) = some u := z; cases z) fun z => absurd rfl z
  | none =>
    refine law_core (H := fun b => if b = a then some (.frz { cls := .type "list", data := .seq vs.toArray } (.lst (ns.map V.int))) else none) KX hns hb hbb hlim hg ha hr G hbind hF (.inl (.inr ⟨{ cls := .type "list", data := .seq vs.toArray }, if_pos rfl⟩))
      (fun b u z => ?_) (fun b z => ?_) (fun u z => ?_) fun _ => hk
    · by_cases hb : b = a
      · have z := (if_pos hb).symm.trans z
        cases z
        subst hb
        exact ⟨ha, by rw [List.length_map]; exact hl, vs, _, rv, ha⟩
      · have z := (if_neg hb).symm.trans z
        cases z
    · by_cases hb : b = a
      · exact hb
      · exact absurd (if_neg hb) z
    · have z := (if_pos rfl).symm.trans z
      cases z
      exact ⟨_, _, rfl⟩
open PySem.W in
/-- the goal that the head leaves -/
theorem walk_G {l : OpenLaw} {n k : Nat} {q : Program} {loose : List Str} {XP : (Str → Option Value) → Heap → Prop} {YP : World → Heap → Prop} {d : DefRec} {K : Params → KF} {x : Str} {F : FD}
    (hn : l.most = some n) (hn2 : n ≤ sizeLine) (hdf : d.params.defaults = []) (hr : Room k caller0) (hY : ∀ (w : World) (h : Heap), YP w h → (K w.params).In h)
    (G : ∀ (w : World) (mg : MG) (fa : Addr) (h : Heap), (K w.params).In h → h.Ns mainGlobals mg → mg d.name = some (.ref fa) →
      ∃ fd : FuncData, (∀ (s : Shared) (u : Value), BindsTo s fd ⟨[u], []⟩ [(x, u)]) ∧ ∀ base : Heap, (K w.params).In base → base.Ns mainGlobals mg → FnG l.prog w (K w.params) mg base k fa fd [x] F)
    (hF : ∀ ns : List Int, ns.length ≤ n → ∃ o, F [.d (.list (ns.map PyData.int))] = some (.ok (.d (.bool true)), o)) :
    WalkO q loose XP YP l.row.toRowW d [] (fun f vs => PySem.call f vs) := by
  refine Att.attach_call hn hdf fun w s0 s1 mg mb fa o pm cd doc a vs ns Gr Y ho hd hcd hmg hobj hints hlen hg => ?_
  obtain ⟨fd, hb, hG⟩ := G w mg fa _ (hY w _ Y) Gr.T.g hmg
  exact law_callG (hY w _ Y) Gr.T.g Gr.T.b Gr.T.builtins Gr.T.nolimit hg hobj hints (Nat.le_trans hlen hn2) hr hG hb (hF ns hlen)
end DL
/-! DLw: what a denotation comes to, told by what is wanted behind it. -/
namespace DL
open PySem L2
/-- what simp leaves alone: a later argument's form hangs on it -/
inductive Blk {α : Sort u} (a : α) : Type where
  | mk
/-! ### wishes -/
def Wp {α : Type} (f : EF α) (r : Env) (P : α → Env → Prop) (E : Exc → Env → Prop) (_u : Blk (f, P, E) := .mk) : Prop := match f r with
  | some (.ok x, r') => P x r'
  | some (.ex x, r') => E x r'
  | none => False
def Ws (g : SM) (r : Env) (N : Env → Prop) (Q : O → Env → Prop) (_u : Blk (g, N, Q) := .mk) : Prop := match g r with
  | some (.nx, r') => N r'
  | some (o, r') => Q o r'
  | none => False
def Wf (F : FD) (ss : List S) (P : S → List S → Prop) (E : Exc → List S → Prop) (_u : Blk (F, P, E) := .mk) : Prop := match F ss with
  | some (.ok x, o) => P x o
  | some (.ex x, o) => E x o
  | none => False
def Wo {α : Type} (o : Option α) (P : α → Prop) (_u : Blk P := .mk) : Prop := match o with
  | some x => P x
  | none => False
/-- by a truth -/
def Wite (b : Bool) (A B : Prop) (_u : Blk (A, B) := .mk) : Prop := match b with
  | true => A
  | false => B
@[simp] theorem wite_t {A B : Prop} : Wite true A B ↔ A := Iff.rfl
@[simp] theorem wite_f {A B : Prop} : Wite false A B ↔ B := Iff.rfl
theorem Wite.mk {b : Bool} {A B : Prop} (h1 : b = true → A) (h0 : b = false → B) : Wite b A B := by
  cases b with
  | true => exact h1 rfl
  | false => exact h0 rfl
theorem Wite.mkP {p : Prop} [Decidable p] {A B : Prop} (h1 : p → A) (h0 : ¬ p → B) : Wite (decide p) A B := .mk (fun h => h1 (of_decide_eq_true h)) fun h => h0 (of_decide_eq_false h)
section
variable {α β : Type} {r : Env}
@[simp] theorem wo_some {x : α} {P : α → Prop} : Wo (some x) P ↔ P x := Iff.rfl
@[simp] theorem wo_none {P : α → Prop} : Wo (none : Option α) P ↔ False := Iff.rfl
theorem wo_iff {o : Option α} {P : α → Prop} : Wo o P ↔ ∃ x, o = some x ∧ P x := by
  cases o <;> simp [Wo]
@[simp] theorem wo_bind {o : Option α} {k : α → Option β} {P : β → Prop} : Wo (o.bind k) P ↔ Wo o fun x => Wo (k x) P := by
  cases o <;> simp [Wo]
@[simp] theorem wo_map {o : Option α} {k : α → β} {P : β → Prop} : Wo (o.map k) P ↔ Wo o fun x => P (k x) := by
  cases o <;> simp [Wo]
@[simp] theorem wo_ite {c : Prop} [Decidable c] {a b : Option α} {P : α → Prop} : Wo (if c then a else b) P ↔ if c then Wo a P else Wo b P := by
  by_cases h : c <;> simp [h]
theorem Wp.mono {f : EF α} {P P' : α → Env → Prop} {E E' : Exc → Env → Prop} (h : Wp f r P E) (hp : ∀ x r, P x r → P' x r) (he : ∀ x r, E x r → E' x r) : Wp f r P' E' := by
  unfold Wp at *
  split <;> simp_all
theorem Ws.mono {g : SM} {N N' : Env → Prop} {Q Q' : O → Env → Prop} (h : Ws g r N Q) (hn : ∀ r, N r → N' r) (hq : ∀ o r, Q o r → Q' o r) : Ws g r N' Q' := by
  unfold Ws at *
  split <;> simp_all
theorem Wf.mono {F : FD} {ss : List S} {P P' : S → List S → Prop} {E E' : Exc → List S → Prop} (h : Wf F ss P E) (hp : ∀ x r, P x r → P' x r) (he : ∀ x r, E x r → E' x r) : Wf F ss P' E' := by
  unfold Wf at *
  split <;> simp_all
theorem wp_some {f : EF α} {P : α → Env → Prop} {E : Exc → Env → Prop} {x : α} {r' : Env} (e : f r = some (.ok x, r')) : Wp f r P E ↔ P x r' := by
  unfold Wp; rw [e]
theorem wf_of {F : FD} {ss : List S} {P : S → List S → Prop} {E : Exc → List S → Prop} {x : S} {o : List S} (e : F ss = some (.ok x, o)) : Wf F ss P E ↔ P x o := by
  unfold Wf; rw [e]
theorem wf_ex {F : FD} {ss : List S} {P : S → List S → Prop} (h : Wf F ss P fun _ _ => False) : ∃ x o, F ss = some (.ok x, o) ∧ P x o := by
  unfold Wf at h
  split at h
  · rename_i x o e
    exact ⟨x, o, e, h⟩
  · exact h.elim
  · exact h.elim
@[simp] theorem wp_er {x : α} {P : α → Env → Prop} {E : Exc → Env → Prop} : Wp (er x) r P E ↔ P x r := Iff.rfl
@[simp] theorem wp_eb {a : EF α} {k : α → EF β} {P : β → Env → Prop} {E : Exc → Env → Prop} : Wp (eb a k) r P E ↔ Wp a r (fun x r1 => Wp (k x) r1 P E) E := by
  unfold Wp eb
  cases h : a r with
  | none => simp
  | some z =>
    obtain ⟨o, r1⟩ := z
    cases o <;> simp
theorem wp_congr {f : EF α} {P P' : α → Env → Prop} {E : Exc → Env → Prop} (h : ∀ x r1, P x r1 ↔ P' x r1) : Wp f r P E ↔ Wp f r P' E := by
  unfold Wp
  split
  · exact h _ _
  · rfl
  · rfl
theorem wp_ebC {a : EF α} {k : α → EF β} {P : β → Env → Prop} {E : Exc → Env → Prop} {M : α → Env → Prop} (h : ∀ x r1, Wp (k x) r1 P E ↔ M x r1) : Wp (eb a k) r P E ↔ Wp a r M E := wp_eb.trans (wp_congr h)
@[simp] theorem wp_dC {x : D} {P : D → Env → Prop} {E : Exc → Env → Prop} : Wp (dC x) r P E ↔ P x r := Iff.rfl
@[simp] theorem wp_ds {f : EF D} {P : S → Env → Prop} {E : Exc → Env → Prop} : Wp (ds f) r P E ↔ Wp f r (fun x r1 => P (.d x) r1) E := wp_eb
/-- what was made, as data -/
def Wd (x : S) (P : D → Prop) (_u : Blk P := .mk) : Prop := match x with
  | .d x => P x
  | .own false (.lst xs) => P (.list xs)
  | _ => False
@[simp] theorem wd_d {x : D} {P : D → Prop} : Wd (.d x) P ↔ P x := Iff.rfl
@[simp] theorem wd_l {xs : List D} {P : D → Prop} : Wd (.own false (.lst xs)) P ↔ P (.list xs) := Iff.rfl
@[simp] theorem wp_dd {f : EF S} {P : D → Env → Prop} {E : Exc → Env → Prop} : Wp (dd f) r P E ↔ Wp f r (fun x r1 => Wd x fun y => P y r1) E := by
  unfold dd
  refine wp_ebC fun x r1 => ?_
  unfold Wp Wd
  dsimp only
  split <;> rename_i h <;> (repeat' split at h) <;> simp_all
/-- a name -/
def Wv (o : Option (Option S)) (r : Env) (i : Nat) (P : D → Env → Prop) (_u : Blk P := .mk) : Prop := match o with
  | some (some (.d x)) => P x r
  | some (some (.own false (.lst xs))) => P (.list xs) (r.set i (some (.d (.list xs))))
  | _ => False
@[simp] theorem wv_d {x : D} {i : Nat} {P : D → Env → Prop} : Wv (some (some (.d x))) r i P ↔ P x r := Iff.rfl
@[simp] theorem wv_l {xs : List D} {i : Nat} {P : D → Env → Prop} : Wv (some (some (.own false (.lst xs)))) r i P ↔ P (.list xs) (r.set i (some (.d (.list xs)))) := Iff.rfl
@[simp] theorem wp_var {i : Nat} {P : D → Env → Prop} {E : Exc → Env → Prop} : Wp (dVar i) r P E ↔ Wv r[i]? r i P := by
  unfold Wp dVar Wv
  cases h : r[i]? with
  | none => rfl
  | some z =>
    cases z with
    | none => rfl
    | some z =>
      cases z with
      | d x => rfl
      | bor m => rfl
      | own b m =>
        cases b with
        | true => rfl
        | false => cases m <;> rfl
def Wm (o : Option (Option S)) (r : Env) (i : Nat) (P : S → Env → Prop) (_u : Blk P := .mk) : Prop := match o with
  | some (some (.d x)) => P (.d x) r
  | some (some (.own false m)) => P (.own false m) (r.set i none)
  | _ => False
@[simp] theorem wm_d {x : D} {i : Nat} {P : S → Env → Prop} : Wm (some (some (.d x))) r i P ↔ P (.d x) r := Iff.rfl
@[simp] theorem wm_o {m : MO} {i : Nat} {P : S → Env → Prop} : Wm (some (some (.own false m))) r i P ↔ P (.own false m) (r.set i none) := Iff.rfl
@[simp] theorem wp_move {i : Nat} {P : S → Env → Prop} {E : Exc → Env → Prop} : Wp (dMove i) r P E ↔ Wm r[i]? r i P := by
  unfold Wp dMove Wm
  cases h : r[i]? with
  | none => rfl
  | some z =>
    cases z with
    | none => rfl
    | some z =>
      cases z with
      | d x => rfl
      | bor m => rfl
      | own b m =>
        cases b with
        | true => rfl
        | false => cases m <;> rfl
/-- operands -/
def isOn (o : Option (Option S)) : Prop := match o with
  | some (some _) => True
  | _ => False
@[simp] theorem isOn_s {x : S} : isOn (some (some x)) ↔ True := Iff.rfl
@[simp] theorem wp_ev0 {P : List Ov → Env → Prop} {E : Exc → Env → Prop} : Wp (evO []) r P E ↔ P [] r := Iff.rfl
@[simp] theorem wp_evs {i : Nat} {t : List Od} {P : List Ov → Env → Prop} {E : Exc → Env → Prop} : Wp (evO (.sl i :: t)) r P E ↔ isOn r[i]? ∧ Wp (evO t) r (fun os r1 => P (.sl i :: os) r1) E := by
  have : Wp (evO (.sl i :: t)) r P E = Wp (fun r => match r[i]? with
    | some (some _) => eb (evO t) (fun os => er (.sl i :: os)) r
    | _ => none) r P E := rfl
  rw [this]
  have h2 : Wp (eb (evO t) fun os => er (.sl i :: os)) r P E ↔ Wp (evO t) r (fun os r1 => P (.sl i :: os) r1) E := wp_eb
  rw [← h2]
  unfold Wp isOn
  dsimp only
  cases h : r[i]? with
  | none => simp
  | some z => cases z <;> simp
@[simp] theorem wp_eve {f : EF D} {t : List Od} {P : List Ov → Env → Prop} {E : Exc → Env → Prop} : Wp (evO (.ex f :: t)) r P E ↔ Wp f r (fun d r1 => Wp (evO t) r1 (fun os r2 => P (.d d :: os) r2) E) E := by
  show Wp (eb f fun d => eb (evO t) fun os => er (.d d :: os)) r P E ↔ _
  rw [wp_eb]
  have : (fun (d : D) (r1 : Env) => Wp (eb (evO t) fun os => er (Ov.d d :: os)) r1 P E) = fun d r1 => Wp (evO t) r1 (fun os r2 => P (.d d :: os) r2) E := by
    funext d r1
    exact propext wp_eb
  rw [this]
@[simp] theorem wp_e1s {i : Nat} {P : Ov → Env → Prop} {E : Exc → Env → Prop} : Wp (ev1 (.sl i)) r P E ↔ isOn r[i]? ∧ P (.sl i) r := by
  unfold Wp ev1 isOn
  dsimp only
  cases h : r[i]? with
  | none => simp
  | some z => cases z <;> simp
@[simp] theorem wp_e1e {f : EF D} {P : Ov → Env → Prop} {E : Exc → Env → Prop} : Wp (ev1 (.ex f)) r P E ↔ Wp f r (fun d r1 => P (.d d) r1) E := wp_eb
@[simp] theorem wp_app {ods : List Od} {op : List S → Option S} {P : S → Env → Prop} {E : Exc → Env → Prop} : Wp (dApp ods op) r P E ↔ Wp (evO ods) r (fun os r1 => Wo (getAll r1 os) fun ss => Wo (op ss) fun x => P x r1) E := by
  unfold dApp
  refine wp_ebC fun os r1 => ?_
  unfold Wp Wo
  dsimp only
  cases getAll r1 os with
  | none => rfl
  | some ss => dsimp only; cases op ss <;> rfl
/-- a truth, among values -/
def Ws1 (x : S) (P : Bool → Prop) (_u : Blk P := .mk) : Prop := match x with
  | .d (.bool b) => P b
  | _ => False
@[simp] theorem ws1_b {b : Bool} {P : Bool → Prop} : Ws1 (.d (.bool b)) P ↔ P b := Iff.rfl
/-- a truth -/
def Wt (x : D) (P : Bool → Prop) (_u : Blk P := .mk) : Prop := match x with
  | .bool b => P b
  | _ => False
@[simp] theorem wt_b {b : Bool} {P : Bool → Prop} : Wt (.bool b) P ↔ P b := Iff.rfl
@[simp] theorem wp_cTst {f : EF S} {P : Bool → Env → Prop} {E : Exc → Env → Prop} : Wp (cTst f) r P E ↔ Wp f r (fun x r1 => Ws1 x fun b => P b r1) E := by
  refine wp_ebC fun x r1 => ?_
  cases x with
  | d x => cases x <;> rfl
  | _ => rfl
@[simp] theorem wp_cVal {f : EF D} {P : Bool → Env → Prop} {E : Exc → Env → Prop} : Wp (cVal f) r P E ↔ Wp f r (fun x r1 => Wt x fun b => P b r1) E := by
  refine wp_ebC fun x r1 => ?_
  cases x <;> rfl
theorem wp_kTru {b : Option Bool} {P : Bool → Env → Prop} {E : Exc → Env → Prop} : Wp (kTru b) r P E ↔ Wo b fun k => P k r := by
  cases b <;> rfl
theorem wp_kOpt {b : Option α} {P : α → Env → Prop} {E : Exc → Env → Prop} : Wp (kOpt b) r P E ↔ Wo b fun k => P k r := by
  cases b <;> rfl
@[simp] theorem wp_cTru {f : EF D} {P : Bool → Env → Prop} {E : Exc → Env → Prop} : Wp (cTru f) r P E ↔ Wp f r (fun x r1 => Wo (truD x) fun k => P k r1) E := by
  exact wp_ebC fun x r1 => wp_kTru
@[simp] theorem wp_cAnd {f g : EF Bool} {P : Bool → Env → Prop} {E : Exc → Env → Prop} : Wp (cAnd f g) r P E ↔ Wp f r (fun k r1 => Wite k (Wp g r1 P E) (P false r1)) E := by
  unfold cAnd
  refine wp_ebC fun k r1 => ?_
  cases k <;> rfl
@[simp] theorem wp_cOr {f g : EF Bool} {P : Bool → Env → Prop} {E : Exc → Env → Prop} : Wp (cOr f g) r P E ↔ Wp f r (fun k r1 => Wite k (P true r1) (Wp g r1 P E)) E := by
  unfold cOr
  refine wp_ebC fun k r1 => ?_
  cases k <;> rfl
@[simp] theorem wp_cNot {f : EF Bool} {P : Bool → Env → Prop} {E : Exc → Env → Prop} : Wp (cNot f) r P E ↔ Wp f r (fun k r1 => P (!k) r1) E := wp_eb
@[simp] theorem wp_vB {f : EF Bool} {P : D → Env → Prop} {E : Exc → Env → Prop} : Wp (vB f) r P E ↔ Wp f r (fun k r1 => P (.bool k) r1) E := wp_eb
@[simp] theorem wp_vIf {c : EF Bool} {f g : EF α} {P : α → Env → Prop} {E : Exc → Env → Prop} : Wp (vIf c f g) r P E ↔ Wp c r (fun k r1 => Wite k (Wp f r1 P E) (Wp g r1 P E)) E := by
  unfold vIf
  refine wp_ebC fun k r1 => ?_
  cases k <;> rfl
@[simp] theorem wp_vAnd {f g : EF D} {P : D → Env → Prop} {E : Exc → Env → Prop} : Wp (vAnd f g) r P E ↔ Wp f r (fun x r1 => Wo (truD x) fun k => Wite k (Wp g r1 P E) (P x r1)) E := by
  unfold vAnd
  refine wp_ebC fun x r1 => ?_
  cases truD x with
  | none => rfl
  | some k => cases k <;> rfl
@[simp] theorem wp_vOr {f g : EF D} {P : D → Env → Prop} {E : Exc → Env → Prop} : Wp (vOr f g) r P E ↔ Wp f r (fun x r1 => Wo (truD x) fun k => Wite k (P x r1) (Wp g r1 P E)) E := by
  unfold vOr
  refine wp_ebC fun x r1 => ?_
  cases truD x with
  | none => rfl
  | some k => cases k <;> rfl
/-- a call -/
@[simp] theorem wp_call {F : FD} {ms : List Bool} {ods : List Od} {P : S → Env → Prop} {E : Exc → Env → Prop} :
    Wp (dCall F ms ods) r P E ↔ Wp (evO ods) r (fun os r1 => Wo (callArgs r1 ms os) fun ss => ioOnce ms os = true ∧ Wf F ss (fun x o => P x (putBack ms os o r1)) fun x o => E x (putBack ms os o r1)) E := by
  unfold dCall
  refine wp_ebC fun os r1 => ?_
  unfold Wp Wo Wf
  dsimp only
  cases callArgs r1 ms os with
  | none => rfl
  | some ss =>
    dsimp only
    by_cases h : ioOnce ms os = true
    · simp only [h, if_true, true_and]
      cases F ss with
      | none => rfl
      | some z => obtain ⟨o, t⟩ := z; cases o <;> rfl
    · simp [h]
/-! statements -/
variable {N : Env → Prop} {Q : O → Env → Prop}
@[simp] theorem ws_pass : Ws sPass r N Q ↔ N r := Iff.rfl
@[simp] theorem ws_break : Ws sBreak r N Q ↔ Q .bk r := Iff.rfl
@[simp] theorem ws_cont : Ws sCont r N Q ↔ Q .ct r := Iff.rfl
@[simp] theorem ws_retN : Ws sRetN r N Q ↔ Q (.rt (.d .none)) r := Iff.rfl
@[simp] theorem ws_sb {a b : SM} : Ws (sb a b) r N Q ↔ Ws a r (fun r1 => Ws b r1 N Q) Q := by
  unfold Ws sb
  cases h : a r with
  | none => simp
  | some z =>
    obtain ⟨o, r1⟩ := z
    cases o <;> simp
theorem ws_sx {f : EF α} {k : α → SM} : Ws (sx f k) r N Q ↔ Wp f r (fun x r1 => Ws (k x) r1 N Q) fun x r1 => Q (.ex x) r1 := by
  unfold Ws sx Wp
  cases h : f r with
  | none => simp
  | some z =>
    obtain ⟨o, r1⟩ := z
    cases o <;> simp
theorem ws_sxC {f : EF α} {k : α → SM} {M : α → Env → Prop} (h : ∀ x r1, Ws (k x) r1 N Q ↔ M x r1) : Ws (sx f k) r N Q ↔ Wp f r M fun x r1 => Q (.ex x) r1 := ws_sx.trans (wp_congr h)
@[simp] theorem ws_asg {i : Nat} {f : EF S} : Ws (sAsg i f) r N Q ↔ Wp f r (fun x r1 => N (r1.set i (some x))) fun x r1 => Q (.ex x) r1 := ws_sx
@[simp] theorem ws_ret {f : EF S} : Ws (sRet f) r N Q ↔ Wp f r (fun x r1 => Q (.rt x) r1) fun x r1 => Q (.ex x) r1 := ws_sx
@[simp] theorem ws_drop {f : EF S} : Ws (sDrop f) r N Q ↔ Wp f r (fun x r1 => N r1) fun x r1 => Q (.ex x) r1 := ws_sx
@[simp] theorem ws_if {c : EF Bool} {a b : SM} : Ws (sIf c a b) r N Q ↔ Wp c r (fun k r1 => Wite k (Ws a r1 N Q) (Ws b r1 N Q)) fun x r1 => Q (.ex x) r1 := by
  refine ws_sxC fun k r1 => ?_
  cases k <;> rfl
@[simp] theorem ws_unp {t : Tg} {f : EF D} : Ws (sUnp t f) r N Q ↔ Wp f r (fun d r1 => Wo (bindT t d r1) N) fun x r1 => Q (.ex x) r1 := by
  refine ws_sxC fun d r1 => ?_
  unfold Ws Wo
  dsimp only
  cases bindT t d r1 <;> rfl
@[simp] theorem ws_for {f : EF (List D)} {t : Tg} {g : SM} : Ws (sFor f t g) r N Q ↔ Wp f r (fun xs r1 => Ws (sForL t g xs) r1 N Q) fun x r1 => Q (.ex x) r1 := ws_sx
@[simp] theorem ws_for0 {t : Tg} {g : SM} : Ws (sForL t g []) r N Q ↔ N r := Iff.rfl
/-- a turn's ends -/
def turnQ (N : Env → Prop) (M : Env → Prop) (Q : O → Env → Prop) : O → Env → Prop
  | .nx, r => M r
  | .ct, r => M r
  | .bk, r => N r
  | o, r => Q o r
@[simp] theorem turn_ct {M : Env → Prop} : turnQ N M Q .ct r ↔ M r := Iff.rfl
@[simp] theorem turn_bk {M : Env → Prop} : turnQ N M Q .bk r ↔ N r := Iff.rfl
@[simp] theorem turn_rt {M : Env → Prop} {x : S} : turnQ N M Q (.rt x) r ↔ Q (.rt x) r := Iff.rfl
@[simp] theorem turn_ex {M : Env → Prop} {x : Exc} : turnQ N M Q (.ex x) r ↔ Q (.ex x) r := Iff.rfl
theorem ws_forS {t : Tg} {g : SM} {d : D} {xs : List D} : Ws (sForL t g (d :: xs)) r N Q ↔ Wo (bindT t d r) fun r1 => Ws g r1 (fun r2 => Ws (sForL t g xs) r2 N Q) (turnQ N (fun r2 => Ws (sForL t g xs) r2 N Q) Q) := by
  show Ws (fun r => match bindT t d r with
    | none => none
    | some r1 => match g r1 with
      | some (.nx, r2) => sForL t g xs r2
      | some (.ct, r2) => sForL t g xs r2
      | some (.bk, r2) => some (.nx, r2)
      | z => z) r N Q ↔ _
  unfold Wo
  cases h : bindT t d r with
  | none => simp [Ws, h]
  | some r1 =>
    simp only [Ws, h]
    cases hg : g r1 with
    | none => simp
    | some z =>
      obtain ⟨o, r2⟩ := z
      cases o <;> simp [turnQ]
/-- a loop by its invariant: what is left to walk, and the slots -/
theorem ws_forI {t : Tg} {g : SM} (J : List D → Env → Prop) {xs : List D} (h0 : J xs r)
    (hs : ∀ d ys r, J (d :: ys) r → Wo (bindT t d r) fun r1 => Ws g r1 (J ys) (turnQ N (J ys) Q)) (he : ∀ r, J [] r → N r) : Ws (sForL t g xs) r N Q := by
  induction xs generalizing r with
  | nil => exact he r h0
  | cons d ys ih =>
    rw [ws_forS]
    have h := hs d ys r h0
    rw [wo_iff] at h ⊢
    obtain ⟨r1, h1, h2⟩ := h
    refine ⟨r1, h1, h2.mono (fun r2 q => ih q) fun o r2 q => ?_⟩
    cases o with
    | nx => exact ih q
    | ct => exact ih q
    | bk => exact q
    | rt x => exact q
    | ex x => exact q
theorem ws_whileS {c : EF Bool} {g : SM} {n : Nat} (h : Ws (sWh c g n) r N Q) : Ws (sWhile c g) r N Q := by
  unfold Ws at h ⊢
  cases e : sWh c g n r with
  | none => rw [e] at h; exact h.elim
  | some z =>
    rw [e] at h
    rw [sWhile_of e]
    exact h
theorem ws_step {c : EF Bool} {g k : SM} : Ws (sStep c g k) r N Q ↔ Wp c r (fun b r1 => Wite b (Ws g r1 (fun r2 => Ws k r2 N Q) (turnQ N (fun r2 => Ws k r2 N Q) Q)) (N r1)) fun x r1 => Q (.ex x) r1 := by
  unfold sStep
  simp only [Ws, Wp]
  cases hc : c r with
  | none => simp
  | some z =>
    obtain ⟨o, r1⟩ := z
    cases o with
    | ex x => simp
    | ok b =>
      cases b with
      | false => simp
      | true =>
        simp only [wite_t]
        cases hg : g r1 with
        | none => simp
        | some z =>
          obtain ⟨o, r2⟩ := z
          cases o <;> simp [turnQ]
/-- a while by its invariant and measure -/
theorem ws_while {c : EF Bool} {g : SM} (J : Nat → Env → Prop) {n : Nat} (h0 : J n r)
    (hs : ∀ m r, J m r → Wp c r (fun b r1 => Wite b (Ws g r1 (fun r2 => ∃ k, k < m ∧ J k r2) (turnQ N (fun r2 => ∃ k, k < m ∧ J k r2) Q)) (N r1)) fun x r1 => Q (.ex x) r1) : Ws (sWhile c g) r N Q := by
  refine ws_whileS (n := n + 1) ?_
  have key : ∀ (f m : Nat), m < f → ∀ r, J m r → Ws (sWh c g f) r N Q := by
    intro f
    induction f with
    | zero => intro m h; omega
    | succ f ih =>
      intro m hm r hj
      show Ws (sStep c g (sWh c g f)) r N Q
      rw [ws_step]
      refine (hs m r hj).mono (fun b r1 q => ?_) fun x r1 q => q
      cases b with
      | true =>
        refine Ws.mono (show Ws _ _ _ _ from q) (fun r2 ⟨k, hk, q⟩ => ih k (by omega) r2 q) fun o r2 q => ?_
        cases o with
        | nx => obtain ⟨k, hk, q⟩ := q; exact ih k (by omega) r2 q
        | ct => obtain ⟨k, hk, q⟩ := q; exact ih k (by omega) r2 q
        | bk => exact q
        | rt x => exact q
        | ex x => exact q
      | false => exact q
  exact key (n + 1) n (Nat.lt_succ_self n) r h0
/-- xs[k] = v -/
def Wset (o : Option (Option S)) (r : Env) (i : Nat) (j : Int) (d : D) (N : Env → Prop) (_u : Blk N := .mk) : Prop := match o with
  | some (some (.own b (.lst xs))) => Wo (ixN xs.length j) fun n => N (r.set i (some (.own b (.lst (xs.set n d)))))
  | _ => False
@[simp] theorem wset_l {b : Bool} {xs : List D} {i : Nat} {j : Int} {d : D} : Wset (some (some (.own b (.lst xs)))) r i j d N ↔ Wo (ixN xs.length j) fun n => N (r.set i (some (.own b (.lst (xs.set n d))))) := Iff.rfl
@[simp] theorem ws_set {i : Nat} {k f : EF D} : Ws (sSet i k f) r N Q ↔ Wp f r (fun d r1 => isOn r1[i]? ∧ Wp k r1 (fun kk r2 => ∃ j, kk = .int j ∧ Wset r2[i]? r2 i j d N) fun x r1 => Q (.ex x) r1) fun x r1 => Q (.ex x) r1 := by
  refine ws_sxC fun d r1 => ?_
  rw [ws_sx, wp_e1s]
  refine and_congr_right fun _ => ws_sxC fun kk r2 => ?_
  cases kk with
  | int j =>
    have e : (∃ j', PyData.int j = PyData.int j' ∧ Wset r2[i]? r2 i j' d N) ↔ Wset r2[i]? r2 i j d N := ⟨fun ⟨_, e, q⟩ => by cases e; exact q, fun q => ⟨j, rfl, q⟩⟩
    refine Iff.trans ?_ e.symm
    unfold Ws Wset
    dsimp only
    cases r2[i]? with
    | none => rfl
    | some z =>
      cases z with
      | none => rfl
      | some z =>
        cases z with
        | d x => rfl
        | bor m => rfl
        | own b m =>
          cases m with
          | lst xs =>
            dsimp only
            cases ixN xs.length j <;> rfl
          | dic _ => rfl
          | dit _ => rfl
  | _ => simp [Ws]
/-- walks -/
@[simp] theorem wp_iD {f : EF D} {P : List D → Env → Prop} {E : Exc → Env → Prop} : Wp (iD f) r P E ↔ Wp f r (fun d r1 => Wo (itemsD d) fun xs => P xs r1) E := by
  exact wp_ebC fun x r1 => wp_kOpt
def Wi (o : Option (Option S)) (r : Env) (i : Nat) (P : List D → Env → Prop) (_u : Blk P := .mk) : Prop := match o with
  | some (some (.bor (.lst xs))) => P xs r
  | some (some (.d x)) => Wo (itemsD x) fun xs => P xs r
  | some (some (.own false (.lst xs))) => P xs (r.set i (some (.d (.list xs))))
  | _ => False
@[simp] theorem wi_b {xs : List D} {i : Nat} {P : List D → Env → Prop} : Wi (some (some (.bor (.lst xs)))) r i P ↔ P xs r := Iff.rfl
@[simp] theorem wi_d {x : D} {i : Nat} {P : List D → Env → Prop} : Wi (some (some (.d x))) r i P ↔ Wo (itemsD x) fun xs => P xs r := Iff.rfl
@[simp] theorem wi_l {xs : List D} {i : Nat} {P : List D → Env → Prop} : Wi (some (some (.own false (.lst xs)))) r i P ↔ P xs (r.set i (some (.d (.list xs)))) := Iff.rfl
@[simp] theorem wp_iVar {i : Nat} {P : List D → Env → Prop} {E : Exc → Env → Prop} : Wp (iVar i) r P E ↔ Wi r[i]? r i P := by
  have k : Wp (iD (dVar i)) r P E ↔ Wv r[i]? r i fun d r1 => Wo (itemsD d) fun xs => P xs r1 := by
    rw [wp_iD, wp_var]
  cases h : r[i]? with
  | none =>
    rw [h] at k
    unfold Wp iVar at *
    rw [h]
    exact k
  | some z =>
    cases z with
    | none =>
      rw [h] at k
      unfold Wp iVar at *
      rw [h]
      exact k
    | some z =>
      cases z with
      | d x =>
        rw [h] at k
        unfold Wp iVar at *
        rw [h]
        exact k
      | bor m =>
        cases m with
        | lst xs =>
          unfold Wp iVar
          rw [h]
          rfl
        | dic _ =>
          rw [h] at k
          unfold Wp iVar at *
          rw [h]
          exact k
        | dit _ =>
          rw [h] at k
          unfold Wp iVar at *
          rw [h]
          exact k
      | own b m =>
        rw [h] at k
        unfold Wp iVar at *
        rw [h]
        refine k.trans ?_
        cases b with
        | true => rfl
        | false => cases m <;> rfl
@[simp] theorem wp_iApp {ods : List Od} {op : List S → Option (List D)} {P : List D → Env → Prop} {E : Exc → Env → Prop} : Wp (iApp ods op) r P E ↔ Wp (evO ods) r (fun os r1 => Wo (getAll r1 os) fun ss => Wo (op ss) fun x => P x r1) E := by
  unfold iApp
  refine wp_ebC fun os r1 => ?_
  unfold Wp Wo
  dsimp only
  cases getAll r1 os with
  | none => rfl
  | some ss => dsimp only; cases op ss <;> rfl
/-- a def by its body -/
theorem wf_runB {np n : Nat} {g : SM} {ss : List S} {P : S → List S → Prop} {E : Exc → List S → Prop} : Wf (runB np n g) ss P E ↔ ss.length = np ∧ Ws g (ss.map some ++ List.replicate (n - ss.length) none) (fun r => Wo (outs ss r) fun o => P (.d .none) o) fun o r => match o with
    | .rt x => Wo (outs ss r) fun o => P x o
    | .ex x => Wo (outs ss r) fun o => E x o
    | _ => False := by
  unfold Wf runB
  by_cases h : ss.length = np
  · simp only [h, if_true, true_and]
    unfold Ws
    cases hg : g (ss.map some ++ List.replicate (n - np) none) with
    | none => simp
    | some z =>
      obtain ⟨o, r⟩ := z
      cases o <;> simp only [Wo] <;> cases outs ss r <;> simp
  · simp [h]
end
end DL
/-! DLx: operations on given data, as simp goes. -/
namespace DL
open PySem L2
def rdO : Option (Option S) → Option S
  | some (some (.d x)) => some (.d x)
  | some (some (.bor m)) => some (.bor m)
  | some (some (.own _ m)) => some (.bor m)
  | _ => none
section
variable {r : Env} {P : List S → Prop}
@[simp] theorem rdO_d {x : D} : rdO (some (some (.d x))) = some (.d x) := rfl
@[simp] theorem rdO_b {x : MO} : rdO (some (some (.bor x))) = some (.bor x) := rfl
@[simp] theorem rdO_o {b : Bool} {x : MO} : rdO (some (some (.own b x))) = some (.bor x) := rfl
@[simp] theorem get_d {x : D} : Ov.get r (.d x) = some (.d x) := rfl
@[simp] theorem get_sl {i : Nat} : Ov.get r (.sl i) = rdO r[i]? := by
  show rdS r i = _
  unfold rdS rdO
  split <;> simp_all
@[simp] theorem wo_all0 : Wo (getAll r []) P ↔ P [] := Iff.rfl
@[simp] theorem wo_allS {o : Ov} {t : List Ov} : Wo (getAll r (o :: t)) P ↔ Wo (o.get r) fun x => Wo (getAll r t) fun xs => P (x :: xs) := by
  show Wo (match o.get r, getAll r t with
    | some x, some xs => some (x :: xs)
    | _, _ => none) P ↔ _
  cases o.get r <;> cases getAll r t <;> simp
def Wow (o : Option (Option S)) (P : MO → Prop) (_u : Blk P := .mk) : Prop := match o with
  | some (some (.own _ m)) => P m
  | _ => False
@[simp] theorem wow_o {b : Bool} {m : MO} {P : MO → Prop} : Wow (some (some (.own b m))) P ↔ P m := Iff.rfl
@[simp] theorem wo_ca0 : Wo (callArgs r [] []) P ↔ P [] := Iff.rfl
@[simp] theorem wo_caF {ms : List Bool} {o : Ov} {t : List Ov} : Wo (callArgs r (false :: ms) (o :: t)) P ↔ Wo (o.get r) fun x => Wo (callArgs r ms t) fun xs => P (x :: xs) := by
  show Wo (match o.get r, callArgs r ms t with
    | some x, some xs => some (x :: xs)
    | _, _ => none) P ↔ _
  cases o.get r <;> cases callArgs r ms t <;> simp
@[simp] theorem wo_caT {ms : List Bool} {i : Nat} {t : List Ov} : Wo (callArgs r (true :: ms) (.sl i :: t)) P ↔ Wow r[i]? fun m => Wo (callArgs r ms t) fun xs => P (.own true m :: xs) := by
  show Wo (match r[i]?, callArgs r ms t with
    | some (some (.own _ m)), some xs => some (.own true m :: xs)
    | _, _ => none) P ↔ _
  unfold Wow
  cases h : r[i]? with
  | none => simp
  | some z =>
    cases z with
    | none => simp
    | some z => cases z <;> cases callArgs r ms t <;> simp
end
section
variable {P : S → Prop} {i j : Int} {a b : Str} {xs ys : List D} {x y : D}
theorem mulOk_iff : mulOk i j = true ↔ (i.natAbs < 2 ^ 256 ∧ j.natAbs < 2 ^ 256) := by
  unfold mulOk
  rw [Bool.and_eq_true, decide_eq_true_eq, decide_eq_true_eq]
@[simp] theorem o_add : opAdd [.d (.int i), .d (.int j)] = some (.d (.int (i + j))) := rfl
@[simp] theorem o_adds : Wo (opAdd [.d (.str a), .d (.str b)]) P ↔ a.length + b.length ≤ 16777216 ∧ P (.d (.str (a ++ b))) := by
  have : opAdd [.d (.str a), .d (.str b)] = if a.length + b.length ≤ 16777216 then some (.d (.str (a ++ b))) else none := by
    by_cases h : a.length + b.length ≤ 16777216 <;> simp [opAdd, iAdd, sAdd, tAddD, lAddD, tupS, lstS, h]
  rw [this]
  by_cases h : a.length + b.length ≤ 16777216 <;> simp [h]
@[simp] theorem o_addT : Wo (opAdd [.d (.tuple xs), .d (.tuple ys)]) P ↔ xs.length + ys.length ≤ 16777216 ∧ P (.d (.tuple (xs ++ ys))) := by
  have : opAdd [.d (.tuple xs), .d (.tuple ys)] = if xs.length + ys.length ≤ 16777216 then some (.d (.tuple (xs ++ ys))) else none := by
    by_cases h : xs.length + ys.length ≤ 16777216 <;> simp [opAdd, iAdd, sAdd, tAddD, lAddD, tupS, lstS, h]
  rw [this]
  by_cases h : xs.length + ys.length ≤ 16777216 <;> simp [h]
theorem o_addL {p q : S} (hp : lstS p = some xs) (hq : lstS q = some ys) : Wo (opAdd [p, q]) P ↔ xs.length + ys.length ≤ 16777216 ∧ P (.own false (.lst (xs ++ ys))) := by
  have e1 : iAdd [p, q] = none := by
    unfold lstS at hp
    split at hp <;> first | rfl | cases hp
  have e2 : sAdd [p, q] = none := by
    unfold lstS at hp
    split at hp <;> first | rfl | cases hp
  have e3 : tAddD [p, q] = none := by
    unfold lstS at hp
    split at hp <;> first | rfl | cases hp
  have : opAdd [p, q] = if xs.length + ys.length ≤ 16777216 then some (.own false (.lst (xs ++ ys))) else none := by
    unfold opAdd lAddD
    rw [e1, e2, e3]
    dsimp only
    rw [hp, hq]
    rfl
  rw [this]
  by_cases h : xs.length + ys.length ≤ 16777216 <;> simp [h]
@[simp] theorem o_addLL : Wo (opAdd [.d (.list xs), .d (.list ys)]) P ↔ xs.length + ys.length ≤ 16777216 ∧ P (.own false (.lst (xs ++ ys))) := o_addL rfl rfl
@[simp] theorem o_addBL : Wo (opAdd [.bor (.lst xs), .d (.list ys)]) P ↔ xs.length + ys.length ≤ 16777216 ∧ P (.own false (.lst (xs ++ ys))) := o_addL rfl rfl
@[simp] theorem o_addLB : Wo (opAdd [.d (.list xs), .bor (.lst ys)]) P ↔ xs.length + ys.length ≤ 16777216 ∧ P (.own false (.lst (xs ++ ys))) := o_addL rfl rfl
@[simp] theorem o_addBB : Wo (opAdd [.bor (.lst xs), .bor (.lst ys)]) P ↔ xs.length + ys.length ≤ 16777216 ∧ P (.own false (.lst (xs ++ ys))) := o_addL rfl rfl
@[simp] theorem o_sub : iSub [.d (.int i), .d (.int j)] = some (.d (.int (i - j))) := rfl
@[simp] theorem o_mul : Wo (opMul [.d (.int i), .d (.int j)]) P ↔ (i.natAbs < 2 ^ 256 ∧ j.natAbs < 2 ^ 256) ∧ P (.d (.int (i * j))) := by
  have : opMul [.d (.int i), .d (.int j)] = if mulOk i j = true then some (.d (.int (i * j))) else none := by
    by_cases h : mulOk i j = true <;> simp [opMul, iMul, sMul, h]
  rw [this, ← mulOk_iff]
  by_cases h : mulOk i j = true <;> simp [h]
@[simp] theorem o_muls : Wo (opMul [.d (.str a), .d (.int j)]) P ↔ (a.length ≤ 1000 ∧ j ≤ 1000 ∧ -1000 ≤ j) ∧ P (.d (.str (Txt.mul a j))) := by
  have : opMul [.d (.str a), .d (.int j)] = if a.length ≤ 1000 ∧ j ≤ 1000 ∧ -1000 ≤ j then some (.d (.str (Txt.mul a j))) else none := rfl
  rw [this]
  by_cases h : a.length ≤ 1000 ∧ j ≤ 1000 ∧ -1000 ≤ j <;> simp [h]
@[simp] theorem o_repr : Wo (reprD [.d x]) P ↔ (x.showable = true ∧ x.depth ≤ 60 ∧ x.shown.length ≤ 16777216) ∧ P (.d (.str x.shown)) := by
  have : reprD [.d x] = if x.showable = true ∧ x.depth ≤ 60 ∧ x.shown.length ≤ 16777216 then some (.d (.str x.shown)) else none := rfl
  rw [this]
  by_cases h : x.showable = true ∧ x.depth ≤ 60 ∧ x.shown.length ≤ 16777216 <;> simp [h]
@[simp] theorem o_intI : intD [.d (.int i)] = some (.d (.int i)) := rfl
@[simp] theorem o_intB {c : Bool} : intD [.d (.bool c)] = some (.d (.int (if c = true then 1 else 0))) := rfl
@[simp] theorem o_strS : strD [.d (.str a)] = some (.d (.str a)) := rfl
@[simp] theorem o_strI : Wo (strD [.d (.int i)]) P ↔ i.natAbs.log2 < 1920 ∧ P (.d (.str (toString i))) := by
  have : strD [.d (.int i)] = if i.natAbs.log2 < 1920 then some (.d (.str (toString i))) else none := rfl
  rw [this]
  by_cases h : i.natAbs.log2 < 1920 <;> simp [h]
@[simp] theorem o_all {q : S} : Wo (allD [q]) P ↔ Wo (lstS q) fun xs => Wo (boolsD xs) fun bs => P (.d (.bool (bs.all id))) := by
  have : allD [q] = ((lstS q).bind boolsD).map fun bs => .d (.bool (bs.all id)) := rfl
  rw [this]
  exact wo_map.trans wo_bind
@[simp] theorem o_sum {q : S} : Wo (sumD [q]) P ↔ Wo (lstS q) fun xs => Wo (intsD xs) fun bs => P (.d (.int bs.sum)) := by
  have : sumD [q] = ((lstS q).bind intsD).map fun bs => .d (.int bs.sum) := rfl
  rw [this]
  exact wo_map.trans wo_bind
@[simp] theorem lstS_l : lstS (.d (.list xs)) = some xs := rfl
@[simp] theorem lstS_b : lstS (.bor (.lst xs)) = some xs := rfl
@[simp] theorem seqS_l : seqS (.d (.list xs)) = some xs := rfl
@[simp] theorem seqS_b : seqS (.bor (.lst xs)) = some xs := rfl
@[simp] theorem seqS_t : seqS (.d (.tuple xs)) = some xs := rfl
@[simp] theorem datS_d : datS (.d x) = some x := rfl
@[simp] theorem o_join {q : S} : Wo (joinO a [q]) P ↔ Wo (seqS q) fun xs => Wo (strsD xs) fun ys => (ys.map (·.length)).sum + ys.length * a.length ≤ 16777216 ∧ P (.d (.str (Txt.join a ys))) := by
  have : joinO a [q] = ((seqS q).bind strsD).bind fun ys => if (ys.map (·.length)).sum + ys.length * a.length ≤ 16777216 then some (.d (.str (Txt.join a ys))) else none := rfl
  rw [this]
  simp only [wo_bind]
  cases seqS q with
  | none => rfl
  | some xs =>
    rw [wo_some, wo_some]
    cases strsD xs with
    | none => rfl
    | some ys =>
      rw [wo_some, wo_some]
      by_cases h : (ys.map (·.length)).sum + ys.length * a.length ≤ 16777216
      · rw [if_pos h]; exact ⟨fun q => ⟨h, q⟩, fun q => q.2⟩
      · rw [if_neg h]; exact ⟨fun q => q.elim, fun q => h q.1⟩
theorem o_inD {neg : Bool} {q : S} : Wo (inD neg [.d x, q]) P ↔ Wo (seqS q) fun xs => x.depth ≤ 60 ∧ P (.d (.bool (if neg = true then !(xs.any fun y => PyData.eqv y x) else xs.any fun y => PyData.eqv y x))) := by
  unfold inD
  dsimp only [datS]
  cases seqS q with
  | none => rfl
  | some xs => by_cases h : x.depth ≤ 60 <;> simp [h]
theorem inS_no {neg : Bool} {p q : S} {xs : List D} (h : seqS q = some xs) : inS neg [p, q] = none := by
  unfold seqS at h
  split at h <;> (unfold inS; split <;> simp_all)
theorem o_inQ {q : S} {xs : List D} (h : seqS q = some xs) : Wo (opIn [.d x, q]) P ↔ x.depth ≤ 60 ∧ P (.d (.bool (xs.any fun y => PyData.eqv y x))) := by
  unfold opIn
  rw [inS_no h, Option.or_none, o_inD, h]
  simp
theorem o_notInQ {q : S} {xs : List D} (h : seqS q = some xs) : Wo (opNotIn [.d x, q]) P ↔ x.depth ≤ 60 ∧ P (.d (.bool (!(xs.any fun y => PyData.eqv y x)))) := by
  unfold opNotIn
  rw [inS_no h, Option.or_none, o_inD, h]
  simp
@[simp] theorem o_inL : Wo (opIn [.d x, .d (.list xs)]) P ↔ x.depth ≤ 60 ∧ P (.d (.bool (xs.any fun y => PyData.eqv y x))) := o_inQ rfl
@[simp] theorem o_inT : Wo (opIn [.d x, .d (.tuple xs)]) P ↔ x.depth ≤ 60 ∧ P (.d (.bool (xs.any fun y => PyData.eqv y x))) := o_inQ rfl
@[simp] theorem o_inB : Wo (opIn [.d x, .bor (.lst xs)]) P ↔ x.depth ≤ 60 ∧ P (.d (.bool (xs.any fun y => PyData.eqv y x))) := o_inQ rfl
@[simp] theorem o_ninL : Wo (opNotIn [.d x, .d (.list xs)]) P ↔ x.depth ≤ 60 ∧ P (.d (.bool (!(xs.any fun y => PyData.eqv y x)))) := o_notInQ rfl
@[simp] theorem o_ninT : Wo (opNotIn [.d x, .d (.tuple xs)]) P ↔ x.depth ≤ 60 ∧ P (.d (.bool (!(xs.any fun y => PyData.eqv y x)))) := o_notInQ rfl
@[simp] theorem o_ninB : Wo (opNotIn [.d x, .bor (.lst xs)]) P ↔ x.depth ≤ 60 ∧ P (.d (.bool (!(xs.any fun y => PyData.eqv y x)))) := o_notInQ rfl
@[simp] theorem o_inS : opIn [.d (.str a), .d (.str b)] = some (.d (.bool (hasSub a b))) := rfl
@[simp] theorem o_ninS : opNotIn [.d (.str a), .d (.str b)] = some (.d (.bool (!hasSub a b))) := rfl
@[simp] theorem o_div : Wo (iDiv [.d (.int i), .d (.int j)]) P ↔ (0 < j ∧ j.natAbs < 2 ^ 256) ∧ P (.d (.int (i / j))) := by
  have : iDiv [.d (.int i), .d (.int j)] = if 0 < j ∧ j.natAbs < 2 ^ 256 then some (.d (.int (i / j))) else none := rfl
  rw [this]
  by_cases h : 0 < j ∧ j.natAbs < 2 ^ 256 <;> simp [h]
@[simp] theorem o_mod : Wo (iMod [.d (.int i), .d (.int j)]) P ↔ 0 < j ∧ P (.d (.int (i % j))) := by
  have : iMod [.d (.int i), .d (.int j)] = if 0 < j then some (.d (.int (i % j))) else none := rfl
  rw [this]
  by_cases h : 0 < j <;> simp [h]
@[simp] theorem o_pow : Wo (iPow [.d (.int i), .d (.int j)]) P ↔ (0 ≤ j ∧ j ≤ 1000 ∧ i.natAbs < 2 ^ 64) ∧ P (.d (.int (i ^ j.toNat))) := by
  have : iPow [.d (.int i), .d (.int j)] = if 0 ≤ j ∧ j ≤ 1000 ∧ i.natAbs < 2 ^ 64 then some (.d (.int (i ^ j.toNat))) else none := rfl
  rw [this]
  by_cases h : 0 ≤ j ∧ j ≤ 1000 ∧ i.natAbs < 2 ^ 64 <;> simp [h]
@[simp] theorem o_neg : iNeg [.d (.int i)] = some (.d (.int (-i))) := rfl
@[simp] theorem o_lt : opLt [.d (.int i), .d (.int j)] = some (.d (.bool (decide (i < j)))) := rfl
@[simp] theorem o_le : opLe [.d (.int i), .d (.int j)] = some (.d (.bool (decide (i ≤ j)))) := rfl
@[simp] theorem o_gt : opGt [.d (.int i), .d (.int j)] = some (.d (.bool (decide (j < i)))) := rfl
@[simp] theorem o_ge : opGe [.d (.int i), .d (.int j)] = some (.d (.bool (decide (j ≤ i)))) := rfl
theorem o_eq {neg : Bool} : Wo (eqD neg [.d x, .d y]) P ↔ min x.depth y.depth ≤ 64 ∧ P (.d (.bool (if neg = true then !PyData.eqv x y else PyData.eqv x y))) := by
  have : eqD neg [.d x, .d y] = if min x.depth y.depth ≤ 64 then some (.d (.bool (if neg = true then !PyData.eqv x y else PyData.eqv x y))) else none := rfl
  rw [this]
  by_cases h : min x.depth y.depth ≤ 64 <;> simp [h]
@[simp] theorem o_eqI {neg : Bool} : eqD neg [.d (.int i), .d (.int j)] = some (.d (.bool (if neg = true then !decide (i = j) else decide (i = j)))) := by
  show (if min (PyData.int i).depth (PyData.int j).depth ≤ 64 then some (S.d (.bool (if neg = true then !PyData.eqv (.int i) (.int j) else PyData.eqv (.int i) (.int j)))) else none) = _
  rw [if_pos (by simp [PyData.depth])]
  have : (i == j) = decide (i = j) := by by_cases h : i = j <;> simp [h]
  simp [PyData.eqv, this]
@[simp] theorem o_eqB {neg c d : Bool} : eqD neg [.d (.bool c), .d (.bool d)] = some (.d (.bool (if neg = true then !(c == d) else c == d))) := by
  show (if min (PyData.bool c).depth (PyData.bool d).depth ≤ 64 then some (S.d (.bool (if neg = true then !PyData.eqv (.bool c) (.bool d) else PyData.eqv (.bool c) (.bool d)))) else none) = _
  rw [if_pos (by simp [PyData.depth])]
  simp [PyData.eqv]
@[simp] theorem o_eqS {neg : Bool} : eqD neg [.d (.str a), .d (.str b)] = some (.d (.bool (if neg = true then !decide (a = b) else decide (a = b)))) := by
  show (if min (PyData.str a).depth (PyData.str b).depth ≤ 64 then some (S.d (.bool (if neg = true then !PyData.eqv (.str a) (.str b) else PyData.eqv (.str a) (.str b)))) else none) = _
  rw [if_pos (by simp [PyData.depth])]
  have : (a == b) = decide (a = b) := by by_cases h : a = b <;> simp [h]
  simp [PyData.eqv, this]
@[simp] theorem o_eqN {neg : Bool} : eqD neg [.d (.list xs), .d (.list [])] = some (.d (.bool (if neg = true then !xs.isEmpty else xs.isEmpty))) := by
  show (if min (PyData.list xs).depth (PyData.list []).depth ≤ 64 then some (S.d (.bool (if neg = true then !PyData.eqv (.list xs) (.list []) else PyData.eqv (.list xs) (.list [])))) else none) = _
  rw [if_pos (by simp [PyData.depth, PyData.depthAll])]
  cases xs <;> simp [PyData.eqv, PyData.eqvAll]
@[simp] theorem o_ixB : opIx [.bor (.lst xs), .d (.int i)] = (atI xs i).map .d := rfl
@[simp] theorem o_ixL : opIx [.d (.list xs), .d (.int i)] = (atI xs i).map .d := rfl
@[simp] theorem o_ixT : opIx [.d (.tuple xs), .d (.int i)] = (atI xs i).map .d := rfl
@[simp] theorem o_ixS : Wo (opIx [.d (.str a), .d (.int i)]) P ↔ a.length ≤ 16777216 ∧ Wo (atI a.cps.toList i) fun c => P (.d (.str ⟨#[c]⟩)) := by
  have : opIx [.d (.str a), .d (.int i)] = if a.length ≤ 16777216 then (atI a.cps.toList i).map fun c => .d (.str ⟨#[c]⟩) else none := rfl
  rw [this]
  by_cases h : a.length ≤ 16777216 <;> simp [h, wo_map]
@[simp] theorem at_0 {α : Type} {x : α} {t : List α} : atI (x :: t) 0 = some x := by simp [atI, ixN]
@[simp] theorem at_1 {α : Type} {x y : α} {t : List α} : atI (x :: y :: t) 1 = some y := by
  have : (1 : Int) < ((x :: y :: t).length : Nat) := by simp; omega
  simp only [atI, ixN, this, if_true]
  simp
@[simp] theorem at_2 {α : Type} {x y z : α} {t : List α} : atI (x :: y :: z :: t) 2 = some z := by
  have : (2 : Int) < ((x :: y :: z :: t).length : Nat) := by simp; omega
  simp only [atI, ixN, this, if_true]
  simp
theorem at_of {α : Type} {xs : List α} {i : Int} (h : 0 ≤ i) (h2 : i < xs.length) : ∃ x, atI xs i = some x ∧ x ∈ xs ∧ xs[i.toNat]? = some x := by
  have hl : i.toNat < xs.length := by omega
  refine ⟨xs[i.toNat], ?_, List.getElem_mem _, List.getElem?_eq_getElem hl⟩
  simp only [atI, ixN, h, h2, if_true]
  simp [hl]
@[simp] theorem o_lenL : lenD [.d (.list xs)] = some (.d (.int xs.length)) := rfl
@[simp] theorem o_lenB : lenD [.bor (.lst xs)] = some (.d (.int xs.length)) := rfl
@[simp] theorem o_lenT : lenD [.d (.tuple xs)] = some (.d (.int xs.length)) := rfl
@[simp] theorem o_lenS : Wo (lenD [.d (.str a)]) P ↔ a.length ≤ 16777216 ∧ P (.d (.int a.length)) := by
  have : lenD [.d (.str a)] = if a.length ≤ 16777216 then some (.d (.int a.length)) else none := rfl
  rw [this]
  by_cases h : a.length ≤ 16777216 <;> simp [h]
@[simp] theorem o_lstL : lstD [.d (.list xs)] = some (.own false (.lst xs)) := rfl
@[simp] theorem o_lstB : lstD [.bor (.lst xs)] = some (.own false (.lst xs)) := rfl
@[simp] theorem o_lstT : lstD [.d (.tuple xs)] = some (.own false (.lst xs)) := rfl
@[simp] theorem o_tplL : tplD [.d (.list xs)] = some (.d (.tuple xs)) := rfl
@[simp] theorem o_tplB : tplD [.bor (.lst xs)] = some (.d (.tuple xs)) := rfl
@[simp] theorem o_tplT : tplD [.d (.tuple xs)] = some (.d (.tuple xs)) := rfl
@[simp] theorem o_max : max2D [.d (.int i), .d (.int j)] = some (.d (.int (if j > i then j else i))) := rfl
@[simp] theorem o_min : min2D [.d (.int i), .d (.int j)] = some (.d (.int (if j < i then j else i))) := rfl
@[simp] theorem o_datas0 : datas [] = some [] := rfl
@[simp] theorem o_datasS {t : List S} : datas (.d x :: t) = (datas t).map (x :: ·) := rfl
@[simp] theorem o_isi {t : Ty} : isiD t [.d x] = some (.d (.bool (isTy t x))) := rfl
@[simp] theorem o_isB {c d : Bool} : opIs [.d (.bool c), .d (.bool d)] = some (.d (.bool (c == d))) := by cases c <;> cases d <;> rfl
@[simp] theorem o_isNB {c d : Bool} : opIsNot [.d (.bool c), .d (.bool d)] = some (.d (.bool (!(c == d)))) := by cases c <;> cases d <;> rfl
@[simp] theorem o_isN : opIs [.d x, .d .none] = some (.d (.bool (isNon x))) := rfl
@[simp] theorem o_isNN : opIsNot [.d x, .d .none] = some (.d (.bool (!isNon x))) := rfl
end
section
variable {P : S → Prop} {r : Env} {xs : List D} {d : D}
@[simp] theorem o_tup {ss : List S} : Wo (opTup ss) P ↔ Wo (datas ss) fun xs => xs.length ≤ 16777216 ∧ P (.d (.tuple xs)) := by
  unfold opTup
  cases datas ss with
  | none => rfl
  | some xs => by_cases h : xs.length ≤ 16777216 <;> simp [h]
@[simp] theorem o_lst {ss : List S} : Wo (opLst ss) P ↔ Wo (datas ss) fun xs => xs.length ≤ 16777216 ∧ P (.own false (.lst xs)) := by
  unfold opLst
  cases datas ss with
  | none => rfl
  | some xs => by_cases h : xs.length ≤ 16777216 <;> simp [h]
@[simp] theorem bind_nm {i : Nat} : bindT (.nm i) d r = some (r.set i (some (.d d))) := by unfold bindT; rfl
@[simp] theorem bind_tup {ts : List Tg} : bindT (.tup ts) (.tuple xs) r = bindTs ts xs r := by rw [bindT]
@[simp] theorem binds_0 : bindTs [] [] r = some r := by rw [bindTs]
@[simp] theorem binds_S {t : Tg} {ts : List Tg} {P : Env → Prop} : Wo (bindTs (t :: ts) (d :: xs) r) P ↔ Wo (bindT t d r) fun r1 => Wo (bindTs ts xs r1) P := by
  rw [bindTs]
  cases bindT t d r <;> rfl
@[simp] theorem outs_0 : outs [] r = some [] := rfl
@[simp] theorem outs_T {m n : MO} {t : List S} : outs (.own true m :: t) (some (.own true n) :: r) = (outs t r).map (S.own true n :: ·) := rfl
@[simp] theorem outs_D {y : Option S} {t : List S} : outs (.d d :: t) (y :: r) = (outs t r).map (S.d d :: ·) := rfl
@[simp] theorem outs_B {m : MO} {y : Option S} {t : List S} : outs (.bor m :: t) (y :: r) = (outs t r).map (S.bor m :: ·) := rfl
def putO (o : Option (Option S)) (r : Env) (i : Nat) (m : MO) : Env := match o with
  | some (some (.own b _)) => r.set i (some (.own b m))
  | _ => r
@[simp] theorem putO_o {b : Bool} {m n : MO} {i : Nat} : putO (some (some (.own b n))) r i m = r.set i (some (.own b m)) := rfl
@[simp] theorem putBack_0 {os : List Ov} {ss : List S} : putBack [] os ss r = r := by simp [putBack]
@[simp] theorem putBack_T {ms : List Bool} {i : Nat} {os : List Ov} {m : MO} {ss : List S} : putBack (true :: ms) (.sl i :: os) (.own true m :: ss) r = putBack ms os ss (putO r[i]? r i m) := rfl
@[simp] theorem putBack_F {ms : List Bool} {o : Ov} {os : List Ov} {x : S} {ss : List S} : putBack (false :: ms) (o :: os) (x :: ss) r = putBack ms os ss r := rfl
@[simp] theorem io_0 {os : List Ov} : ioOnce [] os = true := by unfold ioOnce; rfl
@[simp] theorem io_FD {ms : List Bool} {os : List Ov} : ioOnce (false :: ms) (.d d :: os) = ioOnce ms os := by rw [ioOnce] <;> simp
@[simp] theorem io_TS {ms : List Bool} {os : List Ov} {i : Nat} : ioOnce (true :: ms) (.sl i :: os) = ((os.all fun o => match o with
      | .sl j => i != j
      | _ => true) && ioOnce ms os) := rfl
@[simp] theorem io_FS {ms : List Bool} {os : List Ov} {i : Nat} : ioOnce (false :: ms) (.sl i :: os) = (((ms.zip os).all fun p => match p with
      | (true, .sl j) => i != j
      | _ => true) && ioOnce ms os) := rfl
@[simp] theorem tru_n : truD .none = some false := rfl
@[simp] theorem tru_b {b : Bool} : truD (.bool b) = some b := rfl
@[simp] theorem tru_i {i : Int} : truD (.int i) = some (i != 0) := rfl
@[simp] theorem tru_l : truD (.list xs) = some (!xs.isEmpty) := rfl
@[simp] theorem tru_t : truD (.tuple xs) = some (!xs.isEmpty) := rfl
@[simp] theorem it_l : itemsD (.list xs) = some xs := rfl
@[simp] theorem it_t : itemsD (.tuple xs) = some xs := rfl
@[simp] theorem it_s {z : Str} : itemsD (.str z) = some (signs z) := rfl
@[simp] theorem o_rng1 {n : Int} {P : List D → Prop} : Wo (rng1 [.d (.int n)]) P ↔ (-(2 ^ 62) ≤ n ∧ n < 2 ^ 62) ∧ P (rngD n.toNat 0) := by
  show Wo (if -(2 ^ 62) ≤ n ∧ n < 2 ^ 62 then some (rngD n.toNat 0) else none) P ↔ _
  by_cases h : -(2 ^ 62) ≤ n ∧ n < 2 ^ 62 <;> simp [h]
@[simp] theorem o_rng2 {a b : Int} {P : List D → Prop} : Wo (rng2 [.d (.int a), .d (.int b)]) P ↔ (-(2 ^ 62) ≤ a ∧ a < 2 ^ 62 ∧ -(2 ^ 62) ≤ b ∧ b < 2 ^ 62) ∧ P (rngD (b - a).toNat a) := by
  show Wo (if -(2 ^ 62) ≤ a ∧ a < 2 ^ 62 ∧ -(2 ^ 62) ≤ b ∧ b < 2 ^ 62 then some (rngD (b - a).toNat a) else none) P ↔ _
  by_cases h : -(2 ^ 62) ≤ a ∧ a < 2 ^ 62 ∧ -(2 ^ 62) ≤ b ∧ b < 2 ^ 62 <;> simp [h]
@[simp] theorem ixN_0 {n : Nat} : ixN (n + 1) 0 = some 0 := by simp [ixN]
@[simp] theorem ixN_1 {n : Nat} : ixN (n + 1 + 1) 1 = some 1 := by
  have : (1 : Int) < ((n + 1 + 1 : Nat) : Int) := by omega
  simp only [ixN, this, if_true]
  rfl
@[simp] theorem ixN_2 {n : Nat} : ixN (n + 1 + 1 + 1) 2 = some 2 := by
  have : (2 : Int) < ((n + 1 + 1 + 1 : Nat) : Int) := by omega
  simp only [ixN, this, if_true]
  rfl
@[simp] theorem non_n : isNon .none = true := rfl
@[simp] theorem non_b {b : Bool} : isNon (.bool b) = false := rfl
@[simp] theorem non_i {b : Int} : isNon (.int b) = false := rfl
@[simp] theorem non_s {b : Str} : isNon (.str b) = false := rfl
@[simp] theorem non_l : isNon (.list xs) = false := rfl
@[simp] theorem non_t : isNon (.tuple xs) = false := rfl
end
section
variable {P : S → Env → Prop} {E : Exc → Env → Prop} {r : Env}
/-- a slice -/
@[simp] theorem wp_sl {o : Od} {lo hi : Option (EF D)} : Wp (dSl o lo hi) r P E ↔ Wp (ev1 o) r (fun ov r1 => Wp (evI lo) r1 (fun l r2 => Wp (evI hi) r2 (fun h r3 => Wo (ov.get r3) fun p => Wo (slD p l h) fun x => P x r3) E) E) E := by
  refine wp_ebC fun ov r1 => wp_ebC fun l r2 => wp_ebC fun h r3 => ?_
  unfold Wp
  dsimp only
  cases ov.get r3 with
  | none => rfl
  | some p => dsimp only; rw [wo_some]; cases slD p l h <;> rfl
@[simp] theorem wp_evN {P : Option Int → Env → Prop} : Wp (evI none) r P E ↔ P none r := Iff.rfl
@[simp] theorem wp_evS {f : EF D} {P : Option Int → Env → Prop} : Wp (evI (some f)) r P E ↔ Wp f r (fun d r1 => ∃ i, d = .int i ∧ P (some i) r1) E := by
  refine wp_ebC fun d r1 => ?_
  cases d with
  | int i => exact ⟨fun h => ⟨i, rfl, h⟩, fun ⟨j, e, h⟩ => by cases e; exact h⟩
  | _ => simp [Wp]
@[simp] theorem sl_l {xs : List D} {lo hi : Option Int} : slD (.d (.list xs)) lo hi = some (.own false (.lst (cutD xs lo hi))) := rfl
@[simp] theorem sl_b {xs : List D} {lo hi : Option Int} : slD (.bor (.lst xs)) lo hi = some (.own false (.lst (cutD xs lo hi))) := rfl
@[simp] theorem sl_t {xs : List D} {lo hi : Option Int} : slD (.d (.tuple xs)) lo hi = some (.d (.tuple (cutD xs lo hi))) := rfl
def Wstr (o : Option S) (P : Str → Prop) (_u : Blk P := .mk) : Prop := match o with
  | some (.d (.str a)) => P a
  | _ => False
@[simp] theorem wstr_s {a : Str} {P : Str → Prop} : Wstr (some (.d (.str a))) P ↔ P a := Iff.rfl
@[simp] theorem wp_str {o : Od} {ods : List Od} {op : Str → List S → Option S} : Wp (dStr o ods op) r P E ↔ Wp (ev1 o) r (fun ov r1 => Wstr (ov.get r1) fun a => Wp (dApp ods (op a)) r1 P E) E := by
  refine wp_ebC fun ov r1 => ?_
  unfold Wstr
  split
  · rename_i a h
    simp only [Wp, h]
  · rename_i h
    unfold Wp
    split
    · rename_i e; dsimp only at e; split at e <;> simp_all
    · rename_i e; dsimp only at e; split at e <;> simp_all
    · rfl
@[simp] theorem sl_s {z : Str} {lo hi : Option Int} {P : S → Prop} : Wo (slD (.d (.str z)) lo hi) P ↔ z.length ≤ 16777216 ∧ P (.d (.str (cutS z lo hi))) := by
  have : slD (.d (.str z)) lo hi = if z.length ≤ 16777216 then some (.d (.str (cutS z lo hi))) else none := rfl
  rw [this]
  by_cases h : z.length ≤ 16777216 <;> simp [h]
/-- a method -/
def Wmt (o : Option (Option S)) (r : Env) (i : Nat) (op : MO → Option (D × MO)) (P : S → Env → Prop) (_u : Blk P := .mk) : Prop := match o with
  | some (some (.own b m)) => Wo (op m) fun z => P (.d z.1) (r.set i (some (.own b z.2)))
  | _ => False
@[simp] theorem wmt_o {b : Bool} {m : MO} {i : Nat} {op : MO → Option (D × MO)} : Wmt (some (some (.own b m))) r i op P ↔ Wo (op m) fun z => P (.d z.1) (r.set i (some (.own b z.2))) := Iff.rfl
@[simp] theorem isLst_o {b : Bool} {xs : List D} : isLst (some (some (.own b (.lst xs)))) = true := rfl
@[simp] theorem wp_mth {i : Nat} {ods : List Od} {op : MO → List S → Option (D × MO)} : Wp (dMth i ods op) r P E ↔ isLst r[i]? = true ∧ Wp (evO ods) r (fun os r1 => Wo (getAll r1 os) fun ss => Wmt r1[i]? r1 i (fun m => op m ss) P) E := by
  have k : Wp (eb (evO ods) (fun os r => match getAll r os with
    | some ss => (match r[i]? with
      | some (some (.own b m)) => (match op m ss with
        | some (d, m') => some (R.ok (S.d d), r.set i (some (.own b m')))
        | none => none)
      | _ => none)
    | none => none)) r P E ↔ Wp (evO ods) r (fun os r1 => Wo (getAll r1 os) fun ss => Wmt r1[i]? r1 i (fun m => op m ss) P) E := by
    refine wp_ebC fun os r1 => ?_
    unfold Wp
    dsimp only
    cases getAll r1 os with
    | none => rfl
    | some ss =>
      dsimp only
      rw [wo_some]
      cases r1[i]? with
      | none => rfl
      | some z =>
        cases z with
        | none => rfl
        | some z =>
          cases z with
          | d x => rfl
          | bor m => rfl
          | own b m =>
            dsimp only
            rw [wmt_o]
            cases op m ss with
            | none => rfl
            | some z => rfl
  rw [← k]
  by_cases h : isLst r[i]? = true
  · refine Iff.trans ?_ (and_iff_right h).symm
    unfold Wp dMth
    rw [if_pos h] <;> exact Iff.rfl
  · refine ⟨fun z => ?_, fun z => absurd z.1 h⟩
    unfold Wp dMth at z
    rw [if_neg h] at z
    exact z.elim
@[simp] theorem m_app {xs : List D} {d : D} {P : D × MO → Prop} : Wo (mAppend (.lst xs) [.d d]) P ↔ xs.length < 16777216 ∧ P (.none, .lst (xs ++ [d])) := by
  show Wo (if xs.length < 16777216 then some (PyData.none, MO.lst (xs ++ [d])) else none) P ↔ _
  by_cases h : xs.length < 16777216 <;> simp [h]
/-- a chain -/
def Wb (o : Option S) (P : Bool → Prop) (_u : Blk P := .mk) : Prop := match o with
  | some (.d (.bool b)) => P b
  | _ => False
@[simp] theorem wb_b {b : Bool} {P : Bool → Prop} : Wb (some (.d (.bool b))) P ↔ P b := Iff.rfl
@[simp] theorem wp_chain {f g : List S → Option S} {oa ob oc : Od} : Wp (dChain f g oa ob oc) r P E ↔ Wp (ev1 oa) r (fun x r1 => Wp (ev1 ob) r1 (fun y r2 => Wo (getAll r2 [x, y]) fun ss => Wb (f ss) fun b => Wite b
    (Wp (ev1 oc) r2 (fun z r3 => Wo (getAll r3 [y, z]) fun ss => Wo (g ss) fun v => P v r3) E) (P (.d (.bool false)) r2)) E) E := by
  refine wp_ebC fun x r1 => wp_ebC fun y r2 => ?_
  have k : Wp (eb (ev1 oc) (fun z r => match getAll r [y, z] with
      | some ss => (match g ss with
        | some v => some (R.ok v, r)
        | none => none)
      | none => none)) r2 P E ↔ Wp (ev1 oc) r2 (fun z r3 => Wo (getAll r3 [y, z]) fun ss => Wo (g ss) fun v => P v r3) E := by
    refine wp_ebC fun z r3 => ?_
    unfold Wp
    dsimp only
    cases getAll r3 [y, z] with
    | none => rfl
    | some ss => dsimp only; rw [wo_some]; cases g ss <;> rfl
  rw [← k]
  unfold Wp
  dsimp only
  cases getAll r2 [x, y] with
  | none => rfl
  | some ss =>
    dsimp only
    rw [wo_some]
    cases f ss with
    | none => rfl
    | some z =>
      cases z with
      | d z =>
        cases z with
        | bool b => cases b <;> rfl
        | _ => rfl
      | _ => rfl
end
end DL
/-! DLy: comprehensions. -/
namespace DL
open PySem L2
def Wc (t : Tg) (c : EF Bool) (f : EF D) (vs : List Nat) (xs : List D) (r : Env) (P : List D → Env → Prop) (_u : Blk (c, f, P) := .mk) : Prop := match cmpL t c f vs xs r with
  | some (.ok ys, r') => P ys r'
  | _ => False
section
variable {t : Tg} {c : EF Bool} {f : EF D} {vs : List Nat} {xs : List D} {r : Env} {P : List D → Env → Prop}
@[simp] theorem wp_comp {fi : EF (List D)} {P : S → Env → Prop} {E : Exc → Env → Prop} : Wp (dComp fi t c f vs) r P E ↔ Wp fi r (fun xs r1 => xs.length ≤ 16777216 ∧ Wc t c f vs xs (wipeE r1 vs) fun ys r2 => P (.own false (.lst ys)) (restE r1 r2 vs)) E := by
  refine wp_ebC fun xs r1 => ?_
  unfold Wp Wc
  dsimp only
  by_cases h : xs.length ≤ 16777216
  · rw [if_pos h]
    refine Iff.trans ?_ (and_iff_right h).symm
    cases cmpL t c f vs xs (wipeE r1 vs) with
    | none => rfl
    | some z =>
      obtain ⟨o, r2⟩ := z
      cases o <;> rfl
  · rw [if_neg h]
    exact ⟨fun z => z.elim, fun z => absurd z.1 h⟩
@[simp] theorem wc_nil : Wc t c f vs [] r P ↔ P [] r := Iff.rfl
@[simp] theorem wc_cons {d : D} : Wc t c f vs (d :: xs) r P ↔ Wo (bindT t d r) fun r1 => Wp c r1 (fun k r2 => Wite k (Wp f r2 (fun y r3 => Wc t c f vs xs (wipeE r3 vs) fun ys r4 => P (y :: ys) r4) fun _ _ => False) (Wc t c f vs xs (wipeE r2 vs) P)) fun _ _ => False := by
  unfold Wc
  conv => lhs; unfold cmpL
  unfold Wo Wp
  cases bindT t d r with
  | none => rfl
  | some r1 =>
    dsimp only
    cases c r1 with
    | none => rfl
    | some z =>
      obtain ⟨o, r2⟩ := z
      cases o with
      | ex x => rfl
      | ok k =>
        cases k with
        | false => exact Iff.rfl
        | true =>
          dsimp only
          rw [wite_t]
          cases f r2 with
          | none => rfl
          | some z =>
            obtain ⟨o, r3⟩ := z
            cases o with
            | ex x => rfl
            | ok y =>
              dsimp only
              cases cmpL t c f vs xs (wipeE r3 vs) with
              | none => rfl
              | some z =>
                obtain ⟨o, r4⟩ := z
                cases o <;> rfl
theorem Wc.mono {P' : List D → Env → Prop} (h : Wc t c f vs xs r P) (hp : ∀ ys r, P ys r → P' ys r) : Wc t c f vs xs r P' := by
  unfold Wc at *
  split <;> simp_all
/-- a comprehension by its invariant: what is left to walk, what was made, the slots -/
theorem wc_inv (J : List D → List D → Env → Prop) (h0 : J xs [] r)
    (hs : ∀ d ys acc r, J (d :: ys) acc r → Wo (bindT t d r) fun r1 => Wp c r1 (fun k r2 => Wite k (Wp f r2 (fun y r3 => J ys (acc ++ [y]) (wipeE r3 vs)) fun _ _ => False) (J ys acc (wipeE r2 vs))) fun _ _ => False)
    (he : ∀ acc r, J [] acc r → P acc r) : Wc t c f vs xs r P := by
  have key : ∀ (xs acc : List D) (r : Env), J xs acc r → Wc t c f vs xs r fun ys r' => J [] (acc ++ ys) r' := by
    intro xs
    induction xs with
    | nil => intro acc r h; rw [wc_nil, List.append_nil]; exact h
    | cons d ys ih =>
      intro acc r h
      rw [wc_cons]
      have := hs d ys acc r h
      rw [wo_iff] at this ⊢
      obtain ⟨r1, e, this⟩ := this
      refine ⟨r1, e, this.mono (fun k r2 q => ?_) fun _ _ q => q⟩
      cases k with
      | true =>
        refine Wp.mono (show Wp _ _ _ _ from q) (fun y r3 q => ?_) fun _ _ q => q
        exact (ih _ _ q).mono fun zs r4 q => by rw [List.append_assoc] at q; exact q
      | false => exact ih _ _ q
  exact (key xs [] r h0).mono fun ys r q => he ys r (by simpa using q)
/-- each item told alone, the slots as they were -/
theorem wc_map (g : D → D) (h : ∀ d ∈ xs, Wo (bindT t d r) fun r1 => Wp c r1 (fun k r2 => k = true ∧ Wp f r2 (fun y r3 => y = g d ∧ wipeE r3 vs = r) fun _ _ => False) fun _ _ => False) (hp : P (xs.map g) r) : Wc t c f vs xs r P := by
  refine wc_inv (fun ys acc r' => r' = r ∧ (∀ d ∈ ys, d ∈ xs) ∧ acc ++ ys.map g = xs.map g) ⟨rfl, fun _ h => h, rfl⟩ ?_ ?_
  · rintro d ys acc r' ⟨rfl, hm, e⟩
    have := h d (hm d List.mem_cons_self)
    rw [wo_iff] at this ⊢
    obtain ⟨r1, e1, this⟩ := this
    refine ⟨r1, e1, this.mono (fun k r2 ⟨hk, q⟩ => ?_) fun _ _ q => q⟩
    rw [hk]
    refine Wp.mono (P' := fun y r3 => _) q (fun y r3 ⟨e2, e3⟩ => ?_) fun _ _ q => q
    exact ⟨e3, fun d hd => hm d (List.mem_cons_of_mem _ hd), by rw [e2, ← e]; simp⟩
  · rintro acc r' ⟨rfl, _, e⟩
    rw [List.map_nil, List.append_nil] at e
    rw [e]
    exact hp
@[simp] theorem wipe_0 : wipeE r [] = r := rfl
@[simp] theorem wipe_S {v : Nat} : wipeE r (v :: vs) = (wipeE r vs).set v none := rfl
@[simp] theorem rest_0 {r0 : Env} : restE r0 r [] = r := rfl
@[simp] theorem rest_S {r0 : Env} {v : Nat} : restE r0 r (v :: vs) = (restE r0 r vs).set v (keepD r0[v]?) := rfl
@[simp] theorem keep_d {x : D} : keepD (some (some (.d x))) = some (.d x) := rfl
@[simp] theorem keep_n : keepD (some none) = none := rfl
@[simp] theorem keep_b {x : MO} : keepD (some (some (.bor x))) = none := rfl
@[simp] theorem keep_o {b : Bool} {x : MO} : keepD (some (some (.own b x))) = none := rfl
@[simp] theorem bools_0 : boolsD [] = some [] := rfl
@[simp] theorem bools_S {b : Bool} : boolsD (.bool b :: xs) = (boolsD xs).map (b :: ·) := rfl
theorem bools_map {α : Type} (p : α → Bool) : ∀ l : List α, boolsD (l.map fun x => PyData.bool (p x)) = some (l.map p)
  | [] => rfl
  | x :: l => by simp [bools_map p l]
@[simp] theorem ints_0 : intsD [] = some [] := rfl
@[simp] theorem ints_S {i : Int} : intsD (.int i :: xs) = (intsD xs).map (i :: ·) := rfl
theorem ints_map {α : Type} (p : α → Int) : ∀ l : List α, intsD (l.map fun x => PyData.int (p x)) = some (l.map p)
  | [] => rfl
  | x :: l => by simp [ints_map p l]
@[simp] theorem strs_0 : strsD [] = some [] := rfl
@[simp] theorem strs_S {i : Str} : strsD (.str i :: xs) = (strsD xs).map (i :: ·) := rfl
theorem strs_map {α : Type} (p : α → Str) : ∀ l : List α, strsD (l.map fun x => PyData.str (p x)) = some (l.map p)
  | [] => rfl
  | x :: l => by simp [strs_map p l]
@[simp] theorem isTy_i1 {i : Int} : isTy .int (.int i) = true := rfl
@[simp] theorem isTy_i2 {i : Int} : isTy .bool (.int i) = false := rfl
@[simp] theorem isTy_i3 {i : Int} : isTy .str (.int i) = false := rfl
@[simp] theorem isTy_i4 {i : Int} : isTy .tuple (.int i) = false := rfl
@[simp] theorem isTy_i5 {i : Int} : isTy .list (.int i) = false := rfl
@[simp] theorem isTy_b1 {i : Bool} : isTy .int (.bool i) = true := rfl
@[simp] theorem isTy_b2 {i : Bool} : isTy .bool (.bool i) = true := rfl
@[simp] theorem isTy_b3 {i : Bool} : isTy .str (.bool i) = false := rfl
@[simp] theorem isTy_b4 {i : Bool} : isTy .tuple (.bool i) = false := rfl
@[simp] theorem isTy_b5 {i : Bool} : isTy .list (.bool i) = false := rfl
@[simp] theorem isTy_s1 {i : Str} : isTy .int (.str i) = false := rfl
@[simp] theorem isTy_s2 {i : Str} : isTy .bool (.str i) = false := rfl
@[simp] theorem isTy_s3 {i : Str} : isTy .str (.str i) = true := rfl
@[simp] theorem isTy_s4 {i : Str} : isTy .tuple (.str i) = false := rfl
@[simp] theorem isTy_s5 {i : Str} : isTy .list (.str i) = false := rfl
@[simp] theorem isTy_t1 : isTy .int (.tuple xs) = false := rfl
@[simp] theorem isTy_t2 : isTy .bool (.tuple xs) = false := rfl
@[simp] theorem isTy_t3 : isTy .str (.tuple xs) = false := rfl
@[simp] theorem isTy_t4 : isTy .tuple (.tuple xs) = true := rfl
@[simp] theorem isTy_t5 : isTy .list (.tuple xs) = false := rfl
@[simp] theorem isTy_l1 : isTy .int (.list xs) = false := rfl
@[simp] theorem isTy_l2 : isTy .bool (.list xs) = false := rfl
@[simp] theorem isTy_l3 : isTy .str (.list xs) = false := rfl
@[simp] theorem isTy_l4 : isTy .tuple (.list xs) = false := rfl
@[simp] theorem isTy_l5 : isTy .list (.list xs) = true := rfl
@[simp] theorem isTy_n {t : Ty} : isTy t .none = false := by cases t <;> rfl
end
/-! ### what shows shortly -/
mutual
def shortD : D → Bool
  | .none | .bool _ => true
  | .int i => decide (-999999999999 ≤ i) && decide (i ≤ 999999999999)
  | .str x => x.cps.toList.all fun c => decide (c < 16 ^ 8)
  | .list xs | .tuple xs => shortAll xs
  | .dict _ => false
def shortAll : List D → Bool
  | [] => true
  | x :: xs => shortD x && shortAll xs
end
mutual
theorem short_show : ∀ d : D, shortD d = true → d.showable = true ∧ d.leavesShort 13 = true
  | .none, _ => by simp [PyData.showable, PyData.leavesShort]
  | .bool _, _ => by simp [PyData.showable, PyData.leavesShort]
  | .int i, h => by
    simp only [shortD, Bool.and_eq_true, decide_eq_true_eq] at h
    refine ⟨?_, ?_⟩
    · simp only [PyData.showable, decide_eq_true_eq]
      by_cases hi : i.natAbs = 0
      · rw [hi]; decide
      · rw [Nat.log2_lt hi]
        have : (2 : Nat) ^ 40 ≤ 2 ^ 1920 := Nat.pow_le_pow_right (by decide) (by decide)
        have h40 : (2 : Nat) ^ 40 = 1099511627776 := by decide
        omega
    · simp only [PyData.leavesShort, decide_eq_true_eq]
      exact PyData.shown_int_le2 h.1 h.2
  | .str x, h => by simpa [PyData.showable, PyData.leavesShort, shortD] using h
  | .list xs, h => by
    have := short_shows xs (by simpa [shortD] using h)
    simpa [PyData.showable, PyData.leavesShort] using this
  | .tuple xs, h => by
    have := short_shows xs (by simpa [shortD] using h)
    simpa [PyData.showable, PyData.leavesShort] using this
  | .dict _, h => by simp [shortD] at h
theorem short_shows : ∀ xs : List D, shortAll xs = true → PyData.showableAll xs = true ∧ PyData.leavesShortAll 13 xs = true
  | [], _ => by simp [PyData.showableAll, PyData.leavesShortAll]
  | x :: xs, h => by
    simp only [shortAll, Bool.and_eq_true] at h
    have h1 := short_show x h.1
    have h2 := short_shows xs h.2
    simp [PyData.showableAll, PyData.leavesShortAll, h1, h2]
end
theorem short_repr {d : D} (h : shortD d = true) (hb : d.bulk ≤ 2 ^ 20) (hd : d.depth ≤ 60) : d.showable = true ∧ d.depth ≤ 60 ∧ d.shown.length ≤ 16777216 := by
  have := PyData.shown_fits_bulk (B := 13) (by decide) (by decide) (short_show d h).2 hb
  rw [sizeLine_eq] at this
  exact ⟨(short_show d h).1, hd, this⟩
theorem rng_mem {n : Nat} {lo : Int} {d : D} (h : d ∈ rngD n lo) : ∃ k : Int, d = .int k ∧ lo ≤ k ∧ k < lo + n := by
  unfold rngD at h
  obtain ⟨i, hi, rfl⟩ := List.mem_map.mp h
  have := List.mem_range.mp hi
  exact ⟨_, rfl, by omega, by omega⟩
@[simp] theorem rng_len {n : Nat} {lo : Int} : (rngD n lo).length = n := by simp [rngD]
theorem sign_mem {z : Str} {d : D} (h : d ∈ signs z) : ∃ c, d = .str ⟨#[c]⟩ ∧ c ∈ z.cps.toList := by
  unfold signs at h
  obtain ⟨c, hc, rfl⟩ := List.mem_map.mp h
  exact ⟨c, rfl, hc⟩
@[simp] theorem signs_len {z : Str} : (signs z).length = z.length := by simp [signs, Str.length]
end DL
namespace G
open PySem L2 DL
def top (i : Nat) : Stmt := PySem.Challenge.pw_thinnet_k01_names_and_times.main.body.getD i (.Pass ⟨0, 0, 0, 0⟩)
/-! ### is_whole -/
abbrev st_is_whole : Stmt := top 4
abbrev N_is_whole : List Str := ["thing", "least", "most"]
abbrev ps_is_whole : List Str := ["thing", "least", "most"]
theorem sc_is_whole : FnScope N_is_whole ps_is_whole (defScope st_is_whole) := ⟨rfl, rfl, rfl, by decide +kernel, rfl, by decide +kernel, by decide +kernel⟩
def g_is_whole : SM := (sRet (ds (vAnd (dd (dApp [(.sl 0)] (isiD .int))) (vAnd (vB (cNot (cTru (dd (dApp [(.sl 0)] (isiD .bool)))))) (dd (dChain opLe opLe (.sl 1) (.sl 0) (.sl 2)))))))
def d_is_whole : FD := runB 3 3 g_is_whole
theorem ok_is_whole {P : Program} {w : World} {K : KF} {mg : MG} {base : Heap} {fa : Addr} {fd : FuncData} (B : Blt mg) (F : Fun K "is_whole" "is_whole" st_is_whole fa fd) : FnG P w K mg base 1 fa fd ps_is_whole d_is_whole :=
  fun_ok F sc_is_whole fun cdv A outer s H E hr hgd =>
    (dss_one (ds_ret (de_d (dd_and (dd_e (de_isi (t := .int) rfl B.isinstance rfl B.int (by decide +kernel) (do_var (pv 0)))) (dd_and (dd_not (dd_e (de_isi (t := .bool) rfl B.isinstance rfl B.bool (by decide +kernel) (do_var (pv 0))))) (dd_one (dd_e (de_chain ok_le ok_le (do_var (pv 1)) (do_var (pv 0)) (do_var (pv 2))))))))))
/-! ### is_name -/
abbrev st_is_name : Stmt := top 5
abbrev N_is_name : List Str := ["thing", "sign"]
abbrev ps_is_name : List Str := ["thing"]
theorem sc_is_name : FnScope N_is_name ps_is_name (defScope st_is_name) := ⟨rfl, rfl, rfl, by decide +kernel, rfl, by decide +kernel, by decide +kernel⟩
def g_is_name : SM := (sb (sIf (cOr (cNot (cTru (dd (dApp [(.sl 0)] (isiD .str))))) (cNot (cTst (dChain opLe opLe (.ex (dC (.int 1))) (.ex (dd (dApp [(.sl 0)] lenD))) (.ex (dC (.int (8)))))))) (sRet (ds (dC (.bool false)))) sPass)
    (sRet (dApp [(.ex (dd (dComp (iVar 0) (.nm 1) (er true) (dd (dApp [(.sl 1), (.ex (dC (.str "abcdefghijklmnopqrstuvwxyz")))] opIn)) [1])))] allD)))
def d_is_name : FD := runB 1 2 g_is_name
theorem ok_is_name {P : Program} {w : World} {K : KF} {mg : MG} {base : Heap} {fa : Addr} {fd : FuncData} (B : Blt mg) (F : Fun K "is_name" "is_name" st_is_name fa fd) (c_LETTERS : ∃ t, mg "LETTERS" = some (.str "abcdefghijklmnopqrstuvwxyz" t)) (c_LONGEST_NAME : ∃ t, mg "LONGEST_NAME" = some (.int (8) t)) : FnG P w K mg base 1 fa fd ps_is_name d_is_name :=
  fun_ok F sc_is_name fun cdv A outer s H E hr hgd =>
    (dss_cons (ds_if (dt_bool (dw_or (dt_not (dt_tru (dd_e (de_isi (t := .str) rfl B.isinstance rfl B.str (by decide +kernel) (do_var (pv 0)))))) (dw_or1 (dt_not (dt_chain ok_le ok_le (do_d dd_int) (do_d (dd_e (de_callB ok_len (by rfl) B.len (by decide +kernel) (da_cons (do_var (pv 0)) da_nil)))) (do_d (dd_gint' rfl c_LONGEST_NAME))))))) (dss_one (ds_ret (de_d dd_bl))) dss_nil)
    (dss_one (ds_ret (de_callB (ok_all rfl) (by rfl) B.all (by decide +kernel) (da_cons (do_d (dd_e (de_comp (own := [("sign", 1)]) rfl sc_is_name.nd (di_var (pv 0)) (blkOk_by (own := [("sign", 1)]) (N := N_is_name) (sc := defScope st_is_name) (by decide +kernel)) (fun _ _ _ _ _ => (dg_name (i := 1) sc_is_name.nd rfl (by first | exact Or.inl rfl | exact Or.inr rfl))) (fun _ _ _ _ _ => dts_nil) (fun _ _ _ _ _ => (dd_e (de_in hr.units (do_var (pv 1)) (do_d (dd_gstr' rfl c_LETTERS)) rfl))) (by simp [Tg.sub, Tg.subs])))) da_nil)))))
/-! ### is_times -/
abbrev st_is_times : Stmt := top 6
abbrev N_is_times : List Str := ["thing", "part"]
abbrev ps_is_times : List Str := ["thing"]
theorem sc_is_times : FnScope N_is_times ps_is_times (defScope st_is_times) := ⟨rfl, rfl, rfl, by decide +kernel, rfl, by decide +kernel, by decide +kernel⟩
def g_is_times : SM := (sb (sIf (cOr (cNot (cTru (dd (dApp [(.sl 0)] (isiD .tuple))))) (cTst (dApp [(.ex (dd (dApp [(.sl 0)] lenD))), (.ex (dC (.int 2)))] (eqD true)))) (sRet (ds (dC (.bool false)))) sPass)
    (sRet (ds (vAnd (dd (dApp [(.ex (dd (dComp (iVar 0) (.nm 1) (er true) (dd (dCall d_is_whole [false, false, false] [(.sl 1), (.ex (dC (.int 1))), (.ex (dC (.int (1000000))))])) [1])))] allD)) (dd (dApp [(.ex (dd (dApp [(.sl 0), (.ex (dC (.int 0)))] opIx))), (.ex (dd (dApp [(.sl 0), (.ex (dC (.int 1)))] opIx)))] opGe))))))
def d_is_times : FD := runB 1 2 g_is_times
theorem ok_is_times {P : Program} {w : World} {K : KF} {mg : MG} {base : Heap} {fa : Addr} {fd : FuncData} (B : Blt mg) (F : Fun K "is_times" "is_times" st_is_times fa fd) (C_is_whole : Cl P w K mg base 1 "is_whole" ps_is_whole d_is_whole) (c_GREATEST : ∃ t, mg "GREATEST" = some (.int (1000000) t)) : FnG P w K mg base 2 fa fd ps_is_times d_is_times :=
  fun_ok F sc_is_times fun cdv A outer s H E hr hgd =>
    (dss_cons (ds_if (dt_bool (dw_or (dt_not (dt_tru (dd_e (de_isi (t := .tuple) rfl B.isinstance rfl B.tuple (by decide +kernel) (do_var (pv 0)))))) (dw_or1 (dt_cmp (ok_ne hr.units) (do_d (dd_e (de_callB ok_len (by rfl) B.len (by decide +kernel) (da_cons (do_var (pv 0)) da_nil)))) (do_d dd_int) (nomark _))))) (dss_one (ds_ret (de_d dd_bl))) dss_nil)
    (dss_one (ds_ret (de_d (dd_and (dd_e (de_callB (ok_all rfl) (by rfl) B.all (by decide +kernel) (da_cons (do_d (dd_e (de_comp (own := [("part", 1)]) rfl sc_is_times.nd (di_var (pv 0)) (blkOk_by (own := [("part", 1)]) (N := N_is_times) (sc := defScope st_is_times) (by decide +kernel)) (fun _ _ _ _ _ => (dg_name (i := 1) sc_is_times.nd rfl (by first | exact Or.inl rfl | exact Or.inr rfl))) (fun _ _ _ _ _ => dts_nil) (fun _ _ _ _ _ => (dd_e (de_callC (F := d_is_whole) (ms := [false, false, false]) (C_is_whole.mono (by decide)) hr hgd rfl takesW0 (da_cons (do_var (pv 1)) (da_cons (do_d dd_int) (da_cons (do_d (dd_gint' rfl c_GREATEST)) da_nil)))))) (by simp [Tg.sub, Tg.subs])))) da_nil))) (dd_one (dd_e (de_cmp ok_ge (do_d (dd_e (de_item hr.units (do_var (pv 0)) (do_d dd_int) (fun _ _ => rfl) (fun _ _ => rfl)))) (do_d (dd_e (de_item hr.units (do_var (pv 0)) (do_d dd_int) (fun _ _ => rfl) (fun _ _ => rfl)))) (nomark _)))))))))
/-! ### law feed -/
abbrev st_l_feed : Stmt := top 8
abbrev N_l_feed : List Str := ["_law_script"]
abbrev ps_l_feed : List Str := ["_law_script"]
theorem sc_l_feed : FnScope N_l_feed ps_l_feed (defScope st_l_feed) := ⟨rfl, rfl, rfl, by decide +kernel, rfl, by decide +kernel, by decide +kernel⟩
def g_l_feed : SM := (sRet (dApp [(.ex (dd (dApp [(.ex (dd (dSl (.sl 0) none (some (dC (.int 63))))))] lstD))), (.ex (dC (.int 0))), (.ex (dC (.int 0)))] opLst))
def d_l_feed : FD := runB 1 1 g_l_feed
theorem ok_l_feed {P : Program} {w : World} {K : KF} {mg : MG} {base : Heap} {fa : Addr} {fd : FuncData} (B : Blt mg) (F : Fun K "_law_feed" "_law_feed" st_l_feed fa fd) : FnG P w K mg base 1 fa fd ps_l_feed d_l_feed :=
  fun_ok F sc_l_feed fun cdv A outer s H E hr hgd =>
    (dss_one (ds_ret (de_lst (da_cons (do_d (dd_e (de_callT ok_list (by rfl) B.list (by decide +kernel) (da_cons (do_d (dd_e (de_sl_b (do_var (pv 0)) dd_int))) da_nil)))) (da_cons (do_d dd_int) (da_cons (do_d dd_int) da_nil))))))
/-! ### law next -/
abbrev st_l_next : Stmt := top 9
abbrev N_l_next : List Str := ["_law_feed_here", "_law_many", "_law_at", "_law_cell", "_law_first", "_law_digit"]
abbrev ps_l_next : List Str := ["_law_feed_here", "_law_many"]
theorem sc_l_next : FnScope N_l_next ps_l_next (defScope st_l_next) := ⟨rfl, rfl, rfl, by decide +kernel, rfl, by decide +kernel, by decide +kernel⟩
def g_l_next : SM := (sb (sIf (cTst (dApp [(.ex (dd (dApp [(.sl 0), (.ex (dC (.int 2)))] opIx))), (.ex (dC (.int 0)))] opGt)) (sb (sAsg 5 (dApp [(.ex (dd (dApp [(.sl 0), (.ex (dC (.int 2)))] opIx))), (.sl 1)] iMod))
    (sb (sSet 0 (dC (.int 2)) (dd (dApp [(.ex (dd (dApp [(.sl 0), (.ex (dC (.int 2)))] opIx))), (.sl 1)] iDiv)))
    (sRet (dMove 5)))) sPass)
    (sb (sAsg 2 (dApp [(.sl 0), (.ex (dC (.int 1)))] opIx))
    (sb (sSet 0 (dC (.int 1)) (dd (dApp [(.sl 2), (.ex (dC (.int 1)))] opAdd)))
    (sb (sAsg 3 (vIf (cTst (dApp [(.ex (dd (dApp [(.sl 0), (.ex (dC (.int 0)))] opIx))), (.ex (dd (dApp [] opLst)))] (eqD true))) (dApp [(.ex (dd (dApp [(.sl 0), (.ex (dC (.int 0)))] opIx))), (.ex (dd (dApp [(.sl 2), (.ex (dd (dApp [(.ex (dd (dApp [(.sl 0), (.ex (dC (.int 0)))] opIx)))] lenD)))] iMod)))] opIx) (ds (dC (.int 0)))))
    (sb (sIf (cAnd (cTst (dApp [(.sl 3), (.ex (dd (dApp [(.ex (dC (.int 10))), (.ex (dC (.int 18)))] iPow)))] opGe)) (cTst (dApp [(.sl 2), (.ex (dd (dApp [(.ex (dd (dApp [(.sl 0), (.ex (dC (.int 0)))] opIx)))] lenD)))] opLt))) (sb (sSet 0 (dC (.int 2)) (dd (dApp [(.sl 3), (.sl 1)] iDiv)))
    (sRet (dApp [(.sl 3), (.sl 1)] iMod))) sPass)
    (sb (sAsg 4 (dApp [(.ex (dd (dApp [(.ex (dd (dApp [(.ex (dd (dApp [(.ex (dd (dApp [(.ex (dd (dApp [(.sl 3), (.ex (dC (.int 1000003)))] iMod))), (.ex (dd (dApp [(.ex (dd (dApp [(.ex (dC (.int 41))), (.sl 2)] opMul))), (.sl 2)] opMul)))] opAdd))), (.ex (dd (dApp [(.ex (dC (.int 17))), (.sl 2)] opMul)))] opAdd))), (.ex (dC (.int 3)))] opAdd))), (.ex (dC (.int 51749)))] opMul))), (.ex (dC (.int 999917)))] iMod))
    (sRet (dApp [(.ex (dd (dApp [(.ex (dd (dApp [(.ex (dd (dApp [(.ex (dd (dApp [(.sl 4), (.ex (dd (dApp [(.ex (dC (.int 8111))), (.sl 2)] opMul)))] opAdd))), (.ex (dC (.int 39373)))] opMul))), (.ex (dC (.int 2097143)))] iMod))), (.ex (dC (.int 3)))] iDiv))), (.sl 1)] iMod))))))))
def d_l_next : FD := runB 2 6 g_l_next
theorem ok_l_next {P : Program} {w : World} {K : KF} {mg : MG} {base : Heap} {fa : Addr} {fd : FuncData} (B : Blt mg) (F : Fun K "_law_next" "_law_next" st_l_next fa fd) : FnG P w K mg base 1 fa fd ps_l_next d_l_next :=
  fun_ok F sc_l_next fun cdv A outer s H E hr hgd =>
    (dss_cons (ds_if (dt_cmp ok_gt (do_d (dd_e (de_item hr.units (do_var (pv 0)) (do_d dd_int) (fun _ _ => rfl) (fun _ _ => rfl)))) (do_d dd_int) (nomark _)) (dss_cons (ds_asg (i := 5) (de_op ok_iMod (do_d (dd_e (de_item hr.units (do_var (pv 0)) (do_d dd_int) (fun _ _ => rfl) (fun _ _ => rfl)))) (do_var (pv 1))) sc_l_next.nd rfl (by first | exact Or.inl rfl | exact Or.inr rfl))
    (dss_cons (ds_set hr.units (pv 0) dd_int (dd_e (de_op ok_iDiv (do_d (dd_e (de_item hr.units (do_var (pv 0)) (do_d dd_int) (fun _ _ => rfl) (fun _ _ => rfl)))) (do_var (pv 1)))))
    (dss_one (ds_ret (de_move (pv 5)))))) dss_nil)
    (dss_cons (ds_asg (i := 2) (de_item hr.units (do_var (pv 0)) (do_d dd_int) (fun _ _ => rfl) (fun _ _ => rfl)) sc_l_next.nd rfl (by first | exact Or.inl rfl | exact Or.inr rfl))
    (dss_cons (ds_set hr.units (pv 0) dd_int (dd_e (de_op ok_add (do_var (pv 2)) (do_d dd_int))))
    (dss_cons (ds_asg (i := 3) (de_if (dt_cmp (ok_ne hr.units) (do_d (dd_e (de_item hr.units (do_var (pv 0)) (do_d dd_int) (fun _ _ => rfl) (fun _ _ => rfl)))) (do_d (dd_e (de_lst da_nil))) (nomark _)) (de_item hr.units (do_d (dd_e (de_item hr.units (do_var (pv 0)) (do_d dd_int) (fun _ _ => rfl) (fun _ _ => rfl)))) (do_d (dd_e (de_op ok_iMod (do_var (pv 2)) (do_d (dd_e (de_callB ok_len (by rfl) B.len (by decide +kernel) (da_cons (do_d (dd_e (de_item hr.units (do_var (pv 0)) (do_d dd_int) (fun _ _ => rfl) (fun _ _ => rfl)))) da_nil))))))) (fun _ _ => rfl) (fun _ _ => rfl)) (de_d dd_int)) sc_l_next.nd rfl (by first | exact Or.inl rfl | exact Or.inr rfl))
    (dss_cons (ds_if (dt_bool (dw_and (dt_cmp ok_ge (do_var (pv 3)) (do_d (dd_e (de_op ok_iPow (do_d dd_int) (do_d dd_int)))) (nomark _)) (dw_and1 (dt_cmp (ok_lt hr.units) (do_var (pv 2)) (do_d (dd_e (de_callB ok_len (by rfl) B.len (by decide +kernel) (da_cons (do_d (dd_e (de_item hr.units (do_var (pv 0)) (do_d dd_int) (fun _ _ => rfl) (fun _ _ => rfl)))) da_nil)))) (nomark _))))) (dss_cons (ds_set hr.units (pv 0) dd_int (dd_e (de_op ok_iDiv (do_var (pv 3)) (do_var (pv 1)))))
    (dss_one (ds_ret (de_op ok_iMod (do_var (pv 3)) (do_var (pv 1)))))) dss_nil)
    (dss_cons (ds_asg (i := 4) (de_op ok_iMod (do_d (dd_e (de_op ok_mul (do_d (dd_e (de_op ok_add (do_d (dd_e (de_op ok_add (do_d (dd_e (de_op ok_add (do_d (dd_e (de_op ok_iMod (do_var (pv 3)) (do_d dd_int)))) (do_d (dd_e (de_op ok_mul (do_d (dd_e (de_op ok_mul (do_d dd_int) (do_var (pv 2))))) (do_var (pv 2)))))))) (do_d (dd_e (de_op ok_mul (do_d dd_int) (do_var (pv 2)))))))) (do_d dd_int)))) (do_d dd_int)))) (do_d dd_int)) sc_l_next.nd rfl (by first | exact Or.inl rfl | exact Or.inr rfl))
    (dss_one (ds_ret (de_op ok_iMod (do_d (dd_e (de_op ok_iDiv (do_d (dd_e (de_op ok_iMod (do_d (dd_e (de_op ok_mul (do_d (dd_e (de_op ok_add (do_var (pv 4)) (do_d (dd_e (de_op ok_mul (do_d dd_int) (do_var (pv 2)))))))) (do_d dd_int)))) (do_d dd_int)))) (do_d dd_int)))) (do_var (pv 1)))))))))))
/-! ### law whole -/
abbrev st_l_whole : Stmt := top 10
abbrev N_l_whole : List Str := ["_law_thing", "_law_least", "_law_most"]
abbrev ps_l_whole : List Str := ["_law_thing", "_law_least", "_law_most"]
theorem sc_l_whole : FnScope N_l_whole ps_l_whole (defScope st_l_whole) := ⟨rfl, rfl, rfl, by decide +kernel, rfl, by decide +kernel, by decide +kernel⟩
def g_l_whole : SM := (sRet (ds (vAnd (dd (dApp [(.sl 0)] (isiD .int))) (vAnd (vB (cNot (cTru (dd (dApp [(.sl 0)] (isiD .bool)))))) (dd (dChain opLe opLe (.sl 1) (.sl 0) (.sl 2)))))))
def d_l_whole : FD := runB 3 3 g_l_whole
theorem ok_l_whole {P : Program} {w : World} {K : KF} {mg : MG} {base : Heap} {fa : Addr} {fd : FuncData} (B : Blt mg) (F : Fun K "_law_whole" "_law_whole" st_l_whole fa fd) : FnG P w K mg base 1 fa fd ps_l_whole d_l_whole :=
  fun_ok F sc_l_whole fun cdv A outer s H E hr hgd =>
    (dss_one (ds_ret (de_d (dd_and (dd_e (de_isi (t := .int) rfl B.isinstance rfl B.int (by decide +kernel) (do_var (pv 0)))) (dd_and (dd_not (dd_e (de_isi (t := .bool) rfl B.isinstance rfl B.bool (by decide +kernel) (do_var (pv 0))))) (dd_one (dd_e (de_chain ok_le ok_le (do_var (pv 1)) (do_var (pv 0)) (do_var (pv 2))))))))))
/-! ### law text -/
abbrev st_l_text : Stmt := top 11
abbrev N_l_text : List Str := ["_law_feed_here", "_law_letters", "_law_size", "_law_word", "_law_at", "_law_k"]
abbrev ps_l_text : List Str := ["_law_feed_here"]
theorem sc_l_text : FnScope N_l_text ps_l_text (defScope st_l_text) := ⟨rfl, rfl, rfl, by decide +kernel, rfl, by decide +kernel, by decide +kernel⟩
def g_l_text : SM := (sb (sAsg 1 (ds (dC (.str "abcdefghijklmnopqrstuvwxyz"))))
    (sb (sAsg 2 (dApp [(.ex (dd (dApp [(.ex (dd (dCall d_l_next [true, false] [(.sl 0), (.ex (dC (.int 11)))]))), (.ex (dd (dApp [(.ex (dC (.int 7))), (.ex (dd (dCall d_l_next [true, false] [(.sl 0), (.ex (dC (.int 3)))])))] opAdd))), (.ex (dC (.int 1)))] opLst))), (.ex (dd (dCall d_l_next [true, false] [(.sl 0), (.ex (dC (.int 3)))])))] opIx))
    (sb (sAsg 3 (dStr (.ex (dC (.str ""))) [(.ex (dd (dComp (iApp [(.sl 2)] rng1) (.nm 5) (er true) (dd (dApp [(.sl 1), (.ex (dd (dCall d_l_next [true, false] [(.sl 0), (.ex (dC (.int 26)))])))] opIx)) [5])))] joinO))
    (sb (sIf (cTst (dApp [(.ex (dd (dCall d_l_next [true, false] [(.sl 0), (.ex (dC (.int 3)))]))), (.ex (dC (.int 0)))] (eqD false))) (sb (sAsg 4 (dCall d_l_next [true, false] [(.sl 0), (.ex (dd (dApp [(.sl 2), (.ex (dC (.int 1)))] opAdd)))]))
    (sAsg 3 (dApp [(.ex (dd (dApp [(.ex (dd (dSl (.sl 3) none (some (dVar 4))))), (.ex (dd (dApp [(.ex (dd (dApp [(.ex (dC (.str "A"))), (.ex (dC (.str "0"))), (.ex (dC (.str " "))), (.ex (dC (.str "~"))), (.ex (dC (.str "Z"))), (.ex (dC (.str "-"))), (.ex (dC (.str "9")))] opLst))), (.ex (dd (dCall d_l_next [true, false] [(.sl 0), (.ex (dC (.int 7)))])))] opIx)))] opAdd))), (.ex (dd (dSl (.sl 3) (some (dVar 4)) none)))] opAdd))) sPass)
    (sRet (dMove 3))))))
def d_l_text : FD := runB 1 6 g_l_text
theorem ok_l_text {P : Program} {w : World} {K : KF} {mg : MG} {base : Heap} {fa : Addr} {fd : FuncData} (B : Blt mg) (F : Fun K "_law_text" "_law_text" st_l_text fa fd) (C_l_next : Cl P w K mg base 1 "_law_next" ps_l_next d_l_next) : FnG P w K mg base 2 fa fd ps_l_text d_l_text :=
  fun_ok F sc_l_text fun cdv A outer s H E hr hgd =>
    (dss_cons (ds_asg (i := 1) (de_d dd_str) sc_l_text.nd rfl (by first | exact Or.inl rfl | exact Or.inr rfl))
    (dss_cons (ds_asg (i := 2) (de_item hr.units (do_d (dd_e (de_lst (da_cons (do_d (dd_e (de_callC (F := d_l_next) (ms := [true, false]) (C_l_next.mono (by decide)) hr hgd rfl (takes_of rfl rfl rfl rfl) (da_cons (do_var (pv 0)) (da_cons (do_d dd_int) da_nil))))) (da_cons (do_d (dd_e (de_op ok_add (do_d dd_int) (do_d (dd_e (de_callC (F := d_l_next) (ms := [true, false]) (C_l_next.mono (by decide)) hr hgd rfl (takes_of rfl rfl rfl rfl) (da_cons (do_var (pv 0)) (da_cons (do_d dd_int) da_nil)))))))) (da_cons (do_d dd_int) da_nil)))))) (do_d (dd_e (de_callC (F := d_l_next) (ms := [true, false]) (C_l_next.mono (by decide)) hr hgd rfl (takes_of rfl rfl rfl rfl) (da_cons (do_var (pv 0)) (da_cons (do_d dd_int) da_nil))))) (fun _ _ => rfl) (fun _ _ => rfl)) sc_l_text.nd rfl (by first | exact Or.inl rfl | exact Or.inr rfl))
    (dss_cons (ds_asg (i := 3) (de_join (do_d dd_str) (do_d (dd_e (de_comp (own := [("_law_k", 5)]) rfl sc_l_text.nd (di_rng1 rfl B.range (da_cons (do_var (pv 2)) da_nil)) (blkOk_by (own := [("_law_k", 5)]) (N := N_l_text) (sc := defScope st_l_text) (by decide +kernel)) (fun _ _ _ _ _ => (dg_name (i := 5) sc_l_text.nd rfl (by first | exact Or.inl rfl | exact Or.inr rfl))) (fun _ _ _ _ _ => dts_nil) (fun _ _ _ _ _ => (dd_e (de_item hr.units (do_var (pv 1)) (do_d (dd_e (de_callC (F := d_l_next) (ms := [true, false]) (C_l_next.mono (by decide)) hr hgd rfl takesW0 (da_cons (do_var (pv 0)) (da_cons (do_d dd_int) da_nil))))) (fun _ _ => rfl) (fun _ _ => rfl)))) (by simp [Tg.sub, Tg.subs]))))) sc_l_text.nd rfl (by first | exact Or.inl rfl | exact Or.inr rfl))
    (dss_cons (ds_if (dt_cmp (ok_eq hr.units) (do_d (dd_e (de_callC (F := d_l_next) (ms := [true, false]) (C_l_next.mono (by decide)) hr hgd rfl (takes_of rfl rfl rfl rfl) (da_cons (do_var (pv 0)) (da_cons (do_d dd_int) da_nil))))) (do_d dd_int) (nomark _)) (dss_cons (ds_asg (i := 4) (de_callC (F := d_l_next) (ms := [true, false]) (C_l_next.mono (by decide)) hr hgd rfl (takes_of rfl rfl rfl rfl) (da_cons (do_var (pv 0)) (da_cons (do_d (dd_e (de_op ok_add (do_var (pv 2)) (do_d dd_int)))) da_nil))) sc_l_text.nd rfl (by first | exact Or.inl rfl | exact Or.inr rfl))
    (dss_one (ds_asg (i := 3) (de_op ok_add (do_d (dd_e (de_op ok_add (do_d (dd_e (de_sl_b (do_var (pv 3)) (dd_var (pv 4))))) (do_d (dd_e (de_item hr.units (do_d (dd_e (de_lst (da_cons (do_d dd_str) (da_cons (do_d dd_str) (da_cons (do_d dd_str) (da_cons (do_d dd_str) (da_cons (do_d dd_str) (da_cons (do_d dd_str) (da_cons (do_d dd_str) da_nil)))))))))) (do_d (dd_e (de_callC (F := d_l_next) (ms := [true, false]) (C_l_next.mono (by decide)) hr hgd rfl (takes_of rfl rfl rfl rfl) (da_cons (do_var (pv 0)) (da_cons (do_d dd_int) da_nil))))) (fun _ _ => rfl) (fun _ _ => rfl))))))) (do_d (dd_e (de_sl_a (do_var (pv 3)) (dd_var (pv 4)))))) sc_l_text.nd rfl (by first | exact Or.inl rfl | exact Or.inr rfl)))) dss_nil)
    (dss_one (ds_ret (de_move (pv 3))))))))
/-! ### law number -/
abbrev st_l_number : Stmt := top 12
abbrev N_l_number : List Str := ["_law_feed_here", "_law_most", "_law_near"]
abbrev ps_l_number : List Str := ["_law_feed_here"]
theorem sc_l_number : FnScope N_l_number ps_l_number (defScope st_l_number) := ⟨rfl, rfl, rfl, by decide +kernel, rfl, by decide +kernel, by decide +kernel⟩
def g_l_number : SM := (sb (sAsg 1 (dApp [(.ex (dC (.int 10))), (.ex (dC (.int 6)))] iPow))
    (sb (sAsg 2 (dApp [(.ex (dd (dApp [(.ex (dC (.int 0))), (.ex (dC (.int 1))), (.ex (dC (.int 2))), (.ex (dd (dApp [(.sl 1), (.ex (dC (.int 1)))] iSub))), (.sl 1), (.ex (dd (dApp [(.sl 1), (.ex (dC (.int 1)))] opAdd))), (.ex (dd (dApp [(.ex (dC (.int 1)))] iNeg))), (.ex (dd (dApp [(.sl 1)] iNeg)))] opLst))), (.ex (dd (dCall d_l_next [true, false] [(.sl 0), (.ex (dC (.int 8)))])))] opIx))
    (sRet (dApp [(.ex (dd (dApp [(.sl 2), (.sl 2), (.ex (dd (dCall d_l_next [true, false] [(.sl 0), (.ex (dd (dApp [(.sl 1), (.ex (dC (.int 2)))] opAdd)))])))] opLst))), (.ex (dd (dCall d_l_next [true, false] [(.sl 0), (.ex (dC (.int 3)))])))] opIx))))
def d_l_number : FD := runB 1 3 g_l_number
theorem ok_l_number {P : Program} {w : World} {K : KF} {mg : MG} {base : Heap} {fa : Addr} {fd : FuncData} (B : Blt mg) (F : Fun K "_law_number" "_law_number" st_l_number fa fd) (C_l_next : Cl P w K mg base 1 "_law_next" ps_l_next d_l_next) : FnG P w K mg base 2 fa fd ps_l_number d_l_number :=
  fun_ok F sc_l_number fun cdv A outer s H E hr hgd =>
    (dss_cons (ds_asg (i := 1) (de_op ok_iPow (do_d dd_int) (do_d dd_int)) sc_l_number.nd rfl (by first | exact Or.inl rfl | exact Or.inr rfl))
    (dss_cons (ds_asg (i := 2) (de_item hr.units (do_d (dd_e (de_lst (da_cons (do_d dd_int) (da_cons (do_d dd_int) (da_cons (do_d dd_int) (da_cons (do_d (dd_e (de_op ok_iSub (do_var (pv 1)) (do_d dd_int)))) (da_cons (do_var (pv 1)) (da_cons (do_d (dd_e (de_op ok_add (do_var (pv 1)) (do_d dd_int)))) (da_cons (do_d (dd_e (de_un ok_iNeg (do_d dd_int)))) (da_cons (do_d (dd_e (de_un ok_iNeg (do_var (pv 1))))) da_nil))))))))))) (do_d (dd_e (de_callC (F := d_l_next) (ms := [true, false]) (C_l_next.mono (by decide)) hr hgd rfl (takes_of rfl rfl rfl rfl) (da_cons (do_var (pv 0)) (da_cons (do_d dd_int) da_nil))))) (fun _ _ => rfl) (fun _ _ => rfl)) sc_l_number.nd rfl (by first | exact Or.inl rfl | exact Or.inr rfl))
    (dss_one (ds_ret (de_item hr.units (do_d (dd_e (de_lst (da_cons (do_var (pv 2)) (da_cons (do_var (pv 2)) (da_cons (do_d (dd_e (de_callC (F := d_l_next) (ms := [true, false]) (C_l_next.mono (by decide)) hr hgd rfl (takes_of rfl rfl rfl rfl) (da_cons (do_var (pv 0)) (da_cons (do_d (dd_e (de_op ok_add (do_var (pv 1)) (do_d dd_int)))) da_nil))))) da_nil)))))) (do_d (dd_e (de_callC (F := d_l_next) (ms := [true, false]) (C_l_next.mono (by decide)) hr hgd rfl (takes_of rfl rfl rfl rfl) (da_cons (do_var (pv 0)) (da_cons (do_d dd_int) da_nil))))) (fun _ _ => rfl) (fun _ _ => rfl))))))
/-! ### law told -/
abbrev st_l_told : Stmt := top 13
abbrev N_l_told : List Str := ["_law_found", "_law_due"]
abbrev ps_l_told : List Str := ["_law_found", "_law_due"]
theorem sc_l_told : FnScope N_l_told ps_l_told (defScope st_l_told) := ⟨rfl, rfl, rfl, by decide +kernel, rfl, by decide +kernel, by decide +kernel⟩
def g_l_told : SM := (sRet (ds (vAnd (dd (dApp [(.sl 0)] (isiD .bool))) (dd (dApp [(.sl 0), (.sl 1)] (eqD false))))))
def d_l_told : FD := runB 2 2 g_l_told
theorem ok_l_told {P : Program} {w : World} {K : KF} {mg : MG} {base : Heap} {fa : Addr} {fd : FuncData} (B : Blt mg) (F : Fun K "_law_told" "_law_told" st_l_told fa fd) : FnG P w K mg base 1 fa fd ps_l_told d_l_told :=
  fun_ok F sc_l_told fun cdv A outer s H E hr hgd =>
    (dss_one (ds_ret (de_d (dd_and (dd_e (de_isi (t := .bool) rfl B.isinstance rfl B.bool (by decide +kernel) (do_var (pv 0)))) (dd_one (dd_e (de_cmp (ok_eq hr.units) (do_var (pv 0)) (do_var (pv 1)) (nomark _))))))))
/-! ### law name_due -/
abbrev st_l_name_due : Stmt := top 14
abbrev N_l_name_due : List Str := ["_law_thing", "_law_sign"]
abbrev ps_l_name_due : List Str := ["_law_thing"]
theorem sc_l_name_due : FnScope N_l_name_due ps_l_name_due (defScope st_l_name_due) := ⟨rfl, rfl, rfl, by decide +kernel, rfl, by decide +kernel, by decide +kernel⟩
def g_l_name_due : SM := (sb (sIf (cOr (cNot (cTru (dd (dApp [(.sl 0)] (isiD .str))))) (cNot (cTst (dChain opLt opLt (.ex (dC (.int 0))) (.ex (dd (dApp [(.sl 0)] lenD))) (.ex (dC (.int 9))))))) (sRet (ds (dC (.bool false)))) sPass)
    (sRet (dApp [(.ex (dd (dComp (iVar 0) (.nm 1) (er true) (dd (dApp [(.sl 1), (.ex (dC (.str "abcdefghijklmnopqrstuvwxyz")))] opIn)) [1])))] allD)))
def d_l_name_due : FD := runB 1 2 g_l_name_due
theorem ok_l_name_due {P : Program} {w : World} {K : KF} {mg : MG} {base : Heap} {fa : Addr} {fd : FuncData} (B : Blt mg) (F : Fun K "_law_name_due" "_law_name_due" st_l_name_due fa fd) : FnG P w K mg base 1 fa fd ps_l_name_due d_l_name_due :=
  fun_ok F sc_l_name_due fun cdv A outer s H E hr hgd =>
    (dss_cons (ds_if (dt_bool (dw_or (dt_not (dt_tru (dd_e (de_isi (t := .str) rfl B.isinstance rfl B.str (by decide +kernel) (do_var (pv 0)))))) (dw_or1 (dt_not (dt_chain (ok_lt hr.units) (ok_lt hr.units) (do_d dd_int) (do_d (dd_e (de_callB ok_len (by rfl) B.len (by decide +kernel) (da_cons (do_var (pv 0)) da_nil)))) (do_d dd_int)))))) (dss_one (ds_ret (de_d dd_bl))) dss_nil)
    (dss_one (ds_ret (de_callB (ok_all rfl) (by rfl) B.all (by decide +kernel) (da_cons (do_d (dd_e (de_comp (own := [("_law_sign", 1)]) rfl sc_l_name_due.nd (di_var (pv 0)) (blkOk_by (own := [("_law_sign", 1)]) (N := N_l_name_due) (sc := defScope st_l_name_due) (by decide +kernel)) (fun _ _ _ _ _ => (dg_name (i := 1) sc_l_name_due.nd rfl (by first | exact Or.inl rfl | exact Or.inr rfl))) (fun _ _ _ _ _ => dts_nil) (fun _ _ _ _ _ => (dd_e (de_in hr.units (do_var (pv 1)) (do_d dd_str) rfl))) (by simp [Tg.sub, Tg.subs])))) da_nil)))))
/-! ### law times_due -/
abbrev st_l_times_due : Stmt := top 15
abbrev N_l_times_due : List Str := ["_law_thing", "_law_one"]
abbrev ps_l_times_due : List Str := ["_law_thing"]
theorem sc_l_times_due : FnScope N_l_times_due ps_l_times_due (defScope st_l_times_due) := ⟨rfl, rfl, rfl, by decide +kernel, rfl, by decide +kernel, by decide +kernel⟩
def g_l_times_due : SM := (sb (sIf (cOr (cNot (cTru (dd (dApp [(.sl 0)] (isiD .tuple))))) (cTst (dApp [(.ex (dd (dApp [(.sl 0)] lenD))), (.ex (dC (.int 2)))] (eqD true)))) (sRet (ds (dC (.bool false)))) sPass)
    (sRet (ds (vAnd (dd (dApp [(.ex (dd (dComp (iVar 0) (.nm 1) (er true) (dd (dCall d_l_whole [false, false, false] [(.sl 1), (.ex (dC (.int 1))), (.ex (dd (dApp [(.ex (dC (.int 10))), (.ex (dC (.int 6)))] iPow)))])) [1])))] allD)) (dd (dApp [(.ex (dd (dApp [(.sl 0), (.ex (dC (.int 0)))] opIx))), (.ex (dd (dApp [(.sl 0), (.ex (dC (.int 1)))] opIx)))] opGe))))))
def d_l_times_due : FD := runB 1 2 g_l_times_due
theorem ok_l_times_due {P : Program} {w : World} {K : KF} {mg : MG} {base : Heap} {fa : Addr} {fd : FuncData} (B : Blt mg) (F : Fun K "_law_times_due" "_law_times_due" st_l_times_due fa fd) (C_l_whole : Cl P w K mg base 1 "_law_whole" ps_l_whole d_l_whole) : FnG P w K mg base 2 fa fd ps_l_times_due d_l_times_due :=
  fun_ok F sc_l_times_due fun cdv A outer s H E hr hgd =>
    (dss_cons (ds_if (dt_bool (dw_or (dt_not (dt_tru (dd_e (de_isi (t := .tuple) rfl B.isinstance rfl B.tuple (by decide +kernel) (do_var (pv 0)))))) (dw_or1 (dt_cmp (ok_ne hr.units) (do_d (dd_e (de_callB ok_len (by rfl) B.len (by decide +kernel) (da_cons (do_var (pv 0)) da_nil)))) (do_d dd_int) (nomark _))))) (dss_one (ds_ret (de_d dd_bl))) dss_nil)
    (dss_one (ds_ret (de_d (dd_and (dd_e (de_callB (ok_all rfl) (by rfl) B.all (by decide +kernel) (da_cons (do_d (dd_e (de_comp (own := [("_law_one", 1)]) rfl sc_l_times_due.nd (di_var (pv 0)) (blkOk_by (own := [("_law_one", 1)]) (N := N_l_times_due) (sc := defScope st_l_times_due) (by decide +kernel)) (fun _ _ _ _ _ => (dg_name (i := 1) sc_l_times_due.nd rfl (by first | exact Or.inl rfl | exact Or.inr rfl))) (fun _ _ _ _ _ => dts_nil) (fun _ _ _ _ _ => (dd_e (de_callC (F := d_l_whole) (ms := [false, false, false]) (C_l_whole.mono (by decide)) hr hgd rfl takesW0 (da_cons (do_var (pv 1)) (da_cons (do_d dd_int) (da_cons (do_d (dd_e (de_op ok_iPow (do_d dd_int) (do_d dd_int)))) da_nil)))))) (by simp [Tg.sub, Tg.subs])))) da_nil))) (dd_one (dd_e (de_cmp ok_ge (do_d (dd_e (de_item hr.units (do_var (pv 0)) (do_d dd_int) (fun _ _ => rfl) (fun _ _ => rfl)))) (do_d (dd_e (de_item hr.units (do_var (pv 0)) (do_d dd_int) (fun _ _ => rfl) (fun _ _ => rfl)))) (nomark _)))))))))
/-! ### law -/
abbrev st_law : Stmt := top 16
abbrev N_law : List Str := ["_law_script", "_law_feed_here", "_law_odd", "_law_k", "_law_word", "_law_one", "_law_pair", "_law_strange", "_law_thing"]
abbrev ps_law : List Str := ["_law_script"]
theorem sc_law : FnScope N_law ps_law (defScope st_law) := ⟨rfl, rfl, rfl, by decide +kernel, rfl, by decide +kernel, by decide +kernel⟩
def g_law : SM := (sb (sAsg 1 (dCall d_l_feed [false] [(.sl 0)]))
    (sb (sAsg 2 (dApp [(.ex (dC .none)), (.ex (dC (.bool true))), (.ex (dC (.bool false))), (.ex (dC (.int 0))), (.ex (dC (.int 1))), (.ex (dd (dApp [] opTup))), (.ex (dd (dApp [] opLst))), (.ex (dd (dApp [(.ex (dC (.str "a")))] opTup))), (.ex (dd (dApp [(.ex (dC (.str "a")))] opLst))), (.ex (dC (.str ""))), (.ex (dd (dApp [(.ex (dC (.int 1)))] opTup))), (.ex (dd (dApp [(.ex (dC (.int 1))), (.ex (dC (.int 1))), (.ex (dC (.int 1)))] opTup))), (.ex (dd (dApp [(.ex (dC (.int 1))), (.ex (dC (.int 1)))] opLst))), (.ex (dd (dApp [(.ex (dC (.str "a"))), (.ex (dC (.int 1)))] opTup))), (.ex (dd (dApp [(.ex (dC (.int 1))), (.ex (dC .none))] opTup))), (.ex (dd (dApp [(.ex (dC (.bool true))), (.ex (dC (.int 1)))] opTup)))] opLst))
    (sb (sAsg 2 (dApp [(.sl 2), (.ex (dd (dApp [(.ex (dd (dApp [(.ex (dC (.int 2))), (.ex (dC (.bool true)))] opTup))), (.ex (dd (dApp [(.ex (dd (dApp [(.ex (dC (.int 1)))] opTup))), (.ex (dC (.int 1)))] opTup))), (.ex (dd (dApp [(.ex (dC (.int 1))), (.ex (dd (dApp [(.ex (dC (.int 1)))] opTup)))] opTup))), (.ex (dC (.str "ab"))), (.ex (dd (dApp [(.ex (dC (.int 1))), (.ex (dC (.str "1")))] opTup))), (.ex (dd (dApp [(.ex (dC (.int 10))), (.ex (dC (.int 39)))] iPow)))] opLst)))] opAdd))
    (sb (sFor (iApp [(.ex (dC (.int 12)))] rng1) (.nm 3) (sb (sAsg 4 (dCall d_l_text [true] [(.sl 1)]))
    (sb (sAsg 5 (dCall d_l_number [true] [(.sl 1)]))
    (sb (sAsg 6 (dApp [(.sl 5), (.ex (dd (dApp [(.ex (dd (dApp [(.sl 5), (.ex (dd (dCall d_l_number [true] [(.sl 1)])))] opLst))), (.ex (dd (dApp [(.ex (dd (dApp [(.ex (dd (dCall d_l_next [true, false] [(.sl 1), (.ex (dC (.int 4)))]))), (.ex (dC (.int 0)))] opGt)))] intD)))] opIx)))] opTup))
    (sb (sAsg 7 (dApp [(.sl 2), (.ex (dd (dCall d_l_next [true, false] [(.sl 1), (.ex (dd (dApp [(.sl 2)] lenD)))])))] opIx))
    (sFor (iD (dd (dApp [(.sl 4), (.sl 6), (.ex (dd (dApp [(.sl 6)] lstD))), (.ex (dd (dApp [(.ex (dd (dApp [(.sl 6), (.ex (dC (.int 1)))] opIx))), (.ex (dd (dApp [(.sl 6), (.ex (dC (.int 0)))] opIx)))] opTup))), (.ex (dd (dApp [(.sl 6), (.ex (dd (dApp [(.ex (dC (.int 1)))] opTup)))] opAdd))), (.sl 7), (.ex (dd (dApp [(.sl 7), (.sl 5)] opTup))), (.ex (dd (dApp [(.sl 5), (.sl 7)] opTup)))] opLst))) (.nm 8) (sb (sIf (cNot (cTru (dd (dCall d_l_told [false, false] [(.ex (dd (dCall d_is_name [false] [(.sl 8)]))), (.ex (dd (dCall d_l_name_due [false] [(.sl 8)])))])))) (sRet (ds (dC (.bool false)))) sPass)
    (sIf (cNot (cTru (dd (dCall d_l_told [false, false] [(.ex (dd (dCall d_is_times [false] [(.sl 8)]))), (.ex (dd (dCall d_l_times_due [false] [(.sl 8)])))])))) (sRet (ds (dC (.bool false)))) sPass))))))))
    (sRet (ds (vAnd (dd (dCall d_l_told [false, false] [(.ex (dd (dCall d_is_name [false] [(.ex (dC (.str "abcdefgh")))]))), (.ex (dC (.bool true)))])) (dd (dCall d_l_told [false, false] [(.ex (dd (dCall d_is_times [false] [(.ex (dd (dApp [(.ex (dd (dApp [(.ex (dC (.int 10))), (.ex (dC (.int 6)))] iPow))), (.ex (dC (.int 1)))] opTup)))]))), (.ex (dC (.bool true)))])))))))))
def d_law : FD := runB 1 9 g_law
theorem ok_law {P : Program} {w : World} {K : KF} {mg : MG} {base : Heap} {fa : Addr} {fd : FuncData} (B : Blt mg) (F : Fun K "law" "law" st_law fa fd) (C_l_told : Cl P w K mg base 1 "_law_told" ps_l_told d_l_told) (C_is_name : Cl P w K mg base 1 "is_name" ps_is_name d_is_name) (C_is_times : Cl P w K mg base 2 "is_times" ps_is_times d_is_times) (C_l_times_due : Cl P w K mg base 2 "_law_times_due" ps_l_times_due d_l_times_due) (C_l_name_due : Cl P w K mg base 1 "_law_name_due" ps_l_name_due d_l_name_due) (C_l_next : Cl P w K mg base 1 "_law_next" ps_l_next d_l_next) (C_l_number : Cl P w K mg base 2 "_law_number" ps_l_number d_l_number) (C_l_text : Cl P w K mg base 2 "_law_text" ps_l_text d_l_text) (C_l_feed : Cl P w K mg base 1 "_law_feed" ps_l_feed d_l_feed) : FnG P w K mg base 3 fa fd ps_law d_law :=
  fun_ok F sc_law fun cdv A outer s H E hr hgd =>
    (dss_cons (ds_asg (i := 1) (de_callC (F := d_l_feed) (ms := [false]) (C_l_feed.mono (by decide)) hr hgd rfl (takes_of rfl rfl rfl rfl) (da_cons (do_var (pv 0)) da_nil)) sc_law.nd rfl (by first | exact Or.inl rfl | exact Or.inr rfl))
    (dss_cons (ds_asg (i := 2) (de_lst (da_cons (do_d dd_non) (da_cons (do_d dd_bl) (da_cons (do_d dd_bl) (da_cons (do_d dd_int) (da_cons (do_d dd_int) (da_cons (do_d (dd_e (de_tup da_nil))) (da_cons (do_d (dd_e (de_lst da_nil))) (da_cons (do_d (dd_e (de_tup (da_cons (do_d dd_str) da_nil)))) (da_cons (do_d (dd_e (de_lst (da_cons (do_d dd_str) da_nil)))) (da_cons (do_d dd_str) (da_cons (do_d (dd_e (de_tup (da_cons (do_d dd_int) da_nil)))) (da_cons (do_d (dd_e (de_tup (da_cons (do_d dd_int) (da_cons (do_d dd_int) (da_cons (do_d dd_int) da_nil)))))) (da_cons (do_d (dd_e (de_lst (da_cons (do_d dd_int) (da_cons (do_d dd_int) da_nil))))) (da_cons (do_d (dd_e (de_tup (da_cons (do_d dd_str) (da_cons (do_d dd_int) da_nil))))) (da_cons (do_d (dd_e (de_tup (da_cons (do_d dd_int) (da_cons (do_d dd_non) da_nil))))) (da_cons (do_d (dd_e (de_tup (da_cons (do_d dd_bl) (da_cons (do_d dd_int) da_nil))))) da_nil))))))))))))))))) sc_law.nd rfl (by first | exact Or.inl rfl | exact Or.inr rfl))
    (dss_cons (ds_asg (i := 2) (de_op ok_add (do_var (pv 2)) (do_d (dd_e (de_lst (da_cons (do_d (dd_e (de_tup (da_cons (do_d dd_int) (da_cons (do_d dd_bl) da_nil))))) (da_cons (do_d (dd_e (de_tup (da_cons (do_d (dd_e (de_tup (da_cons (do_d dd_int) da_nil)))) (da_cons (do_d dd_int) da_nil))))) (da_cons (do_d (dd_e (de_tup (da_cons (do_d dd_int) (da_cons (do_d (dd_e (de_tup (da_cons (do_d dd_int) da_nil)))) da_nil))))) (da_cons (do_d dd_str) (da_cons (do_d (dd_e (de_tup (da_cons (do_d dd_int) (da_cons (do_d dd_str) da_nil))))) (da_cons (do_d (dd_e (de_op ok_iPow (do_d dd_int) (do_d dd_int)))) da_nil)))))))))) sc_law.nd rfl (by first | exact Or.inl rfl | exact Or.inr rfl))
    (dss_cons (ds_for (passes_of rfl) rfl (di_rng1 rfl B.range (da_cons (do_d dd_int) da_nil)) (dg_name (i := 3) sc_law.nd rfl (by first | exact Or.inl rfl | exact Or.inr rfl)) (dss_cons (ds_asg (i := 4) (de_callC (F := d_l_text) (ms := [true]) (C_l_text.mono (by decide)) hr hgd rfl (takes_of rfl rfl rfl rfl) (da_cons (do_var (pv 1)) da_nil)) sc_law.nd rfl (by first | exact Or.inl rfl | exact Or.inr rfl))
    (dss_cons (ds_asg (i := 5) (de_callC (F := d_l_number) (ms := [true]) (C_l_number.mono (by decide)) hr hgd rfl (takes_of rfl rfl rfl rfl) (da_cons (do_var (pv 1)) da_nil)) sc_law.nd rfl (by first | exact Or.inl rfl | exact Or.inr rfl))
    (dss_cons (ds_asg (i := 6) (de_tup (da_cons (do_var (pv 5)) (da_cons (do_d (dd_e (de_item hr.units (do_d (dd_e (de_lst (da_cons (do_var (pv 5)) (da_cons (do_d (dd_e (de_callC (F := d_l_number) (ms := [true]) (C_l_number.mono (by decide)) hr hgd rfl (takes_of rfl rfl rfl rfl) (da_cons (do_var (pv 1)) da_nil)))) da_nil))))) (do_d (dd_e (de_callT ok_int (by rfl) B.int (by decide +kernel) (da_cons (do_d (dd_e (de_cmp ok_gt (do_d (dd_e (de_callC (F := d_l_next) (ms := [true, false]) (C_l_next.mono (by decide)) hr hgd rfl (takes_of rfl rfl rfl rfl) (da_cons (do_var (pv 1)) (da_cons (do_d dd_int) da_nil))))) (do_d dd_int) (nomark _)))) da_nil)))) (fun _ _ => rfl) (fun _ _ => rfl)))) da_nil))) sc_law.nd rfl (by first | exact Or.inl rfl | exact Or.inr rfl))
    (dss_cons (ds_asg (i := 7) (de_item hr.units (do_var (pv 2)) (do_d (dd_e (de_callC (F := d_l_next) (ms := [true, false]) (C_l_next.mono (by decide)) hr hgd rfl (takes_of rfl rfl rfl rfl) (da_cons (do_var (pv 1)) (da_cons (do_d (dd_e (de_callB ok_len (by rfl) B.len (by decide +kernel) (da_cons (do_var (pv 2)) da_nil)))) da_nil))))) (fun _ _ => rfl) (fun _ _ => rfl)) sc_law.nd rfl (by first | exact Or.inl rfl | exact Or.inr rfl))
    (dss_one (ds_for (passes_of rfl) rfl (di_d (dd_e (de_lst (da_cons (do_var (pv 4)) (da_cons (do_var (pv 6)) (da_cons (do_d (dd_e (de_callT ok_list (by rfl) B.list (by decide +kernel) (da_cons (do_var (pv 6)) da_nil)))) (da_cons (do_d (dd_e (de_tup (da_cons (do_d (dd_e (de_item hr.units (do_var (pv 6)) (do_d dd_int) (fun _ _ => rfl) (fun _ _ => rfl)))) (da_cons (do_d (dd_e (de_item hr.units (do_var (pv 6)) (do_d dd_int) (fun _ _ => rfl) (fun _ _ => rfl)))) da_nil))))) (da_cons (do_d (dd_e (de_op ok_add (do_var (pv 6)) (do_d (dd_e (de_tup (da_cons (do_d dd_int) da_nil))))))) (da_cons (do_var (pv 7)) (da_cons (do_d (dd_e (de_tup (da_cons (do_var (pv 7)) (da_cons (do_var (pv 5)) da_nil))))) (da_cons (do_d (dd_e (de_tup (da_cons (do_var (pv 5)) (da_cons (do_var (pv 7)) da_nil))))) da_nil))))))))))) (dg_name (i := 8) sc_law.nd rfl (by first | exact Or.inl rfl | exact Or.inr rfl)) (dss_cons (ds_if (dt_not (dt_tru (dd_e (de_callC (F := d_l_told) (ms := [false, false]) (C_l_told.mono (by decide)) hr hgd rfl (takes_of rfl rfl rfl rfl) (da_cons (do_d (dd_e (de_callC (F := d_is_name) (ms := [false]) (C_is_name.mono (by decide)) hr hgd rfl (takes_of rfl rfl rfl rfl) (da_cons (do_var (pv 8)) da_nil)))) (da_cons (do_d (dd_e (de_callC (F := d_l_name_due) (ms := [false]) (C_l_name_due.mono (by decide)) hr hgd rfl (takes_of rfl rfl rfl rfl) (da_cons (do_var (pv 8)) da_nil)))) da_nil)))))) (dss_one (ds_ret (de_d dd_bl))) dss_nil)
    (dss_one (ds_if (dt_not (dt_tru (dd_e (de_callC (F := d_l_told) (ms := [false, false]) (C_l_told.mono (by decide)) hr hgd rfl (takes_of rfl rfl rfl rfl) (da_cons (do_d (dd_e (de_callC (F := d_is_times) (ms := [false]) (C_is_times.mono (by decide)) hr hgd rfl (takes_of rfl rfl rfl rfl) (da_cons (do_var (pv 8)) da_nil)))) (da_cons (do_d (dd_e (de_callC (F := d_l_times_due) (ms := [false]) (C_l_times_due.mono (by decide)) hr hgd rfl (takes_of rfl rfl rfl rfl) (da_cons (do_var (pv 8)) da_nil)))) da_nil)))))) (dss_one (ds_ret (de_d dd_bl))) dss_nil))))))))))
    (dss_one (ds_ret (de_d (dd_and (dd_e (de_callC (F := d_l_told) (ms := [false, false]) (C_l_told.mono (by decide)) hr hgd rfl (takes_of rfl rfl rfl rfl) (da_cons (do_d (dd_e (de_callC (F := d_is_name) (ms := [false]) (C_is_name.mono (by decide)) hr hgd rfl (takes_of rfl rfl rfl rfl) (da_cons (do_d dd_str) da_nil)))) (da_cons (do_d dd_bl) da_nil)))) (dd_one (dd_e (de_callC (F := d_l_told) (ms := [false, false]) (C_l_told.mono (by decide)) hr hgd rfl (takes_of rfl rfl rfl rfl) (da_cons (do_d (dd_e (de_callC (F := d_is_times) (ms := [false]) (C_is_times.mono (by decide)) hr hgd rfl (takes_of rfl rfl rfl rfl) (da_cons (do_d (dd_e (de_tup (da_cons (do_d (dd_e (de_op ok_iPow (do_d dd_int) (do_d dd_int)))) (da_cons (do_d dd_int) da_nil))))) da_nil)))) (da_cons (do_d dd_bl) da_nil)))))))))))))
theorem all_mk {l : PySem.W.OpenLaw} {w : World} {K : KF} {h : Heap} {mg : MG} {fa : Addr} (X : K.In h) (G : h.Ns mainGlobals mg) (hfa : mg "law" = some (.ref fa))
    {od0 an0 : Option Addr} {sl0 : Array (Option Value)} {oc0 kV0 dc0 pm0 cd0 ct0 : Value} {f0 : Addr}
    {od1 an1 : Option Addr} {sl1 : Array (Option Value)} {oc1 kV1 dc1 pm1 cd1 ct1 : Value} {f1 : Addr}
    {od2 an2 : Option Addr} {sl2 : Array (Option Value)} {oc2 kV2 dc2 pm2 cd2 ct2 : Value} {f2 : Addr}
    {od3 an3 : Option Addr} {sl3 : Array (Option Value)} {oc3 kV3 dc3 pm3 cd3 ct3 : Value} {f3 : Addr}
    {od4 an4 : Option Addr} {sl4 : Array (Option Value)} {oc4 kV4 dc4 pm4 cd4 ct4 : Value} {f4 : Addr}
    {od5 an5 : Option Addr} {sl5 : Array (Option Value)} {oc5 kV5 dc5 pm5 cd5 ct5 : Value} {f5 : Addr}
    {od6 an6 : Option Addr} {sl6 : Array (Option Value)} {oc6 kV6 dc6 pm6 cd6 ct6 : Value} {f6 : Addr}
    {od7 an7 : Option Addr} {sl7 : Array (Option Value)} {oc7 kV7 dc7 pm7 cd7 ct7 : Value} {f7 : Addr}
    {od8 an8 : Option Addr} {sl8 : Array (Option Value)} {oc8 kV8 dc8 pm8 cd8 ct8 : Value} {f8 : Addr}
    {od9 an9 : Option Addr} {sl9 : Array (Option Value)} {oc9 kV9 dc9 pm9 cd9 ct9 : Value} {f9 : Addr}
    {od10 an10 : Option Addr} {sl10 : Array (Option Value)} {oc10 kV10 dc10 pm10 cd10 ct10 : Value} {f10 : Addr}
    {od11 an11 : Option Addr} {sl11 : Array (Option Value)} {oc11 kV11 dc11 pm11 cd11 ct11 : Value} {f11 : Addr}
    (a0 : PySem.W.nsIn K mainGlobals "is_whole" = some (some (.ref f0))) (l0 : K.lookup f0 = some ⟨oc0, od0, .func (PySem.W.fnOf "is_whole" "is_whole" (defArgs st_is_whole) (defBody st_is_whole) (defScope st_is_whole) .none kV0 dc0 pm0 an0 cd0 ct0), sl0⟩) (c0 : PySem.W.codeIn K cd0 "is_whole" = true) (k0 : PySem.W.keepIn K (.ref f0) = true)
    (a1 : PySem.W.nsIn K mainGlobals "is_name" = some (some (.ref f1))) (l1 : K.lookup f1 = some ⟨oc1, od1, .func (PySem.W.fnOf "is_name" "is_name" (defArgs st_is_name) (defBody st_is_name) (defScope st_is_name) .none kV1 dc1 pm1 an1 cd1 ct1), sl1⟩) (c1 : PySem.W.codeIn K cd1 "is_name" = true) (k1 : PySem.W.keepIn K (.ref f1) = true)
    (a2 : PySem.W.nsIn K mainGlobals "is_times" = some (some (.ref f2))) (l2 : K.lookup f2 = some ⟨oc2, od2, .func (PySem.W.fnOf "is_times" "is_times" (defArgs st_is_times) (defBody st_is_times) (defScope st_is_times) .none kV2 dc2 pm2 an2 cd2 ct2), sl2⟩) (c2 : PySem.W.codeIn K cd2 "is_times" = true) (k2 : PySem.W.keepIn K (.ref f2) = true)
    (a3 : PySem.W.nsIn K mainGlobals "_law_feed" = some (some (.ref f3))) (l3 : K.lookup f3 = some ⟨oc3, od3, .func (PySem.W.fnOf "_law_feed" "_law_feed" (defArgs st_l_feed) (defBody st_l_feed) (defScope st_l_feed) .none kV3 dc3 pm3 an3 cd3 ct3), sl3⟩) (c3 : PySem.W.codeIn K cd3 "_law_feed" = true) (k3 : PySem.W.keepIn K (.ref f3) = true)
    (a4 : PySem.W.nsIn K mainGlobals "_law_next" = some (some (.ref f4))) (l4 : K.lookup f4 = some ⟨oc4, od4, .func (PySem.W.fnOf "_law_next" "_law_next" (defArgs st_l_next) (defBody st_l_next) (defScope st_l_next) .none kV4 dc4 pm4 an4 cd4 ct4), sl4⟩) (c4 : PySem.W.codeIn K cd4 "_law_next" = true) (k4 : PySem.W.keepIn K (.ref f4) = true)
    (a5 : PySem.W.nsIn K mainGlobals "_law_whole" = some (some (.ref f5))) (l5 : K.lookup f5 = some ⟨oc5, od5, .func (PySem.W.fnOf "_law_whole" "_law_whole" (defArgs st_l_whole) (defBody st_l_whole) (defScope st_l_whole) .none kV5 dc5 pm5 an5 cd5 ct5), sl5⟩) (c5 : PySem.W.codeIn K cd5 "_law_whole" = true) (k5 : PySem.W.keepIn K (.ref f5) = true)
    (a6 : PySem.W.nsIn K mainGlobals "_law_text" = some (some (.ref f6))) (l6 : K.lookup f6 = some ⟨oc6, od6, .func (PySem.W.fnOf "_law_text" "_law_text" (defArgs st_l_text) (defBody st_l_text) (defScope st_l_text) .none kV6 dc6 pm6 an6 cd6 ct6), sl6⟩) (c6 : PySem.W.codeIn K cd6 "_law_text" = true) (k6 : PySem.W.keepIn K (.ref f6) = true)
    (a7 : PySem.W.nsIn K mainGlobals "_law_number" = some (some (.ref f7))) (l7 : K.lookup f7 = some ⟨oc7, od7, .func (PySem.W.fnOf "_law_number" "_law_number" (defArgs st_l_number) (defBody st_l_number) (defScope st_l_number) .none kV7 dc7 pm7 an7 cd7 ct7), sl7⟩) (c7 : PySem.W.codeIn K cd7 "_law_number" = true) (k7 : PySem.W.keepIn K (.ref f7) = true)
    (a8 : PySem.W.nsIn K mainGlobals "_law_told" = some (some (.ref f8))) (l8 : K.lookup f8 = some ⟨oc8, od8, .func (PySem.W.fnOf "_law_told" "_law_told" (defArgs st_l_told) (defBody st_l_told) (defScope st_l_told) .none kV8 dc8 pm8 an8 cd8 ct8), sl8⟩) (c8 : PySem.W.codeIn K cd8 "_law_told" = true) (k8 : PySem.W.keepIn K (.ref f8) = true)
    (a9 : PySem.W.nsIn K mainGlobals "_law_name_due" = some (some (.ref f9))) (l9 : K.lookup f9 = some ⟨oc9, od9, .func (PySem.W.fnOf "_law_name_due" "_law_name_due" (defArgs st_l_name_due) (defBody st_l_name_due) (defScope st_l_name_due) .none kV9 dc9 pm9 an9 cd9 ct9), sl9⟩) (c9 : PySem.W.codeIn K cd9 "_law_name_due" = true) (k9 : PySem.W.keepIn K (.ref f9) = true)
    (a10 : PySem.W.nsIn K mainGlobals "_law_times_due" = some (some (.ref f10))) (l10 : K.lookup f10 = some ⟨oc10, od10, .func (PySem.W.fnOf "_law_times_due" "_law_times_due" (defArgs st_l_times_due) (defBody st_l_times_due) (defScope st_l_times_due) .none kV10 dc10 pm10 an10 cd10 ct10), sl10⟩) (c10 : PySem.W.codeIn K cd10 "_law_times_due" = true) (k10 : PySem.W.keepIn K (.ref f10) = true)
    (a11 : PySem.W.nsIn K mainGlobals "law" = some (some (.ref f11))) (l11 : K.lookup f11 = some ⟨oc11, od11, .func (PySem.W.fnOf "law" "law" (defArgs st_law) (defBody st_law) (defScope st_law) .none kV11 dc11 pm11 an11 cd11 ct11), sl11⟩) (c11 : PySem.W.codeIn K cd11 "law" = true) (k11 : PySem.W.keepIn K (.ref f11) = true)
    (z_len : PySem.W.nsIn K mainGlobals "len" = some none) (z_isinstance : PySem.W.nsIn K mainGlobals "isinstance" = some none) (z_list : PySem.W.nsIn K mainGlobals "list" = some none) (z_tuple : PySem.W.nsIn K mainGlobals "tuple" = some none) (z_abs : PySem.W.nsIn K mainGlobals "abs" = some none) (z_all : PySem.W.nsIn K mainGlobals "all" = some none) (z_sum : PySem.W.nsIn K mainGlobals "sum" = some none) (z_max : PySem.W.nsIn K mainGlobals "max" = some none) (z_min : PySem.W.nsIn K mainGlobals "min" = some none) (z_int : PySem.W.nsIn K mainGlobals "int" = some none) (z_bool : PySem.W.nsIn K mainGlobals "bool" = some none) (z_str : PySem.W.nsIn K mainGlobals "str" = some none) (z_repr : PySem.W.nsIn K mainGlobals "repr" = some none) (z_sorted : PySem.W.nsIn K mainGlobals "sorted" = some none) (z_dict : PySem.W.nsIn K mainGlobals "dict" = some none) (z_set : PySem.W.nsIn K mainGlobals "set" = some none) (z_range : PySem.W.nsIn K mainGlobals "range" = some none) (z_enumerate : PySem.W.nsIn K mainGlobals "enumerate" = some none) (z_zip : PySem.W.nsIn K mainGlobals "zip" = some none) (z_reversed : PySem.W.nsIn K mainGlobals "reversed" = some none)
    {tk_LETTERS : Tok} (v_LETTERS : PySem.W.nsIn K mainGlobals "LETTERS" = some (some (.str "abcdefghijklmnopqrstuvwxyz" tk_LETTERS)))
    {tk_LONGEST_NAME : Tok} (v_LONGEST_NAME : PySem.W.nsIn K mainGlobals "LONGEST_NAME" = some (some (.int (8) tk_LONGEST_NAME)))
    {tk_GREATEST : Tok} (v_GREATEST : PySem.W.nsIn K mainGlobals "GREATEST" = some (some (.int (1000000) tk_GREATEST))) :
    ∃ fd : FuncData, (∀ (s : Shared) (u : Value), BindsTo s fd ⟨[u], []⟩ [("_law_script", u)]) ∧ ∀ base : Heap, K.In base → base.Ns mainGlobals mg → FnG l.prog w K mg base 3 fa fd ["_law_script"] d_law := by
  have e := hfa.symm.trans (PySem.W.mg_of X G a11)
  cases e
  have B : Blt mg := ⟨PySem.W.mg_none_of X G z_len, PySem.W.mg_none_of X G z_isinstance, PySem.W.mg_none_of X G z_list, PySem.W.mg_none_of X G z_tuple, PySem.W.mg_none_of X G z_abs, PySem.W.mg_none_of X G z_all, PySem.W.mg_none_of X G z_sum, PySem.W.mg_none_of X G z_max, PySem.W.mg_none_of X G z_min, PySem.W.mg_none_of X G z_int, PySem.W.mg_none_of X G z_bool, PySem.W.mg_none_of X G z_str, PySem.W.mg_none_of X G z_repr, PySem.W.mg_none_of X G z_sorted, PySem.W.mg_none_of X G z_dict, PySem.W.mg_none_of X G z_set, PySem.W.mg_none_of X G z_range, PySem.W.mg_none_of X G z_enumerate, PySem.W.mg_none_of X G z_zip, PySem.W.mg_none_of X G z_reversed⟩
  have c_LETTERS := (⟨tk_LETTERS, PySem.W.mg_of X G v_LETTERS⟩ : ∃ t, mg "LETTERS" = some (.str "abcdefghijklmnopqrstuvwxyz" t))
  have c_LONGEST_NAME := (⟨tk_LONGEST_NAME, PySem.W.mg_of X G v_LONGEST_NAME⟩ : ∃ t, mg "LONGEST_NAME" = some (.int (8) t))
  have c_GREATEST := (⟨tk_GREATEST, PySem.W.mg_of X G v_GREATEST⟩ : ∃ t, mg "GREATEST" = some (.int (1000000) t))
  refine ⟨PySem.W.fnOf "law" "law" (defArgs st_law) (defBody st_law) (defScope st_law) .none kV11 dc11 pm11 an11 cd11 ct11, fun s v => .of_eq rfl, fun base _ _ => ?_⟩
  have F_is_whole := fun_mk (st := st_is_whole) l0 c0 k0
  have C_is_whole : Cl l.prog w K mg base 1 "is_whole" ps_is_whole d_is_whole := ⟨_, _, ok_is_whole B F_is_whole, PySem.W.mg_of X G a0, k0, F_is_whole.binds (ps := ps_is_whole) fun _ _ _ _ _ _ us hl => match us, hl with | [_, _, _], _ => rfl⟩
  have F_is_name := fun_mk (st := st_is_name) l1 c1 k1
  have C_is_name : Cl l.prog w K mg base 1 "is_name" ps_is_name d_is_name := ⟨_, _, ok_is_name B F_is_name c_LETTERS c_LONGEST_NAME, PySem.W.mg_of X G a1, k1, F_is_name.binds (ps := ps_is_name) fun _ _ _ _ _ _ us hl => match us, hl with | [_], _ => rfl⟩
  have F_l_feed := fun_mk (st := st_l_feed) l3 c3 k3
  have C_l_feed : Cl l.prog w K mg base 1 "_law_feed" ps_l_feed d_l_feed := ⟨_, _, ok_l_feed B F_l_feed, PySem.W.mg_of X G a3, k3, F_l_feed.binds (ps := ps_l_feed) fun _ _ _ _ _ _ us hl => match us, hl with | [_], _ => rfl⟩
  have F_l_next := fun_mk (st := st_l_next) l4 c4 k4
  have C_l_next : Cl l.prog w K mg base 1 "_law_next" ps_l_next d_l_next := ⟨_, _, ok_l_next B F_l_next, PySem.W.mg_of X G a4, k4, F_l_next.binds (ps := ps_l_next) fun _ _ _ _ _ _ us hl => match us, hl with | [_, _], _ => rfl⟩
  have F_l_whole := fun_mk (st := st_l_whole) l5 c5 k5
  have C_l_whole : Cl l.prog w K mg base 1 "_law_whole" ps_l_whole d_l_whole := ⟨_, _, ok_l_whole B F_l_whole, PySem.W.mg_of X G a5, k5, F_l_whole.binds (ps := ps_l_whole) fun _ _ _ _ _ _ us hl => match us, hl with | [_, _, _], _ => rfl⟩
  have F_l_told := fun_mk (st := st_l_told) l8 c8 k8
  have C_l_told : Cl l.prog w K mg base 1 "_law_told" ps_l_told d_l_told := ⟨_, _, ok_l_told B F_l_told, PySem.W.mg_of X G a8, k8, F_l_told.binds (ps := ps_l_told) fun _ _ _ _ _ _ us hl => match us, hl with | [_, _], _ => rfl⟩
  have F_l_name_due := fun_mk (st := st_l_name_due) l9 c9 k9
  have C_l_name_due : Cl l.prog w K mg base 1 "_law_name_due" ps_l_name_due d_l_name_due := ⟨_, _, ok_l_name_due B F_l_name_due, PySem.W.mg_of X G a9, k9, F_l_name_due.binds (ps := ps_l_name_due) fun _ _ _ _ _ _ us hl => match us, hl with | [_], _ => rfl⟩
  have F_is_times := fun_mk (st := st_is_times) l2 c2 k2
  have C_is_times : Cl l.prog w K mg base 2 "is_times" ps_is_times d_is_times := ⟨_, _, ok_is_times B F_is_times C_is_whole c_GREATEST, PySem.W.mg_of X G a2, k2, F_is_times.binds (ps := ps_is_times) fun _ _ _ _ _ _ us hl => match us, hl with | [_], _ => rfl⟩
  have F_l_text := fun_mk (st := st_l_text) l6 c6 k6
  have C_l_text : Cl l.prog w K mg base 2 "_law_text" ps_l_text d_l_text := ⟨_, _, ok_l_text B F_l_text C_l_next, PySem.W.mg_of X G a6, k6, F_l_text.binds (ps := ps_l_text) fun _ _ _ _ _ _ us hl => match us, hl with | [_], _ => rfl⟩
  have F_l_number := fun_mk (st := st_l_number) l7 c7 k7
  have C_l_number : Cl l.prog w K mg base 2 "_law_number" ps_l_number d_l_number := ⟨_, _, ok_l_number B F_l_number C_l_next, PySem.W.mg_of X G a7, k7, F_l_number.binds (ps := ps_l_number) fun _ _ _ _ _ _ us hl => match us, hl with | [_], _ => rfl⟩
  have F_l_times_due := fun_mk (st := st_l_times_due) l10 c10 k10
  have C_l_times_due : Cl l.prog w K mg base 2 "_law_times_due" ps_l_times_due d_l_times_due := ⟨_, _, ok_l_times_due B F_l_times_due C_l_whole, PySem.W.mg_of X G a10, k10, F_l_times_due.binds (ps := ps_l_times_due) fun _ _ _ _ _ _ us hl => match us, hl with | [_], _ => rfl⟩
  have F_law := fun_mk (st := st_law) l11 c11 k11
  exact ok_law (P := l.prog) (w := w) (base := base) B F_law C_l_told C_is_name C_is_times C_l_times_due C_l_name_due C_l_next C_l_number C_l_text C_l_feed
end G
namespace G
open PySem L2 DL
/-- a feed -/
def Feed (n : Nat) (m : MO) : Prop := ∃ (cells : List Int) (at' rest : Int), m = .lst [.list (cells.map PyData.int), .int at', .int rest] ∧ 0 ≤ at' ∧ at' ≤ n ∧ 0 ≤ rest
theorem Feed.mono {n k : Nat} {m : MO} (h : Feed n m) (l : n ≤ k) : Feed k m := by
  obtain ⟨c, a, r, e, h1, h2, h3⟩ := h
  exact ⟨c, a, r, e, h1, by omega, h3⟩
theorem next_spec {n : Nat} {m : MO} {many : Int} {P : S → List S → Prop} {E : Exc → List S → Prop} (hf : Feed n m) (hn : n < 2 ^ 100) (h0 : 0 < many) (h1 : many < 2 ^ 250)
    (h : ∀ v m', 0 ≤ v → v < many → Feed (n + 1) m' → P (.d (.int v)) [.own true m', .d (.int many)]) : Wf d_l_next [.own true m, .d (.int many)] P E := by
  obtain ⟨cells, at', rest, rfl, a0, a1, r0⟩ := hf
  have hm0 : many ≠ 0 := by omega
  have hma : many.natAbs < 2 ^ 256 := by omega
  have b1 : at'.natAbs < 2 ^ 256 := by omega
  have b2 : (41 * at').natAbs < 2 ^ 256 := by omega
  have sq : 0 ≤ at' * at' ∧ at' * at' ≤ 2 ^ 200 := ⟨Int.mul_nonneg a0 a0, by
    have := Int.mul_le_mul (a := at') (b := at') (c := 2 ^ 100) (d := 2 ^ 100) (by omega) (by omega) (by omega) (by omega)
    omega⟩
  have big : ∀ x : Int, 0 ≤ x → x ≤ 2 ^ 240 → (x + 41 * at' * at' + 17 * at' + 3).natAbs < 2 ^ 256 := fun x y z => by
    rw [Int.mul_assoc 41]
    generalize at' * at' = q at *
    omega
  have fin : ∀ f : Int, ((f % 999917 + 8111 * at')).natAbs < 2 ^ 256 := fun f => by
    have e1 := Int.emod_nonneg f (b := 999917) (by omega)
    have e2 := Int.emod_lt_of_pos f (b := 999917) (by omega)
    omega
  have done : ∀ (x : Int) (a r : Int), 0 ≤ a → a ≤ n + 1 → 0 ≤ r → P (.d (.int (x % many))) [.own true (.lst [.list (cells.map PyData.int), .int a, .int r]), .d (.int many)] := fun x a r ha hb hr =>
    h _ _ (Int.emod_nonneg x hm0) (Int.emod_lt_of_pos x h0) ⟨cells, a, r, rfl, ha, by omega, hr⟩
  unfold d_l_next
  rw [wf_runB]
  refine ⟨rfl, ?_⟩
  unfold g_l_next
  by_cases hr : 0 < rest
  · simp [hr]
    exact ⟨h0, ⟨h0, hma⟩, done _ _ _ a0 (by omega) (Int.ediv_nonneg r0 (by omega))⟩
  · by_cases hc : cells = []
    · subst hc
      simp [hr]
      have b3 := big 0 (by omega) (by omega)
      rw [Int.zero_add] at b3
      exact ⟨b1, ⟨b2, b1⟩, b1, b3, b1, fin _, h0, done _ _ _ (by omega) (by omega) r0⟩
    · have hl : 0 < cells.length := List.length_pos_iff.mpr hc
      have he : cells.isEmpty = false := by simp [hc]
      obtain ⟨c, e1, e2, _⟩ := at_of (xs := cells.map PyData.int) (i := at' % cells.length) (Int.emod_nonneg _ (by omega)) (by rw [List.length_map]; exact Int.emod_lt_of_pos _ (by omega))
      obtain ⟨ci, _, rfl⟩ := List.mem_map.mp e2
      have hm1 : 0 ≤ ci % 1000003 := Int.emod_nonneg _ (by omega)
      have hm2 : ci % 1000003 < 1000003 := Int.emod_lt_of_pos _ (by omega)
      have b3 := big (ci % 1000003) (by omega) (by omega)
      by_cases h18 : 1000000000000000000 ≤ ci
      · by_cases hal : at' < cells.length
        · simp [hr, hc, he, hl, e1, h18, hal]
          exact ⟨⟨h0, hma⟩, h0, done _ _ _ (by omega) (by omega) (Int.ediv_nonneg (by omega) (by omega))⟩
        · simp [hr, hc, he, hl, e1, h18, hal]
          exact ⟨b1, ⟨b2, b1⟩, b1, b3, b1, fin _, h0, done _ _ _ (by omega) (by omega) r0⟩
      · simp [hr, hc, he, hl, e1, h18]
        exact ⟨b1, ⟨b2, b1⟩, b1, b3, b1, fin _, h0, done _ _ _ (by omega) (by omega) r0⟩
theorem feed_spec {ns : List Int} {P : S → List S → Prop} {E : Exc → List S → Prop} (h : ∀ m, Feed 0 m → P (.own false m) [.d (.list (ns.map PyData.int))]) : Wf d_l_feed [.d (.list (ns.map PyData.int))] P E := by
  unfold d_l_feed
  rw [wf_runB]
  refine ⟨rfl, ?_⟩
  unfold g_l_feed
  simp
  refine h _ ⟨ns.take 63, 0, 0, ?_, by omega, by omega, by omega⟩
  unfold cutD
  simp [HT.sIx, List.map_take]
def nameB : D → Bool
  | .str z => decide (1 ≤ z.length) && decide (z.length ≤ 8) && z.cps.toList.all fun c => hasSub ⟨#[c]⟩ "abcdefghijklmnopqrstuvwxyz"
  | _ => false
def wholeB (d : D) (lo hi : Int) : Bool := match d with
  | .int i => decide (lo ≤ i) && decide (i ≤ hi)
  | _ => false
def timesB : D → Bool
  | .tuple [a, b] => (wholeB a 1 1000000 && wholeB b 1 1000000) && (match a, b with
    | .int i, .int j => decide (j ≤ i)
    | _, _ => false)
  | _ => false
theorem is_name_spec {d : D} {P : S → List S → Prop} {E : Exc → List S → Prop} (hd : ∀ z, d = .str z → z.length ≤ 1000) (h : P (.d (.bool (nameB d))) [.d d]) : Wf d_is_name [.d d] P E := by
  unfold d_is_name
  rw [wf_runB]
  refine ⟨rfl, ?_⟩
  unfold g_is_name
  cases d with
  | str z =>
    have hz := hd z rfl
    have go : ∀ b : Bool, nameB (.str z) = b → P (.d (.bool b)) [.d (.str z)] := fun b e => by rw [← e]; exact h
    by_cases h1 : 1 ≤ z.length
    · by_cases h2 : z.length ≤ 8
      · have i1 : (1 : Int) ≤ z.length := by omega
        have i2 : (0 : Int) < z.length := by omega
        have i3 : (z.length : Int) ≤ 8 := by omega
        have i4 : (z.length : Int) < 9 := by omega
        have i5 : 0 < z.length := by omega
        have i6 : z.length < 9 := by omega
        simp [i1, i2, i3, i4, i5, i6, h1, h2]
        repeat (refine ⟨by omega, ?_⟩)
        refine wc_map (fun d => .bool (match d with
          | .str a => hasSub a "abcdefghijklmnopqrstuvwxyz"
          | _ => false)) (fun d hd => ?_) ?_
        · obtain ⟨c, rfl, _⟩ := sign_mem hd
          simp
        · have e : (signs z).map (fun d => PyData.bool (match d with
            | .str a => hasSub a "abcdefghijklmnopqrstuvwxyz"
            | _ => false)) = z.cps.toList.map fun c => PyData.bool (hasSub ⟨#[c]⟩ "abcdefghijklmnopqrstuvwxyz") := by simp [signs]
          rw [e]
          simp [bools_map]
          exact go _ (by simp [nameB, h1, h2])
      · have i1 : (1 : Int) ≤ z.length := by omega
        have i2 : (0 : Int) < z.length := by omega
        have i3 : ¬ (z.length : Int) ≤ 8 := by omega
        have i4 : ¬ (z.length : Int) < 9 := by omega
        have i5 : 0 < z.length := by omega
        have i6 : ¬ z.length < 9 := by omega
        simp [i1, i2, i3, i4, i5, i6, h1, h2]
        repeat (refine ⟨by omega, ?_⟩)
        exact go _ (by simp [nameB, h2])
    · have i1 : ¬ (1 : Int) ≤ z.length := by omega
      have i2 : ¬ (0 : Int) < z.length := by omega
      have i5 : ¬ 0 < z.length := by omega
      simp [i1, i2, i5, h1]
      repeat (refine ⟨by omega, ?_⟩)
      exact go _ (by simp [nameB, h1])
  | none => simp; exact h
  | bool b => simp; exact h
  | int i => simp; exact h
  | list xs => simp; exact h
  | tuple xs => simp; exact h
  | dict xs => simp; exact h
theorem l_name_due_spec {d : D} {P : S → List S → Prop} {E : Exc → List S → Prop} (hd : ∀ z, d = .str z → z.length ≤ 1000) (h : P (.d (.bool (nameB d))) [.d d]) : Wf d_l_name_due [.d d] P E := by
  unfold d_l_name_due
  rw [wf_runB]
  refine ⟨rfl, ?_⟩
  unfold g_l_name_due
  cases d with
  | str z =>
    have hz := hd z rfl
    have go : ∀ b : Bool, nameB (.str z) = b → P (.d (.bool b)) [.d (.str z)] := fun b e => by rw [← e]; exact h
    by_cases h1 : 1 ≤ z.length
    · by_cases h2 : z.length ≤ 8
      · have i1 : (1 : Int) ≤ z.length := by omega
        have i2 : (0 : Int) < z.length := by omega
        have i3 : (z.length : Int) ≤ 8 := by omega
        have i4 : (z.length : Int) < 9 := by omega
        have i5 : 0 < z.length := by omega
        have i6 : z.length < 9 := by omega
        simp [i1, i2, i3, i4, i5, i6, h1, h2]
        repeat (refine ⟨by omega, ?_⟩)
        refine wc_map (fun d => .bool (match d with
          | .str a => hasSub a "abcdefghijklmnopqrstuvwxyz"
          | _ => false)) (fun d hd => ?_) ?_
        · obtain ⟨c, rfl, _⟩ := sign_mem hd
          simp
        · have e : (signs z).map (fun d => PyData.bool (match d with
            | .str a => hasSub a "abcdefghijklmnopqrstuvwxyz"
            | _ => false)) = z.cps.toList.map fun c => PyData.bool (hasSub ⟨#[c]⟩ "abcdefghijklmnopqrstuvwxyz") := by simp [signs]
          rw [e]
          simp [bools_map]
          exact go _ (by simp [nameB, h1, h2])
      · have i1 : (1 : Int) ≤ z.length := by omega
        have i2 : (0 : Int) < z.length := by omega
        have i3 : ¬ (z.length : Int) ≤ 8 := by omega
        have i4 : ¬ (z.length : Int) < 9 := by omega
        have i5 : 0 < z.length := by omega
        have i6 : ¬ z.length < 9 := by omega
        simp [i1, i2, i3, i4, i5, i6, h1, h2]
        repeat (refine ⟨by omega, ?_⟩)
        exact go _ (by simp [nameB, h2])
    · have i1 : ¬ (1 : Int) ≤ z.length := by omega
      have i2 : ¬ (0 : Int) < z.length := by omega
      have i5 : ¬ 0 < z.length := by omega
      simp [i1, i2, i5, h1]
      repeat (refine ⟨by omega, ?_⟩)
      exact go _ (by simp [nameB, h1])
  | none => simp; exact h
  | bool b => simp; exact h
  | int i => simp; exact h
  | list xs => simp; exact h
  | tuple xs => simp; exact h
  | dict xs => simp; exact h
theorem is_whole_spec {d : D} {lo hi : Int} {P : S → List S → Prop} {E : Exc → List S → Prop} (h : P (.d (.bool (wholeB d lo hi))) [.d d, .d (.int lo), .d (.int hi)]) : Wf d_is_whole [.d d, .d (.int lo), .d (.int hi)] P E := by
  unfold d_is_whole
  rw [wf_runB]
  refine ⟨rfl, ?_⟩
  unfold g_is_whole
  cases d with
  | int i =>
    by_cases h1 : lo ≤ i
    · simp [h1]
      have e : wholeB (.int i) lo hi = decide (i ≤ hi) := by simp [wholeB, h1]
      rw [e] at h
      exact h
    · simp [h1]
      have e : wholeB (.int i) lo hi = false := by simp [wholeB, h1]
      rw [e] at h
      exact h
  | none => simp; exact h
  | bool b => simp; exact h
  | str i => simp; exact h
  | list xs => simp; exact h
  | tuple xs => simp; exact h
  | dict xs => simp; exact h
theorem l_whole_spec {d : D} {lo hi : Int} {P : S → List S → Prop} {E : Exc → List S → Prop} (h : P (.d (.bool (wholeB d lo hi))) [.d d, .d (.int lo), .d (.int hi)]) : Wf d_l_whole [.d d, .d (.int lo), .d (.int hi)] P E := by
  unfold d_l_whole
  rw [wf_runB]
  refine ⟨rfl, ?_⟩
  unfold g_l_whole
  cases d with
  | int i =>
    by_cases h1 : lo ≤ i
    · simp [h1]
      have e : wholeB (.int i) lo hi = decide (i ≤ hi) := by simp [wholeB, h1]
      rw [e] at h
      exact h
    · simp [h1]
      have e : wholeB (.int i) lo hi = false := by simp [wholeB, h1]
      rw [e] at h
      exact h
  | none => simp; exact h
  | bool b => simp; exact h
  | str i => simp; exact h
  | list xs => simp; exact h
  | tuple xs => simp; exact h
  | dict xs => simp; exact h
theorem is_times_spec {d : D} {P : S → List S → Prop} {E : Exc → List S → Prop} (h : P (.d (.bool (timesB d))) [.d d]) : Wf d_is_times [.d d] P E := by
  unfold d_is_times
  rw [wf_runB]
  refine ⟨rfl, ?_⟩
  unfold g_is_times
  cases d with
  | tuple xs =>
    match xs, h with
    | [], h => simp; exact h
    | [a], h => simp; exact h
    | a :: b :: c :: t, h =>
      have e : ¬ (t.length : Int) + 1 + 1 + 1 = 2 := by omega
      simp [e]
      exact h
    | [a, b], h =>
      simp
      refine is_whole_spec ?_
      simp
      refine is_whole_spec ?_
      simp
      refine Wite.mk (fun hw => ?_) fun hw => ?_
      · simp at hw
        have ha := hw.1
        have hb := hw.2
        cases a with
        | int i =>
          cases b with
          | int j =>
            simp
            have e : timesB (.tuple [.int i, .int j]) = decide (j ≤ i) := by simp [timesB, ha, hb]
            rw [e] at h
            exact h
          | _ => simp [wholeB] at hb
        | _ => simp [wholeB] at ha
      · have e : timesB (.tuple [a, b]) = false := by
          show ((wholeB a 1 1000000 && wholeB b 1 1000000) && _) = false
          rw [hw]
          rfl
        rw [e] at h
        simp
        rw [hw]
        exact h
  | none => simp; exact h
  | bool b => simp; exact h
  | int i => simp; exact h
  | str i => simp; exact h
  | list xs => simp; exact h
  | dict xs => simp; exact h
theorem l_times_due_spec {d : D} {P : S → List S → Prop} {E : Exc → List S → Prop} (h : P (.d (.bool (timesB d))) [.d d]) : Wf d_l_times_due [.d d] P E := by
  unfold d_l_times_due
  rw [wf_runB]
  refine ⟨rfl, ?_⟩
  unfold g_l_times_due
  cases d with
  | tuple xs =>
    match xs, h with
    | [], h => simp; exact h
    | [a], h => simp; exact h
    | a :: b :: c :: t, h =>
      have e : ¬ (t.length : Int) + 1 + 1 + 1 = 2 := by omega
      simp [e]
      exact h
    | [a, b], h =>
      simp
      refine l_whole_spec ?_
      simp
      refine l_whole_spec ?_
      simp
      refine Wite.mk (fun hw => ?_) fun hw => ?_
      · simp at hw
        have ha := hw.1
        have hb := hw.2
        cases a with
        | int i =>
          cases b with
          | int j =>
            simp
            have e : timesB (.tuple [.int i, .int j]) = decide (j ≤ i) := by simp [timesB, ha, hb]
            rw [e] at h
            exact h
          | _ => simp [wholeB] at hb
        | _ => simp [wholeB] at ha
      · have e : timesB (.tuple [a, b]) = false := by
          show ((wholeB a 1 1000000 && wholeB b 1 1000000) && _) = false
          rw [hw]
          rfl
        rw [e] at h
        simp
        rw [hw]
        exact h
  | none => simp; exact h
  | bool b => simp; exact h
  | int i => simp; exact h
  | str i => simp; exact h
  | list xs => simp; exact h
  | dict xs => simp; exact h
theorem told_spec {b : Bool} {P : S → List S → Prop} {E : Exc → List S → Prop} (h : P (.d (.bool true)) [.d (.bool b), .d (.bool b)]) : Wf d_l_told [.d (.bool b), .d (.bool b)] P E := by
  unfold d_l_told
  rw [wf_runB]
  refine ⟨rfl, ?_⟩
  unfold g_l_told
  simp
  exact h
theorem number_spec {n : Nat} {m : MO} {P : S → List S → Prop} {E : Exc → List S → Prop} (hf : Feed n m) (hn : n < 2 ^ 99)
    (h : ∀ (t : Int) m', Feed (n + 3) m' → P (.d (.int t)) [.own true m']) : Wf d_l_number [.own true m] P E := by
  unfold d_l_number
  rw [wf_runB]
  refine ⟨rfl, ?_⟩
  unfold g_l_number
  simp
  refine next_spec hf (by omega) (by omega) (by omega) fun v m1 v0 v1 f1 => ?_
  simp
  obtain ⟨x, e1, e2, _⟩ := at_of (xs := [PyData.int 0, .int 1, .int 2, .int 999999, .int 1000000, .int 1000001, .int (-1), .int (-1000000)]) v0 (by simpa using v1)
  have hx : ∃ i, x = .int i := by
    simp at e2
    rcases e2 with rfl | rfl | rfl | rfl | rfl | rfl | rfl | rfl <;> exact ⟨_, rfl⟩
  obtain ⟨i, rfl⟩ := hx
  simp [e1]
  refine next_spec f1 (by omega) (by omega) (by omega) fun u m2 u0 u1 f2 => ?_
  simp
  refine next_spec f2 (by omega) (by omega) (by omega) fun w m3 w0 w1 f3 => ?_
  obtain ⟨y, e3, e4, _⟩ := at_of (xs := [PyData.int i, .int i, .int u]) w0 (by simpa using w1)
  have hy : ∃ i, y = .int i := by
    simp at e4
    rcases e4 with rfl | rfl <;> exact ⟨_, rfl⟩
  obtain ⟨j, rfl⟩ := hy
  simp [e3]
  exact h _ _ f3
def Jt (n : Nat) (ys acc : List D) (r : DL.Env) : Prop := ys.length ≤ 10 ∧ acc.length + ys.length ≤ 10 ∧ (∀ d ∈ acc, ∃ c, d = .str ⟨#[c]⟩) ∧ ∃ m k, r = [some (.own true m), some (.d (.str "abcdefghijklmnopqrstuvwxyz")), some (.d (.int k)), none, none, none] ∧ 0 ≤ k ∧ k ≤ 10 ∧ Feed (n + (10 - ys.length)) m
theorem ones {acc : List D} (h : ∀ d ∈ acc, ∃ c : Nat, d = .str ⟨#[c]⟩) : ∃ l : List Str, strsD acc = some l ∧ l.length = acc.length ∧ ∀ a ∈ l, a.length = 1 := by
  induction acc with
  | nil => exact ⟨[], rfl, rfl, by simp⟩
  | cons d t ih =>
    obtain ⟨l, e1, e2, e3⟩ := ih fun x hx => h x (List.mem_cons_of_mem _ hx)
    obtain ⟨c, rfl⟩ := h d List.mem_cons_self
    refine ⟨⟨#[c]⟩ :: l, by simp [e1], by simp [e2], ?_⟩
    intro a ha
    rcases List.mem_cons.mp ha with rfl | ha
    · rfl
    · exact e3 a ha
theorem ones_sum : ∀ {l : List Str}, (∀ a ∈ l, a.length = 1) → (l.map (·.length)).sum = l.length
  | [], _ => rfl
  | a :: l, h => by
    rw [List.map_cons, List.sum_cons, h a List.mem_cons_self, ones_sum fun b hb => h b (List.mem_cons_of_mem _ hb), List.length_cons, Nat.add_comm]
theorem text_spec {n : Nat} {m : MO} {P : S → List S → Prop} {E : Exc → List S → Prop} (hf : Feed n m) (hn : n < 2 ^ 98)
    (h : ∀ (z : Str) m', z.length ≤ 100 → Feed (n + 20) m' → P (.d (.str z)) [.own true m']) : Wf d_l_text [.own true m] P E := by
  unfold d_l_text
  rw [wf_runB]
  refine ⟨rfl, ?_⟩
  unfold g_l_text
  simp
  refine next_spec hf (by omega) (by omega) (by omega) fun v m1 v0 v1 f1 => ?_
  simp
  refine next_spec f1 (by omega) (by omega) (by omega) fun u m2 u0 u1 f2 => ?_
  simp
  refine next_spec f2 (by omega) (by omega) (by omega) fun w m3 w0 w1 f3 => ?_
  obtain ⟨y, e3, e4, _⟩ := at_of (xs := [PyData.int v, .int (7 + u), .int 1]) w0 (by simpa using w1)
  have hy : ∃ i, y = .int i ∧ 0 ≤ i ∧ i ≤ 10 := by
    simp at e4
    rcases e4 with rfl | rfl | rfl
    · exact ⟨_, rfl, by omega, by omega⟩
    · exact ⟨_, rfl, by omega, by omega⟩
    · exact ⟨_, rfl, by omega, by omega⟩
  obtain ⟨k, rfl, k0, k1⟩ := hy
  simp [e3]
  refine ⟨⟨by omega, by omega⟩, by omega, ?_⟩
  refine wc_inv (Jt (n + 3)) ⟨by simp; omega, by simp; omega, by simp, _, k, rfl, k0, k1, f3.mono (by omega)⟩ ?_ ?_
  · rintro d ys acc r ⟨hl, hl2, ha, m, k, rfl, k0, k1, f⟩
    simp only [List.length_cons] at hl hl2 f
    simp
    refine next_spec f (by omega) (by omega) (by omega) fun v m1 v0 v1 f1 => ?_
    simp
    obtain ⟨c, e1, _, _⟩ := at_of (xs := ("abcdefghijklmnopqrstuvwxyz" : Str).cps.toList) v0 (by
      have : ("abcdefghijklmnopqrstuvwxyz" : Str).cps.toList.length = 26 := by decide +kernel
      omega)
    refine ⟨by decide +kernel, ?_⟩
    rw [e1]
    simp
    refine ⟨by omega, by simp; omega, fun x hx => ?_, m1, k, rfl, k0, k1, Feed.mono f1 (by omega)⟩
    rcases List.mem_append.mp hx with hx | hx
    · exact ha x hx
    · simp at hx
      exact ⟨c, hx⟩
  · rintro acc r ⟨_, hl, ha, m, k, rfl, k0, k1, f⟩
    obtain ⟨l, e1, e2, e3⟩ := ones ha
    have hs := ones_sum e3
    have hj := PySem.W.KT.join_ones l e3
    simp at hl
    simp [e1]
    have hs2 : (l.map Str.length).sum = l.length := hs
    have h0 : (Str.ofString "").length = 0 := by decide
    refine ⟨by rw [h0]; omega, ?_⟩
    generalize hz : Txt.join (Str.ofString "") l = z at hj
    refine next_spec f (by omega) (by omega) (by omega) fun v m1 v0 v1 f1 => ?_
    simp
    by_cases hv : v = 0
    · simp [hv]
      refine next_spec f1 (by omega) (by omega) (by omega) fun w m2 w0 w1 f2 => ?_
      simp
      refine ⟨by omega, ?_⟩
      refine next_spec f2 (by omega) (by omega) (by omega) fun u m3 u0 u1 f3 => ?_
      obtain ⟨y, e5, e6, _⟩ := at_of (xs := [PyData.str "A", .str "0", .str " ", .str "~", .str "Z", .str "-", .str "9"]) u0 (by simpa using u1)
      have hy : ∃ i, y = .str i ∧ i.length = 1 := by
        simp at e6
        rcases e6 with rfl | rfl | rfl | rfl | rfl | rfl | rfl <;> exact ⟨_, rfl, by decide⟩
      obtain ⟨i, rfl, hi⟩ := hy
      have c1 := cutS_length z none (some w)
      have c2 := cutS_length z (some w) none
      have c3 := Str.length_append (cutS z none (some w)) i
      have c4 := Str.length_append (cutS z none (some w) ++ i) (cutS z (some w) none)
      simp [e5]
      refine ⟨by omega, by omega, by omega, ?_⟩
      exact h _ _ (by omega) (f3.mono (by omega))
    · simp [hv]
      exact h _ _ (by omega) (f1.mono (by omega))
def oddL : List D := [.none, .bool true, .bool false, .int 0, .int 1, .tuple [], .list [], .tuple [.str "a"], .list [.str "a"], .str "", .tuple [.int 1], .tuple [.int 1, .int 1, .int 1], .list [.int 1, .int 1], .tuple [.str "a", .int 1], .tuple [.int 1, .none], .tuple [.bool true, .int 1],
  .tuple [.int 2, .bool true], .tuple [.tuple [.int 1], .int 1], .tuple [.int 1, .tuple [.int 1]], .str "ab", .tuple [.int 1, .str "1"], .int 1000000000000000000000000000000000000000]
def Jl (ns : List Int) (xs : List D) (r : DL.Env) : Prop := xs.length ≤ 12 ∧ ∃ m a b c d e f, r = [some (.d (.list (ns.map PyData.int))), some (.own false m), some (.own false (.lst oddL)), a, b, c, d, e, f] ∧ Feed ((12 - xs.length) * 60) m
def Ji (ns : List Int) (m : MO) (xs : List D) (r : DL.Env) : Prop := (∀ d ∈ xs, ∀ z, d = .str z → z.length ≤ 1000) ∧ ∃ a b c d e f, r = [some (.d (.list (ns.map PyData.int))), some (.own false m), some (.own false (.lst oddL)), a, b, c, d, e, f]
theorem odd_ok : ∀ d ∈ oddL, ∀ z, d = .str z → z.length ≤ 1000 := by
  intro d hd z e
  subst e
  simp [oddL] at hd
  rcases hd with rfl | rfl <;> decide
theorem law_w {ns : List Int} : Wf d_law [.d (.list (ns.map PyData.int))] (fun x _ => x = .d (.bool true)) fun _ _ => False := by
  unfold d_law
  rw [wf_runB]
  refine ⟨rfl, ?_⟩
  unfold g_law
  simp
  refine feed_spec fun m f0 => ?_
  simp
  refine ws_forI (Jl ns) ⟨by simp, m, _, _, _, _, _, _, rfl, f0.mono (by simp)⟩ ?_ ?_
  · rintro d ys r ⟨hl, m, a, b, c, d, e, g, rfl, f⟩
    simp only [List.length_cons] at hl f
    simp
    refine text_spec f (by omega) fun z m1 hz f1 => ?_
    simp
    refine number_spec f1 (by omega) fun one m2 f2 => ?_
    simp
    refine number_spec f2 (by omega) fun two m3 f3 => ?_
    simp
    refine next_spec f3 (by omega) (by omega) (by omega) fun v m4 v0 v1 f4 => ?_
    obtain ⟨y, e1, e2, _⟩ := at_of (xs := [PyData.int one, .int two]) (i := if 0 < v then 1 else 0) (by split <;> omega) (by simp; split <;> omega)
    have hy : ∃ i, y = .int i := by
      simp at e2
      rcases e2 with rfl | rfl <;> exact ⟨_, rfl⟩
    obtain ⟨p, rfl⟩ := hy
    simp [e1]
    refine next_spec f4 (by omega) (by simp [oddL]) (by simp [oddL]) fun w m5 w0 w1 f5 => ?_
    obtain ⟨s, e3, e4, _⟩ := at_of (xs := oddL) (i := w) w0 w1
    have hs := odd_ok s e4
    simp [e3]
    refine ws_forI (Ji ns m5) ⟨?_, _, _, _, _, _, _, rfl⟩ ?_ ?_
    · intro d hd z' e
      simp at hd
      rcases hd with rfl | rfl | rfl | rfl | rfl | rfl | rfl | rfl
      · cases e; omega
      · cases e
      · cases e
      · cases e
      · cases e
      · exact hs _ e
      · cases e
      · cases e
    · rintro d zs r ⟨hd, a, b, c, d', e, g, rfl⟩
      have hd0 := hd d List.mem_cons_self
      simp
      refine is_name_spec hd0 ?_
      simp
      refine l_name_due_spec hd0 ?_
      simp
      refine told_spec ?_
      simp
      refine is_times_spec ?_
      simp
      refine l_times_due_spec ?_
      simp
      refine told_spec ?_
      simp
      exact ⟨fun x hx => hd x (List.mem_cons_of_mem _ hx), _, _, _, _, _, _, rfl⟩
    · rintro r ⟨_, a, b, c, d', e, g, rfl⟩
      exact ⟨by omega, m5, _, _, _, _, _, _, rfl, Feed.mono (k := (12 - ys.length) * 60) f5 (by omega)⟩
  · rintro r ⟨_, m, a, b, c, d, e, g, rfl, f⟩
    simp
    refine is_name_spec (fun z e => by cases e; decide) ?_
    have h1 : nameB (.str "abcdefgh") = true := by decide +kernel
    simp [h1]
    refine told_spec ?_
    simp
    refine is_times_spec ?_
    have h2 : timesB (.tuple [.int 1000000, .int 1]) = true := by decide +kernel
    simp [h2]
    exact told_spec (by simp)
theorem law_true (ns : List Int) (hl : ns.length ≤ 63) : ∃ o, d_law [.d (.list (ns.map PyData.int))] = some (.ok (.d (.bool true)), o) := by
  obtain ⟨x, o, h1, h2⟩ := wf_ex (law_w (ns := ns))
  subst h2
  exact ⟨o, h1⟩
end G
open PySem PySem.W PyProof.Rows
set_option maxHeartbeats 0 in
theorem PySem.Challenge.cw_thinnet_k01_names_and_times_holds : PySem.Challenge.rw_thinnet_k01_names_and_times.Holds := by
  w_on; o_law; k_head; (case hw => w_witness2)
  k_fill
  refine DL.walk_G (l := PySem.Challenge.rw_thinnet_k01_names_and_times) (n := 63) (k := 3) (x := "_law_script") (F := G.d_law) rfl (by decide) rfl ⟨rfl, by decide, by decide⟩ (fun w h Y => PySem.W.kIn_of Y) ?F (fun ns hl => G.law_true ns hl)
  case F =>
    intro w mg fa h KX NG hmg
    refine' G.all_mk KX NG hmg ?a0 ?l0 ?c0 ?k0 ?a1 ?l1 ?c1 ?k1 ?a2 ?l2 ?c2 ?k2 ?a3 ?l3 ?c3 ?k3 ?a4 ?l4 ?c4 ?k4 ?a5 ?l5 ?c5 ?k5 ?a6 ?l6 ?c6 ?k6 ?a7 ?l7 ?c7 ?k7 ?a8 ?l8 ?c8 ?k8 ?a9 ?l9 ?c9 ?k9 ?a10 ?l10 ?c10 ?k10 ?a11 ?l11 ?c11 ?k11 ?z_len ?z_isinstance ?z_list ?z_tuple ?z_abs ?z_all ?z_sum ?z_max ?z_min ?z_int ?z_bool ?z_str ?z_repr ?z_sorted ?z_dict ?z_set ?z_range ?z_enumerate ?z_zip ?z_reversed ?v_LETTERS ?v_LONGEST_NAME ?v_GREATEST
    (case a0 => k_is); (case l0 => k_is); (case c0 => k_is); (case k0 => k_is); (case a1 => k_is); (case l1 => k_is); (case c1 => k_is); (case k1 => k_is); (case a2 => k_is); (case l2 => k_is); (case c2 => k_is); (case k2 => k_is); (case a3 => k_is); (case l3 => k_is); (case c3 => k_is); (case k3 => k_is); (case a4 => k_is); (case l4 => k_is); (case c4 => k_is); (case k4 => k_is); (case a5 => k_is); (case l5 => k_is); (case c5 => k_is); (case k5 => k_is); (case a6 => k_is); (case l6 => k_is); (case c6 => k_is); (case k6 => k_is); (case a7 => k_is); (case l7 => k_is); (case c7 => k_is); (case k7 => k_is); (case a8 => k_is); (case l8 => k_is); (case c8 => k_is); (case k8 => k_is); (case a9 => k_is); (case l9 => k_is); (case c9 => k_is); (case k9 => k_is); (case a10 => k_is); (case l10 => k_is); (case c10 => k_is); (case k10 => k_is); (case a11 => k_is); (case l11 => k_is); (case c11 => k_is); (case k11 => k_is); (case z_len => k_is); (case z_isinstance => k_is); (case z_list => k_is); (case z_tuple => k_is); (case z_abs => k_is); (case z_all => k_is); (case z_sum => k_is); (case z_max => k_is); (case z_min => k_is); (case z_int => k_is); (case z_bool => k_is); (case z_str => k_is); (case z_repr => k_is); (case z_sorted => k_is); (case z_dict => k_is); (case z_set => k_is); (case z_range => k_is); (case z_enumerate => k_is); (case z_zip => k_is); (case z_reversed => k_is); (case v_LETTERS => k_is); (case v_LONGEST_NAME => k_is); (case v_GREATEST => k_is)
