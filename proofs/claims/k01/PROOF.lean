import PyProof.Rows.All
import Wide.All
import OpenK.AllK
import Wide.FinOn
import HandS.ForMost
import HandS.Exc
import HandS.Wide
import HandS.IsInst
import HandS.Flow
import HandS.Evl
import KE.SortData
import KE.SortKeyHeap
import HandS.ExcOwn
import HandS.WordsExc
import PyProof.P3Eq
import PyProof.Claim2Refuses
import KE.LtData
import HandS.TupAny
import HandS.TupLe
import HandS.TupMul
import HandS.RaiseMore
import PyProof.ListCopy
import KE.KSortKey
import HandS.SortKw
import KE.DataFind
import HandS.More
import HandS.Rev
import HandS.Zip
import KE.GoesNew
import KE.GoesEnum
import PyProof.ReprBulk
import PyProof.Rows.ReprShort
import PyProof.CallStr
import PyProof.TwoTypesSub
import PyProof.Rows.IntBool
import HandS.ExcInit
import HandS.TryOnly
import HandS.ExcField
import HandS.ExcIs
import HandS.HotCalls
import HandS.ExcValue
import KE.KExcIs
import KE.KDictZip
import HandS.Zip0
import HandS.Deep
import HandS.DeepEq
import PyProof.WalkInts
import HandS.RevTup
import HandS.NoneIn
import PyProof.SeqIndex
import HandS.SetKeys
import HandS.Strs
import HandS.TupSets
import HandS.Text
import KE.KxText
import PySem.Challenge.RW_thinnet_k01_names_and_times
set_option Elab.async false
set_option linter.all false
set_option maxRecDepth 100000
set_option maxHeartbeats 4000000
/-! DL: a layer of plain data over the hand layer: what a piece of the program computes, told as a function of plain data. -/
namespace DL
open PySem L2
abbrev D := PyData
abbrev KF := PySem.W.Frag
abbrev MG := Str → Option Value
/-! ### data stays data -/
mutual
theorem dp_up {K : KF} {I J : Hp} (s : Same I J) : ∀ (d : D) (v : V), Dp K I v d → Dp K J v d
  | .none, _, h => by cases h; exact .non
  | .bool b, _, h => by cases h; exact .bl b
  | .int i, _, h => by cases h; exact .int i
  | .str x, _, h => by cases h; exact .str x
  | .list ds, _, h => by
    cases h with
    | lst hs ha => exact .lst (s.seq hs) (dpa_up s ds _ ha)
  | .tuple ds, _, h => by
    cases h with
    | tup hs ha => exact .tup (Evl.ex_t s hs) (dpa_up s ds _ ha)
  | .dict _, _, h => by cases h
theorem dpa_up {K : KF} {I J : Hp} (s : Same I J) : ∀ (ds : List D) (vs : List V), DpAll K I vs ds → DpAll K J vs ds
  | [], _, h => by cases h; exact .nil
  | d :: ds, _, h => by
    cases h with
    | cons h1 h2 => exact .cons (dp_up s d _ h1) (dpa_up s ds _ h2)
end
theorem dpa_len {K : KF} {I : Hp} : ∀ {vs : List V} {ds : List D}, DpAll K I vs ds → vs.length = ds.length
  | [], [], _ => rfl
  | _ :: vs, _ :: ds, h => by
    cases h with
    | cons _ h2 => simp [dpa_len h2]
  | [], _ :: _, h => by cases h
  | _ :: _, [], h => by cases h
theorem dpa_get {K : KF} {I : Hp} : ∀ {vs : List V} {ds : List D} {i : Nat} {v : V}, DpAll K I vs ds → vs[i]? = some v → ∃ d, ds[i]? = some d ∧ Dp K I v d
  | _, _, i, v, .nil, h => by simp at h
  | _, _, 0, v, .cons a b, h => by simp at h; subst h; exact ⟨_, rfl, a⟩
  | _, _, i + 1, v, .cons a b, h => by simpa using dpa_get b (by simpa using h)
theorem dpa_get' {K : KF} {I : Hp} : ∀ {vs : List V} {ds : List D} {i : Nat} {d : D}, DpAll K I vs ds → ds[i]? = some d → ∃ v, vs[i]? = some v ∧ Dp K I v d
  | _, _, i, v, .nil, h => by simp at h
  | _, _, 0, v, .cons a b, h => by simp at h; subst h; exact ⟨_, rfl, a⟩
  | _, _, i + 1, v, .cons a b, h => by simpa using dpa_get' b (by simpa using h)
theorem dpa_app {K : KF} {I : Hp} : ∀ {vs ws : List V} {ds es : List D}, DpAll K I vs ds → DpAll K I ws es → DpAll K I (vs ++ ws) (ds ++ es)
  | _, _, _, _, .nil, h => h
  | _, _, _, _, .cons a b, h => .cons a (dpa_app b h)
theorem dpa_take {K : KF} {I : Hp} : ∀ {vs : List V} {ds : List D} (n : Nat), DpAll K I vs ds → DpAll K I (vs.take n) (ds.take n)
  | _, _, 0, _ => .nil
  | _, _, _ + 1, .nil => .nil
  | _, _, n + 1, .cons a b => .cons a (dpa_take n b)
theorem dpa_drop {K : KF} {I : Hp} : ∀ {vs : List V} {ds : List D} (n : Nat), DpAll K I vs ds → DpAll K I (vs.drop n) (ds.drop n)
  | _, _, 0, h => h
  | _, _, _ + 1, .nil => .nil
  | _, _, n + 1, .cons a b => dpa_drop n b
theorem dpa_set {K : KF} {I : Hp} {v : V} {d : D} (h : Dp K I v d) : ∀ {vs : List V} {ds : List D} (n : Nat), DpAll K I vs ds → DpAll K I (vs.set n v) (ds.set n d)
  | _, _, _, .nil => .nil
  | _, _, 0, .cons a b => .cons h b
  | _, _, n + 1, .cons a b => .cons a (dpa_set h n b)
theorem dpa_erase {K : KF} {I : Hp} : ∀ {vs : List V} {ds : List D} (n : Nat), DpAll K I vs ds → DpAll K I (vs.eraseIdx n) (ds.eraseIdx n)
  | _, _, _, .nil => by simp; exact .nil
  | _, _, 0, .cons a b => b
  | _, _, n + 1, .cons a b => .cons a (dpa_erase n b)
theorem dpa_dropLast {K : KF} {I : Hp} {vs : List V} {ds : List D} (h : DpAll K I vs ds) : DpAll K I vs.dropLast ds.dropLast := by
  rw [List.dropLast_eq_take, List.dropLast_eq_take, dpa_len h]
  exact dpa_take _ h
theorem dpa_rev {K : KF} {I : Hp} : ∀ {vs : List V} {ds : List D}, DpAll K I vs ds → DpAll K I vs.reverse ds.reverse
  | _, _, .nil => .nil
  | _, _, .cons a b => by
    rw [List.reverse_cons, List.reverse_cons]
    exact dpa_app (dpa_rev b) (.cons a .nil)
theorem dpa_ins {K : KF} {I : Hp} {v : V} {d : D} (h : Dp K I v d) {vs : List V} {ds : List D} (n : Nat) (a : DpAll K I vs ds) : DpAll K I (vs.take n ++ v :: vs.drop n) (ds.take n ++ d :: ds.drop n) :=
  dpa_app (dpa_take n a) (.cons h (dpa_drop n a))
/-! ### what a local holds -/
/-- an exception: its class, its fields -/
structure Exc where
  cls : Str
  fs : List (Str × D)
/-- a mutable thing of one's own -/
inductive MO where
  | lst (xs : List D)
  | dic (kvs : List (Key × D))
  /-- a dict that is walked -/
  | frd (kvs : List (Key × D))
  | dit (kvs : List (List Key × D))
  /-- an exception that was caught -/
  | exc (x : Exc)
inductive S where
  | d (x : D)
  /-- somebody else's, read -/
  | bor (m : MO)
  /-- one's own, read while it is walked -/
  | lck (m : MO)
  /-- one's own; io: a parameter handed in to be changed -/
  | own (io : Bool) (m : MO)
inductive R (α : Type) where
  | ok (a : α)
  | ex (x : Exc)
abbrev Env := List (Option S)
abbrev EF (α : Type) := Env → Option (R α × Env)
def KvD {κ : Type} (K : KF) (I : Hp) : List (κ × V) → List (κ × D) → Prop := Paired fun (p : κ × V) (q : κ × D) => p.1 = q.1 ∧ Dp K I p.2 q.2
theorem kvd_up {κ : Type} {K : KF} {I J : Hp} (s : Same I J) : ∀ {ws : List (κ × V)} {ks : List (κ × D)}, KvD K I ws ks → KvD K J ws ks
  | _, _, .nil => .nil
  | _, _, .cons a b => .cons ⟨a.1, dp_up s _ _ a.2⟩ (kvd_up s b)
/-- an object that stands as it is -/
def XO (oe : Obj) (a : Addr) : HO := .ext fun h => h.get? a = some oe
/-- an exception's class, its own dict -/
def XDat (K : KF) (I : Hp) (oe : Obj) (x : Exc) : Prop := ∃ c dx, PySem.W.nsIn K mainGlobals x.cls = some (some c) ∧ Zc c dx oe ∧ (∃ vs, oe.data = .fields vs) ∧
  ((x.fs = [] ∧ dx = none) ∨ ∃ d ws, dx = some d ∧ I d = some (.xd ws) ∧ Paired (fun (p : Str × V) (q : Str × D) => p.1 = q.1 ∧ Dp K I p.2 q.2) ws x.fs)
theorem xdat_up {K : KF} {I J : Hp} (s : Same I J) {oe : Obj} {x : Exc} (h : XDat K I oe x) : XDat K J oe x := by
  obtain ⟨c, dx, h1, h2, h3, h4⟩ := h
  refine ⟨c, dx, h1, h2, h3, ?_⟩
  rcases h4 with h4 | ⟨d, ws, e, hd, p⟩
  · exact .inl h4
  · exact .inr ⟨d, ws, e, s _ _ hd, kvd_up s p⟩
def MRel (K : KF) (I H : Hp) (a : Addr) : MO → Prop
  | .lst xs => ∃ vs, H a = some (.lst vs) ∧ DpAll K I vs xs
  | .dic kvs => ∃ ws, H a = some (.dK ws) ∧ KvD K I ws kvs
  | .frd kvs => ∃ o ws, H a = some (.frz o (.dK ws)) ∧ KvD K I ws kvs
  | .dit kvs => ∃ ws, H a = some (.dT ws) ∧ KvD K I ws kvs
  | .exc x => ∃ oe, H a = some (XO oe a) ∧ XDat K I oe x
theorem mrel_up {K : KF} {I J H H' : Hp} {a : Addr} (s : Same I J) (e : H' a = H a) : ∀ {m : MO}, MRel K I H a m → MRel K J H' a m
  | .lst _, ⟨vs, h, p⟩ => ⟨vs, e.trans h, dpa_up s _ _ p⟩
  | .dic _, ⟨vs, h, p⟩ => ⟨vs, e.trans h, kvd_up s p⟩
  | .frd _, ⟨o, vs, h, p⟩ => ⟨o, vs, e.trans h, kvd_up s p⟩
  | .dit _, ⟨vs, h, p⟩ => ⟨vs, e.trans h, kvd_up s p⟩
  | .exc _, ⟨oe, h, p⟩ => ⟨oe, e.trans h, xdat_up s p⟩
theorem mrel_some {K : KF} {I H : Hp} {a : Addr} {m : MO} (h : MRel K I H a m) : ∃ o, H a = some o := by
  cases m with
  | lst xs => obtain ⟨vs, e, _⟩ := h; exact ⟨_, e⟩
  | dic xs => obtain ⟨vs, e, _⟩ := h; exact ⟨_, e⟩
  | frd xs => obtain ⟨_, vs, e, _⟩ := h; exact ⟨_, e⟩
  | dit xs => obtain ⟨vs, e, _⟩ := h; exact ⟨_, e⟩
  | exc x => obtain ⟨oe, e, _⟩ := h; exact ⟨_, e⟩
theorem mrel_same {K : KF} {I J H H' : Hp} {a : Addr} (s : Same I J) (e : ∀ o, H a = some o → H' a = some o) {m : MO} (h : MRel K I H a m) : MRel K J H' a m := by
  obtain ⟨o, ho⟩ := mrel_some h
  exact mrel_up s ((e o ho).trans ho.symm) h
/-- a def's entry: the data then, the heap then, the addresses of what is handed in to be changed, by the slot -/
structure Cn where
  I0 : Hp
  H0 : Hp
  io : Nat → Option Addr
  /-- what may be borrowed -/
  bo : Addr → Prop
  /-- what is walked, by the slot -/
  lk : Nat → Option Addr
def SRel (K : KF) (C : Cn) (I H : Hp) (i : Nat) (v : V) : S → Prop
  | .d x => Dp K I v x
  | .bor m => ∃ a, v = .ref a ∧ C.bo a ∧ (∀ j, C.io j ≠ some a) ∧ MRel K C.I0 C.H0 a m
  | .lck m => ∃ a, v = .ref a ∧ C.lk i = some a ∧ I a = none ∧ MRel K I H a m
  | .own true m => ∃ a, v = .ref a ∧ I a = none ∧ MRel K I H a m ∧ C.io i = some a
  | .own false m => ∃ a, v = .ref a ∧ I a = none ∧ MRel K I H a m ∧ C.H0 a = none
/-- a tuple among the data is a known object without a dict of its own -/
def Fz : HO → Prop
  | .tup _ => False
  | .frz o (.tup _) => o.dict = none
  | _ => True
def Tz (I : Hp) : Prop := ∀ a u, I a = some u → Fz u
theorem Tz.put {I : Hp} {a : Addr} {o : HO} (t : Tz I) (f : Fz o) : Tz (upd I a o) := fun b u e => by
  by_cases h : b = a
  · subst h
    rw [upd_same] at e
    cases e
    exact f
  · rw [upd_ne h] at e
    exact t b u e
structure Rel (K : KF) (C : Cn) (I H : Hp) (r : Env) (s : St) : Prop where
  len : s.length = r.length
  sub : Same I H
  mono : Same C.I0 I
  keep : ∀ a o, C.H0 a = some o → (∀ j, C.io j ≠ some a) → H a = some o
  dom : ∀ a, H a = none → C.H0 a = none
  bo : ∀ a, C.bo a → C.H0 a ≠ none
  iot : ∀ j a, C.io j = some a → C.H0 a ≠ none
  lkt : ∀ i a, C.lk i = some a → C.H0 a ≠ none ∧ ∀ j, C.io j ≠ some a
  fresh : ∀ a, C.I0 a = none → C.H0 a ≠ none → I a = none
  slot : ∀ (i : Nat) (x : S), r[i]? = some (some x) → ∃ v, s[i]? = some (some v) ∧ SRel K C I H i v x
  dist : ∀ (i j : Nat) b c m n a, i ≠ j → r[i]? = some (some (.own b m)) → r[j]? = some (some (.own c n)) → s[i]? = some (some (.ref a)) → s[j]? = some (some (.ref a)) → False
  tz : Tz I
/-- what an expression gives -/
def TRel (K : KF) (C : Cn) (I H : Hp) (r : Env) (s : St) (v : V) : S → Prop
  | .d x => Dp K I v x
  | .own false m => ∃ a, v = .ref a ∧ I a = none ∧ MRel K I H a m ∧ C.H0 a = none ∧ ∀ (i : Nat) b n, r[i]? = some (some (.own b n)) → s[i]? ≠ some (some (.ref a))
  | _ => False
/-- an exception in the air; its dict is new since H0 -/
def XRel (K : KF) (mg : MG) (H0 I H : Hp) (c : Value) (dx : Option Addr) (x : Exc) : Prop :=
  mg x.cls = some c ∧ ((x.fs = [] ∧ dx = none) ∨ ∃ d ws, dx = some d ∧ H0 d = none ∧ H d = some (.xd ws) ∧ Paired (fun (p : Str × V) (q : Str × D) => p.1 = q.1 ∧ Dp K I p.2 q.2) ws x.fs)
theorem XRel.down {K : KF} {mg : MG} {H0 H1 I H : Hp} {c : Value} {dx : Option Addr} {x : Exc} (h : XRel K mg H1 I H c dx x) (n : ∀ d, H1 d = none → H0 d = none) : XRel K mg H0 I H c dx x := by
  obtain ⟨h1, h2 | ⟨d, ws, e, hd, q⟩⟩ := h
  · exact ⟨h1, .inl h2⟩
  · exact ⟨h1, .inr ⟨d, ws, e, n d hd, q⟩⟩
theorem upd_none {H : Hp} {a d : Addr} {o : HO} (h : upd H a o d = none) : H d = none := by
  by_cases e : d = a
  · rw [e, upd_same] at h
    cases h
  · rwa [upd_ne e] at h
theorem own_nz {K : KF} {C : Cn} {I H : Hp} {i : Nat} {v : V} {b : Bool} {m : MO} (h : SRel K C I H i v (.own b m)) : ∃ a, v = .ref a ∧ I a = none ∧ MRel K I H a m ∧ ((b = true ∧ C.io i = some a) ∨ (b = false ∧ C.H0 a = none)) := by
  cases b with
  | true => obtain ⟨a, e, n, m, q⟩ := h; exact ⟨a, e, n, m, .inl ⟨rfl, q⟩⟩
  | false => obtain ⟨a, e, n, m, q⟩ := h; exact ⟨a, e, n, m, .inr ⟨rfl, q⟩⟩
theorem own_mk {K : KF} {C : Cn} {I H : Hp} {i : Nat} {v : V} {b : Bool} {m : MO} {a : Addr} (e : v = .ref a) (n : I a = none) (q : MRel K I H a m) (h : (b = true ∧ C.io i = some a) ∨ (b = false ∧ C.H0 a = none)) : SRel K C I H i v (.own b m) := by
  cases b with
  | true =>
    rcases h with ⟨_, h⟩ | ⟨h, _⟩
    · exact ⟨a, e, n, q, h⟩
    · cases h
  | false =>
    rcases h with ⟨h, _⟩ | ⟨_, h⟩
    · cases h
    · exact ⟨a, e, n, q, h⟩
/-- a slot's word stays where data grows and its own object stands -/
theorem srel_up {K : KF} {C : Cn} {I J H H' : Hp} {i : Nat} {v : V} (s : Same I J) {x : S} (h : SRel K C I H i v x)
    (own : ∀ b m a, x = .own b m → v = .ref a → I a = none → (∃ o, H a = some o) → J a = none ∧ H' a = H a)
    (lck : ∀ m a, x = .lck m → v = .ref a → C.lk i = some a → I a = none → (∃ o, H a = some o) → J a = none ∧ H' a = H a) : SRel K C J H' i v x := by
  cases x with
  | d x => exact dp_up s _ _ h
  | bor m => exact h
  | lck m =>
    obtain ⟨a, e, l, n, q⟩ := h
    obtain ⟨j, k⟩ := lck m a rfl e l n (mrel_some q)
    exact ⟨a, e, l, j, mrel_up s k q⟩
  | own b m =>
    obtain ⟨a, e, n, q, z⟩ := own_nz h
    obtain ⟨j, k⟩ := own b m a rfl e n (mrel_some q)
    exact own_mk e j (mrel_up s k q) z
/-- what is newly given: the data grows, nothing that stood is changed -/
structure Grow (I H I' H' : Hp) : Prop where
  i : Same I I'
  h : Same H H'
  sub : Same I' H'
  new : ∀ a o, H a = some o → I a = none → I' a = none
  z : Tz I → Tz I'
theorem Grow.refl {I H : Hp} (s : Same I H) : Grow I H I H := ⟨Same.refl I, Same.refl H, s, fun _ _ _ n => n, id⟩
theorem Rel.grow {K : KF} {C : Cn} {I H I' H' : Hp} {r : Env} {s : St} (R : Rel K C I H r s) (g : Grow I H I' H') : Rel K C I' H' r s where
  len := R.len
  sub := g.sub
  mono := R.mono.trans g.i
  keep := fun a o e n => g.h a o (R.keep a o e n)
  dom := fun a e => R.dom a (g.h.free e)
  bo := R.bo
  iot := R.iot
  lkt := R.lkt
  fresh := fun a n z => by
    cases q : H a with
    | none => exact absurd (R.dom a q) z
    | some o => exact g.new a o q (R.fresh a n z)
  slot := fun i x e => by
    obtain ⟨v, h1, h2⟩ := R.slot i x e
    exact ⟨v, h1, srel_up g.i h2 (fun b m a _ _ n ⟨o, z⟩ => ⟨g.new a o z n, (g.h a o z).trans z.symm⟩) fun m a _ _ _ n ⟨o, z⟩ => ⟨g.new a o z n, (g.h a o z).trans z.symm⟩⟩
  dist := R.dist
  tz := g.z R.tz
/-- a new tuple is data -/
theorem grow_tup {I H : Hp} {p : Addr} {o : HO} (s : Same I H) (n : H p = none) (f : Fz o) : Grow I H (upd I p o) (upd H p o) where
  z := fun t => t.put f
  i := Evl.Ex.new (s.free n)
  h := Evl.Ex.new n
  sub := fun a u e => by
    by_cases h : a = p
    · subst h
      rw [upd_same] at e ⊢
      exact e
    · rw [upd_ne h] at e ⊢
      exact s a u e
  new := fun a u e z => by
    rw [upd_ne (ne_of_none e n)]
    exact z
/-- a new thing of one's own -/
theorem grow_own {I H : Hp} {p : Addr} {o : HO} (s : Same I H) (n : H p = none) : Grow I H I (upd H p o) where
  i := Same.refl I
  h := Evl.Ex.new n
  sub := s.trans (Evl.Ex.new n)
  new := fun a u e z => z
  z := id
theorem Grow.trans {I H I1 H1 I2 H2 : Hp} (a : Grow I H I1 H1) (b : Grow I1 H1 I2 H2) : Grow I H I2 H2 :=
  ⟨a.i.trans b.i, a.h.trans b.h, b.sub, fun x o e n => b.new x o (a.h x o e) (a.new x o e n), fun t => b.z (a.z t)⟩
/-- what an operation on values gives -/
def NewS (K : KF) (I H : Hp) (v : V) (I' H' : Hp) : S → Prop
  | .d x => Dp K I' v x
  | .own false m => ∃ a, v = .ref a ∧ H a = none ∧ I' a = none ∧ MRel K I' H' a m
  | _ => False
theorem Rel.newS {K : KF} {C : Cn} {I H I' H' : Hp} {r : Env} {s : St} {v : V} {x : S} (R : Rel K C I H r s) (g : Grow I H I' H') (n : NewS K I H v I' H' x) : TRel K C I' H' r s v x := by
  cases x with
  | d x => exact n
  | bor m => exact n.elim
  | lck m => exact n.elim
  | own b m =>
    cases b with
    | true => exact n.elim
    | false =>
      obtain ⟨a, e, n, z, q⟩ := n
      refine ⟨a, e, z, q, R.dom a n, fun i b m h e1 => ?_⟩
      obtain ⟨v1, h1, h2⟩ := R.slot i _ h
      obtain ⟨a1, e2, _, q1, _⟩ := own_nz h2
      rw [e1] at h1
      cases h1
      cases e2
      obtain ⟨o, ho⟩ := mrel_some q1
      rw [n] at ho
      cases ho
/-- a list of one's own, just made, is made data -/
theorem Rel.freeze {K : KF} {C : Cn} {I H : Hp} {r : Env} {s : St} {v : V} {xs : List D} (R : Rel K C I H r s) (t : TRel K C I H r s v (.own false (.lst xs))) :
    ∃ I', Rel K C I' H r s ∧ Same I I' ∧ Dp K I' v (.list xs) := by
  obtain ⟨a, e, n, ⟨vs, hv, p⟩, h0, ne⟩ := t
  have s1 : Same I (upd I a (.lst vs)) := Evl.Ex.new n
  refine ⟨upd I a (.lst vs), ⟨R.len, fun b o q => ?_, R.mono.trans s1, R.keep, R.dom, R.bo, R.iot, R.lkt, fun b z1 z2 => ?_, fun i x h => ?_, R.dist, R.tz.put trivial⟩, s1, ?_⟩
  · by_cases h : b = a
    · subst h
      rw [upd_same] at q
      cases q
      exact hv
    · rw [upd_ne h] at q
      exact R.sub b o q
  · by_cases h : b = a
    · subst h
      exact absurd h0 z2
    · rw [upd_ne h]
      exact R.fresh b z1 z2
  · obtain ⟨w, h1, h2⟩ := R.slot i x h
    refine ⟨w, h1, srel_up s1 h2 (fun b m c ex ew nc _ => ⟨?_, rfl⟩) fun m c _ _ l nc _ => ⟨?_, rfl⟩⟩
    · have hc : c ≠ a := by
        rintro rfl
        subst ex
        rw [ew] at h1
        exact ne i b m h h1
      rw [upd_ne hc]
      exact nc
    · have hc : c ≠ a := by
        rintro rfl
        exact (R.lkt _ _ l).1 h0
      rw [upd_ne hc]
      exact nc
  · subst e
    exact .lst (Or.inl (Or.inl upd_same)) (dpa_up s1 _ _ p)
/-- a slot's list of one's own is made data -/
theorem Rel.freezeSlot {K : KF} {C : Cn} {I H : Hp} {r : Env} {s : St} {i : Nat} {xs : List D} (R : Rel K C I H r s) (h : r[i]? = some (some (.own false (.lst xs)))) :
    ∃ I' v, s[i]? = some (some v) ∧ Rel K C I' H (r.set i (some (.d (.list xs)))) s ∧ Same I I' ∧ Dp K I' v (.list xs) := by
  obtain ⟨v, hv, a, e, n, ⟨vs, ha, p⟩, h0⟩ := R.slot i _ h
  have s1 : Same I (upd I a (.lst vs)) := Evl.Ex.new n
  have dp : Dp K (upd I a (.lst vs)) v (.list xs) := by
    subst e
    exact .lst (Or.inl (Or.inl upd_same)) (dpa_up s1 _ _ p)
  have hi : i < r.length := (List.getElem?_eq_some_iff.mp h).1
  have back : ∀ {j : Nat} {x : S}, (r.set i (some (.d (.list xs))))[j]? = some (some x) → (j = i ∧ x = .d (.list xs)) ∨ (j ≠ i ∧ r[j]? = some (some x)) := fun {j x} q => by
    by_cases hj : j = i
    · subst hj
      rw [List.getElem?_set_self hi] at q
      cases q
      exact .inl ⟨rfl, rfl⟩
    · rw [List.getElem?_set_ne (Ne.symm hj)] at q
      exact .inr ⟨hj, q⟩
  refine ⟨upd I a (.lst vs), v, hv, ⟨by rw [List.length_set]; exact R.len, fun b o q => ?_, R.mono.trans s1, R.keep, R.dom, R.bo, R.iot, R.lkt, fun b z1 z2 => ?_, fun j x q => ?_, fun j k b c m n1 b1 ne q1 q2 e1 e2 => ?_, R.tz.put trivial⟩, s1, dp⟩
  · by_cases hb : b = a
    · subst hb
      rw [upd_same] at q
      cases q
      exact ha
    · rw [upd_ne hb] at q
      exact R.sub b o q
  · by_cases hb : b = a
    · subst hb
      exact absurd h0 z2
    · rw [upd_ne hb]
      exact R.fresh b z1 z2
  · rcases back q with ⟨rfl, rfl⟩ | ⟨hj, q⟩
    · exact ⟨v, hv, dp⟩
    · obtain ⟨w, h1, h2⟩ := R.slot j x q
      refine ⟨w, h1, srel_up s1 h2 (fun b m c ex ew nc _ => ⟨?_, rfl⟩) fun m c _ _ l nc _ => ⟨?_, rfl⟩⟩
      · have hc : c ≠ a := by
          rintro rfl
          subst ex ew e
          exact R.dist j i _ _ _ _ _ hj q h h1 hv
        rw [upd_ne hc]
        exact nc
      · have hc : c ≠ a := by
          rintro rfl
          exact (R.lkt _ _ l).1 h0
        rw [upd_ne hc]
        exact nc
  · rcases back q1 with ⟨_, z⟩ | ⟨_, q1⟩
    · cases z
    · rcases back q2 with ⟨_, z⟩ | ⟨_, q2⟩
      · cases z
      · exact R.dist j k b c m n1 b1 ne q1 q2 e1 e2
/-- a slot is forgotten -/
theorem Rel.drop {K : KF} {C : Cn} {I H : Hp} {r : Env} {s : St} (i : Nat) (R : Rel K C I H r s) : Rel K C I H (r.set i none) s := by
  have back : ∀ {j : Nat} {x : S}, (r.set i none)[j]? = some (some x) → j ≠ i ∧ r[j]? = some (some x) := fun {j x} q => by
    by_cases hj : j = i
    · subst hj
      by_cases hl : j < r.length
      · rw [List.getElem?_set_self hl] at q
        cases q
      · rw [List.getElem?_eq_none (by rw [List.length_set]; omega)] at q
        cases q
    · rw [List.getElem?_set_ne (Ne.symm hj)] at q
      exact ⟨hj, q⟩
  exact ⟨by rw [List.length_set]; exact R.len, R.sub, R.mono, R.keep, R.dom, R.bo, R.iot, R.lkt, R.fresh, fun j x q => R.slot j x (back q).2, fun j k b c m n a ne q1 q2 => R.dist j k b c m n a ne (back q1).2 (back q2).2, R.tz⟩
/-- a name is stored -/
theorem Rel.put {K : KF} {C : Cn} {I H : Hp} {r : Env} {s : St} {i : Nat} {v : V} {x : S} (R : Rel K C I H r s) (t : TRel K C I H r s v x) : Rel K C I H (r.set i (some x)) (s.set i (some v)) := by
  have hlen := R.len
  have back : ∀ {j : Nat} {y : S}, (r.set i (some x))[j]? = some (some y) → (j = i ∧ i < r.length ∧ y = x) ∨ (j ≠ i ∧ r[j]? = some (some y)) := fun {j y} q => by
    by_cases hj : j = i
    · subst hj
      by_cases hl : j < r.length
      · rw [List.getElem?_set_self hl] at q
        cases q
        exact .inl ⟨rfl, hl, rfl⟩
      · rw [List.getElem?_eq_none (by rw [List.length_set]; omega)] at q
        cases q
    · rw [List.getElem?_set_ne (Ne.symm hj)] at q
      exact .inr ⟨hj, q⟩
  refine ⟨by simpa using R.len, R.sub, R.mono, R.keep, R.dom, R.bo, R.iot, R.lkt, R.fresh, fun j y q => ?_, fun j k b c m n a ne q1 q2 e1 e2 => ?_, R.tz⟩
  · rcases back q with ⟨rfl, hl, rfl⟩ | ⟨hj, q⟩
    · refine ⟨v, by rw [List.getElem?_set_self (by omega)], ?_⟩
      cases y with
      | d y => exact t
      | bor m => exact t.elim
      | lck m => exact t.elim
      | own b m =>
        cases b with
        | true => exact t.elim
        | false =>
          obtain ⟨a, e, n, q, h0, _⟩ := t
          exact ⟨a, e, n, q, h0⟩
    · obtain ⟨w, h1, h2⟩ := R.slot j y q
      exact ⟨w, by rw [List.getElem?_set_ne (Ne.symm hj)]; exact h1, h2⟩
  · rcases back q1 with ⟨rfl, hl, z1⟩ | ⟨hj, q1'⟩
    · rcases back q2 with ⟨rfl, _, _⟩ | ⟨hk, q2'⟩
      · exact ne rfl
      · rw [List.getElem?_set_self (by omega)] at e1
        rw [List.getElem?_set_ne (Ne.symm hk)] at e2
        cases e1
        subst z1
        cases b with
        | true => exact t
        | false =>
          obtain ⟨a', e, _, _, _, z⟩ := t
          cases e
          exact z k c n q2' e2
    · rw [List.getElem?_set_ne (Ne.symm hj)] at e1
      rcases back q2 with ⟨rfl, hl, z1⟩ | ⟨hk, q2'⟩
      · rw [List.getElem?_set_self (by omega)] at e2
        cases e2
        subst z1
        cases c with
        | true => exact t
        | false =>
          obtain ⟨a', e, _, _, _, z⟩ := t
          cases e
          exact z j b m q1' e1
      · rw [List.getElem?_set_ne (Ne.symm hk)] at e2
        exact R.dist j k b c m n a ne q1' q2' e1 e2
/-- what is one's own is changed -/
theorem Rel.mut {K : KF} {C : Cn} {I H : Hp} {r : Env} {s : St} {i : Nat} {a : Addr} {b : Bool} {m m' : MO} {o : HO} (R : Rel K C I H r s) (h : r[i]? = some (some (.own b m))) (hs : s[i]? = some (some (.ref a)))
    (q : MRel K I (upd H a o) a m') : Rel K C I (upd H a o) (r.set i (some (.own b m'))) s := by
  have hi : i < r.length := (List.getElem?_eq_some_iff.mp h).1
  obtain ⟨v, hv, z⟩ := R.slot i _ h
  rw [hs] at hv
  cases hv
  obtain ⟨a', e, n, q0, w⟩ := own_nz z
  cases e
  obtain ⟨u, hu⟩ := mrel_some q0
  have back : ∀ {j : Nat} {y : S}, (r.set i (some (.own b m')))[j]? = some (some y) → (j = i ∧ y = .own b m') ∨ (j ≠ i ∧ r[j]? = some (some y)) := fun {j y} q => by
    by_cases hj : j = i
    · subst hj
      rw [List.getElem?_set_self hi] at q
      cases q
      exact .inl ⟨rfl, rfl⟩
    · rw [List.getElem?_set_ne (Ne.symm hj)] at q
      exact .inr ⟨hj, q⟩
  refine ⟨by rw [List.length_set]; exact R.len, fun c u e => ?_, R.mono, fun c u e nc => ?_, fun c e => ?_, R.bo, R.iot, R.lkt, R.fresh, fun j y q2 => ?_, fun j k b1 c1 m1 n1 a1 ne q1 q2 e1 e2 => ?_, R.tz⟩
  · rw [upd_ne (ne_of_none e n)]
    exact R.sub c u e
  · have hc : c ≠ a := by
      rintro rfl
      rcases w with ⟨_, w⟩ | ⟨_, w⟩
      · exact nc i w
      · rw [w] at e
        cases e
    rw [upd_ne hc]
    exact R.keep c u e nc
  · by_cases hc : c = a
    · subst hc
      rw [upd_same] at e
      cases e
    · rw [upd_ne hc] at e
      exact R.dom c e
  · rcases back q2 with ⟨rfl, rfl⟩ | ⟨hj, q2⟩
    · exact ⟨_, hs, own_mk rfl n q w⟩
    · obtain ⟨w1, h1, h2⟩ := R.slot j y q2
      refine ⟨w1, h1, srel_up (Same.refl I) h2 (fun b1 m1 c ey ew nc _ => ⟨nc, upd_ne ?_⟩) fun m1 c _ _ l nc _ => ⟨nc, upd_ne ?_⟩⟩
      · rintro rfl
        subst ey ew
        exact R.dist j i _ _ _ _ _ hj q2 h h1 hs
      · rintro rfl
        obtain ⟨l1, l2⟩ := R.lkt _ _ l
        rcases w with ⟨_, w⟩ | ⟨_, w⟩
        · exact l2 i w
        · exact l1 w
  · rcases back q1 with ⟨rfl, z1⟩ | ⟨hj, q1'⟩
    · cases z1
      rcases back q2 with ⟨rfl, _⟩ | ⟨hk, q2'⟩
      · exact ne rfl
      · exact R.dist j k _ _ _ _ a1 ne h q2' e1 e2
    · rcases back q2 with ⟨rfl, z2⟩ | ⟨hk, q2'⟩
      · cases z2
        exact R.dist j k _ _ _ _ a1 ne q1' h e1 e2
      · exact R.dist j k _ _ _ _ a1 ne q1' q2' e1 e2
end DL
namespace DL
open PySem L2
/-! ### small steps of what is computed -/
def eb {α β : Type} (a : EF α) (k : α → EF β) : EF β := fun r => match a r with
  | some (.ok x, r1) => k x r1
  | some (.ex x, r1) => some (.ex x, r1)
  | none => none
def er {α : Type} (x : α) : EF α := fun r => some (.ok x, r)
theorem eb_inv {α β : Type} {a : EF α} {k : α → EF β} {r r' : Env} {o : R β} (e : eb a k r = some (o, r')) :
    (∃ x r1, a r = some (.ok x, r1) ∧ k x r1 = some (o, r')) ∨ ∃ x, a r = some (.ex x, r') ∧ o = .ex x := by
  unfold eb at e
  split at e
  · rename_i x r1 h
    exact .inl ⟨x, r1, h, e⟩
  · rename_i x r1 h
    cases e
    exact .inr ⟨x, h, rfl⟩
  · cases e
inductive Od where
  | sl (i : Nat)
  | ex (f : EF D)
inductive Ov where
  | sl (i : Nat)
  | d (x : D)
def evO : List Od → EF (List Ov)
  | [] => er []
  | .sl i :: t => fun r => match r[i]? with
    | some (some _) => eb (evO t) (fun os => er (.sl i :: os)) r
    | _ => none
  | .ex f :: t => eb f fun d => eb (evO t) fun os => er (.d d :: os)
/-- what is read at a slot -/
def rdS (r : Env) (i : Nat) : Option S := match r[i]? with
  | some (some (.d x)) => some (.d x)
  | some (some (.bor m)) => some (.bor m)
  | some (some (.lck m)) => some (.bor m)
  | some (some (.own _ m)) => some (.bor m)
  | _ => none
def Ov.get (r : Env) : Ov → Option S
  | .d x => some (.d x)
  | .sl i => rdS r i
def getAll (r : Env) : List Ov → Option (List S)
  | [] => some []
  | o :: t => match o.get r, getAll r t with
    | some x, some xs => some (x :: xs)
    | _, _ => none
/-- an operation on what some operands give -/
def dApp (ods : List Od) (op : List S → Option S) : EF S := eb (evO ods) fun os r => match getAll r os with
  | some ss => match op ss with
    | some x => some (.ok x, r)
    | none => none
  | none => none
/-- what was just made is made data -/
def dd (f : EF S) : EF D := eb f fun x r => match x with
  | .d x => some (.ok x, r)
  | .own false (.lst xs) => some (.ok (.list xs), r)
  | _ => none
def ds (f : EF D) : EF S := eb f fun x => er (.d x)
/-! ### the readings -/
section
variable (K : KF) (mg : MG) (W : WX)
def tE (f : EF S) : TE := fun s H Q => ∃ C I r o r', Rel K C I H r s ∧ f r = some (o, r') ∧ match o with
  | .ok x => ∀ v I' H', Rel K C I' H' r' s → Same I I' → TRel K C I' H' r' s v x → Q v H'
  | .ex x => ∀ c dx I' H', Rel K C I' H' r' s → Same I I' → XRel K mg C.H0 I' H' c dx x → W c dx s H'
def tD (f : EF D) : TE := fun s H Q => ∃ C I r o r', Rel K C I H r s ∧ f r = some (o, r') ∧ match o with
  | .ok x => ∀ v I' H', Rel K C I' H' r' s → Same I I' → Dp K I' v x → Q v H'
  | .ex x => ∀ c dx I' H', Rel K C I' H' r' s → Same I I' → XRel K mg C.H0 I' H' c dx x → W c dx s H'
def tT (f : EF Bool) : TT := fun s H Q => ∃ C I r o r', Rel K C I H r s ∧ f r = some (o, r') ∧ match o with
  | .ok x => ∀ I' H', Rel K C I' H' r' s → Same I I' → Q x H'
  | .ex x => ∀ c dx I' H', Rel K C I' H' r' s → Same I I' → XRel K mg C.H0 I' H' c dx x → W c dx s H'
def tOd : Od → TE
  | .sl i => tVar i
  | .ex f => tD K mg W f
def tOds : List Od → TA
  | [] => tNil
  | o :: t => tCons (tOd K mg W o) (tOds t)
end
abbrev DE (X : Cx) (W : WX) (e : Expr) (f : EF S) : Prop := PE X e (tE X.K X.mg W f)
abbrev DD (X : Cx) (W : WX) (e : Expr) (f : EF D) : Prop := PE X e (tD X.K X.mg W f)
abbrev DT (X : Cx) (W : WX) (e : Expr) (f : EF Bool) : Prop := PT X e (tT X.K X.mg W f)
abbrev DO (X : Cx) (W : WX) (e : Expr) (o : Od) : Prop := PE X e (tOd X.K X.mg W o)
abbrev DA (X : Cx) (W : WX) (es : List Expr) (os : List Od) : Prop := PA X es (tOds X.K X.mg W os)
theorem pe_of {X : Cx} {e : Expr} {t t' : TE} (h : PE X e t) (w : ∀ s H Q, t' s H Q → t s H Q) : PE X e t' := ⟨fun pins s σ H Q I q => h.run pins s σ H Q I (w _ _ _ q)⟩
theorem pt_of {X : Cx} {e : Expr} {t t' : TT} (h : PT X e t) (w : ∀ s H Q, t' s H Q → t s H Q) : PT X e t' := ⟨fun pins s σ H Q I q => h.run pins s σ H Q I (w _ _ _ q)⟩
theorem ps_of {X : Cx} {e : Stmt} {t t' : TS} (h : PS X e t) (w : ∀ D s H, t' D s H → t D s H) : PS X e t' := ⟨fun pins s σ H Q I q => h.run pins s σ H Q I (w _ _ _ q)⟩
theorem pss_of {X : Cx} {e : List Stmt} {t t' : TS} (h : PSs X e t) (w : ∀ D s H, t' D s H → t D s H) : PSs X e t' := ⟨fun pins s σ H Q I q => h.run pins s σ H Q I (w _ _ _ q)⟩
section
variable {K : KF} {mg : MG} {W : WX} {C : Cn} {I H : Hp} {r : Env} {s : St}
/-! ### made data -/
theorem dd_ok {f : EF S} {Q : VK} (h : tD K mg W (dd f) s H Q) : tE K mg W f s H Q := by
  obtain ⟨C, I, r, o, r', R, e, q⟩ := h
  rcases eb_inv e with ⟨x, r1, hf, e⟩ | ⟨x, hf, rfl⟩
  · refine ⟨C, I, r, _, _, R, hf, fun v I' H' R' s' t => ?_⟩
    cases x with
    | d x =>
      cases e
      exact q v I' H' R' s' t
    | bor m => exact t.elim
    | lck m => exact t.elim
    | own b m =>
      cases b with
      | true => exact t.elim
      | false =>
        cases m with
        | lst xs =>
          cases e
          obtain ⟨I2, R2, s2, p⟩ := R'.freeze t
          exact q v I2 H' R2 (s'.trans s2) p
        | dic xs => cases e
        | frd xs => cases e
        | dit xs => cases e
        | exc xs => cases e
  · exact ⟨C, I, r, _, _, R, hf, q⟩
theorem ds_ok {f : EF D} {Q : VK} (h : tE K mg W (ds f) s H Q) : tD K mg W f s H Q := by
  obtain ⟨C, I, r, o, r', R, e, q⟩ := h
  rcases eb_inv e with ⟨x, r1, hf, e⟩ | ⟨x, hf, rfl⟩
  · cases e
    exact ⟨C, I, r, _, _, R, hf, fun v I' H' R' s' t => q v I' H' R' s' t⟩
  · exact ⟨C, I, r, _, _, R, hf, q⟩
/-! ### operands -/
def OvRel (K : KF) (I : Hp) (s : St) (v : V) : Ov → Prop
  | .sl i => s[i]? = some (some v)
  | .d x => Dp K I v x
inductive OvAll (K : KF) (I : Hp) (s : St) : List V → List Ov → Prop
  | nil : OvAll K I s [] []
  | cons {v : V} {vs : List V} {o : Ov} {os : List Ov} : OvRel K I s v o → OvAll K I s vs os → OvAll K I s (v :: vs) (o :: os)
theorem ovRel_up {I J : Hp} (g : Same I J) {v : V} {o : Ov} (h : OvRel K I s v o) : OvRel K J s v o := by
  cases o with
  | sl i => exact h
  | d x => exact dp_up g _ _ h
theorem ovAll_up {I J : Hp} (g : Same I J) : ∀ {vs : List V} {os : List Ov}, OvAll K I s vs os → OvAll K J s vs os
  | _, _, .nil => .nil
  | _, _, .cons a b => .cons (ovRel_up g a) (ovAll_up g b)
theorem evO_ok : ∀ (ods : List Od) {I H : Hp} {r r' : Env} {o : R (List Ov)} (A : Rel K C I H r s) (e : evO ods r = some (o, r')) {Q : List V → Hp → Prop}
    (q : match o with
      | .ok os => ∀ vs I' H', Rel K C I' H' r' s → Same I I' → OvAll K I' s vs os → Q vs H'
      | .ex x => ∀ c dx I' H', Rel K C I' H' r' s → Same I I' → XRel K mg C.H0 I' H' c dx x → W c dx s H'), tOds K mg W ods s H Q
  | [], I, H, r, r', o, A, e, Q, q => by
    cases e
    exact q [] I H A (Same.refl I) .nil
  | .sl i :: t, I, H, r, r', o, A, e, Q, q => by
    unfold evO at e
    split at e
    · rename_i y hr
      obtain ⟨v, hv, _⟩ := A.slot i y hr
      refine ⟨v, hv, ?_⟩
      rcases eb_inv e with ⟨os, r1, ht, e⟩ | ⟨x, ht, rfl⟩
      · cases e
        exact evO_ok t A ht (fun vs I' H' R' g a => q (v :: vs) I' H' R' g (.cons hv a))
      · exact evO_ok t A ht q
    · cases e
  | .ex f :: t, I, H, r, r', o, A, e, Q, q => by
    unfold evO at e
    rcases eb_inv e with ⟨d, r1, hf, e⟩ | ⟨x, hf, rfl⟩
    · refine ⟨C, I, r, _, _, A, hf, fun v I1 H1 R1 g1 p1 => ?_⟩
      rcases eb_inv e with ⟨os, r2, ht, e⟩ | ⟨x, ht, rfl⟩
      · cases e
        exact evO_ok t R1 ht (fun vs I' H' R' g a => q (v :: vs) I' H' R' (g1.trans g) (.cons (dp_up g _ _ p1) a))
      · exact evO_ok t R1 ht (fun c dx I' H' R' g => q c dx I' H' R' (g1.trans g))
    · exact ⟨C, I, r, _, _, A, hf, q⟩
/-- what an operation reads -/
def ARel (K : KF) (I H : Hp) (v : V) : S → Prop
  | .d x => Dp K I v x
  | .bor m => ∃ a, v = .ref a ∧ MRel K I H a m
  | .lck _ => False
  | .own _ _ => False
inductive AAll (K : KF) (I H : Hp) : List V → List S → Prop
  | nil : AAll K I H [] []
  | cons {v : V} {vs : List V} {x : S} {xs : List S} : ARel K I H v x → AAll K I H vs xs → AAll K I H (v :: vs) (x :: xs)
theorem mrel_keep {C : Cn} (R : Rel K C I H r s) {a : Addr} {m : MO} (n : ∀ j, C.io j ≠ some a) (h : MRel K C.I0 C.H0 a m) : MRel K I H a m := mrel_same R.mono (fun o e => R.keep a o e n) h
theorem get_ok (R : Rel K C I H r s) {v : V} {o : Ov} {x : S} (h : OvRel K I s v o) (e : o.get r = some x) : ARel K I H v x := by
  cases o with
  | d d =>
    cases e
    exact h
  | sl i =>
    have h' : s[i]? = some (some v) := h
    have e : rdS r i = some x := e
    unfold rdS at e
    split at e
    · rename_i d hr
      obtain ⟨w, hw, q⟩ := R.slot i _ hr
      rw [hw] at h'
      cases h'
      cases e
      exact q
    · rename_i m hr
      obtain ⟨w, hw, q⟩ := R.slot i _ hr
      rw [hw] at h'
      cases h'
      cases e
      obtain ⟨a, e1, _, n, m⟩ := q
      exact ⟨a, e1, mrel_keep R n m⟩
    · rename_i m hr
      obtain ⟨w, hw, q⟩ := R.slot i _ hr
      rw [hw] at h'
      cases h'
      cases e
      obtain ⟨a, e1, _, _, m⟩ := q
      exact ⟨a, e1, m⟩
    · rename_i b m hr
      obtain ⟨w, hw, q⟩ := R.slot i _ hr
      rw [hw] at h'
      cases h'
      cases e
      obtain ⟨a, e1, _, m, _⟩ := own_nz q
      exact ⟨a, e1, m⟩
    · cases e
theorem getAll_ok (R : Rel K C I H r s) : ∀ {vs : List V} {os : List Ov} {xs : List S}, OvAll K I s vs os → getAll r os = some xs → AAll K I H vs xs
  | _, _, xs, .nil, e => by
    cases e
    exact .nil
  | _, _, xs, .cons (o := o) (os := os) a b, e => by
    unfold getAll at e
    split at e
    · rename_i x ys h1 h2
      cases e
      exact .cons (get_ok R a h1) (getAll_ok R b h2)
    · cases e
/-- what an operation on values is to do -/
def rApp (K : KF) (op : List S → Option S) : List V → Hp → VK → Prop := fun vs H Q => ∃ I ss x, Same I H ∧ AAll K I H vs ss ∧ op ss = some x ∧ ∀ v I' H', Grow I H I' H' → NewS K I H v I' H' x → Q v H'
/-- what is computed of some operands -/
theorem app_inv {ods : List Od} {op : List S → Option S} {r r' : Env} {o : R S} (e : dApp ods op r = some (o, r')) :
    (∃ os ss x, evO ods r = some (.ok os, r') ∧ getAll r' os = some ss ∧ op ss = some x ∧ o = .ok x) ∨ ∃ x, evO ods r = some (.ex x, r') ∧ o = .ex x := by
  rcases eb_inv e with ⟨os, r1, ho, e⟩ | ⟨x, ho, rfl⟩
  · split at e
    · rename_i ss h1
      split at e
      · rename_i x h2
        cases e
        exact .inl ⟨os, ss, x, ho, h1, h2, rfl⟩
      · cases e
    · cases e
  · exact .inr ⟨x, ho, rfl⟩
theorem app_gen {ods : List Od} {op : List S → Option S} {Q : VK} (h : tE K mg W (dApp ods op) s H Q) {P : List V → Hp → Prop}
    (p : ∀ C I r vs ss x H', Rel K C I H' r s → AAll K I H' vs ss → op ss = some x → (∀ v I2 H2, Grow I H' I2 H2 → NewS K I H' v I2 H2 x → Q v H2) → P vs H') : tOds K mg W ods s H P := by
  obtain ⟨C, I, r, o, r', R, e, q⟩ := h
  rcases app_inv e with ⟨os, ss, x, ho, hg, hx, rfl⟩ | ⟨x, ho, rfl⟩
  · exact evO_ok ods R ho fun vs I' H' R' g a => p C I' r' vs ss x H' R' (getAll_ok R' a hg) hx fun v I2 H2 gr n => q v I2 H2 (R'.grow gr) (g.trans gr.i) (R'.newS gr n)
  · exact evO_ok ods R ho q
theorem app_ok {ods : List Od} {op : List S → Option S} {Q : VK} (h : tE K mg W (dApp ods op) s H Q) : tOds K mg W ods s H fun vs H1 => rApp K op vs H1 Q :=
  app_gen h fun _ I _ _ ss x _ R a hx q => ⟨I, ss, x, R.sub, a, hx, q⟩
end
/-! ### the rules for what is made of operands -/
section
variable {X : Cx} {W : WX} {a b : Expr} {es : List Expr} {oa ob : Od} {os : List Od} {pos : Pos}
theorem do_d {f : EF D} (h : DD X W a f) : DO X W a (.ex f) := h
theorem dd_e {f : EF S} (h : DE X W a f) : DD X W a (dd f) := pe_of h fun _ _ _ q => dd_ok q
theorem de_d {f : EF D} (h : DD X W a f) : DE X W a (ds f) := pe_of h fun _ _ _ q => ds_ok q
theorem da_nil : DA X W [] [] := pa_nil
theorem da_cons (h : DO X W a oa) (t : DA X W es os) (hs : starEach (a :: es) X.env = (false, eval a X.env) :: starEach es X.env := by rfl) : DA X W (a :: es) (oa :: os) := pa_cons h t hs
def OpD (X : Cx) (f : Value → Value → Sem Value) (op : List S → Option S) : Prop := OpR X f fun x y H Q => rApp X.K op [x, y] H Q
def UnD (X : Cx) (f : Value → Sem Value) (op : List S → Option S) : Prop := UnR X f fun x H Q => rApp X.K op [x] H Q
abbrev CallD (X : Cx) (f : Value) (op : List S → Option S) : Prop := CallR X f (rApp X.K op)
theorem de_op {op : Operator} {f : List S → Option S} (ho : OpD X (binaryOp op) f) (ha : DO X W a oa) (hb : DO X W b ob) : DE X W (.BinOp a op b pos) (dApp [oa, ob] f) :=
  pe_of (pe_op ho ha hb) fun _ _ _ q => app_ok (ods := [oa, ob]) q
theorem de_un {op : UnaryOp} {f : List S → Option S} (ho : UnD X (unaryOp op) f) (ha : DO X W a oa) : DE X W (.UnaryOp op a pos) (dApp [oa] f) :=
  pe_of (pe_un ho ha) fun _ _ _ q => app_ok (ods := [oa]) q
theorem de_cmp {op : CmpOp} {f : List S → Option S} (ho : OpD X (compareOp op) f) (ha : DO X W a oa) (hb : DO X W b ob) (hm : behindInMarks op b = false) : DE X W (.Compare a [op] [b] pos) (dApp [oa, ob] f) :=
  pe_of (pe_cmpR ho ha hb hm) fun _ _ _ q => app_ok (ods := [oa, ob]) q
theorem de_ix {f : List S → Option S} (ho : IxR X fun x y H Q => rApp X.K f [x, y] H Q) (ha : DO X W a oa) (hb : DO X W b ob) (hs : PlainIx b) : DE X W (.Subscript a b pos) (dApp [oa, ob] f) :=
  pe_of (pe_ix ho ha hb hs) fun _ _ _ q => app_ok (ods := [oa, ob]) q
theorem de_callB {x : Str} {p : Pos} {id : String} {f : List S → Option S} (hc : CallD X (.builtin id) f) (hg : Gl X x) (hm : X.mg x = none) (hv : bootBuiltins x = some (.builtin id)) (ha : DA X W (a :: es) os) (hn : x ≠ "__name__" := by decide) (hdb : (x == ("__debug__" : Str)) = false := by decide)
    (he : starEach (a :: es) X.env = (false, eval a X.env) :: starEach es X.env := by rfl) (hpl : (backTo pos (starEach es X.env)).any (·.1) = false := by rfl) : DE X W (.Call (.Name x p) (a :: es) [] pos) (dApp os f) :=
  pe_of (pe_callB hc hg hm hv ha hn hdb he hpl) fun _ _ _ q => app_ok q
theorem de_callT {x : Str} {p : Pos} {id : String} {f : List S → Option S} (hc : CallD X (.type id) f) (hg : Gl X x) (hm : X.mg x = none) (hv : bootBuiltins x = some (.type id)) (ha : DA X W (a :: es) os) (hn : x ≠ "__name__" := by decide) (hdb : (x == ("__debug__" : Str)) = false := by decide)
    (he : starEach (a :: es) X.env = (false, eval a X.env) :: starEach es X.env := by rfl) (hpl : (backTo pos (starEach es X.env)).any (·.1) = false := by rfl) : DE X W (.Call (.Name x p) (a :: es) [] pos) (dApp os f) :=
  pe_of (pe_callTy hc hg hm hv ha hn hdb he hpl) fun _ _ _ q => app_ok q
/-- (a, b, ..), [a, b, ..] -/
def datas : List S → Option (List D)
  | [] => some []
  | .d x :: t => (datas t).map (x :: ·)
  | _ :: _ => none
theorem datas_ok {K : KF} {I H : Hp} : ∀ {vs : List V} {ss : List S} {xs : List D}, AAll K I H vs ss → datas ss = some xs → DpAll K I vs xs
  | _, _, _, .nil, e => by cases e; exact .nil
  | _, _, _, .cons (x := x) (xs := ss) a b, e => by
    cases x with
    | d d =>
      unfold datas at e
      obtain ⟨ys, h1, h2⟩ := Option.map_eq_some_iff.mp e
      subst h2
      exact .cons a (datas_ok b h1)
    | lck m => cases e
    | bor m => cases e
    | own b m => cases e
def opTup (ss : List S) : Option S := (datas ss).bind fun xs => if xs.length ≤ 16777216 then some (.d (.tuple xs)) else none
def opLst (ss : List S) : Option S := (datas ss).bind fun xs => if xs.length ≤ 16777216 then some (.own false (.lst xs)) else none
/-- (a, b, ..): the new object is known -/
theorem pe_tupZ {k : Nat} {t : TA} (h : PA X es t) : PE X (.Tuple es k pos) (fun σ H Q => t σ H fun xs H1 => xs.length ≤ sizeLine ∧ ∀ p o, H1 p = none → o.dict = none → Q (.ref p) (upd H1 p (.frz o (.tup xs)))) := by
  refine ⟨fun pins s σ H Q I hq => ?_⟩
  refine wpAny_Tuple_spliced (thn (h.run pos pins s σ H _ I hq) fun us s1 ⟨xs, H1, I1, r, z, q⟩ => ⟨by rw [← r.length]; exact z, ?_⟩)
  have hf : H1 s1.heap.objs.size = none := I1.hok.fresh (Nat.le_refl _)
  exact ⟨.ref s1.heap.objs.size, _, I1.laid (t' := s1.toks) (o := .frz _ (.tup xs)) (fun b u e => Heap.get?_push_of_some _ e) (Nat.le_refl _) ⟨Heap.get?_push_size _ rfl, z, us, r, ⟨_, Heap.get?_push_size _ rfl, rfl, _, rfl⟩⟩, rfl, q _ { cls := .type "tuple", data := .seq us.toArray } hf rfl⟩
theorem rd_frz {K : KF} {I : Hp} {p : Addr} {o : Obj} {xs : List V} : SqT K (upd I p (.frz o (.tup xs))) p xs := Or.inl (Or.inr ⟨o, upd_same⟩)
theorem de_tup {k : Nat} (ha : DA X W es os) : DE X W (.Tuple es k pos) (dApp os opTup) :=
  pe_of (pe_tupZ ha) fun s H Q q => app_gen q fun C I r vs ss x H' R a hx q => by
    unfold opTup at hx
    obtain ⟨xs, hd, hx⟩ := Option.bind_eq_some_iff.mp hx
    split at hx
    · rename_i hl
      cases hx
      have pa := datas_ok a hd
      refine ⟨by rw [dpa_len pa, sizeLine_eq]; exact hl, fun p o hp ho => ?_⟩
      have gr := grow_tup (o := .frz o (.tup vs)) R.sub hp ho
      exact q (.ref p) _ _ gr (.tup rd_frz (dpa_up gr.i _ _ pa))
    · cases hx
theorem de_lst (ha : DA X W es os) : DE X W (.List es pos) (dApp os opLst) :=
  pe_of (pe_lst ha) fun s H Q q => app_gen q fun C I r vs ss x H' R a hx q => by
    unfold opLst at hx
    obtain ⟨xs, hd, hx⟩ := Option.bind_eq_some_iff.mp hx
    split at hx
    · rename_i hl
      cases hx
      have pa := datas_ok a hd
      refine ⟨by rw [dpa_len pa, sizeLine_eq]; exact hl, fun p hp => ?_⟩
      have gr := grow_own (o := .lst vs) R.sub hp
      exact q (.ref p) _ _ gr ⟨p, rfl, hp, R.sub.free hp, vs, upd_same, pa⟩
    · cases hx
/-! ### names, constants -/
/-- a name's data; a list of one's own is made data -/
def dVar (i : Nat) : EF D := fun r => match r[i]? with
  | some (some (.d x)) => some (.ok x, r)
  | some (some (.own false (.lst xs))) => some (.ok (.list xs), r.set i (some (.d (.list xs))))
  | _ => none
def dC (x : D) : EF D := er x
theorem var_ok {K : KF} {mg : MG} {s : L2.St} {H : Hp} {i : Nat} {Q : VK} (h : tD K mg W (dVar i) s H Q) : tVar i s H Q := by
  obtain ⟨C, I, r, o, r', R, e, q⟩ := h
  unfold dVar at e
  split at e
  · rename_i x hr
    cases e
    obtain ⟨v, hv, p⟩ := R.slot i _ hr
    exact ⟨v, hv, q v I H R (Same.refl I) p⟩
  · rename_i xs hr
    cases e
    obtain ⟨I', v, hv, R', g, p⟩ := R.freezeSlot hr
    exact ⟨v, hv, q v I' H R' g p⟩
  · cases e
theorem dd_var {i : Nat} {x : Str} (h : PE X (.Name x pos) (tVar i)) : DD X W (.Name x pos) (dVar i) := pe_of h fun _ _ _ q => var_ok q
theorem do_var {i : Nat} {x : Str} (h : PE X (.Name x pos) (tVar i)) : DO X W (.Name x pos) (.sl i) := h
theorem c_ok {K : KF} {mg : MG} {s : St} {H : Hp} {v : V} {d : D} {Q : VK} (p : ∀ I, Dp K I v d) (h : tD K mg W (dC d) s H Q) : tC v s H Q := by
  obtain ⟨C, I, r, o, r', R, e, q⟩ := h
  cases e
  exact q v I H R (Same.refl I) (p I)
theorem dd_c {v : V} {d : D} (h : PE X a (tC v)) (p : ∀ I, Dp X.K I v d) : DD X W a (dC d) := pe_of h fun _ _ _ q => c_ok p q
theorem dd_int {i : Int} {j : Nat} : DD X W (.Constant (.int i) j pos) (dC (.int i)) := dd_c pe_int fun _ => .int i
theorem dd_bl {b : Bool} {j : Nat} : DD X W (.Constant (.bool b) j pos) (dC (.bool b)) := dd_c pe_bl fun _ => .bl b
theorem dd_non {j : Nat} : DD X W (.Constant .none j pos) (dC .none) := dd_c pe_non fun _ => .non
theorem dd_str {x : Str} {j : Nat} : DD X W (.Constant (.str x) j pos) (dC (.str x)) := dd_c pe_str fun _ => .str x
/-- a constant of the module -/
theorem dd_gint {x : Str} {i : Int} {t : Tok} (hg : Gl X x) (hm : X.mg x = some (.int i t)) (hd : (x == ("__debug__" : Str)) = false := by decide) : DD X W (.Name x pos) (dC (.int i)) := dd_c (v := .int i) (pe_glob hg hm ⟨t, rfl⟩ hd) fun _ => .int i
theorem dd_gstr {x z : Str} {t : Tok} (hg : Gl X x) (hm : X.mg x = some (.str z t)) (hd : (x == ("__debug__" : Str)) = false := by decide) : DD X W (.Name x pos) (dC (.str z)) := dd_c (v := .str z) (pe_glob hg hm ⟨t, rfl⟩ hd) fun _ => .str z
end
end DL
namespace DL
open PySem L2
/-! ### statements -/
inductive O where
  | nx | bk | ct
  | rt (x : S)
  | ex (x : Exc)
abbrev SM := Env → Option (O × Env)
section
variable (K : KF) (mg : MG) (W : WX)
def SPost (C : Cn) (D : Ends) (I : Hp) (o : O) (r' : Env) : Prop := match o with
  | .nx => ∀ s' I' H', Rel K C I' H' r' s' → Same I I' → D.nx s' H'
  | .bk => ∀ s' I' H', Rel K C I' H' r' s' → Same I I' → D.bk s' H'
  | .ct => ∀ s' I' H', Rel K C I' H' r' s' → Same I I' → D.ct s' H'
  | .rt x => ∀ v s' I' H', Rel K C I' H' r' s' → Same I I' → TRel K C I' H' r' s' v x → D.rt v H'
  | .ex x => ∀ c dx s' I' H', Rel K C I' H' r' s' → Same I I' → XRel K mg C.H0 I' H' c dx x → W c dx s' H'
def tS (g : SM) : TS := fun D s H => ∃ C I r o r', Rel K C I H r s ∧ g r = some (o, r') ∧ SPost K mg W C D I o r'
end
abbrev DS (X : Cx) (W : WX) (st : Stmt) (g : SM) : Prop := PS X st (tS X.K X.mg W g)
abbrev DSs (X : Cx) (W : WX) (st : List Stmt) (g : SM) : Prop := PSs X st (tS X.K X.mg W g)
theorem spost_up {K : KF} {mg : MG} {W : WX} {C : Cn} {D : Ends} {I J : Hp} {o : O} {r : Env} (g : Same I J) (h : SPost K mg W C D I o r) : SPost K mg W C D J o r := by
  cases o with
  | nx => exact fun s' I' H' R s1 => h s' I' H' R (g.trans s1)
  | bk => exact fun s' I' H' R s1 => h s' I' H' R (g.trans s1)
  | ct => exact fun s' I' H' R s1 => h s' I' H' R (g.trans s1)
  | rt x => exact fun v s' I' H' R s1 => h v s' I' H' R (g.trans s1)
  | ex x => exact fun c dx s' I' H' R s1 => h c dx s' I' H' R (g.trans s1)
def sPass : SM := fun r => some (.nx, r)
def sBreak : SM := fun r => some (.bk, r)
def sCont : SM := fun r => some (.ct, r)
def sb (a b : SM) : SM := fun r => match a r with
  | some (.nx, r1) => b r1
  | z => z
theorem sb_inv {a b : SM} {r r' : Env} {o : O} (e : sb a b r = some (o, r')) : (∃ r1, a r = some (.nx, r1) ∧ b r1 = some (o, r')) ∨ (a r = some (o, r') ∧ o ≠ .nx) := by
  unfold sb at e
  split at e
  · rename_i r1 h
    exact .inl ⟨r1, h, e⟩
  · rename_i z h
    refine .inr ⟨e, fun q => ?_⟩
    subst q
    exact h _ e
/-- a statement that uses what an expression gives -/
def sx {α : Type} (f : EF α) (k : α → SM) : SM := fun r => match f r with
  | some (.ok x, r1) => k x r1
  | some (.ex x, r1) => some (.ex x, r1)
  | none => none
theorem sx_inv {α : Type} {f : EF α} {k : α → SM} {r r' : Env} {o : O} (e : sx f k r = some (o, r')) : (∃ x r1, f r = some (.ok x, r1) ∧ k x r1 = some (o, r')) ∨ ∃ x, f r = some (.ex x, r') ∧ o = .ex x := by
  unfold sx at e
  split at e
  · rename_i x r1 h
    exact .inl ⟨x, r1, h, e⟩
  · rename_i x r1 h
    cases e
    exact .inr ⟨x, h, rfl⟩
  · cases e
def sAsg (i : Nat) (f : EF S) : SM := sx f fun x r => some (.nx, r.set i (some x))
def sRet (f : EF S) : SM := sx f fun x r => some (.rt x, r)
def sRetN : SM := fun r => some (.rt (.d .none), r)
def sDrop (f : EF S) : SM := sx f fun _ r => some (.nx, r)
def sIf (c : EF Bool) (a b : SM) : SM := sx c fun k => if k = true then a else b
section
variable {X : Cx} {W : WX} {st : Stmt} {rest : List Stmt} {e : Expr} {pos : Pos} {a b : SM}
theorem dss_nil : DSs X W [] sPass := pss_of pss_nil fun D s H ⟨C, I, r, o, r', R, e, q⟩ => by
  cases e
  exact q s I H R (Same.refl I)
theorem dss_one (h : DS X W st a) : DSs X W [st] a := pss_one h
theorem dss_cons (h1 : DS X W st a) (h2 : DSs X W rest b) : DSs X W (st :: rest) (sb a b) := pss_of (pss_cons h1 h2) fun D s H ⟨C, I, r, o, r', R, e, q⟩ => by
  rcases sb_inv e with ⟨r1, e1, e2⟩ | ⟨e1, n⟩
  · exact ⟨C, I, r, .nx, r1, R, e1, fun s' I' H' R' g => ⟨C, I', r1, o, r', R', e2, spost_up g q⟩⟩
  · refine ⟨C, I, r, o, r', R, e1, ?_⟩
    cases o with
    | nx => exact absurd rfl n
    | bk => exact q
    | ct => exact q
    | rt x => exact q
    | ex x => exact q
theorem ds_pass : DS X W (.Pass pos) sPass := ps_of ps_pass fun D s H ⟨C, I, r, o, r', R, e, q⟩ => by
  cases e
  exact q s I H R (Same.refl I)
theorem ds_break : DS X W (.Break pos) sBreak := ps_of ps_break fun D s H ⟨C, I, r, o, r', R, e, q⟩ => by
  cases e
  exact q s I H R (Same.refl I)
theorem ds_cont : DS X W (.Continue pos) sCont := ps_of ps_continue fun D s H ⟨C, I, r, o, r', R, e, q⟩ => by
  cases e
  exact q s I H R (Same.refl I)
theorem ds_doc {x : Str} {j : Nat} {p : Pos} : DS X W (.Expr (.Constant (.str x) j p) pos) sPass := ps_of ps_doc fun D s H ⟨C, I, r, o, r', R, e, q⟩ => by
  cases e
  exact q s I H R (Same.refl I)
/-- an expression's reading within a statement's -/
theorem tE_sx {K : KF} {mg : MG} {f : EF S} {k : S → SM} {D : Ends} {s : L2.St} {H : Hp} (h : tS K mg W (sx f k) D s H) {P : VK}
    (p : ∀ C I H' r r' o x v, Rel K C I H' r s → TRel K C I H' r s v x → k x r = some (o, r') → SPost K mg W C D I o r' → P v H') : tE K mg W f s H P := by
  obtain ⟨C, I, r, o, r', R, e, q⟩ := h
  rcases sx_inv e with ⟨x, r1, hf, e⟩ | ⟨x, hf, rfl⟩
  · exact ⟨C, I, r, _, _, R, hf, fun v I' H' R' g t => p C I' H' r1 r' o x v R' t e (spost_up g q)⟩
  · exact ⟨C, I, r, _, _, R, hf, fun c dx I' H' R' g t => q c dx s I' H' R' g t⟩
theorem tT_sx {K : KF} {mg : MG} {f : EF Bool} {k : Bool → SM} {D : Ends} {s : L2.St} {H : Hp} (h : tS K mg W (sx f k) D s H) {P : Bool → Hp → Prop}
    (p : ∀ x H', tS K mg W (k x) D s H' → P x H') : tT K mg W f s H P := by
  obtain ⟨C, I, r, o, r', R, e, q⟩ := h
  rcases sx_inv e with ⟨x, r1, hf, e⟩ | ⟨x, hf, rfl⟩
  · exact ⟨C, I, r, _, _, R, hf, fun I' H' R' g => p x H' ⟨C, I', r1, o, r', R', e, spost_up g q⟩⟩
  · exact ⟨C, I, r, _, _, R, hf, fun c dx I' H' R' g t => q c dx s I' H' R' g t⟩
theorem ds_asg {f : EF S} {i : Nat} {x : Str} {p : Pos} (h : DE X W e f) (hN : X.N.Nodup) (hi : X.N[i]? = some x) (hx : Loc X.env.scope x) (hf : X.fn x = true ∨ X.env.scope.names.lookup x = some .local := by first | exact .inl rfl | exact .inr rfl | assumption)
    (hs : swapsWithSole [.Name x p] e pos.line X.env = pure false := by rfl) (hw : swappedStores [.Name x p] e X.env = pure none := by rfl) (h1 : (assignEach [.Name x p] X.env).map (·.2) = [assign (.Name x p) X.env] := by rfl) :
    DS X W (.Assign [.Name x p] e pos) (sAsg i f) :=
  ps_of (ps_asg h (pg_name hN hi hx hf) hs hw h1) fun D s H q => tE_sx q fun C I H' r r' o x v R t e q => by
    cases e
    exact q _ I H' (R.put t) (Same.refl I)
theorem ds_ret {f : EF S} (h : DE X W e f) : DS X W (.Return (some e) pos) (sRet f) :=
  ps_of (ps_ret h) fun D s H q => tE_sx q fun C I H' r r' o x v R t e q => by
    cases e
    exact q v _ I H' R (Same.refl I) t
theorem ds_retN : DS X W (.Return none pos) sRetN := ps_of ps_retN fun D s H ⟨C, I, r, o, r', R, e, q⟩ => by
  cases e
  exact q .non s I H R (Same.refl I) .non
theorem ds_expr {f : EF S} (h : DE X W e f) (hs : swapsWith e none pos.line X.env = pure false := by rfl) : DS X W (.Expr e pos) (sDrop f) :=
  ps_of (ps_expr h hs) fun D s H q => tE_sx q fun C I H' r r' o x v R t e q => by
    cases e
    exact q _ I H' R (Same.refl I)
theorem ds_if {f : EF Bool} {ta tb : List Stmt} {c : Expr} (hc : DT X W c f) (ha : DSs X W ta a) (hb : DSs X W tb b) : DS X W (.If c ta tb pos) (sIf f a b) :=
  ps_of (ps_if hc ha hb) fun D s H q => tT_sx q fun k H' q => by
    cases k with
    | true => exact q
    | false => exact q
/-! ### tests -/
def cTst (f : EF S) : EF Bool := eb f fun x => match x with
  | .d (.bool b) => er b
  | _ => fun _ => none
def truD : D → Option Bool
  | .none => some false
  | .bool b => some b
  | .int i => some (i != 0)
  | .str x => if x.length ≤ 16777216 then some (x.length != 0) else none
  | .list xs => some (!xs.isEmpty)
  | .tuple xs => some (!xs.isEmpty)
  | .dict _ => none
def kTru (b : Option Bool) : EF Bool := match b with
  | some b => er b
  | none => fun _ => none
def cTru (f : EF D) : EF Bool := eb f fun x => kTru (truD x)
theorem kTru_inv {b : Option Bool} {r r' : Env} {o : R Bool} (e : kTru b r = some (o, r')) : ∃ k, b = some k ∧ r' = r ∧ o = .ok k := by
  cases b with
  | none => cases e
  | some k => cases e; exact ⟨k, rfl, rfl, rfl⟩
def cAnd (f g : EF Bool) : EF Bool := eb f fun k => if k = true then g else er false
def cOr (f g : EF Bool) : EF Bool := eb f fun k => if k = true then er true else g
def cNot (f : EF Bool) : EF Bool := eb f fun k => er (!k)
theorem tT_eb {K : KF} {mg : MG} {f : EF Bool} {k : Bool → EF Bool} {s : L2.St} {H : Hp} {Q : Bool → Hp → Prop} (h : tT K mg W (eb f k) s H Q) {P : Bool → Hp → Prop}
    (p : ∀ x H', tT K mg W (k x) s H' Q → P x H') : tT K mg W f s H P := by
  obtain ⟨C, I, r, o, r', R, e, q⟩ := h
  rcases eb_inv e with ⟨x, r1, hf, e⟩ | ⟨x, hf, rfl⟩
  · refine ⟨C, I, r, _, _, R, hf, fun I' H' R' g => p x H' ⟨C, I', r1, o, r', R', e, ?_⟩⟩
    cases o with
    | ok y => exact fun I2 H2 R2 g2 => q I2 H2 R2 (g.trans g2)
    | ex y => exact fun c dx I2 H2 R2 g2 => q c dx I2 H2 R2 (g.trans g2)
  · exact ⟨C, I, r, _, _, R, hf, q⟩
theorem tT_er {K : KF} {mg : MG} {k : Bool} {s : L2.St} {H : Hp} {Q : Bool → Hp → Prop} (h : tT K mg W (er k) s H Q) : Q k H := by
  obtain ⟨C, I, r, o, r', R, e, q⟩ := h
  cases e
  exact q I H R (Same.refl I)
theorem dt_cmp {op : CmpOp} {f : List S → Option S} {c d : Expr} {oa ob : Od} (ho : OpD X (compareOp op) f) (ha : DO X W c oa) (hb : DO X W d ob) (hm : behindInMarks op d = false) : DT X W (.Compare c [op] [d] pos) (cTst (dApp [oa, ob] f)) :=
  pt_of (pt_cmpR ho ha hb hm) fun s H Q ⟨C, I, r, o, r', R, e, q⟩ => by
    have z : tE X.K X.mg W (dApp [oa, ob] f) s H fun v H1 => ∃ c, v = .bl c ∧ Q c H1 := by
      rcases eb_inv e with ⟨x, r1, hf, e⟩ | ⟨x, hf, rfl⟩
      · refine ⟨C, I, r, _, _, R, hf, fun v I' H' R' g t => ?_⟩
        cases x with
        | d x =>
          cases x with
          | bool b =>
            cases e
            have t : Dp X.K I' v (.bool b) := t
            cases t
            exact ⟨b, rfl, q I' H' R' g⟩
          | _ => cases e
        | _ => cases e
      · exact ⟨C, I, r, _, _, R, hf, q⟩
    exact app_ok (ods := [oa, ob]) z
theorem tru_ok' {K : KF} {I H : Hp} (g : Same I H) {v : V} {d : D} {b : Bool} (h : Dp K I v d) (e : truD d = some b) : TruV K v H b ∨ ∃ c, v = .bl c ∧ b = c := by
  cases h with
  | non => cases e; exact .inl rfl
  | bl c => cases e; exact .inr ⟨_, rfl, rfl⟩
  | int i => cases e; exact .inl rfl
  | str x =>
    have e : (if x.length ≤ 16777216 then some (x.length != 0) else none) = some b := e
    split at e
    · rename_i hl
      cases e
      refine .inl ⟨by rw [sizeLine_eq]; exact hl, ?_⟩
      cases hx : x.length with
      | zero => rfl
      | succ n =>
        have h1 : ((n + 1 : Nat) : Int) ≠ 0 := by omega
        simp [bne]
        omega
    · cases e
  | lst hs ha =>
    cases e
    refine .inl (.inl ⟨_, g.seq hs, ?_⟩)
    have := dpa_len ha
    rename_i xs ds
    cases xs <;> cases ds <;> first | rfl | simp at this
  | tup hs ha =>
    cases e
    refine .inl (.inr (.inl ⟨_, Evl.ex_t g hs, ?_⟩))
    have := dpa_len ha
    rename_i xs ds
    cases xs <;> cases ds <;> first | rfl | simp at this
/-- an expression whose value is a truth -/
def cVal (f : EF D) : EF Bool := eb f fun x => match x with
  | .bool b => er b
  | _ => fun _ => none
theorem dt_val {f : EF D} (h : DD X W e f) (he : ∀ whole, isTrue e X.env whole = (do let v ← whole; standAt e.pos; holding [v] (truthy v)) := by intro _; rfl) : DT X W e (cVal f) :=
  pt_of (pt_val h he) fun s H Q ⟨C, I, r, o, r', R, e, q⟩ => by
    rcases eb_inv e with ⟨x, r1, hf, e⟩ | ⟨x, hf, rfl⟩
    · refine ⟨C, I, r, _, _, R, hf, fun v I' H' R' g t => ?_⟩
      cases x with
      | bool b =>
        cases e
        cases t
        exact ⟨b, rfl, q I' H' R' g⟩
      | _ => cases e
    · exact ⟨C, I, r, _, _, R, hf, q⟩
abbrev DW (X : Cx) (W : WX) (e : Expr) (f : EF Bool) : Prop := PW X e (tT X.K X.mg W f)
theorem pw_of {X : Cx} {e : Expr} {t t' : TT} (h : PW X e t) (w : ∀ s H Q, t' s H Q → t s H Q) : PW X e t' := ⟨fun wh pins s σ H Q I q => h.run wh pins s σ H Q I (w _ _ _ q)⟩
variable {f g : EF Bool} {c d : Expr} {es : List Expr}
theorem dt_bool (h : DW X W c f) : DT X W c f := h.pt
theorem dw_and1 (h : DT X W c f) : DW X W (.BoolOp .And [c] pos) f := pw_and1 h
theorem dw_or1 (h : DT X W c f) : DW X W (.BoolOp .Or [c] pos) f := pw_or1 h
theorem dw_and (h : DT X W c f) (h2 : DW X W (.BoolOp .And (d :: es) pos) g) : DW X W (.BoolOp .And (c :: d :: es) pos) (cAnd f g) :=
  pw_of (pw_and h h2) fun s H Q q => tT_eb q fun k H' q => by
    cases k with
    | true => exact q
    | false => exact tT_er q
theorem dw_or (h : DT X W c f) (h2 : DW X W (.BoolOp .Or (d :: es) pos) g) : DW X W (.BoolOp .Or (c :: d :: es) pos) (cOr f g) :=
  pw_of (pw_or h h2) fun s H Q q => tT_eb q fun k H' q => by
    cases k with
    | true => exact tT_er q
    | false => exact q
theorem dt_not (h : DT X W c f) : DT X W (.UnaryOp .Not c pos) (cNot f) :=
  pt_of (pt_not h) fun s H Q q => tT_eb q fun k H' q => tT_er q
/-- a test by truth -/
theorem dt_tru {f : EF D} (h : DD X W e f) (he : ∀ whole, isTrue e X.env whole = (do let v ← whole; standAt e.pos; holding [v] (truthy v)) := by intro _; rfl) : DT X W e (cTru f) := by
  refine ⟨fun pins s σ H Q I q => ?_⟩
  obtain ⟨C, I1, r, o, r', R, e1, q⟩ := q
  have z : (tD X.K X.mg W f) σ H fun v H1 => ∃ k, (TruV X.K v H1 k ∨ ∃ c, v = .bl c ∧ k = c) ∧ Q k H1 := by
    rcases eb_inv e1 with ⟨x, r1, hf, e1⟩ | ⟨x, hf, rfl⟩
    · refine ⟨C, I1, r, _, _, R, hf, fun v I' H' R' g t => ?_⟩
      obtain ⟨b, hb, rfl, rfl⟩ := kTru_inv e1
      exact ⟨b, tru_ok' R'.sub t hb, q I' H' R' g⟩
    · exact ⟨C, I1, r, _, _, R, hf, q⟩
  refine PyProof.Rows.isTrue_plain (thn (h.run pins s σ H _ I z) fun v s1 ⟨x, H1, J1, r1, k, q1, q2⟩ => ?_) (he _)
  rcases q1 with q1 | ⟨c, rfl, rfl⟩
  · exact tru_ok pins s1 σ H1 x v Q J1 r1 ⟨k, q1, q2⟩
  · cases r1
    exact PySem.wpAny_truthy_bool ⟨H1, J1, q2⟩
/-! ### and, or, not, if as values -/
def kSel (b : Option Bool) (f g : EF D) : EF D := match b with
  | some true => f
  | some false => g
  | none => fun _ => none
def vAnd (f g : EF D) : EF D := eb f fun x => kSel (truD x) g (er x)
def vOr (f g : EF D) : EF D := eb f fun x => kSel (truD x) (er x) g
def vB (c : EF Bool) : EF D := eb c fun k => er (.bool k)
def vIf {α : Type} (c : EF Bool) (f g : EF α) : EF α := eb c fun k => if k = true then f else g
theorem tD_eb {K : KF} {mg : MG} {f : EF D} {k : D → EF D} {s : L2.St} {H : Hp} {Q : VK} (h : tD K mg W (eb f k) s H Q) {P : VK}
    (p : ∀ C I x v H' r o r', Rel K C I H' r s → Dp K I v x → k x r = some (o, r') → (match o with
      | .ok y => ∀ w I' H', Rel K C I' H' r' s → Same I I' → Dp K I' w y → Q w H'
      | .ex y => ∀ c dx I' H', Rel K C I' H' r' s → Same I I' → XRel K mg C.H0 I' H' c dx y → W c dx s H') → P v H') : tD K mg W f s H P := by
  obtain ⟨C, I, r, o, r', R, e, q⟩ := h
  rcases eb_inv e with ⟨x, r1, hf, e⟩ | ⟨x, hf, rfl⟩
  · refine ⟨C, I, r, _, _, R, hf, fun v I' H' R' g t => p C I' x v H' r1 o r' R' t e ?_⟩
    cases o with
    | ok y => exact fun w I2 H2 R2 g2 => q w I2 H2 R2 (g.trans g2)
    | ex y => exact fun c dx I2 H2 R2 g2 => q c dx I2 H2 R2 (g.trans g2)
  · exact ⟨C, I, r, _, _, R, hf, q⟩
theorem tru_dp {K : KF} {I H : Hp} (g : Same I H) {v : V} {d : D} {b : Bool} (h : Dp K I v d) (e : truD d = some b) (n : ∀ c, d ≠ .bool c) : TruV K v H b := by
  rcases tru_ok' g h e with z | ⟨c, rfl, rfl⟩
  · exact z
  · cases h
    exact absurd rfl (n _)
theorem dd_and {f g : EF D} {c d : Expr} {es : List Expr} (h1 : DD X W c f) (h2 : DD X W (.BoolOp .And (d :: es) pos) g) : DD X W (.BoolOp .And (c :: d :: es) pos) (vAnd f g) := by
  refine ⟨fun pins s σ H Q I q => ?_⟩
  refine PyProof.Rows.BoolOp_and (thn (h1.run pins s σ H (fun v H1 => ∃ k, (TruV X.K v H1 k ∨ ∃ c, v = .bl c ∧ k = c) ∧ if k = true then tD X.K X.mg W g σ H1 Q else Q v H1) I ?_) fun v s1 ⟨x, H1, J1, r1, k, q1, q2⟩ => ?_)
  · refine tD_eb q fun C I x v H' r o r' R t e q => ?_
    cases hb : truD x with
    | none => rw [hb] at e; cases e
    | some b =>
      rw [hb] at e
      cases b with
      | true => exact ⟨true, tru_ok' R.sub t hb, by rw [if_pos rfl]; exact ⟨C, I, r, o, r', R, e, q⟩⟩
      | false =>
        cases e
        exact ⟨false, tru_ok' R.sub t hb, by rw [if_neg Bool.false_ne_true]; exact q v I H' R (Same.refl I) t⟩
  · have fin : ∀ s2, Inv X pins σ H1 s2 → wpAny (model X.prog X.w) X.A (if k = true then eval (.BoolOp .And (d :: es) pos) X.env else pure v) (EP X pins σ Q) X.xe s2 := fun s2 J2 => by
      cases k with
      | true => exact h2.run pins s2 σ H1 Q J2 q2
      | false => exact wpAny_pure ⟨x, H1, J2, r1, q2⟩
    rcases q1 with q1 | ⟨c, rfl, rfl⟩
    · refine thn (tru_ok pins s1 σ H1 x v (fun c H2 => c = k ∧ H2 = H1) J1 r1 ⟨k, q1, rfl, rfl⟩) fun c s2 ⟨H2, J2, e1, e2⟩ => ?_
      subst e1 e2
      cases c with
      | true => exact h2.run pins s2 σ H2 Q J2 q2
      | false => exact ⟨x, H2, J2, r1, q2⟩
    · cases r1
      refine PySem.wpAny_truthy_bool ?_
      cases k with
      | true => exact h2.run pins s1 σ H1 Q J1 q2
      | false => exact ⟨.bl false, H1, J1, rfl, q2⟩
theorem dd_or {f g : EF D} {c d : Expr} {es : List Expr} (h1 : DD X W c f) (h2 : DD X W (.BoolOp .Or (d :: es) pos) g) : DD X W (.BoolOp .Or (c :: d :: es) pos) (vOr f g) := by
  refine ⟨fun pins s σ H Q I q => ?_⟩
  refine PyProof.Rows.BoolOp_or (thn (h1.run pins s σ H (fun v H1 => ∃ k, (TruV X.K v H1 k ∨ ∃ c, v = .bl c ∧ k = c) ∧ if k = true then Q v H1 else tD X.K X.mg W g σ H1 Q) I ?_) fun v s1 ⟨x, H1, J1, r1, k, q1, q2⟩ => ?_)
  · refine tD_eb q fun C I x v H' r o r' R t e q => ?_
    cases hb : truD x with
    | none => rw [hb] at e; cases e
    | some b =>
      rw [hb] at e
      cases b with
      | true =>
        cases e
        exact ⟨true, tru_ok' R.sub t hb, by rw [if_pos rfl]; exact q v I H' R (Same.refl I) t⟩
      | false => exact ⟨false, tru_ok' R.sub t hb, by rw [if_neg Bool.false_ne_true]; exact ⟨C, I, r, o, r', R, e, q⟩⟩
  · rcases q1 with q1 | ⟨c, rfl, rfl⟩
    · refine thn (tru_ok pins s1 σ H1 x v (fun c H2 => c = k ∧ H2 = H1) J1 r1 ⟨k, q1, rfl, rfl⟩) fun c s2 ⟨H2, J2, e1, e2⟩ => ?_
      subst e1 e2
      cases c with
      | true => exact ⟨x, H2, J2, r1, q2⟩
      | false => exact h2.run pins s2 σ H2 Q J2 q2
    · cases r1
      refine PySem.wpAny_truthy_bool ?_
      cases k with
      | true => exact ⟨.bl true, H1, J1, rfl, q2⟩
      | false => exact h2.run pins s1 σ H1 Q J1 q2
theorem dd_one {op : BoolOp} {f : EF D} {c : Expr} (h : DD X W c f) : DD X W (.BoolOp op [c] pos) f := pe_one h
theorem dd_not {f : EF D} {c : Expr} (h : DD X W c f) : DD X W (.UnaryOp .Not c pos) (vB (cNot (cTru f))) := by
  refine ⟨fun pins s σ H Q I q => ?_⟩
  refine PyProof.Rows.UnaryOp_ (thn (h.run pins s σ H (fun v H1 => ∃ k, (TruV X.K v H1 k ∨ ∃ c, v = .bl c ∧ k = c) ∧ Q (.bl (!k)) H1) I ?_) fun v s1 ⟨x, H1, J1, r1, k, q1, q2⟩ => ?_)
  · obtain ⟨C, I, r, o, r', R, e, q⟩ := q
    rcases eb_inv e with ⟨b, r1, e1, e2⟩ | ⟨y, e1, rfl⟩
    · cases e2
      rcases eb_inv e1 with ⟨b2, r2, e3, e4⟩ | ⟨y, e3, z⟩
      · cases e4
        rcases eb_inv e3 with ⟨d, r3, e5, e6⟩ | ⟨y, e5, z⟩
        · refine ⟨C, I, r, _, _, R, e5, fun v I' H' R' g t => ?_⟩
          obtain ⟨k, hb, rfl, z⟩ := kTru_inv e6
          cases z
          exact ⟨_, tru_ok' R'.sub t hb, q _ I' H' R' g (.bl _)⟩
        · cases z
      · cases z
    · rcases eb_inv e1 with ⟨b2, r2, e3, e4⟩ | ⟨y2, e3, z⟩
      · cases e4
      · cases z
        rcases eb_inv e3 with ⟨d, r3, e5, e6⟩ | ⟨y3, e5, z⟩
        · obtain ⟨k, hb, _, z⟩ := kTru_inv e6
          cases z
        · cases z
          exact ⟨C, I, r, _, _, R, e5, q⟩
  · rcases q1 with q1 | ⟨c, rfl, rfl⟩
    · exact PyProof.Rows.not_of (thn (tru_ok pins s1 σ H1 x v (fun c H2 => c = k ∧ H2 = H1) J1 r1 ⟨k, q1, rfl, rfl⟩) fun c s2 ⟨H2, J2, e1, e2⟩ => by
        subst e1 e2
        exact ⟨.bl (!c), H2, J2, rfl, q2⟩)
    · cases r1
      exact PyProof.Rows.not_of (PySem.wpAny_truthy_bool ⟨.bl (!k), H1, J1, rfl, q2⟩)
theorem tT_if {α : Type} {K : KF} {mg : MG} {c : EF Bool} {fa fb : EF S} {s : L2.St} {H : Hp} {Q : VK} (h : tE K mg W (vIf c fa fb) s H Q) : tT K mg W c s H fun k H1 => if k = true then tE K mg W fa s H1 Q else tE K mg W fb s H1 Q := by
  obtain ⟨C, I, r, o, r', R, e, q⟩ := h
  rcases eb_inv e with ⟨x, r1, hf, e⟩ | ⟨x, hf, rfl⟩
  · refine ⟨C, I, r, _, _, R, hf, fun I' H' R' g => ?_⟩
    cases x with
    | true =>
      refine iteT ⟨C, I', r1, o, r', R', e, ?_⟩
      cases o with
      | ok y => exact fun v I2 H2 R2 g2 => q v I2 H2 R2 (g.trans g2)
      | ex y => exact fun c dx I2 H2 R2 g2 => q c dx I2 H2 R2 (g.trans g2)
    | false =>
      refine iteF ⟨C, I', r1, o, r', R', e, ?_⟩
      cases o with
      | ok y => exact fun v I2 H2 R2 g2 => q v I2 H2 R2 (g.trans g2)
      | ex y => exact fun c dx I2 H2 R2 g2 => q c dx I2 H2 R2 (g.trans g2)
  · exact ⟨C, I, r, _, _, R, hf, q⟩
theorem de_if {fa fb : EF S} {c d e : Expr} (hc : DT X W c f) (ha : DE X W d fa) (hb : DE X W e fb) : DE X W (.IfExp c d e pos) (vIf f fa fb) :=
  pe_of (pe_ifExp hc ha hb) fun s H Q q => tT_if (α := D) q
end
end DL
namespace DL
open PySem L2
open PyProof.Rows (envOfC)
/-! ### a def: what it computes, of data and of things handed in to be changed -/
abbrev FD := List S → Option (R S × List S)
/-- a parameter -/
def PR (K : KF) (I H : Hp) (v : V) : S → Prop
  | .d x => Dp K I v x
  | .bor m => ∃ a, v = .ref a ∧ MRel K I H a m
  | .lck _ => False
  | .own true m => ∃ a, v = .ref a ∧ I a = none ∧ MRel K I H a m
  | .own false _ => False
def isHeld : S → Bool
  | .d _ => false
  | _ => true
structure PRel (K : KF) (I H : Hp) (vs : List V) (ss : List S) : Prop where
  len : vs.length = ss.length
  each : ∀ (i : Nat) (x : S), ss[i]? = some x → ∃ v, vs[i]? = some v ∧ PR K I H v x
  apart : ∀ (i j : Nat) m y a, i ≠ j → ss[i]? = some (.own true m) → ss[j]? = some y → isHeld y = true → vs[i]? = some (.ref a) → vs[j]? = some (.ref a) → False
  tz : Tz I
/-- behind a call -/
structure After (K : KF) (I H : Hp) (vs : List V) (ss ss' : List S) (I' H' : Hp) : Prop where
  i : Same I I'
  sub : Same I' H'
  keep : ∀ a o, H a = some o → (∀ (j : Nat) m, ss[j]? = some (.own true m) → vs[j]? ≠ some (.ref a)) → H' a = some o
  dom : ∀ a, H' a = none → H a = none
  new : ∀ a o, H a = some o → I a = none → I' a = none
  io : ∀ (j : Nat) m, ss[j]? = some (.own true m) → ∃ m' a, ss'[j]? = some (.own true m') ∧ vs[j]? = some (.ref a) ∧ MRel K I' H' a m'
  tz : Tz I'
def spF (K : KF) (mg : MG) (F : FD) : Sp := fun vs H Q E => ∃ I ss o ss', Same I H ∧ PRel K I H vs ss ∧ F ss = some (o, ss') ∧ match o with
  | .ok x => ∀ v I' H', After K I H vs ss ss' I' H' → NewS K I H v I' H' x → Q v H'
  | .ex x => ∀ c dx I' H', After K I H vs ss ss' I' H' → XRel K mg H I' H' c dx x → E c dx H'
structure FnG (P : Program) (w : World) (K : KF) (mg : MG) (base : Heap) (k : Nat) (f : Addr) (fd : FuncData) (ps : List Str) (F : FD) : Prop where
  len : ∀ ss y, F ss = some y → ss.length = ps.length
  run : ∀ (A : Around) (outer : List PySem.Env) (s : Shared) (H : Hp) (args : Args) (us : List Value) (vs : List V) (Q : VK) (E : XK), Room k A → A.guards = some [] → Env0 P w K mg base A outer s H → BindsTo s fd args (ps.zip us) → Vals vs us → spF K mg F vs H Q E →
    codeAny (model P w) A (.call (.ref f) args) (CR (L2.CX P w) outer P w H s Q E) s
theorem FnG.mono {P : Program} {w : World} {K : KF} {mg : MG} {base : Heap} {j k : Nat} {f : Addr} {fd : FuncData} {ps : List Str} {F : FD} (G : FnG P w K mg base j f fd ps F) (h : j ≤ k) : FnG P w K mg base k f fd ps F :=
  ⟨G.len, fun A outer s H args us vs Q E hr => G.run A outer s H args us vs Q E (hr.mono h)⟩
/-! ### from a body -/
def outs : List S → Env → Option (List S)
  | [], _ => some []
  | .own true _ :: t, some (.own true m) :: r => (outs t r).map (S.own true m :: ·)
  | .own true _ :: _, _ => none
  | x :: t, _ :: r => (outs t r).map (x :: ·)
  | _ :: _, [] => none
/-- np parameters, n names -/
def runB (np n : Nat) (g : SM) : FD := fun ss => if ss.length = np then match g (ss.map some ++ List.replicate (n - ss.length) none) with
    | some (.rt x, r) => (outs ss r).map fun o => (.ok x, o)
    | some (.nx, r) => (outs ss r).map fun o => (.ok (.d .none), o)
    | some (.ex x, r) => (outs ss r).map fun o => (.ex x, o)
    | _ => none
  else none
theorem outs_io : ∀ {ss : List S} {r : Env} {o : List S}, outs ss r = some o → ∀ (j : Nat) m, ss[j]? = some (.own true m) → ∃ m', r[j]? = some (some (.own true m')) ∧ o[j]? = some (.own true m')
  | [], r, o, e, j, m, h => by simp at h
  | x :: t, [], o, e, j, m, h => by
    cases x with
    | own b n => cases b <;> simp [outs] at e
    | _ => simp [outs] at e
  | x :: t, y :: r, o, e, j, m, h => by
    have gen : ∀ z, (outs t r).map (z :: ·) = some o → ((∃ m', x = .own true m') → ∃ m', y = some (.own true m') ∧ z = .own true m') → ∃ m', (y :: r)[j]? = some (some (.own true m')) ∧ o[j]? = some (.own true m') := fun z e hz => by
      obtain ⟨o1, h1, h2⟩ := Option.map_eq_some_iff.mp e
      subst h2
      cases j with
      | zero =>
        have hx : x = .own true m := by simpa using h
        obtain ⟨m', e1, e2⟩ := hz ⟨m, hx⟩
        exact ⟨m', by simp [e1], by simp [e2]⟩
      | succ j =>
        obtain ⟨m', e1, e2⟩ := outs_io h1 j m (by simpa using h)
        exact ⟨m', by simpa using e1, by simpa using e2⟩
    cases x with
    | d x => exact gen _ e fun ⟨m', q⟩ => by cases q
    | bor x => exact gen _ e fun ⟨m', q⟩ => by cases q
    | lck x => exact gen _ e fun ⟨m', q⟩ => by cases q
    | own b n =>
      cases b with
      | false => exact gen _ e fun ⟨m', q⟩ => by cases q
      | true =>
        cases y with
        | none => simp [outs] at e
        | some y =>
          cases y with
          | d y => simp [outs] at e
          | bor y => simp [outs] at e
          | lck y => simp [outs] at e
          | own c n' =>
            cases c with
            | false => simp [outs] at e
            | true => exact gen _ e fun _ => ⟨n', rfl, rfl⟩
theorem get_env {ss : List S} {n : Nat} {i : Nat} {x : S} (h : (ss.map some ++ List.replicate n none)[i]? = some (some x)) : ss[i]? = some x := by
  by_cases hi : i < ss.length
  · rw [List.getElem?_append_left (by simpa using hi), List.getElem?_map] at h
    cases e : ss[i]? with
    | none => rw [e] at h; cases h
    | some a => rw [e] at h; cases h; rfl
  · rw [List.getElem?_append_right (by simpa using hi), List.getElem?_replicate] at h
    split at h <;> cases h
theorem get_start {N : List Str} {vs : List V} {i : Nat} {v : V} (h : vs[i]? = some v) : (start N vs)[i]? = some (some v) := by
  unfold L2.start
  have hi := (List.getElem?_eq_some_iff.mp h).1
  rw [List.getElem?_append_left (by simpa using hi), List.getElem?_map, h]
  rfl
theorem get_start' {N : List Str} {vs : List V} {i : Nat} {v : V} (h : (start N vs)[i]? = some (some v)) : vs[i]? = some v := by
  unfold L2.start at h
  by_cases hi : i < vs.length
  · rw [List.getElem?_append_left (by simpa using hi), List.getElem?_map] at h
    cases e : vs[i]? with
    | none => rw [e] at h; cases h
    | some a => rw [e] at h; cases h; rfl
  · rw [List.getElem?_append_right (by simpa using hi), List.getElem?_replicate] at h
    split at h <;> cases h
/-- the context of an entry -/
def cnOf (I H : Hp) (vs : List V) (ss : List S) : Cn := ⟨I, H, fun j => match ss[j]?, vs[j]? with
  | some (.own true _), some (.ref a) => some a
  | _, _ => none, fun a => H a ≠ none, fun _ => none⟩
theorem io_of {I H : Hp} {vs : List V} {ss : List S} {j : Nat} {a : Addr} (h : (cnOf I H vs ss).io j = some a) : (∃ m, ss[j]? = some (.own true m)) ∧ vs[j]? = some (.ref a) := by
  unfold cnOf at h
  dsimp only at h
  split at h
  · rename_i m b e1 e2
    cases h
    exact ⟨⟨_, e1⟩, e2⟩
  · cases h
theorem io_mk {I H : Hp} {vs : List V} {ss : List S} {j : Nat} {a : Addr} {m : MO} (h1 : ss[j]? = some (.own true m)) (h2 : vs[j]? = some (.ref a)) : (cnOf I H vs ss).io j = some a := by
  unfold cnOf
  dsimp only
  rw [h1, h2]
theorem rel_start {K : KF} {I H : Hp} {N : List Str} {vs : List V} {ss : List S} (s : Same I H) (p : PRel K I H vs ss) (hn : ss.length ≤ N.length) :
    Rel K (cnOf I H vs ss) I H (ss.map some ++ List.replicate (N.length - ss.length) none) (start N vs) where
  len := by
    unfold L2.start
    have := p.len
    simp only [List.length_append, List.length_map, List.length_replicate]
    omega
  sub := s
  tz := p.tz
  mono := Same.refl I
  keep := fun a o e _ => e
  dom := fun a e => e
  bo := fun a e => e
  iot := fun j a e => by
    obtain ⟨⟨m, h1⟩, h2⟩ := io_of e
    obtain ⟨v, hv, q⟩ := p.each j _ h1
    rw [h2] at hv
    cases hv
    obtain ⟨b, e, _, q⟩ := q
    cases e
    obtain ⟨o, ho⟩ := mrel_some q
    show H a ≠ none
    rw [ho]
    exact fun z => by cases z
  lkt := fun i a e => by cases e
  fresh := fun a n _ => n
  slot := fun i x h => by
    have h1 := get_env h
    obtain ⟨v, hv, q⟩ := p.each i x h1
    refine ⟨v, get_start hv, ?_⟩
    cases x with
    | d x => exact q
    | lck m => exact q.elim
    | bor m =>
      obtain ⟨a, e, q⟩ := q
      refine ⟨a, e, ?_, fun j hj => ?_, q⟩
      · obtain ⟨o, ho⟩ := mrel_some q
        show H a ≠ none
        rw [ho]
        exact fun z => by cases z
      · obtain ⟨⟨m', h2⟩, h3⟩ := io_of hj
        subst e
        have ne : j ≠ i := by
          rintro rfl
          rw [h1] at h2
          cases h2
        exact p.apart j i m' _ a ne h2 h1 rfl h3 hv
    | own b m =>
      cases b with
      | false => exact q.elim
      | true =>
        obtain ⟨a, e, n, q⟩ := q
        subst e
        exact ⟨a, rfl, n, q, io_mk h1 hv⟩
  dist := fun i j b c m n a ne h1 h2 e1 e2 => by
    have g1 := get_env h1
    have g2 := get_env h2
    obtain ⟨v, hv, q⟩ := p.each i _ g1
    cases b with
    | false => exact q
    | true => exact p.apart i j m _ a ne g1 g2 rfl (get_start' e1) (get_start' e2)
/-- behind the body -/
theorem after_of {K : KF} {I H I' H' : Hp} {vs : List V} {ss ss' : List S} {r : Env} {s' : L2.St} (p : PRel K I H vs ss) (R : Rel K (cnOf I H vs ss) I' H' r s') (o : outs ss r = some ss') : After K I H vs ss ss' I' H' where
  tz := R.tz
  i := R.mono
  sub := R.sub
  keep := fun a o e n => R.keep a o e fun j hj => by
    obtain ⟨⟨m, h2⟩, h3⟩ := io_of hj
    exact n j m h2 h3
  dom := R.dom
  new := fun a o e n => R.fresh a n (by show H a ≠ none; rw [e]; exact fun z => by cases z)
  io := fun j m h => by
    obtain ⟨m', h1, h2⟩ := outs_io o j m h
    obtain ⟨v, hv, a, e, n, q, z⟩ := R.slot j _ h1
    exact ⟨m', a, h2, (io_of z).2, q⟩
theorem fnG_of {P : Program} {w : World} {K : KF} {mg : MG} {base : Heap} {k : Nat} {f : Addr} {name qual : Str} {params : Arguments} {body : List Stmt} {scope : Scope} {dV kV doc pm cdv ct oc : Value} {an od : Option Addr} {osl : Array (Option Value)} {N ps : List Str} {g : SM}
    (lk : K.lookup f = some ⟨oc, od, .func (PySem.W.fnOf name qual params body scope dV kV doc pm an cdv ct), osl⟩) (hcd : PySem.W.codeIn K cdv qual = true) (S : FnScope N ps scope)
    (hbody : ∀ (A : Around) (outer : List PySem.Env) (s : Shared) (H : Hp) (E : XK), Room k (A.deeper (envOfC qual scope s.heap.objs.size f cdv)) → A.guards = some [] →
      DSs (cxOf (L2.CX P w) P w K mg base N qual scope f cdv A outer s H E) (fun c d _ H => E c d H) body g) :
    FnG P w K mg base (k + 1) f (PySem.W.fnOf name qual params body scope dV kV doc pm an cdv ct) ps (runB ps.length N.length g) := by
  have hln : ∀ ss y, runB ps.length N.length g ss = some y → ss.length = ps.length := fun ss y e => by
    unfold runB at e
    split at e
    · assumption
    · cases e
  refine ⟨hln, fun A outer s H args us vs Q E hr hg e0 hb r hsp => ?_⟩
  obtain ⟨I, ss, o, ss', hs, pr, hF, post⟩ := hsp
  have hl : vs.length = ps.length := pr.len.trans (hln _ _ hF)
  have hpl : ps.length ≤ N.length := by
    have := congrArg List.length S.pre
    rw [List.length_take] at this
    omega
  have kept : ∀ b o, base.get? b = some o → s.heap.get? b = some o := fun b o e => (e0.bs b o e).1
  have KX := e0.mod.kin.keeps kept
  have lim := e0.mod.nolimit.keeps kept
  have hkind : ∀ y ∈ ps.zip us, scope.names.lookup y.1 = some .local ∨ (scope.names.lookup y.1 = some .cell ∧ ((cellsFrom (s.heap.objs.size + 1) scope.names []).lookup y.1).isSome = true) := fun y hy => (S.par y.1 (List.of_mem_zip (a := y.1) (b := y.2) hy).1).imp_right fun q => ⟨q, PySem.W.cellsFrom_some _ _ _ (.inl q)⟩
  refine codeAny_call_function hr.depth (KX _ _ lk) rfl S.co S.gen rfl (PySem.W.codeRec_of KX hcd) (hb _ _ _ _ ?_)
  refine wpAny_newFunctionEnv_cells S.kind hkind fun env he s1 x => ?_
  subst he
  refine ⟨lim.keeps x.toInCall.keep, codeAny_func ?_⟩
  have hr' : Room k (A.deeper (envOfC qual scope s.heap.objs.size f cdv)) := Room.deeper hr _
  have ht := hbody A outer s H E hr' hg
  have J : Inv (cxOf (L2.CX P w) P w K mg base N qual scope f cdv A outer s H E) [] (start N vs) H s1 := inv_start S hr.hd e0 hl r x
  have hgr : ∃ go r', g (ss.map some ++ List.replicate (N.length - ss.length) none) = some (go, r') ∧ outs ss r' = some ss' ∧
      ((∃ y, go = .rt y ∧ o = .ok y) ∨ (go = .nx ∧ o = .ok (.d .none)) ∨ ∃ y, go = .ex y ∧ o = .ex y) := by
    unfold runB at hF
    split at hF
    · split at hF
      · rename_i y r' e
        obtain ⟨o1, h1, h2⟩ := Option.map_eq_some_iff.mp hF
        cases h2
        exact ⟨_, r', e, h1, .inl ⟨y, rfl, rfl⟩⟩
      · rename_i r' e
        obtain ⟨o1, h1, h2⟩ := Option.map_eq_some_iff.mp hF
        cases h2
        exact ⟨_, r', e, h1, .inr (.inl ⟨rfl, rfl⟩)⟩
      · rename_i y r' e
        obtain ⟨o1, h1, h2⟩ := Option.map_eq_some_iff.mp hF
        cases h2
        exact ⟨_, r', e, h1, .inr (.inr ⟨y, rfl, rfl⟩)⟩
      · cases hF
    · cases hF
  obtain ⟨go, r', hg1, ho, hcase⟩ := hgr
  have hq : tS K mg (fun c d _ H => E c d H) g { nx := fun _ H' => Q .non H', rt := Q } (start N vs) H := by
    refine ⟨cnOf I H vs ss, I, _, go, r', rel_start hs pr (by rw [hln _ _ hF]; exact hpl), hg1, ?_⟩
    rcases hcase with ⟨y, rfl, rfl⟩ | ⟨rfl, rfl⟩ | ⟨y, rfl, rfl⟩
    · intro v s' I' H' R g1 t
      refine post v I' H' (after_of pr R ho) ?_
      cases y with
      | d y => exact t
      | bor m => exact t.elim
      | lck m => exact t.elim
      | own b m =>
        cases b with
        | true => exact t.elim
        | false =>
          obtain ⟨a, e, n, q, z, _⟩ := t
          exact ⟨a, e, z, n, q⟩
    · intro s' I' H' R g1
      exact post .non I' H' (after_of pr R ho) .non
    · intro c dx s' I' H' R g1 t
      exact post c dx I' H' (after_of pr R ho) t
  refine wpAny_mono (ht.run [] s1 (start N vs) H _ J hq) (fun fl s' hs => ?_) fun e s' hs => hs
  have fin : ∀ {σ' : L2.St} {H' : Hp} {v : V} {u : Value}, Inv (cxOf (L2.CX P w) P w K mg base N qual scope f cdv A outer s H E) [] σ' H' s' → RelV v u → Q v H' → CE outer P w H s Q u s' :=
    fun {σ' H' v u} J rv q => ⟨v, H', J.os, J.bare, J.base, J.hok, rv, q⟩
  exact match fl, hs with
  | .ret _, ⟨_, _, _, J, rv, q⟩ => fin J rv q
  | .next, ⟨_, _, J, q⟩ => fin (v := V.non) (u := Value.none) J rfl q
  | .brk, ⟨_, _, _, q⟩ => q.elim
  | .cont, ⟨_, _, _, q⟩ => q.elim
/-- a def of the text, by its body -/
theorem fun_ok {P : Program} {w : World} {K : KF} {mg : MG} {base : Heap} {x qual : Str} {st : Stmt} {f : Addr} {fd : FuncData} {N ps : List Str} {k : Nat} {g : SM} (F : Fun K x qual st f fd) (S : FnScope N ps (defScope st))
    (hbody : ∀ (cdv : Value) (A : Around) (outer : List PySem.Env) (s : Shared) (H : Hp) (E : XK), Room k (A.deeper (envOfC qual (defScope st) s.heap.objs.size f cdv)) → A.guards = some [] →
      DSs (cxOf (L2.CX P w) P w K mg base N qual (defScope st) f cdv A outer s H E) (fun c d _ H => E c d H) (defBody st) g) : FnG P w K mg base (k + 1) f fd ps (runB ps.length N.length g) := by
  obtain ⟨oc, od, kV, doc, pm, an, cdv, ct, osl, rfl, lk, hcd⟩ := F.ex
  exact fnG_of lk hcd S fun A outer s H E hr hg => hbody cdv A outer s H E hr hg
/-! ### a call -/
def callArgs (r : Env) : List Bool → List Ov → Option (List S)
  | [], [] => some []
  | false :: ms, o :: os => match o.get r, callArgs r ms os with
    | some x, some xs => some (x :: xs)
    | _, _ => none
  | true :: ms, .sl i :: os => match r[i]?, callArgs r ms os with
    | some (some (.own _ m)), some xs => some (.own true m :: xs)
    | _, _ => none
  | _, _ => none
/-- a slot that is handed in to be changed is handed in once -/
def ioOnce : List Bool → List Ov → Bool
  | true :: ms, .sl i :: os => (os.all fun o => match o with
      | .sl j => i != j
      | _ => true) && ioOnce ms os
  | false :: ms, .sl i :: os => ((ms.zip os).all fun p => match p with
      | (true, .sl j) => i != j
      | _ => true) && ioOnce ms os
  | _ :: ms, _ :: os => ioOnce ms os
  | _, _ => true
def putOwn (r : Env) (i : Nat) (m : MO) : Env := match r[i]? with
  | some (some (.own b _)) => r.set i (some (.own b m))
  | _ => r
def putBack : List Bool → List Ov → List S → Env → Env
  | true :: ms, .sl i :: os, .own true m :: ss, r => putBack ms os ss (putOwn r i m)
  | _ :: ms, _ :: os, _ :: ss, r => putBack ms os ss r
  | _, _, _, r => r
def dCall (F : FD) (ms : List Bool) (ods : List Od) : EF S := eb (evO ods) fun os r => match callArgs r ms os with
  | some ss => if ioOnce ms os = true then match F ss with
      | some (o, ss') => some (o, putBack ms os ss' r)
      | none => none
    else none
  | none => none
end DL
namespace DL
open PySem L2
open PyProof.Rows (envOfC)
theorem ovAll_at {K : KF} {I : Hp} {s : L2.St} : ∀ {vs : List V} {os : List Ov}, OvAll K I s vs os → ∀ {i : Nat} {o : Ov}, os[i]? = some o → ∃ v, vs[i]? = some v ∧ OvRel K I s v o
  | _, _, .nil, i, o, h => by simp at h
  | _, _, .cons a b, 0, o, h => by simp at h; subst h; exact ⟨_, rfl, a⟩
  | _, _, .cons a b, i + 1, o, h => by simpa using ovAll_at b (i := i) (by simpa using h)
theorem ovAll_len {K : KF} {I : Hp} {s : L2.St} : ∀ {vs : List V} {os : List Ov}, OvAll K I s vs os → vs.length = os.length
  | _, _, .nil => rfl
  | _, _, .cons a b => by simp [ovAll_len b]
theorem callArgs_len {r : Env} : ∀ {ms : List Bool} {os : List Ov} {ss : List S}, callArgs r ms os = some ss → ms.length = os.length ∧ ss.length = os.length
  | [], [], ss, e => by cases e; exact ⟨rfl, rfl⟩
  | false :: ms, o :: os, ss, e => by
    unfold callArgs at e
    split at e
    · rename_i h1 h2
      cases e
      have := callArgs_len h2
      simp [this.1, this.2]
    · cases e
  | true :: ms, .sl i :: os, ss, e => by
    unfold callArgs at e
    split at e
    · rename_i h1 h2
      cases e
      have := callArgs_len h2
      simp [this.1, this.2]
    · cases e
  | true :: ms, .d x :: os, ss, e => by simp [callArgs] at e
  | [], _ :: _, ss, e => by simp [callArgs] at e
  | _ :: _, [], ss, e => by simp [callArgs] at e
theorem callArgs_at {r : Env} : ∀ {ms : List Bool} {os : List Ov} {ss : List S}, callArgs r ms os = some ss → ∀ {i : Nat} {x : S}, ss[i]? = some x →
    (ms[i]? = some false ∧ ∃ o, os[i]? = some o ∧ o.get r = some x) ∨ (ms[i]? = some true ∧ ∃ k b m, os[i]? = some (.sl k) ∧ r[k]? = some (some (.own b m)) ∧ x = .own true m)
  | [], [], ss, e, i, x, h => by cases e; simp at h
  | false :: ms, o :: os, ss, e, i, x, h => by
    unfold callArgs at e
    split at e
    · rename_i y ys h1 h2
      cases e
      cases i with
      | zero => simp at h; subst h; exact .inl ⟨rfl, o, rfl, h1⟩
      | succ i => simpa using callArgs_at h2 (i := i) (by simpa using h)
    · cases e
  | true :: ms, .sl k :: os, ss, e, i, x, h => by
    unfold callArgs at e
    split at e
    · rename_i b m ys h1 h2
      cases e
      cases i with
      | zero => simp at h; subst h; exact .inr ⟨rfl, k, b, m, rfl, h1, rfl⟩
      | succ i => simpa using callArgs_at h2 (i := i) (by simpa using h)
    · cases e
  | true :: ms, .d x :: os, ss, e, _, _, _ => by simp [callArgs] at e
  | [], _ :: _, ss, e, _, _, _ => by simp [callArgs] at e
  | _ :: _, [], ss, e, _, _, _ => by simp [callArgs] at e
theorem ioOnce_tail {m : Bool} {o : Ov} {ms : List Bool} {os : List Ov} (h : ioOnce (m :: ms) (o :: os) = true) : ioOnce ms os = true := by
  cases m <;> cases o <;> simp [ioOnce] at h <;> first | exact h | exact h.2
theorem ioOnce_head {ms : List Bool} {os : List Ov} {k : Nat} (h : ioOnce (true :: ms) (.sl k :: os) = true) {j l : Nat} (e : os[j]? = some (.sl l)) : k ≠ l := by
  unfold ioOnce at h
  rw [Bool.and_eq_true, List.all_eq_true] at h
  have := h.1 _ (List.mem_of_getElem? e)
  simpa using this
theorem ioOnce_rest {b : Bool} {ms : List Bool} {os : List Ov} {k : Nat} (h : ioOnce (b :: ms) (.sl k :: os) = true) {j l : Nat} (e1 : ms[j]? = some true) (e : os[j]? = some (.sl l)) : k ≠ l := by
  cases b with
  | true => exact ioOnce_head h e
  | false =>
    unfold ioOnce at h
    rw [Bool.and_eq_true, List.all_eq_true] at h
    have hm : (true, Ov.sl l) ∈ ms.zip os := by
      refine List.mem_of_getElem? (i := j) ?_
      rw [List.getElem?_zip_eq_some]
      exact ⟨e1, e⟩
    have := h.1 _ hm
    simpa using this
theorem ioOnce_at : ∀ {ms : List Bool} {os : List Ov}, ioOnce ms os = true → ∀ {i j k l : Nat}, i ≠ j → ms[i]? = some true → os[i]? = some (.sl k) → os[j]? = some (.sl l) → k ≠ l
  | [], _, _, i, j, k, l, _, h1, _, _ => by simp at h1
  | _ :: _, [], _, i, j, k, l, _, _, h2, _ => by simp at h2
  | m :: ms, o :: os, h, 0, 0, k, l, n, _, _, _ => absurd rfl n
  | m :: ms, o :: os, h, 0, j + 1, k, l, n, h1, h2, h3 => by
    simp at h1 h2 h3
    subst h1 h2
    exact ioOnce_head h h3
  | m :: ms, o :: os, h, i + 1, 0, k, l, n, h1, h2, h3 => by
    simp at h1 h2 h3
    subst h3
    exact (ioOnce_rest h h1 h2).symm
  | m :: ms, o :: os, h, i + 1, j + 1, k, l, n, h1, h2, h3 => ioOnce_at (i := i) (j := j) (ioOnce_tail h) (fun e => n (by omega)) (by simpa using h1) (by simpa using h2) (by simpa using h3)
theorem putOwn_at {r : Env} {i k : Nat} {m : MO} {x : S} (h : (putOwn r i m)[k]? = some (some x)) : (r[k]? = some (some x) ∧ (k = i → ∀ b n, x ≠ .own b n)) ∨ (k = i ∧ ∃ b n, r[k]? = some (some (.own b n)) ∧ x = .own b m) := by
  unfold putOwn at h
  split at h
  · rename_i b n e
    by_cases hk : k = i
    · subst hk
      rw [List.getElem?_set_self (List.getElem?_eq_some_iff.mp e).1] at h
      cases h
      exact .inr ⟨rfl, b, n, e, rfl⟩
    · rw [List.getElem?_set_ne (Ne.symm hk)] at h
      exact .inl ⟨h, fun z => absurd z hk⟩
  · rename_i e
    refine .inl ⟨h, fun hk b n z => ?_⟩
    subst hk z
    exact e b n h
theorem putOwn_len {r : Env} {i : Nat} {m : MO} : (putOwn r i m).length = r.length := by
  unfold putOwn
  split <;> simp
theorem putBack_len : ∀ (ms : List Bool) (os : List Ov) (ss : List S) (r : Env), (putBack ms os ss r).length = r.length
  | true :: ms, .sl i :: os, .own true m :: ss, r => by
    show (putBack ms os ss (putOwn r i m)).length = r.length
    rw [putBack_len, putOwn_len]
  | true :: ms, .sl i :: os, .own false m :: ss, r => putBack_len ms os ss r
  | true :: ms, .sl i :: os, .d m :: ss, r => putBack_len ms os ss r
  | true :: ms, .sl i :: os, .bor m :: ss, r => putBack_len ms os ss r
  | true :: ms, .sl i :: os, .lck m :: ss, r => putBack_len ms os ss r
  | true :: ms, .d _ :: os, _ :: ss, r => putBack_len ms os ss r
  | false :: ms, _ :: os, _ :: ss, r => putBack_len ms os ss r
  | [], _, _, r => by simp [putBack]
  | _ :: _, [], _, r => by simp [putBack]
  | _ :: _, _ :: _, [], r => by simp [putBack]
/-- a slot behind the call: as it was, or a handed-in thing's new state -/
theorem putBack_at : ∀ (ms : List Bool) (os : List Ov) (ss : List S) (r : Env) {k : Nat} {x : S}, (putBack ms os ss r)[k]? = some (some x) →
    (r[k]? = some (some x) ∧ ∀ b n, x = .own b n → ∀ (i : Nat) (m : MO), ms[i]? = some true → os[i]? = some (Ov.sl k) → ss[i]? = some (S.own true m) → False) ∨
      ∃ (i : Nat) (b : Bool) (m n : MO), ms[i]? = some true ∧ os[i]? = some (Ov.sl k) ∧ ss[i]? = some (S.own true m) ∧ r[k]? = some (some (.own b n)) ∧ x = .own b m := by
  intro ms
  induction ms with
  | nil => intro os ss r k x h; exact .inl ⟨by simpa [putBack] using h, fun b n _ i m e => by simp at e⟩
  | cons b ms ih =>
    intro os ss r k x h
    cases os with
    | nil => exact .inl ⟨by simpa [putBack] using h, fun b n _ i m _ e => by simp at e⟩
    | cons o os =>
      cases ss with
      | nil => exact .inl ⟨by simpa [putBack] using h, fun b n _ i m _ _ e => by simp at e⟩
      | cons y ss =>
        -- a head that is not handed in to be changed
        have plain : (putBack ms os ss r)[k]? = some (some x) → (∀ m, b = true → o = .sl k → y = .own true m → False) →
            (r[k]? = some (some x) ∧ ∀ b' n, x = .own b' n → ∀ (i : Nat) (m : MO), (b :: ms)[i]? = some true → (o :: os)[i]? = some (Ov.sl k) → (y :: ss)[i]? = some (S.own true m) → False) ∨
              ∃ (i : Nat) (b' : Bool) (m n : MO), (b :: ms)[i]? = some true ∧ (o :: os)[i]? = some (Ov.sl k) ∧ (y :: ss)[i]? = some (S.own true m) ∧ r[k]? = some (some (.own b' n)) ∧ x = .own b' m := fun h z => by
          rcases ih os ss r h with ⟨h1, h2⟩ | ⟨i, b', m, n, h1, h2, h3, h4, h5⟩
          · refine .inl ⟨h1, fun b' n e i m e1 e2 e3 => ?_⟩
            cases i with
            | zero => simp at e1 e2 e3; exact z m e1 e2 e3
            | succ i => exact h2 b' n e i m (by simpa using e1) (by simpa using e2) (by simpa using e3)
          · exact .inr ⟨i + 1, b', m, n, by simpa using h1, by simpa using h2, by simpa using h3, h4, h5⟩
        by_cases hc : ∃ i m, b = true ∧ o = .sl i ∧ y = .own true m
        · obtain ⟨i, m, rfl, rfl, rfl⟩ := hc
          have h : (putBack ms os ss (putOwn r i m))[k]? = some (some x) := h
          rcases ih os ss _ h with ⟨h1, h2⟩ | ⟨j, b', m', n, h1, h2, h3, h4, h5⟩
          · rcases putOwn_at h1 with ⟨g1, g2⟩ | ⟨rfl, b', n, g1, rfl⟩
            · refine .inl ⟨g1, fun b' n e i' m' e1 e2 e3 => ?_⟩
              cases i' with
              | zero =>
                simp at e2
                exact g2 e2.symm b' n e
              | succ i' => exact h2 b' n e i' m' (by simpa using e1) (by simpa using e2) (by simpa using e3)
            · exact .inr ⟨0, b', m, n, rfl, rfl, rfl, g1, rfl⟩
          · rcases putOwn_at h4 with ⟨g1, _⟩ | ⟨_, b2, n2, g1, g2⟩
            · exact .inr ⟨j + 1, b', m', n, by simpa using h1, by simpa using h2, by simpa using h3, g1, h5⟩
            · cases g2
              exact .inr ⟨j + 1, b', m', n2, by simpa using h1, by simpa using h2, by simpa using h3, g1, h5⟩
        · refine plain ?_ fun m e1 e2 e3 => hc ⟨k, m, e1, e2, e3⟩
          cases b with
          | false => exact h
          | true =>
            cases o with
            | d x => exact h
            | sl i =>
              cases y with
              | d x => exact h
              | bor m => exact h
              | lck m => exact h
              | own c m =>
                cases c with
                | false => exact h
                | true => exact absurd ⟨i, m, rfl, rfl, rfl⟩ hc
section
variable {K : KF} {mg : MG} {C : Cn} {I H I' H' : Hp} {r : Env} {s : L2.St} {ms : List Bool} {os : List Ov} {ss ss' : List S} {vs : List V}
theorem get_held (R : Rel K C I H r s) {v : V} {o : Ov} {x : S} (h : OvRel K I s v o) (e : o.get r = some x) (hx : isHeld x = true) : ∃ k y, o = .sl k ∧ s[k]? = some (some v) ∧ r[k]? = some (some y) ∧ ((∃ b m, y = .own b m) ∨ (∃ m, y = .bor m) ∨ ∃ m, y = .lck m) := by
  cases o with
  | d d => cases e; cases hx
  | sl k =>
    have h' : s[k]? = some (some v) := h
    have e : rdS r k = some x := e
    unfold rdS at e
    split at e
    · cases e; cases hx
    · rename_i m hr
      exact ⟨k, _, rfl, h', hr, .inr (.inl ⟨m, rfl⟩)⟩
    · rename_i m hr
      exact ⟨k, _, rfl, h', hr, .inr (.inr ⟨m, rfl⟩)⟩
    · rename_i b m hr
      exact ⟨k, _, rfl, h', hr, .inl ⟨b, m, rfl⟩⟩
    · cases e
theorem prel_of (R : Rel K C I H r s) (a : OvAll K I s vs os) (e : callArgs r ms os = some ss) (once : ioOnce ms os = true) : PRel K I H vs ss where
  tz := R.tz
  len := (ovAll_len a).trans (callArgs_len e).2.symm
  each := fun i x h => by
    rcases callArgs_at e h with ⟨_, o, h1, h2⟩ | ⟨_, k, b, m, h1, h2, rfl⟩
    · obtain ⟨v, hv, q⟩ := ovAll_at a h1
      refine ⟨v, hv, ?_⟩
      have := get_ok R q h2
      cases x with
      | d x => exact this
      | bor m => exact this
      | lck m => exact this.elim
      | own b m => exact this.elim
    · obtain ⟨v, hv, q⟩ := ovAll_at a h1
      refine ⟨v, hv, ?_⟩
      obtain ⟨w, hw, z⟩ := R.slot k _ h2
      have q : s[k]? = some (some v) := q
      rw [hw] at q
      cases q
      obtain ⟨a, e1, n, m, _⟩ := own_nz z
      exact ⟨a, e1, n, m⟩
  apart := fun i j m y a' ne h1 h2 hy e1 e2 => by
    rcases callArgs_at e h1 with ⟨_, o, g1, g2⟩ | ⟨gm, k, b, m', g1, g2, _⟩
    · obtain ⟨v, hv, q⟩ := ovAll_at a g1
      exact (get_ok R q g2).elim
    · obtain ⟨v, hv, q⟩ := ovAll_at a g1
      rw [e1] at hv
      cases hv
      have q : s[k]? = some (some (.ref a')) := q
      rcases callArgs_at e h2 with ⟨_, o, f1, f2⟩ | ⟨_, l, c, m2, f1, f2, _⟩
      · obtain ⟨v2, hv2, q2⟩ := ovAll_at a f1
        rw [e2] at hv2
        cases hv2
        obtain ⟨l, z, rfl, s2, r2, hz⟩ := get_held R q2 f2 hy
        have hkl : k ≠ l := ioOnce_at once ne gm g1 f1
        rcases hz with ⟨c, m2, rfl⟩ | ⟨m2, rfl⟩ | ⟨m2, rfl⟩
        · exact R.dist k l _ _ _ _ _ hkl g2 r2 q s2
        · obtain ⟨w, hw, z1⟩ := R.slot k _ g2
          rw [q] at hw
          cases hw
          obtain ⟨a1, ea, _, _, io⟩ := own_nz z1
          cases ea
          obtain ⟨w2, hw2, a2, eb, bo, nio, _⟩ := R.slot l _ r2
          rw [s2] at hw2
          cases hw2
          cases eb
          rcases io with ⟨_, io⟩ | ⟨_, io⟩
          · exact nio _ io
          · exact R.bo _ bo io
        · obtain ⟨w, hw, z1⟩ := R.slot k _ g2
          rw [q] at hw
          cases hw
          obtain ⟨a1, ea, _, _, io⟩ := own_nz z1
          cases ea
          obtain ⟨w2, hw2, a2, eb, lk, _, _⟩ := R.slot l _ r2
          rw [s2] at hw2
          cases hw2
          cases eb
          obtain ⟨l1, l2⟩ := R.lkt _ _ lk
          rcases io with ⟨_, io⟩ | ⟨_, io⟩
          · exact l2 _ io
          · exact l1 io
      · obtain ⟨v2, hv2, q2⟩ := ovAll_at a f1
        rw [e2] at hv2
        cases hv2
        have hkl : k ≠ l := ioOnce_at once ne gm g1 f1
        exact R.dist k l _ _ _ _ _ hkl g2 f2 q q2
theorem Rel.call (R : Rel K C I H r s) (a : OvAll K I s vs os) (e : callArgs r ms os = some ss) (A : After K I H vs ss ss' I' H') : Rel K C I' H' (putBack ms os ss' r) s := by
  -- what is handed in to be changed is one's own
  have hio : ∀ (j : Nat) m, ss[j]? = some (.own true m) → ∃ k b m' a, ms[j]? = some true ∧ os[j]? = some (.sl k) ∧ r[k]? = some (some (.own b m')) ∧ vs[j]? = some (.ref a) ∧ s[k]? = some (some (.ref a)) := fun j m h => by
    rcases callArgs_at e h with ⟨_, o, g1, g2⟩ | ⟨gm, k, b, m', g1, g2, _⟩
    · obtain ⟨v, hv, q⟩ := ovAll_at a g1
      exact (get_ok R q g2).elim
    · obtain ⟨v, hv, q⟩ := ovAll_at a g1
      have q : s[k]? = some (some v) := q
      obtain ⟨w, hw, z⟩ := R.slot k _ g2
      rw [q] at hw
      cases hw
      obtain ⟨a1, ea, _⟩ := own_nz z
      subst ea
      exact ⟨k, b, m', a1, gm, g1, g2, hv, q⟩
  have hnew : ∀ {a : Addr}, I a = none → (∃ o, H a = some o) → I' a = none := fun n ⟨o, ho⟩ => A.new _ o ho n
  refine ⟨by rw [putBack_len]; exact R.len, A.sub, R.mono.trans A.i, fun c o h0 n => ?_, fun c h => R.dom c (A.dom c h), R.bo, R.iot, R.lkt, fun c n1 n2 => ?_, fun k x h => ?_, fun i j b c m n c' ne h1 h2 e1 e2 => ?_, A.tz⟩
  · refine A.keep c o (R.keep c o h0 n) fun j m h z => ?_
    obtain ⟨k, b, m', a1, _, _, g2, hv, hs⟩ := hio j m h
    rw [z] at hv
    cases hv
    obtain ⟨w, hw, q⟩ := R.slot k _ g2
    rw [hs] at hw
    cases hw
    obtain ⟨a2, ea, _, _, io⟩ := own_nz q
    cases ea
    rcases io with ⟨_, io⟩ | ⟨_, io⟩
    · exact n _ io
    · rw [h0] at io
      cases io
  · refine hnew (R.fresh c n1 n2) ?_
    cases q : H c with
    | none => exact absurd (R.dom c q) n2
    | some o => exact ⟨o, rfl⟩
  · rcases putBack_at ms os ss' r h with ⟨h1, h2⟩ | ⟨i, b, m, n, h1, h2, h3, h4, rfl⟩
    · obtain ⟨v, hv, q⟩ := R.slot k x h1
      refine ⟨v, hv, srel_up A.i q (fun b m c ex ev n ⟨o, ho⟩ => ⟨A.new c o ho n, ?_⟩) fun m c ex ev lk n ⟨o, ho⟩ => ⟨A.new c o ho n, ?_⟩⟩
      · subst ex ev
        refine (A.keep c o ho fun j m' hj z => ?_).trans ho.symm
        obtain ⟨l, b', m2, a1, gm, g1, g2, gv, hs⟩ := hio j m' hj
        rw [z] at gv
        cases gv
        by_cases hl : l = k
        · subst hl
          obtain ⟨m3, a3, q1, _⟩ := A.io j m' hj
          exact h2 b m rfl j m3 gm g1 q1
        · exact R.dist l k _ _ _ _ _ hl g2 h1 hs hv
      · refine (A.keep c o ho fun j m' hj z => ?_).trans ho.symm
        obtain ⟨l, b', m2, a1, gm, g1, g2, gv, hs⟩ := hio j m' hj
        rw [z] at gv
        cases gv
        obtain ⟨w, hw, q1⟩ := R.slot l _ g2
        rw [hs] at hw
        cases hw
        obtain ⟨a2, ea, _, _, io⟩ := own_nz q1
        cases ea
        obtain ⟨l1, l2⟩ := R.lkt _ _ lk
        rcases io with ⟨_, io⟩ | ⟨_, io⟩
        · exact l2 _ io
        · exact l1 io
    · obtain ⟨v, hv, q⟩ := R.slot k _ h4
      obtain ⟨a1, ea, na, q1, io⟩ := own_nz q
      subst ea
      refine ⟨_, hv, ?_⟩
      have hlen := callArgs_len e
      have hi : i < ss.length := by
        have := (List.getElem?_eq_some_iff.mp h2).1
        omega
      obtain ⟨y, hy⟩ : ∃ y, ss[i]? = some y := ⟨_, List.getElem?_eq_getElem hi⟩
      rcases callArgs_at e hy with ⟨z, _⟩ | ⟨_, k', b', m', g1, g2, rfl⟩
      · rw [h1] at z
        cases z
      · obtain ⟨m3, a3, q2, q3, q4⟩ := A.io i m' hy
        rw [h3] at q2
        cases q2
        obtain ⟨v2, hv2, q5⟩ := ovAll_at a h2
        have q5 : s[k]? = some (some v2) := q5
        rw [q3] at hv2
        cases hv2
        rw [hv] at q5
        cases q5
        exact own_mk rfl (hnew na (mrel_some q1)) q4 io
  · have back : ∀ {k : Nat} {b : Bool} {m : MO}, (putBack ms os ss' r)[k]? = some (some (.own b m)) → ∃ n, r[k]? = some (some (.own b n)) := fun {k b m} h => by
      rcases putBack_at ms os ss' r h with ⟨h1, _⟩ | ⟨i, b', m', n, _, _, _, h4, h5⟩
      · exact ⟨m, h1⟩
      · cases h5
        exact ⟨n, h4⟩
    obtain ⟨m1, g1⟩ := back h1
    obtain ⟨n1, g2⟩ := back h2
    exact R.dist i j b c m1 n1 c' ne g1 g2 e1 e2
theorem Rel.called (R : Rel K C I H r s) (A : After K I H vs ss ss' I' H') {v : V} {x : S} (n : NewS K I H v I' H' x) : TRel K C I' H' (putBack ms os ss' r) s v x := by
  cases x with
  | d x => exact n
  | bor m => exact n.elim
  | lck m => exact n.elim
  | own b m =>
    cases b with
    | true => exact n.elim
    | false =>
      obtain ⟨a, e, n, z, q⟩ := n
      refine ⟨a, e, z, q, R.dom a n, fun i b m h e1 => ?_⟩
      have : ∃ b n, r[i]? = some (some (.own b n)) := by
        rcases putBack_at ms os ss' r h with ⟨h1, _⟩ | ⟨_, b', _, n', _, _, _, h4, _⟩
        · exact ⟨_, _, h1⟩
        · exact ⟨_, _, h4⟩
      obtain ⟨b', n', h1⟩ := this
      obtain ⟨v1, hv, h2⟩ := R.slot i _ h1
      obtain ⟨a1, e2, _, q1, _⟩ := own_nz h2
      rw [e1] at hv
      cases hv
      cases e2
      obtain ⟨o, ho⟩ := mrel_some q1
      rw [n] at ho
      cases ho
end
section
variable {X : Cx} {W : WX} {k : Nat} {f : Addr} {fd : FuncData} {ps : List Str} {F : FD} {x : Str} {p pos : Pos} {e : Expr} {es : List Expr} {os : List Od} {ms : List Bool}
def tCallG (K : KF) (mg : MG) (F : FD) (W : WX) (t : TA) : TE := fun σ H Q => t σ H fun vs H1 => spF K mg F vs H1 Q fun c d H2 => W c d σ H2
theorem run_fnG {pins : List (Addr × Obj)} {σ : L2.St} {H : Hp} {s : Shared} {Q : VK} {us : List Value} {vs : List V} (G : FnG X.prog X.w X.K X.mg X.base k f fd ps F) (hr : Room k X.A) (hgd : X.A.guards = some []) (hb : Binds X.K fd ps []) (tk : Takes X W)
    (I : Inv X pins σ H s) (r : Vals vs us) (h : spF X.K X.mg F vs H Q fun c d H2 => W c d σ H2) : wpAny (model X.prog X.w) X.A (call (.ref f) us) (EP X pins σ Q) X.xe s := by
  have hl : us.length = ps.length := by
    obtain ⟨_, ss, _, _, _, pr, hF, _⟩ := id h
    rw [← r.length]
    exact pr.len.trans (G.len _ _ hF)
  have b := hb s us I.kIn (by rw [List.append_nil]; exact hl)
  rw [List.append_nil] at b
  refine wpAny_call (codeAny_mono (G.run X.A X.stack s H ⟨us, []⟩ us vs Q _ hr hgd I.env0 b r h) fun rr s' hq => ?_)
  cases rr with
  | error e => exact passAt tk σ pins H s e s' I hq
  | ok fl =>
    cases fl with
    | ret u => exact I.after hq
    | next => exact False.elim hq
    | brk => exact False.elim hq
    | cont => exact False.elim hq
theorem pe_callG {t : TA} (G : FnG X.prog X.w X.K X.mg X.base k f fd ps F) (hr : Room k X.A) (hgd : X.A.guards = some []) (hg : Gl X x) (hm : X.mg x = some (.ref f)) (hk : PySem.W.keepIn X.K (.ref f) = true) (hb : Binds X.K fd ps []) (tk : Takes X W)
    (ha : PA X (e :: es) t) (hdb : (x == ("__debug__" : Str)) = false := by decide) (he : starEach (e :: es) X.env = (false, eval e X.env) :: starEach es X.env := by rfl) (hpl : (backTo pos (starEach es X.env)).any (·.1) = false := by rfl) :
    PE X (.Call (.Name x p) (e :: es) [] pos) (tCallG X.K X.mg F W t) := by
  refine ⟨fun pins s σ H Q I h => ?_⟩
  refine wpAny_Call_Name_kw (ld_glob I hg hm ?_ hdb)
  refine PySem.W.callWith_K (h₀ := X.base) I.ok.mod.kin hk (thn (ha.run pos pins s σ H _ I h) fun us s1 ⟨vs, H1, I1, r, q⟩ => ⟨I1.kIn, ?_⟩) he hpl
  exact run_fnG G hr hgd hb tk I1 r q
theorem pe_callG0 (G : FnG X.prog X.w X.K X.mg X.base k f fd ps F) (hr : Room k X.A) (hgd : X.A.guards = some []) (hg : Gl X x) (hm : X.mg x = some (.ref f)) (hk : PySem.W.keepIn X.K (.ref f) = true) (hb : Binds X.K fd ps []) (tk : Takes X W)
    (hdb : (x == ("__debug__" : Str)) = false := by decide) : PE X (.Call (.Name x p) [] [] pos) (tCallG X.K X.mg F W tNil) := by
  refine ⟨fun pins s σ H Q I h => ?_⟩
  refine wpAny_Call_Name_kw (ld_glob I hg hm ?_ hdb)
  exact PySem.W.callWith_K0 I.kIn hk (run_fnG (us := []) G hr hgd hb tk I .nil h)
theorem call_ok {K : KF} {mg : MG} {s : L2.St} {H : Hp} {Q : VK} (h : tE K mg W (dCall F ms os) s H Q) : tCallG K mg F W (tOds K mg W os) s H Q := by
  obtain ⟨C, I, r, o, r', R, e, q⟩ := h
  rcases eb_inv e with ⟨ov, r1, ho, e⟩ | ⟨x, ho, rfl⟩
  · refine evO_ok os R ho fun vs I1 H1 R1 g a => ?_
    split at e
    · rename_i ss hc
      split at e
      · rename_i once
        split at e
        · rename_i o2 ss' hF
          cases e
          refine ⟨I1, ss, o, ss', R1.sub, prel_of R1 a hc once, hF, ?_⟩
          cases o with
          | ok x => exact fun v I' H' A n => q v I' H' (R1.call a hc A) (g.trans A.i) (R1.called A n)
          | ex x => exact fun c dx I' H' A n => q c dx I' H' (R1.call a hc A) (g.trans A.i) (n.down R1.dom)
        · cases e
      · cases e
    · cases e
  · exact evO_ok os R ho q
theorem de_call (G : FnG X.prog X.w X.K X.mg X.base k f fd ps F) (hr : Room k X.A) (hgd : X.A.guards = some []) (hg : Gl X x) (hm : X.mg x = some (.ref f)) (hk : PySem.W.keepIn X.K (.ref f) = true) (hb : Binds X.K fd ps []) (tk : Takes X W)
    (ha : DA X W (e :: es) os) (hdb : (x == ("__debug__" : Str)) = false := by decide) (he : starEach (e :: es) X.env = (false, eval e X.env) :: starEach es X.env := by rfl) (hpl : (backTo pos (starEach es X.env)).any (·.1) = false := by rfl) :
    DE X W (.Call (.Name x p) (e :: es) [] pos) (dCall F ms os) := pe_of (pe_callG G hr hgd hg hm hk hb tk ha hdb he hpl) fun _ _ _ q => call_ok q
theorem de_call0 (G : FnG X.prog X.w X.K X.mg X.base k f fd ps F) (hr : Room k X.A) (hgd : X.A.guards = some []) (hg : Gl X x) (hm : X.mg x = some (.ref f)) (hk : PySem.W.keepIn X.K (.ref f) = true) (hb : Binds X.K fd ps []) (tk : Takes X W)
    (hdb : (x == ("__debug__" : Str)) = false := by decide) : DE X W (.Call (.Name x p) [] [] pos) (dCall F [] []) := pe_of (pe_callG0 G hr hgd hg hm hk hb tk hdb) fun _ _ _ q => call_ok (os := []) q
end
end DL
namespace DL
open PySem L2
open PyProof.Rows (envOfC)
/-! ### targets -/
inductive Tg where
  | nm (i : Nat)
  | tup (ts : List Tg)
mutual
def bindT : Tg → D → Env → Option Env
  | .nm i, d, r => some (r.set i (some (.d d)))
  | .tup ts, .tuple xs, r => bindTs ts xs r
  | .tup _, _, _ => none
def bindTs : List Tg → List D → Env → Option Env
  | [], [], r => some r
  | t :: ts, d :: xs, r => match bindT t d r with
    | some r1 => bindTs ts xs r1
    | none => none
  | _, _, _ => none
end
/-! the slots of a target -/
mutual
def Tg.sub (vs : List Nat) : Tg → Prop
  | .nm i => i ∈ vs
  | .tup ts => Tg.subs vs ts
def Tg.subs (vs : List Nat) : List Tg → Prop
  | [] => True
  | t :: ts => t.sub vs ∧ Tg.subs vs ts
end
theorem wipe_set {s : L2.St} {i : Nat} {x : Option V} : ∀ {vs : List Nat}, i ∈ vs → wipe (s.set i x) vs = wipe s vs
  | [], h => by simp at h
  | v :: vs, h => by
    unfold wipe
    by_cases hv : i ∈ vs
    · rw [wipe_set hv]
    · have e : v = i := by
        rcases List.mem_cons.mp h with e | e
        · exact e.symm
        · exact absurd e hv
      subst e
      have : ∀ (ws : List Nat), v ∉ ws → wipe (s.set v x) ws = (wipe s ws).set v x := by
        intro ws
        induction ws with
        | nil => intro _; rfl
        | cons w ws ih =>
          intro hw
          unfold wipe
          rw [ih (fun z => hw (List.mem_cons_of_mem _ z)), List.set_comm _ _ (fun z => hw (by rw [z]; exact List.mem_cons_self))]
      rw [this vs hv, List.set_set]
/-- what a target takes: data; a target of several names also a new tuple that is no data yet -/
def DpG (K : KF) (I H : Hp) (e : Expr) (v : V) (d : D) : Prop := Dp K I v d ∨ (∃ es k pos, e = .Tuple es k pos) ∧ ∃ T vs ds, v = .ref T ∧ d = .tuple ds ∧ H T = some (.tup vs) ∧ DpAll K I vs ds
def tG (K : KF) (e : Expr) (t : Tg) : TG := fun v s H Q => ∃ C I r d r', Rel K C I H r s ∧ DpG K I H e v d ∧ bindT t d r = some r' ∧ ∀ s', Rel K C I H r' s' → (∀ vs, t.sub vs → wipe s' vs = wipe s vs) → Q s' H
def tGs (K : KF) (ts : List Tg) : TGs := fun vs s H Q => ∃ C I r xs r', Rel K C I H r s ∧ DpAll K I vs xs ∧ bindTs ts xs r = some r' ∧ ∀ s', Rel K C I H r' s' → (∀ vs, Tg.subs vs ts → wipe s' vs = wipe s vs) → Q s' H
abbrev DG (X : Cx) (e : Expr) (t : Tg) : Prop := PG X e (tG X.K e t)
abbrev DGs (X : Cx) (es : List Expr) (ts : List Tg) : Prop := PGs X es (tGs X.K ts)
section
variable {X : Cx} {pos : Pos}
theorem pg_of {e : Expr} {t t' : TG} (h : PG X e t) (w : ∀ v s H Q, t' v s H Q → t v s H Q) : PG X e t' := ⟨fun pins s σ H v u Q I r q => h.run pins s σ H v u Q I r (w _ _ _ _ q)⟩
theorem pgs_of {e : List Expr} {t t' : TGs} (h : PGs X e t) (w : ∀ v s H Q, t' v s H Q → t v s H Q) : PGs X e t' := ⟨fun pins s σ H v u Q I r q => h.run pins s σ H v u Q I r (w _ _ _ _ q)⟩
theorem dg_name {i : Nat} {x : Str} (hN : X.N.Nodup) (hi : X.N[i]? = some x) (hx : Loc X.env.scope x) (hf : X.fn x = true ∨ X.env.scope.names.lookup x = some .local := by first | exact .inl rfl | exact .inr rfl | assumption) : DG X (.Name x pos) (.nm i) :=
  pg_of (pg_name hN hi hx hf) fun v s H Q ⟨C, I, r, d, r', R, p, e, q⟩ => by
    have p : Dp X.K I v d := p.resolve_right fun ⟨⟨_, _, _, z⟩, _⟩ => by cases z
    unfold bindT at e
    cases e
    exact q _ (R.put (x := .d d) p) fun vs h => by unfold Tg.sub at h; exact wipe_set h
theorem dgs_nil : DGs X [] [] := pgs_of pgs_nil fun vs s H Q ⟨C, I, r, xs, r', R, p, e, q⟩ => by
  cases xs with
  | nil =>
    unfold bindTs at e
    cases e
    cases p
    exact ⟨rfl, q s R fun _ _ => rfl⟩
  | cons _ _ => simp [bindTs] at e
theorem dgs_cons {e : Expr} {es : List Expr} {t : Tg} {ts : List Tg} (h1 : DG X e t) (h2 : DGs X es ts) (hs : (assignEach (e :: es) X.env).map (·.2) = assign e X.env :: (assignEach es X.env).map (·.2) := by rfl) : DGs X (e :: es) (t :: ts) :=
  pgs_of (pgs_cons h1 h2 hs) fun vs s H Q ⟨C, I, r, xs, r', R, p, e, q⟩ => by
    cases xs with
    | nil => simp [bindTs] at e
    | cons d xs =>
      unfold bindTs at e
      split at e
      · rename_i r1 e1
        cases p with
        | cons p1 p2 => exact ⟨_, _, rfl, C, I, r, d, r1, R, .inl p1, e1, fun s' R' w1 => ⟨C, I, r1, xs, r', R', p2, e, fun s2 R2 w2 => q s2 R2 fun ws h => by
          unfold Tg.subs at h
          rw [w2 ws h.2, w1 ws h.1]⟩⟩
      · cases e
theorem dg_tup {es : List Expr} {ts : List Tg} {k : Nat} (hc : X.calm = true) (h : DGs X es ts) (hl : es.length = ts.length := by rfl) (hst : (assignEach es X.env).findIdx? (·.1) = none := by rfl) (hn : (assignEach es X.env).length = es.length := by rfl) : DG X (.Tuple es k pos) (.tup ts) :=
  pg_of (pg_tup hc h (n := ts.length) (hn.trans hl) hst) fun v s H Q ⟨C, I, r, d, r', R, p, e, q⟩ => by
    cases d with
    | tuple xs =>
      unfold bindT at e
      have p : ∃ a vs, v = .ref a ∧ SqT X.K H a vs ∧ DpAll X.K I vs xs := by
        rcases p with p | ⟨_, T, vs, ds, e1, e2, e3, e4⟩
        · cases p with
          | @tup a vs _ hs ha => exact ⟨a, vs, rfl, Evl.ex_t R.sub hs, ha⟩
        · cases e2
          exact ⟨T, vs, e1, .of e3, e4⟩
      obtain ⟨a, vs, rfl, hs, ha⟩ := p
      · refine ⟨a, vs, rfl, hs, ?_, C, I, r, xs, r', R, ha, e, fun s' R' w => q s' R' fun ws h => w ws (by unfold Tg.sub at h; exact h)⟩
        rw [dpa_len ha]
        have : ∀ (ts : List Tg) (xs : List D) (r r' : Env), bindTs ts xs r = some r' → xs.length = ts.length := by
          intro ts
          induction ts with
          | nil => intro xs r r' e; cases xs with
            | nil => rfl
            | cons _ _ => simp [bindTs] at e
          | cons t ts ih => intro xs r r' e; cases xs with
            | nil => simp [bindTs] at e
            | cons d xs =>
              unfold bindTs at e
              split at e
              · simp [ih _ _ _ e]
              · cases e
        exact this ts xs r r' e
    | _ => simp [bindT] at e
/-! ### what is walked -/
def Cext (C C' : Cn) : Prop := C'.I0 = C.I0 ∧ C'.io = C.io ∧ Same C.H0 C'.H0
/-- an iterator that gives some data, one after another -/
def JD (K : KF) (C : Cn) (I0 : Hp) (tg : Expr) (J : It) (xs : List D) : Prop := ∀ (C' : Cn) (i : Nat) (I H : Hp) (r : Env) (s : L2.St), Cext C C' → Rel K C' I H r s → Same I0 I →
  (∀ d, xs[i]? = some d → J.go i H ∧ ∀ x H', J.yld i H x H' → ∃ I', Rel K C' I' H' r s ∧ Same I I' ∧ DpG K I' H' tg x d) ∧ (xs.length ≤ i → J.stop i H)
def tI (K : KF) (mg : MG) (W : WX) (tg : Expr) (f : EF (List D)) : TI := fun s H P => ∃ C I r o r', Rel K C I H r s ∧ f r = some (o, r') ∧ match o with
  | .ok xs => ∀ J I' H', Rel K C I' H' r' s → Same I I' → JD K C I' tg J xs → P J H'
  | .ex x => ∀ c dx I' H', Rel K C I' H' r' s → Same I I' → XRel K mg C.H0 I' H' c dx x → W c dx s H'
abbrev DI (X : Cx) (W : WX) (tg e : Expr) (f : EF (List D)) : Prop := PI X tg e (tI X.K X.mg W tg f)
theorem pi_of {tg e : Expr} {t t' : TI} (h : PI X tg e t) (w : ∀ s H Q, t' s H Q → t s H Q) : PI X tg e t' := ⟨fun pins s σ H Q I q => h.run pins s σ H Q I (w _ _ _ q)⟩
theorem pi_or {tg e : Expr} {t t' u : TI} (h : PI X tg e t) (h' : PI X tg e t') (w : ∀ s H Q, u s H Q → t s H Q ∨ t' s H Q) : PI X tg e u := ⟨fun pins s σ H Q I q => (w _ _ _ q).elim (fun q => h.run pins s σ H Q I q) fun q => h'.run pins s σ H Q I q⟩
theorem jd_list {tg : Expr} {K : KF} {C : Cn} {I0 : Hp} {a : Addr} {vs : List V} {xs : List D} (h : SqL K I0 a vs) (p : DpAll K I0 vs xs) : JD K C I0 tg (Itl K a) xs := fun C' i I H r s _ R g => by
  have hs : SqL K H a vs := (g.trans R.sub).seq h
  refine ⟨fun d e => ?_, fun hl => ⟨vs, hs, by rw [dpa_len p]; exact hl⟩⟩
  obtain ⟨v, hv, q⟩ := dpa_get' p e
  refine ⟨⟨vs, v, hs, hv⟩, fun x H' ⟨e1, e2⟩ => ?_⟩
  subst e1
  have := e2 vs hs
  rw [hv] at this
  cases this
  exact ⟨I, R, Same.refl I, .inl (dp_up g _ _ q)⟩
theorem jd_tup {tg : Expr} {K : KF} {C : Cn} {I0 : Hp} {a : Addr} {vs : List V} {xs : List D} (h : SqT K I0 a vs) (p : DpAll K I0 vs xs) : JD K C I0 tg (Itt K a) xs := fun C' i I H r s _ R g => by
  have hs : SqT K H a vs := Evl.ex_t (g.trans R.sub) h
  refine ⟨fun d e => ?_, fun hl => ⟨vs, hs, by rw [dpa_len p]; exact hl⟩⟩
  obtain ⟨v, hv, q⟩ := dpa_get' p e
  refine ⟨⟨vs, v, hs, hv⟩, fun x H' ⟨e1, e2⟩ => ?_⟩
  subst e1
  have := e2 vs hs
  rw [hv] at this
  cases this
  exact ⟨I, R, Same.refl I, .inl (dp_up g _ _ q)⟩
/-- a borrowed list -/
theorem jd_bor {tg : Expr} {K : KF} {C : Cn} {I0 : Hp} {a : Addr} {xs : List D} (n : ∀ j, C.io j ≠ some a) (h : MRel K C.I0 C.H0 a (.lst xs)) : JD K C I0 tg (Itl K a) xs := fun C' i I H r s ⟨c1, c2, c3⟩ R g => by
  obtain ⟨vs, ha, p⟩ := h
  have hH : H a = some (.lst vs) := R.keep a _ (c3 a _ ha) (by rw [c2]; exact n)
  have hs : SqL K H a vs := SqL.of hH
  have m : Same C.I0 I := by rw [← c1]; exact R.mono
  refine ⟨fun d e => ?_, fun hl => ⟨vs, hs, by rw [dpa_len p]; exact hl⟩⟩
  obtain ⟨v, hv, q⟩ := dpa_get' p e
  refine ⟨⟨vs, v, hs, hv⟩, fun x H' ⟨e1, e2⟩ => ?_⟩
  subst e1
  have := e2 vs hs
  rw [hv] at this
  cases this
  exact ⟨I, R, Same.refl I, .inl (dp_up m _ _ q)⟩
def signs (z : Str) : List D := z.cps.toList.map fun c => .str ⟨#[c]⟩
theorem jd_str {tg : Expr} {K : KF} {C : Cn} {I0 : Hp} {z : Str} : JD K C I0 tg (Its z) (signs z) := fun C' i I H r s _ R g => by
  refine ⟨fun d e => ?_, fun hl => by
    have : z.cps.size ≤ i := by simpa [signs] using hl
    exact this⟩
  unfold signs at e
  rw [List.getElem?_map] at e
  obtain ⟨c, h1, h2⟩ := Option.map_eq_some_iff.mp e
  subst h2
  have h1' : z.cps[i]? = some c := by simpa using h1
  refine ⟨(Array.getElem?_eq_some_iff.mp h1').1, fun x H' ⟨e1, c2, e2, e3⟩ => ?_⟩
  subst e1 e3
  rw [h1'] at e2
  cases e2
  exact ⟨I, R, Same.refl I, .inl (.str _)⟩
def rngD (n : Nat) (lo : Int) : List D := (List.range n).map fun (i : Nat) => PyData.int (lo + (i : Int))
theorem jd_rng {tg : Expr} {K : KF} {C : Cn} {I0 : Hp} {lo : Int} {n : Nat} : JD K C I0 tg (Itr lo n) (rngD n lo) := fun C' i I H r s _ R g => by
  refine ⟨fun d e => ?_, fun hl => by
    have : n ≤ i := by simpa [rngD] using hl
    exact this⟩
  unfold rngD at e
  rw [List.getElem?_map] at e
  obtain ⟨c, h1, h2⟩ := Option.map_eq_some_iff.mp e
  subst h2
  have hi : i < n := by simpa using (List.getElem?_eq_some_iff.mp h1).1
  rw [List.getElem?_range hi] at h1
  cases h1
  refine ⟨hi, fun x H' ⟨e1, e2⟩ => ?_⟩
  subst e1 e2
  exact ⟨I, R, Same.refl I, .inl (.int _)⟩
/-- the items of data that is walked -/
def itemsD : D → Option (List D)
  | .list xs => some xs
  | .tuple xs => some xs
  | .str z => some (signs z)
  | _ => none
def kOpt {α : Type} (b : Option α) : EF α := match b with
  | some x => er x
  | none => fun _ => none
theorem kOpt_inv {α : Type} {b : Option α} {r r' : Env} {o : R α} (e : kOpt b r = some (o, r')) : ∃ k, b = some k ∧ r' = r ∧ o = .ok k := by
  cases b with
  | none => cases e
  | some k => cases e; exact ⟨k, rfl, rfl, rfl⟩
def iD (f : EF D) : EF (List D) := eb f fun d => kOpt (itemsD d)
theorem di_d {W : WX} {tg e : Expr} {f : EF D} (h : DD X W e f) : DI X W tg e (iD f) := by
  refine pi_or (pi_list h) (pi_or (u := fun s H Q => iTup X.K (tD X.K X.mg W f) s H Q ∨ iStr (tD X.K X.mg W f) s H Q) (pi_tup h) (pi_str h) fun _ _ _ q => q) fun s H P ⟨C, I, r, o, r', R, e, q⟩ => ?_
  rcases eb_inv e with ⟨d, r1, hf, e⟩ | ⟨x, hf, rfl⟩
  · obtain ⟨xs, hx, rfl, rfl⟩ := kOpt_inv e
    cases d with
    | list ys =>
      cases hx
      refine .inl ⟨C, I, r, _, _, R, hf, fun v I' H' R' g p => ?_⟩
      cases p with
      | lst hs ha => exact ⟨_, rfl, ⟨_, R'.sub.seq hs⟩, q _ I' H' R' g (jd_list hs ha)⟩
    | tuple ys =>
      cases hx
      refine .inr (.inl ⟨C, I, r, _, _, R, hf, fun v I' H' R' g p => ?_⟩)
      cases p with
      | tup hs ha => exact ⟨_, rfl, ⟨_, Evl.ex_t R'.sub hs⟩, q _ I' H' R' g (jd_tup hs ha)⟩
    | str z =>
      cases hx
      refine .inr (.inr ⟨C, I, r, _, _, R, hf, fun v I' H' R' g p => ?_⟩)
      cases p
      exact ⟨z, rfl, q _ I' H' R' g jd_str⟩
    | _ => cases hx
  · exact .inl ⟨C, I, r, _, _, R, hf, q⟩
/-- a name that is walked: data, a borrowed list, a list of one's own (made data) -/
def iVar (i : Nat) : EF (List D) := fun r => match r[i]? with
  | some (some (.bor (.lst xs))) => some (.ok xs, r)
  | _ => iD (dVar i) r
theorem di_var {W : WX} {tg : Expr} {i : Nat} {x : Str} (h : PE X (.Name x pos) (tVar i)) : DI X W tg (.Name x pos) (iVar i) := by
  refine pi_or (pi_list h) (di_d (W := W) (dd_var h)) fun s H P ⟨C, I, r, o, r', R, e, q⟩ => ?_
  unfold iVar at e
  split at e
  · rename_i xs hr
    cases e
    obtain ⟨v, hv, a, ea, _, n, m⟩ := R.slot i _ hr
    subst ea
    obtain ⟨vs, hvs, _⟩ := mrel_keep R n m
    exact .inl ⟨_, hv, a, rfl, ⟨vs, SqL.of hvs⟩, q _ I H R (Same.refl I) (jd_bor n m)⟩
  · exact .inr ⟨C, I, r, o, r', R, e, q⟩
/-- range(n), range(a, b) -/
def rng1 : List S → Option (List D)
  | [.d (.int n)] => if -(2 ^ 62) ≤ n ∧ n < 2 ^ 62 then some (rngD n.toNat 0) else none
  | _ => none
def rng2 : List S → Option (List D)
  | [.d (.int a), .d (.int b)] => if -(2 ^ 62) ≤ a ∧ a < 2 ^ 62 ∧ -(2 ^ 62) ≤ b ∧ b < 2 ^ 62 then some (rngD (b - a).toNat a) else none
  | _ => none
def iApp (ods : List Od) (op : List S → Option (List D)) : EF (List D) := eb (evO ods) fun os r => match getAll r os with
  | some ss => kOpt (op ss) r
  | none => none
theorem iApp_gen {K : KF} {mg : MG} {W : WX} {tg : Expr} {ods : List Od} {op : List S → Option (List D)} {s : L2.St} {H : Hp} {P : It → Hp → Prop} (h : tI K mg W tg (iApp ods op) s H P) {Q : List V → Hp → Prop}
    (p : ∀ C I vs ss xs r H', Rel K C I H' r s → AAll K I H' vs ss → op ss = some xs → (∀ J I2 H2, Rel K C I2 H2 r s → Same I I2 → JD K C I2 tg J xs → P J H2) → Q vs H') : tOds K mg W ods s H Q := by
  obtain ⟨C, I, r, o, r', R, e, q⟩ := h
  rcases eb_inv e with ⟨os, r1, ho, e⟩ | ⟨x, ho, rfl⟩
  · split at e
    · rename_i ss hg
      obtain ⟨xs, hx, rfl, rfl⟩ := kOpt_inv e
      exact evO_ok ods R ho fun vs I' H' R' g a => p C I' vs ss xs _ H' R' (getAll_ok R' a hg) hx fun J I2 H2 R2 g2 j => q J I2 H2 R2 (g.trans g2) j
    · cases e
  · exact evO_ok ods R ho q
theorem di_rng1 {W : WX} {tg a : Expr} {oa : Od} {p : Pos} (hg : Gl X "range") (hm : X.mg "range" = none) (ha : DA X W [a] [oa]) (hs : starEach [a] X.env = [(false, eval a X.env)] := by rfl) : DI X W tg (.Call (.Name "range" p) [a] [] pos) (iApp [oa] rng1) :=
  pi_of (pi_range1 hg hm ha hs) fun s H P q => iApp_gen q fun C I vs ss xs r H' R a e q => by
    cases a with
    | cons a1 a2 =>
      rename_i v vs x ss
      cases a2 with
      | nil =>
        cases x with
        | d d =>
          cases d with
          | int n =>
            have e : (if -(2 ^ 62) ≤ n ∧ n < 2 ^ 62 then some (rngD n.toNat 0) else none) = some xs := e
            split at e
            · rename_i hb
              cases e
              have a1 : Dp X.K I v (.int n) := a1
              cases a1
              exact ⟨n, rfl, hb.1, hb.2, q _ I H' R (Same.refl I) jd_rng⟩
            · cases e
          | _ => simp [rng1] at e
        | _ => simp [rng1] at e
      | cons _ _ => simp [rng1] at e
    | nil => simp [rng1] at e
theorem di_rng2 {W : WX} {tg a b : Expr} {oa ob : Od} {p : Pos} (hg : Gl X "range") (hm : X.mg "range" = none) (ha : DA X W [a, b] [oa, ob]) (hs : starEach [a, b] X.env = [(false, eval a X.env), (false, eval b X.env)] := by rfl) (hs2 : starEach [b] X.env = [(false, eval b X.env)] := by rfl) :
    DI X W tg (.Call (.Name "range" p) [a, b] [] pos) (iApp [oa, ob] rng2) :=
  pi_of (pi_range2 hg hm ha hs hs2) fun s H P q => iApp_gen q fun C I vs ss xs r H' R a e q => by
    have key : ∃ i j, ss = [.d (.int i), .d (.int j)] ∧ (-(2 ^ 62) ≤ i ∧ i < 2 ^ 62 ∧ -(2 ^ 62) ≤ j ∧ j < 2 ^ 62) ∧ xs = rngD (j - i).toNat i := by
      unfold rng2 at e
      split at e
      · split at e
        · rename_i i j hb
          cases e
          exact ⟨i, j, rfl, hb, rfl⟩
        · cases e
      · cases e
    obtain ⟨i, j, rfl, hb, rfl⟩ := key
    cases a with
    | cons a1 a2 =>
      cases a2 with
      | cons a2 a3 =>
        cases a3
        rename_i v w
        have a1 : Dp X.K I v (.int i) := a1
        have a2 : Dp X.K I w (.int j) := a2
        cases a1
        cases a2
        exact ⟨i, j, rfl, hb, q _ I H' R (Same.refl I) jd_rng⟩
/-! ### for, while -/
def sForL (t : Tg) (g : SM) : List D → SM
  | [] => fun r => some (.nx, r)
  | d :: xs => fun r => match bindT t d r with
    | none => none
    | some r1 => match g r1 with
      | some (.nx, r2) => sForL t g xs r2
      | some (.ct, r2) => sForL t g xs r2
      | some (.bk, r2) => some (.nx, r2)
      | z => z
def sFor (f : EF (List D)) (t : Tg) (g : SM) : SM := sx f fun xs => sForL t g xs
theorem ds_for {W : WX} {tg iter : Expr} {body : List Stmt} {f : EF (List D)} {t : Tg} {g : SM} (hp : PassesOwn (model X.prog X.w) X.A X.env X.xe) (hc : X.calm = true) (hi : DI X W tg iter f) (hg : DG X tg t) (hb : DSs X W body g)
    (hs : ∀ x, foldedSetIterable iter X.env x = pure x := by intro _; rfl) : DS X W (.For tg iter body [] pos) (sFor f t g) :=
  ps_of (ps_for hp hc hi hg hb hs) fun D s H ⟨C, I, r, o, r', R, e, q⟩ => by
    rcases sx_inv e with ⟨xs, r1, hf, e⟩ | ⟨x, hf, rfl⟩
    · refine ⟨C, I, r, _, _, R, hf, fun J I1 H1 R1 g1 j => ?_⟩
      have q := spost_up g1 q
      refine ⟨fun i m σ H => m = xs.length - i ∧ i ≤ xs.length ∧ ∃ I2 r2, Rel X.K C I2 H r2 σ ∧ Same I1 I2 ∧ sForL t g (xs.drop i) r2 = some (o, r'), ⟨xs.length, by simp, Nat.zero_le _, I1, r1, R1, Same.refl I1, e⟩, ?_⟩
      rintro i m σ H2 ⟨rfl, hi, I2, r2, R2, g2, e2⟩
      by_cases hl : i < xs.length
      · have hd : xs.drop i = xs[i] :: xs.drop (i + 1) := List.drop_eq_getElem_cons hl
        rw [hd] at e2
        unfold sForL at e2
        obtain ⟨j1, j2⟩ := (j C i I2 H2 r2 σ ⟨rfl, rfl, Same.refl _⟩ R2 g2).1 xs[i] (List.getElem?_eq_getElem hl)
        split at e2
        · cases e2
        · rename_i r3 hb3
          refine .inr ⟨j1, fun σ' H' => ∃ I4 r4, Rel X.K C I4 H' r4 σ' ∧ Same I1 I4 ∧ sForL t g (xs.drop (i + 1)) r4 = some (o, r'), fun σ' H' ⟨I4, r4, R4, g4, e4⟩ => ⟨xs.length - (i + 1), by omega, rfl, hl, I4, r4, R4, g4, e4⟩, fun x H' y => ?_⟩
          obtain ⟨I3, R3, g3, p3⟩ := j2 x H' y
          refine ⟨C, I3, r2, xs[i], r3, R3, p3, hb3, fun s' R4 _ => ?_⟩
          have g13 := g2.trans g3
          split at e2
          · rename_i r5 hg5
            exact ⟨C, I3, r3, _, _, R4, hg5, fun s' I' H' R' g' => ⟨I', r5, R', g13.trans g', e2⟩⟩
          · rename_i r5 hg5
            exact ⟨C, I3, r3, _, _, R4, hg5, fun s' I' H' R' g' => ⟨I', r5, R', g13.trans g', e2⟩⟩
          · rename_i r5 hg5
            cases e2
            exact ⟨C, I3, r3, _, _, R4, hg5, fun s' I' H' R' g' => q s' I' H' R' (g13.trans g')⟩
          · rename_i z h1 h2 h3
            refine ⟨C, I3, r3, o, r', R4, e2, ?_⟩
            cases o with
            | nx => exact absurd e2 (h1 _)
            | bk => exact absurd e2 (h3 _)
            | ct => exact absurd e2 (h2 _)
            | rt x => exact fun v s' I' H' R' g' => q v s' I' H' R' (g13.trans g')
            | ex x => exact fun c dx s' I' H' R' g' => q c dx s' I' H' R' (g13.trans g')
      · have hd : xs.drop i = [] := List.drop_eq_nil_of_le (by omega)
        rw [hd] at e2
        cases e2
        exact .inl ⟨(j C i I2 H2 _ σ ⟨rfl, rfl, Same.refl _⟩ R2 g2).2 (by omega), q σ I2 H2 R2 g2⟩
    · exact ⟨C, I, r, _, _, R, hf, fun c dx I' H' R' g' t => q c dx s I' H' R' g' t⟩
/-- a turn, then k -/
def sStep (c : EF Bool) (g k : SM) : SM := fun r => match c r with
  | some (.ok true, r1) => (match g r1 with
    | some (.nx, r2) => k r2
    | some (.ct, r2) => k r2
    | some (.bk, r2) => some (.nx, r2)
    | z => z)
  | some (.ok false, r1) => some (.nx, r1)
  | some (.ex x, r1) => some (.ex x, r1)
  | none => none
/-- at most n turns -/
def sWh (c : EF Bool) (g : SM) : Nat → SM
  | 0 => fun _ => none
  | n + 1 => sStep c g (sWh c g n)
open Classical in
noncomputable def sWhile (c : EF Bool) (g : SM) : SM := fun r => if h : ∃ z n, sWh c g n r = some z then some h.choose else none
theorem sStep_mono {c : EF Bool} {g k k' : SM} (h : ∀ r z, k r = some z → k' r = some z) {r : Env} {z : O × Env} (e : sStep c g k r = some z) : sStep c g k' r = some z := by
  unfold sStep at e ⊢
  cases hc : c r with
  | none => rw [hc] at e; cases e
  | some p =>
    obtain ⟨o, r1⟩ := p
    rw [hc] at e
    cases o with
    | ex x => exact e
    | ok b =>
      cases b with
      | false => exact e
      | true =>
        dsimp only at e ⊢
        cases hg : g r1 with
        | none => rw [hg] at e; cases e
        | some p =>
          obtain ⟨o, r2⟩ := p
          rw [hg] at e
          cases o with
          | nx => exact h _ _ e
          | ct => exact h _ _ e
          | bk => exact e
          | rt x => exact e
          | ex x => exact e
theorem sWh_mono {c : EF Bool} {g : SM} : ∀ {n : Nat} {r : Env} {z : O × Env}, sWh c g n r = some z → ∀ m, n ≤ m → sWh c g m r = some z
  | 0, r, z, e, _, _ => by cases e
  | n + 1, r, z, e, 0, h => by omega
  | n + 1, r, z, e, m + 1, h => sStep_mono (fun r z e => sWh_mono e m (by omega)) e
theorem sWhile_of {c : EF Bool} {g : SM} {n : Nat} {r : Env} {z : O × Env} (h : sWh c g n r = some z) : sWhile c g r = some z := by
  unfold sWhile
  have hx : ∃ z n, sWh c g n r = some z := ⟨z, n, h⟩
  rw [dif_pos hx]
  obtain ⟨m, hm⟩ := hx.choose_spec
  have e1 := sWh_mono hm (n + m) (by omega)
  have e2 := sWh_mono h (n + m) (by omega)
  rw [e1] at e2
  exact e2
theorem sWhile_inv {c : EF Bool} {g : SM} {r : Env} {z : O × Env} (h : sWhile c g r = some z) : ∃ n, sWh c g n r = some z := by
  unfold sWhile at h
  split at h
  · rename_i hx
    cases h
    exact hx.choose_spec
  · cases h
theorem ds_while {W : WX} {c : Expr} {body : List Stmt} {f : EF Bool} {g : SM} (hp : PassesOwn (model X.prog X.w) X.A X.env X.xe) (hc : DT X W c f) (hb : DSs X W body g) : DS X W (.While c body [] pos) (sWhile f g) :=
  ps_of (ps_while hp hc hb) fun D s H ⟨C, I, r, o, r', R, e, q⟩ => by
    obtain ⟨n, e⟩ := sWhile_inv e
    refine ⟨fun m σ H => ∃ I2 r2, Rel X.K C I2 H r2 σ ∧ Same I I2 ∧ sWh f g m r2 = some (o, r'), ⟨n, I, r, R, Same.refl I, e⟩, ?_⟩
    rintro m σ H2 ⟨I2, r2, R2, g2, e2⟩
    cases m with
    | zero => cases e2
    | succ m =>
      have e2 : sStep f g (sWh f g m) r2 = some (o, r') := e2
      unfold sStep at e2
      split at e2
      · rename_i r3 h3
        refine ⟨C, I2, r2, _, _, R2, h3, fun I3 H3 R3 g3 => iteT ⟨fun σ' H' => ∃ I4 r4, Rel X.K C I4 H' r4 σ' ∧ Same I I4 ∧ sWh f g m r4 = some (o, r'), fun σ' H' h => ⟨m, Nat.lt_succ_self m, h⟩, ?_⟩⟩
        have g13 := g2.trans g3
        split at e2
        · rename_i r5 hg5
          exact ⟨C, I3, r3, _, _, R3, hg5, fun s' I' H' R' g' => ⟨I', r5, R', g13.trans g', e2⟩⟩
        · rename_i r5 hg5
          exact ⟨C, I3, r3, _, _, R3, hg5, fun s' I' H' R' g' => ⟨I', r5, R', g13.trans g', e2⟩⟩
        · rename_i r5 hg5
          cases e2
          exact ⟨C, I3, r3, _, _, R3, hg5, fun s' I' H' R' g' => q s' I' H' R' (g13.trans g')⟩
        · rename_i z h1 h2 h4
          refine ⟨C, I3, r3, o, r', R3, e2, ?_⟩
          cases o with
          | nx => exact absurd e2 (h1 _)
          | bk => exact absurd e2 (h4 _)
          | ct => exact absurd e2 (h2 _)
          | rt x => exact fun v s' I' H' R' g' => q v s' I' H' R' (g13.trans g')
          | ex x => exact fun c dx s' I' H' R' g' => q c dx s' I' H' R' (g13.trans g')
      · rename_i r3 h3
        cases e2
        exact ⟨C, I2, r2, _, _, R2, h3, fun I3 H3 R3 g3 => iteF (q σ I3 H3 R3 (g2.trans g3))⟩
      · rename_i x r3 h3
        cases e2
        exact ⟨C, I2, r2, _, _, R2, h3, fun c dx I' H' R' g' t => q c dx σ I' H' R' (g2.trans g') t⟩
      · cases e2
end
end DL
namespace DL
open PySem L2
open PyProof.Rows (envOfC)
/-! ### comprehensions -/
def wipeE (r : Env) : List Nat → Env
  | [] => r
  | v :: vs => (wipeE r vs).set v none
def keepD : Option (Option S) → Option S
  | some (some (.d x)) => some (.d x)
  | _ => none
def restE (r0 r1 : Env) : List Nat → Env
  | [] => r1
  | v :: vs => (restE r0 r1 vs).set v (keepD r0[v]?)
def cmpL (t : Tg) (c : EF Bool) (f : EF D) (vs : List Nat) : List D → EF (List D)
  | [] => er []
  | d :: xs => fun r => match bindT t d r with
    | none => none
    | some r1 => match c r1 with
      | some (.ok true, r2) => (match f r2 with
        | some (.ok y, r3) => (match cmpL t c f vs xs (wipeE r3 vs) with
          | some (.ok ys, r4) => some (.ok (y :: ys), r4)
          | _ => none)
        | _ => none)
      | some (.ok false, r2) => cmpL t c f vs xs (wipeE r2 vs)
      | _ => none
def dComp (fi : EF (List D)) (t : Tg) (c : EF Bool) (f : EF D) (vs : List Nat) : EF S := eb fi fun xs r => if xs.length ≤ 16777216 then
    match cmpL t c f vs xs (wipeE r vs) with
    | some (.ok ys, r') => some (.ok (.own false (.lst ys)), restE r r' vs)
    | _ => none
  else none
theorem wipeE_len (r : Env) : ∀ vs : List Nat, (wipeE r vs).length = r.length
  | [] => rfl
  | v :: vs => by unfold wipeE; rw [List.length_set, wipeE_len r vs]
theorem wipeE_some {r : Env} {i : Nat} {x : S} : ∀ {vs : List Nat}, (wipeE r vs)[i]? = some (some x) → r[i]? = some (some x) ∧ i ∉ vs
  | [], h => ⟨h, by simp⟩
  | v :: vs, h => by
    unfold wipeE at h
    by_cases hi : v = i
    · subst hi
      by_cases hv : v < (wipeE r vs).length
      · rw [List.getElem?_set_self hv] at h; cases h
      · rw [List.getElem?_eq_none (by simpa using hv)] at h; cases h
    · rw [List.getElem?_set_ne hi] at h
      obtain ⟨h1, h2⟩ := wipeE_some h
      exact ⟨h1, by simp only [List.mem_cons, not_or]; exact ⟨fun e => hi e.symm, h2⟩⟩
theorem wipe_some' {s : L2.St} {i : Nat} {x : V} : ∀ {vs : List Nat}, s[i]? = some (some x) → i ∉ vs → (wipe s vs)[i]? = some (some x)
  | [], h, _ => h
  | v :: vs, h, n => by
    simp only [List.mem_cons, not_or] at n
    unfold wipe
    rw [List.getElem?_set_ne (Ne.symm n.1)]
    exact wipe_some' h n.2
theorem wipe_none {s : L2.St} {vs : List Nat} {v : Nat} (h : v ∈ vs) : (wipe s vs).set v none = wipe s vs := by
  refine List.ext_getElem? fun k => ?_
  by_cases hk : v = k
  · subst hk
    by_cases hlk : v < (wipe s vs).length
    · rw [List.getElem?_set_self hlk]
      cases q1 : (wipe s vs)[v]? with
      | none =>
        rw [List.getElem?_eq_none_iff] at q1
        omega
      | some u =>
        cases u with
        | none => rfl
        | some u => exact absurd h (wipe_some q1).2
    · rw [List.getElem?_eq_none (by simpa using hlk), List.getElem?_eq_none (by simpa using hlk)]
  · rw [List.getElem?_set_ne hk]
theorem wipe_sub {s : L2.St} {vs : List Nat} : ∀ {ws : List Nat}, (∀ v ∈ ws, v ∈ vs) → wipe (wipe s vs) ws = wipe s vs
  | [], _ => rfl
  | v :: ws, h => by
    show (wipe (wipe s vs) ws).set v none = wipe s vs
    rw [wipe_sub fun u hu => h u (List.mem_cons_of_mem _ hu), wipe_none (h v List.mem_cons_self)]
theorem restE_len (r0 r1 : Env) : ∀ vs : List Nat, (restE r0 r1 vs).length = r1.length
  | [] => rfl
  | v :: vs => by unfold restE; rw [List.length_set, restE_len r0 r1 vs]
theorem restE_at {r0 r1 : Env} {i : Nat} {x : S} : ∀ {vs : List Nat}, (restE r0 r1 vs)[i]? = some (some x) → (∃ d, x = .d d ∧ r0[i]? = some (some (.d d))) ∨ (i ∉ vs ∧ r1[i]? = some (some x))
  | [], h => .inr ⟨by simp, h⟩
  | v :: vs, h => by
    unfold restE at h
    by_cases hi : v = i
    · subst hi
      by_cases hv : v < (restE r0 r1 vs).length
      · rw [List.getElem?_set_self hv] at h
        have h : keepD r0[v]? = some x := Option.some.inj h
        unfold keepD at h
        split at h
        · rename_i d e
          cases h
          exact .inl ⟨d, rfl, e⟩
        · cases h
      · rw [List.getElem?_eq_none (by simpa using hv)] at h; cases h
    · rw [List.getElem?_set_ne hi] at h
      rcases restE_at h with h | ⟨h1, h2⟩
      · exact .inl h
      · exact .inr ⟨by simp only [List.mem_cons, not_or]; exact ⟨fun e => hi e.symm, h1⟩, h2⟩
section
variable {K : KF} {mg : MG} {C : Cn} {I H : Hp} {r : Env} {s : L2.St}
theorem Rel.wipe (R : Rel K C I H r s) (vs : List Nat) : Rel K C I H (wipeE r vs) (L2.wipe s vs) where
  tz := R.tz
  len := by rw [wipeE_len, wipe_length]; exact R.len
  sub := R.sub
  mono := R.mono
  keep := R.keep
  dom := R.dom
  bo := R.bo
  iot := R.iot
  lkt := R.lkt
  fresh := R.fresh
  slot := fun i x h => by
    obtain ⟨h1, h2⟩ := wipeE_some h
    obtain ⟨v, hv, q⟩ := R.slot i x h1
    exact ⟨v, wipe_some' hv h2, q⟩
  dist := fun i j b c m n a ne h1 h2 e1 e2 => R.dist i j b c m n a ne (wipeE_some h1).1 (wipeE_some h2).1 (wipe_some e1).1 (wipe_some e2).1
/-- no slot holds the thing at a -/
def NoSlot (r : Env) (s : L2.St) (a : Addr) : Prop := ∀ (i : Nat) b m, r[i]? = some (some (.own b m)) → s[i]? ≠ some (some (.ref a))
theorem NoSlot.wipe {a : Addr} (h : NoSlot r s a) (vs : List Nat) : NoSlot (wipeE r vs) (L2.wipe s vs) a := fun i b m e z => h i b m (wipeE_some e).1 (wipe_some z).1
def Cn.push (C : Cn) (a : Addr) (o : HO) : Cn := { C with H0 := upd C.H0 a o }
theorem push_ext {a : Addr} {o : HO} (h : C.H0 a = none) : Cext C (C.push a o) := ⟨rfl, rfl, Evl.Ex.new h⟩
theorem srel_push {a : Addr} {o : HO} {i : Nat} {v : V} {x : S} (h0 : C.H0 a = none) (q : SRel K C I H i v x) (n : ∀ b m, x = .own b m → v ≠ .ref a) : SRel K (C.push a o) I H i v x := by
  cases x with
  | d x => exact q
  | bor m =>
    obtain ⟨c, e, b, k, z⟩ := q
    refine ⟨c, e, b, k, mrel_same (Same.refl _) (fun u hu => ?_) z⟩
    exact Evl.Ex.new h0 _ _ hu
  | lck m => exact q
  | own b m =>
    obtain ⟨c, e, k, z, w⟩ := own_nz q
    subst e
    have hc : c ≠ a := fun e => n b m rfl (by rw [e])
    refine own_mk rfl k z ?_
    rcases w with w | ⟨w1, w2⟩
    · exact .inl w
    · exact .inr ⟨w1, by show upd C.H0 a o c = none; rw [upd_ne hc]; exact w2⟩
theorem Rel.hide {a : Addr} {o : HO} (R : Rel K C I H r s) (hD : H a = some o) (n : I a = none) (h0 : C.H0 a = none) (no : NoSlot r s a) : Rel K (C.push a o) I H r s where
  tz := R.tz
  len := R.len
  sub := R.sub
  mono := R.mono
  keep := fun c u e k => by
    have e : upd C.H0 a o c = some u := e
    by_cases hc : c = a
    · subst hc
      rw [upd_same] at e
      cases e
      exact hD
    · rw [upd_ne hc] at e
      exact R.keep c u e k
  dom := fun c e => by
    show upd C.H0 a o c = none
    have hc : c ≠ a := by
      rintro rfl
      rw [hD] at e
      cases e
    rw [upd_ne hc]
    exact R.dom c e
  bo := fun c e => by
    show upd C.H0 a o c ≠ none
    have hc : c ≠ a := by
      rintro rfl
      exact R.bo _ e h0
    rw [upd_ne hc]
    exact R.bo c e
  iot := fun j c e => by
    show upd C.H0 a o c ≠ none
    have hc : c ≠ a := by
      rintro rfl
      exact R.iot _ _ e h0
    rw [upd_ne hc]
    exact R.iot j c e
  lkt := fun i c e => by
    obtain ⟨l1, l2⟩ := R.lkt i c e
    refine ⟨?_, l2⟩
    show upd C.H0 a o c ≠ none
    have hc : c ≠ a := by
      rintro rfl
      exact l1 h0
    rw [upd_ne hc]
    exact l1
  fresh := fun c e1 e2 => by
    by_cases hc : c = a
    · rw [hc]
      exact n
    · have e2 : upd C.H0 a o c ≠ none := e2
      rw [upd_ne hc] at e2
      exact R.fresh c e1 e2
  slot := fun i x h => by
    obtain ⟨v, hv, q⟩ := R.slot i x h
    exact ⟨v, hv, srel_push h0 q fun b m e z => no i b m (by rw [h, e]) (by rw [hv, z])⟩
  dist := R.dist
theorem Rel.unhide {a : Addr} {o : HO} (R : Rel K (C.push a o) I H r s) (h0 : C.H0 a = none) (i0 : C.I0 a = none) (bo : ∀ c, C.bo c → C.H0 c ≠ none) (iot : ∀ j c, C.io j = some c → C.H0 c ≠ none) (lkt : ∀ i a, C.lk i = some a → C.H0 a ≠ none ∧ ∀ j, C.io j ≠ some a) :
    Rel K C I H r s ∧ H a = some o ∧ I a = none ∧ NoSlot r s a := by
  have hp : (C.push a o).H0 a = some o := upd_same
  have nio : ∀ j, C.io j ≠ some a := fun j e => iot j a e h0
  have hH : H a = some o := R.keep a o hp nio
  have hI : I a = none := R.fresh a i0 (by rw [hp]; exact fun z => by cases z)
  have back : ∀ {c : Addr} {u : HO}, C.H0 c = some u → (C.push a o).H0 c = some u := fun {c u} e => by
    have hc : c ≠ a := by
      rintro rfl
      rw [h0] at e
      cases e
    show upd C.H0 a o c = some u
    rw [upd_ne hc]
    exact e
  have no : NoSlot r s a := fun i b m e z => by
    obtain ⟨v, hv, q⟩ := R.slot i _ e
    rw [z] at hv
    cases hv
    obtain ⟨c, e1, _, _, w⟩ := own_nz q
    cases e1
    rcases w with ⟨_, w⟩ | ⟨_, w⟩
    · exact nio i w
    · rw [hp] at w
      cases w
  refine ⟨⟨R.len, R.sub, R.mono, fun c u e k => R.keep c u (back e) k, fun c e => ?_, bo, iot, lkt, fun c e1 e2 => ?_, fun i x h => ?_, R.dist, R.tz⟩, hH, hI, no⟩
  · cases q : C.H0 c with
    | none => rfl
    | some u =>
      have := R.dom c e
      rw [back q] at this
      cases this
  · refine R.fresh c e1 ?_
    cases q : C.H0 c with
    | none => exact absurd q e2
    | some u =>
      rw [back q]
      exact fun z => by cases z
  · obtain ⟨v, hv, q⟩ := R.slot i x h
    refine ⟨v, hv, ?_⟩
    cases x with
    | d x => exact q
    | bor m =>
      obtain ⟨c, e, b, k, z⟩ := q
      have hc : c ≠ a := by
        rintro rfl
        exact bo _ b h0
      exact ⟨c, e, b, k, mrel_up (Same.refl _) (by show C.H0 c = upd C.H0 a o c; rw [upd_ne hc]) z⟩
    | lck m => exact q
    | own b m =>
      obtain ⟨c, e, k, z, w⟩ := own_nz q
      subst e
      refine own_mk rfl k z ?_
      rcases w with w | ⟨w1, w2⟩
      · exact .inl w
      · refine .inr ⟨w1, ?_⟩
        cases q2 : C.H0 c with
        | none => rfl
        | some u =>
          rw [back q2] at w2
          cases w2
/-- what nobody's slot holds is changed -/
theorem Rel.updFree {a : Addr} {o : HO} (R : Rel K C I H r s) (n : I a = none) (h0 : C.H0 a = none) (no : NoSlot r s a) : Rel K C I (upd H a o) r s where
  tz := R.tz
  len := R.len
  sub := fun c u e => by
    rw [upd_ne (ne_of_none e n)]
    exact R.sub c u e
  mono := R.mono
  keep := fun c u e k => by
    rw [upd_ne (ne_of_none e h0)]
    exact R.keep c u e k
  dom := fun c e => by
    by_cases hc : c = a
    · rw [hc]
      exact h0
    · rw [upd_ne hc] at e
      exact R.dom c e
  bo := R.bo
  iot := R.iot
  lkt := R.lkt
  fresh := R.fresh
  slot := fun i x h => by
    obtain ⟨v, hv, q⟩ := R.slot i x h
    refine ⟨v, hv, srel_up (Same.refl I) q (fun b m c ex ev nc _ => ⟨nc, upd_ne ?_⟩) fun m c _ _ l nc _ => ⟨nc, upd_ne ?_⟩⟩
    · rintro rfl
      subst ex ev
      exact no i b m h hv
    · rintro rfl
      exact (R.lkt _ _ l).1 h0
  dist := R.dist
theorem Rel.rest {r0 : Env} {H0 I0 : Hp} {vs : List Nat} (R : Rel K C I H r (L2.wipe s vs)) (R0 : Rel K C I0 H0 r0 s) (g : Same I0 I) : Rel K C I H (restE r0 r vs) s where
  tz := R.tz
  len := by
    rw [restE_len, ← R.len, wipe_length]
  sub := R.sub
  mono := R.mono
  keep := R.keep
  dom := R.dom
  bo := R.bo
  iot := R.iot
  lkt := R.lkt
  fresh := R.fresh
  slot := fun i x h => by
    rcases restE_at h with ⟨d, rfl, e⟩ | ⟨_, e⟩
    · obtain ⟨v, hv, q⟩ := R0.slot i _ e
      exact ⟨v, hv, dp_up g _ _ q⟩
    · obtain ⟨v, hv, q⟩ := R.slot i x e
      exact ⟨v, (wipe_some hv).1, q⟩
  dist := fun i j b c m n a ne h1 h2 e1 e2 => by
    rcases restE_at h1 with ⟨d, z, _⟩ | ⟨n1, h1⟩
    · cases z
    · rcases restE_at h2 with ⟨d, z, _⟩ | ⟨n2, h2⟩
      · cases z
      · exact R.dist i j b c m n a ne h1 h2 (wipe_some' e1 n1) (wipe_some' e2 n2)
end
def W0 : WX := fun _ _ _ _ => False
theorem pts_of {X : Cx} {ifs : List Expr} {t t' : TT} (h : PTs X ifs t) (w : ∀ s H Q, t' s H Q → t s H Q) : PTs X ifs t' := ⟨fun pins s σ H Q I q => h.run pins s σ H Q I (w _ _ _ q)⟩
abbrev DTs (X : Cx) (W : WX) (ifs : List Expr) (f : EF Bool) : Prop := PTs X ifs (tT X.K X.mg W f)
theorem dts_nil {X : Cx} {W : WX} : DTs X W [] (er true) := pts_of pts_nil fun s H Q q => tT_er q
theorem dts_one {X : Cx} {W : WX} {c : Expr} {f : EF Bool} (h : DT X W c f) : DTs X W [c] f := pts_one h
/-- the comprehension's loop -/
theorem comp_ok {K : KF} {mg : MG} {W : WX} {tg : Expr} {fi : EF (List D)} {t : Tg} {c : EF Bool} {f : EF D} {vs : List Nat} {s : L2.St} {H : Hp} {Q : VK} (hv : t.sub vs) (h : tE K mg W (dComp fi t c f vs) s H Q) :
    tLc (tI K mg W tg fi) (tG K tg t) (tT K mg W0 c) (tD K mg W0 f) vs s H Q := by
  obtain ⟨C, I, r, o, r', R, e, q⟩ := h
  rcases eb_inv e with ⟨xs, r1, hf, e⟩ | ⟨x, hf, rfl⟩
  · split at e
    · rename_i hlen
      split at e
      · rename_i ys rE he
        cases e
        refine ⟨C, I, r, _, _, R, hf, fun J I1 H1 R1 g1 j L hL => ?_⟩
        have c0 : C.H0 L = none := R1.dom L hL
        have i1 : I1 L = none := R1.sub.free hL
        have i0 : C.I0 L = none := R1.mono.free i1
        have no1 : NoSlot (wipeE r1 vs) (wipe s vs) L := NoSlot.wipe (fun i b m e1 e2 => by
          obtain ⟨v, hv, z⟩ := R1.slot i _ e1
          rw [e2] at hv
          cases hv
          obtain ⟨a, ea, _, mm, _⟩ := own_nz z
          cases ea
          obtain ⟨u, hu⟩ := mrel_some mm
          rw [hL] at hu
          cases hu) vs
        refine ⟨fun i m H => m = xs.length - i ∧ i ≤ xs.length ∧ ∃ I2 r2 acc vacc rest, Rel K C I2 H r2 (wipe s vs) ∧ Same I1 I2 ∧ H L = some (.lst vacc) ∧ DpAll K I2 vacc acc ∧ I2 L = none ∧ NoSlot r2 (wipe s vs) L ∧ acc.length ≤ i ∧
            cmpL t c f vs (xs.drop i) r2 = some (.ok rest, rE) ∧ acc ++ rest = ys, ⟨xs.length, by simp, Nat.zero_le _, I1, wipeE r1 vs, [], [], ys, (R1.wipe vs).updFree i1 c0 no1, Same.refl I1, upd_same, .nil, i1, no1, Nat.le_refl _, ?_, rfl⟩, ?_⟩
        · exact he
        · rintro i m H2 ⟨rfl, hi, I2, r2, acc, vacc, rest, R2, g2, hD, pa, iD, no, hacc, e2, hys⟩
          have R2' := R2.hide (o := .lst vacc) hD iD c0 no
          have j' := j (C.push L (.lst vacc)) i I2 H2 r2 (wipe s vs) (push_ext c0) R2' g2
          by_cases hl : i < xs.length
          · have hd : xs.drop i = xs[i] :: xs.drop (i + 1) := List.drop_eq_getElem_cons hl
            rw [hd] at e2
            unfold cmpL at e2
            obtain ⟨j1, j2⟩ := j'.1 xs[i] (List.getElem?_eq_getElem hl)
            split at e2
            · cases e2
            · rename_i r3 hb3
              refine .inr ⟨j1, fun H' => i + 1 ≤ xs.length ∧ ∃ I2 r2 acc vacc rest, Rel K C I2 H' r2 (wipe s vs) ∧ Same I1 I2 ∧ H' L = some (.lst vacc) ∧ DpAll K I2 vacc acc ∧ I2 L = none ∧ NoSlot r2 (wipe s vs) L ∧ acc.length ≤ i + 1 ∧
                cmpL t c f vs (xs.drop (i + 1)) r2 = some (.ok rest, rE) ∧ acc ++ rest = ys, fun H' z => ⟨xs.length - (i + 1), by omega, rfl, z⟩, fun x H' y => ?_⟩
              obtain ⟨I3, R3, g3, p3⟩ := j2 x H' y
              refine ⟨_, I3, r2, xs[i], r3, R3, p3, hb3, fun s4 R4 w4 => ?_⟩
              have w4 : wipe s4 vs = wipe s vs := (w4 vs hv).trans (wipe_sub fun v h => h)
              refine ⟨w4, ?_⟩
              have g13 := g2.trans g3
              split at e2
              · rename_i r5 h5
                refine ⟨_, I3, r3, _, _, R4, h5, fun I6 H6 R6 g6 => iteT ?_⟩
                split at e2
                · rename_i y r7 h7
                  split at e2
                  · rename_i ys2 r8 h8
                    cases e2
                    refine ⟨_, I6, r5, _, _, R6, h7, fun v I9 H9 R9 g9 p9 => ?_⟩
                    obtain ⟨Ra, hDa, iDa, noa⟩ := R9.unhide c0 i0 R.bo R.iot R.lkt
                    have gg := (g13.trans g6).trans g9
                    have hln : vacc.length < sizeLine := by
                      rw [dpa_len pa, sizeLine_eq]
                      omega
                    refine ⟨vacc, hDa, hln, by omega, I9, wipeE r7 vs, acc ++ [y], vacc ++ [v], ys2, ?_, gg, upd_same, dpa_app (dpa_up ((g3.trans g6).trans g9) _ _ pa) (.cons p9 .nil), iDa, ?_, by simp; omega, h8, by simpa using hys⟩
                    · have := (Ra.wipe vs).updFree (o := .lst (vacc ++ [v])) iDa c0 (noa.wipe vs)
                      rw [w4] at this
                      exact this
                    · have := noa.wipe vs
                      rw [w4] at this
                      exact this
                  · cases e2
                · cases e2
              · rename_i r5 h5
                refine ⟨_, I3, r3, _, _, R4, h5, fun I6 H6 R6 g6 => iteF ?_⟩
                obtain ⟨Ra, hDa, iDa, noa⟩ := R6.unhide c0 i0 R.bo R.iot R.lkt
                refine ⟨by omega, I6, wipeE r5 vs, acc, vacc, rest, ?_, g13.trans g6, hDa, dpa_up (g3.trans g6) _ _ pa, iDa, ?_, by omega, e2, hys⟩
                · have := Ra.wipe vs
                  rw [w4] at this
                  exact this
                · have := noa.wipe vs
                  rw [w4] at this
                  exact this
              · cases e2
          · have hd : xs.drop i = [] := List.drop_eq_nil_of_le (by omega)
            rw [hd] at e2
            cases e2
            refine .inl ⟨j'.2 (by omega), ?_⟩
            have Rr := Rel.rest (s := s) R2 R1 g2
            refine q (.ref L) I2 H2 Rr (g1.trans g2) ⟨L, rfl, iD, ⟨vacc, hD, ?_⟩, c0, fun i b m h1 h2 => ?_⟩
            · rw [← hys, List.append_nil]
              exact pa
            · rcases restE_at h1 with ⟨d, z, _⟩ | ⟨n1, h1⟩
              · cases z
              · exact no i b m h1 (wipe_some' h2 n1)
      · cases e
    · cases e
  · exact ⟨C, I, r, _, _, R, hf, q⟩
section
variable {X : Cx} {W : WX} {elt tg iter : Expr} {ifs : List Expr} {scope : Scope} {own : List (Str × Nat)} {pos : Pos} {fi : EF (List D)} {t : Tg} {c : EF Bool} {f : EF D}
theorem de_comp (hc : X.calm = true) (hN : X.N.Nodup) (hi : DI X W tg iter fi) (ok : BlkOk X.N X.env.scope scope own)
    (hg : ∀ (s : Shared) (H : Hp) (C : Addr) (cl : List (Str × Addr)) (fp : List Addr), DG (X.blk s H scope (PySem.compEnvC scope cl C X.env) fp) tg t) (ht : ∀ (s : Shared) (H : Hp) (C : Addr) (cl : List (Str × Addr)) (fp : List Addr), DTs (X.blk s H scope (PySem.compEnvC scope cl C X.env) fp) W0 ifs c)
    (he : ∀ (s : Shared) (H : Hp) (C : Addr) (cl : List (Str × Addr)) (fp : List Addr), DD (X.blk s H scope (PySem.compEnvC scope cl C X.env) fp) W0 elt f) (hv : t.sub (own.map (·.2))) (hs : ∀ x, foldedSetIterable iter X.env x = pure x := by intro _; rfl) :
    DE X W (.ListComp elt [⟨tg, iter, ifs, 0⟩] scope pos) (dComp fi t c f (own.map (·.2))) := pe_of (pe_lc hc hN hi ok hg ht he hs) fun s H Q q => comp_ok hv q
/-- name = [..] -/
theorem ds_setComp {i : Nat} {y : Str} {py spos : Pos} (hc : X.calm = true) (hN : X.N.Nodup) (hy : X.N[i]? = some y) (hyl : X.env.scope.names.lookup y = some .local)
    (hsw : swapsWith (.ListComp elt [⟨tg, iter, ifs, 0⟩] scope pos) (some (.Name y py)) spos.line X.env = pure true) (hi : DI X W tg iter fi) (ok : BlkOk X.N X.env.scope scope own)
    (hg : ∀ (s : Shared) (H : Hp) (C : Addr) (cl : List (Str × Addr)) (fp : List Addr), DG (X.blk s H scope (PySem.compEnvC scope cl C X.env) fp) tg t) (ht : ∀ (s : Shared) (H : Hp) (C : Addr) (cl : List (Str × Addr)) (fp : List Addr), DTs (X.blk s H scope (PySem.compEnvC scope cl C X.env) fp) W0 ifs c)
    (he : ∀ (s : Shared) (H : Hp) (C : Addr) (cl : List (Str × Addr)) (fp : List Addr), DD (X.blk s H scope (PySem.compEnvC scope cl C X.env) fp) W0 elt f) (hv : t.sub (own.map (·.2))) (hs : ∀ x, foldedSetIterable iter X.env x = pure x := by intro _; rfl) :
    DS X W (.Assign [.Name y py] (.ListComp elt [⟨tg, iter, ifs, 0⟩] scope pos) spos) (sAsg i (dComp fi t c f (own.map (·.2)))) :=
  ps_of (ps_setLc hc hN hy hyl hsw hi ok hg ht he hs) fun D s H q => comp_ok hv (tE_sx q fun C I H' r r' o x v R t e q => by
    cases e
    exact q _ I H' (R.put t) (Same.refl I))
end
end DL
namespace DL
open PySem L2
open PyProof.Rows (envOfC)
/-! ### == of data -/
mutual
def nd : PyData → Bool
  | .list xs => nds xs
  | .tuple xs => nds xs
  | .dict _ => false
  | _ => true
def nds : List PyData → Bool
  | [] => true
  | x :: xs => nd x && nds xs
end
mutual
theorem dp_nd {K : KF} {I : Hp} : ∀ (d : D) (v : V), Dp K I v d → nd d = true
  | .none, _, _ => rfl
  | .bool _, _, _ => rfl
  | .int _, _, _ => rfl
  | .str _, _, _ => rfl
  | .list xs, _, h => by
    cases h with
    | lst _ ha => unfold nd; exact dpa_nd xs _ ha
  | .tuple xs, _, h => by
    cases h with
    | tup _ ha => unfold nd; exact dpa_nd xs _ ha
  | .dict _, _, h => by cases h
theorem dpa_nd {K : KF} {I : Hp} : ∀ (ds : List D) (vs : List V), DpAll K I vs ds → nds ds = true
  | [], _, _ => rfl
  | d :: ds, _, h => by
    cases h with
    | cons h1 h2 => unfold nds; rw [dp_nd d _ h1, dpa_nd ds _ h2]; rfl
end
mutual
theorem eqv_self : ∀ d : D, nd d = true → PyData.eqv d d = true
  | .none, _ => rfl
  | .bool b, _ => by simp [PyData.eqv]
  | .int i, _ => by simp [PyData.eqv]
  | .str x, _ => by simp [PyData.eqv]
  | .list xs, h => by unfold nd at h; unfold PyData.eqv; exact eqvs_self xs h
  | .tuple xs, h => by unfold nd at h; unfold PyData.eqv; exact eqvs_self xs h
  | .dict _, h => by cases h
theorem eqvs_self : ∀ ds : List D, nds ds = true → PyData.eqvAll ds ds = true
  | [], _ => rfl
  | d :: ds, h => by
    unfold nds at h
    rw [Bool.and_eq_true] at h
    unfold PyData.eqvAll
    rw [eqv_self d h.1, eqvs_self ds h.2]
    rfl
end
def EqOk (A : Around) (s : Shared) (a b : Value) (k : Bool) : Prop := SeqAt.EqAt A s a b k ∧ SeqAt.RcAt A s a b k ∧ SeqAt.RcNeAt A s a b (!k)
/-- one of the two is no list, no tuple, or they are of two kinds -/
theorem eq_flat {da db : D} {A : Around} {s : Shared} {a b : Value} {as bs : List Addr} (ra : Reads s.heap a da as) (rb : Reads s.heap b db bs) (ha : nd da = true) (hb : nd db = true) (hu : A.units < cLine)
    (h1 : ∀ xs ys, da = .list xs → db ≠ .list ys) (h2 : ∀ xs ys, da = .tuple xs → db ≠ .tuple ys) : EqOk A s a b (PyData.eqv da db) := by
  cases ra with
  | none =>
    cases rb with
    | none => exact ⟨SeqAt.EqAt.same _, SeqAt.RcAt.none_none, SeqAt.RcNeAt.none_none⟩
    | bool y => exact ⟨SeqAt.EqAt.none_bool y, SeqAt.RcAt.none_bool y, SeqAt.RcNeAt.none_bool y⟩
    | int y yt => exact ⟨SeqAt.EqAt.none_int y yt, SeqAt.RcAt.none_int y yt, SeqAt.RcNeAt.none_int y yt⟩
    | str y yt => exact ⟨SeqAt.EqAt.none_str y yt, SeqAt.RcAt.none_str y yt, SeqAt.RcNeAt.none_str y yt⟩
    | list y1 y2 y3 y4 => exact ⟨SeqAt.EqAt.none_list ⟨_, y1, y2, _, y3⟩ hu, SeqAt.RcAt.none_list ⟨_, y1, y2, _, y3⟩ hu, SeqAt.RcNeAt.none_list ⟨_, y1, y2, _, y3⟩ hu⟩
    | tuple y1 y2 y3 y4 => exact ⟨SeqAt.EqAt.none_tuple ⟨_, y1, y2, _, y3⟩ hu, SeqAt.RcAt.none_tuple ⟨_, y1, y2, _, y3⟩ hu, SeqAt.RcNeAt.none_tuple ⟨_, y1, y2, _, y3⟩ hu⟩
    | dict => cases hb
  | bool x =>
    cases rb with
    | none => exact ⟨SeqAt.EqAt.bool_none x, SeqAt.RcAt.bool_none x, SeqAt.RcNeAt.bool_none x⟩
    | bool y => exact ⟨SeqAt.EqAt.bool_bool x y, SeqAt.RcAt.bool_bool x y, SeqAt.RcNeAt.bool_bool x y⟩
    | int y yt => exact ⟨SeqAt.EqAt.bool_int x y yt, SeqAt.RcAt.bool_int x y yt, SeqAt.RcNeAt.bool_int x y yt⟩
    | str y yt => exact ⟨SeqAt.EqAt.bool_str x y yt, SeqAt.RcAt.bool_str x y yt, SeqAt.RcNeAt.bool_str x y yt⟩
    | list y1 y2 y3 y4 => exact ⟨SeqAt.EqAt.bool_list x ⟨_, y1, y2, _, y3⟩ hu, SeqAt.RcAt.bool_list x ⟨_, y1, y2, _, y3⟩ hu, SeqAt.RcNeAt.bool_list x ⟨_, y1, y2, _, y3⟩ hu⟩
    | tuple y1 y2 y3 y4 => exact ⟨SeqAt.EqAt.bool_tuple x ⟨_, y1, y2, _, y3⟩ hu, SeqAt.RcAt.bool_tuple x ⟨_, y1, y2, _, y3⟩ hu, SeqAt.RcNeAt.bool_tuple x ⟨_, y1, y2, _, y3⟩ hu⟩
    | dict => cases hb
  | int x xt =>
    cases rb with
    | none => exact ⟨SeqAt.EqAt.int_none x xt, SeqAt.RcAt.int_none x xt, SeqAt.RcNeAt.int_none x xt⟩
    | bool y => exact ⟨SeqAt.EqAt.int_bool x xt y, SeqAt.RcAt.int_bool x xt y, SeqAt.RcNeAt.int_bool x xt y⟩
    | int y yt => exact ⟨SeqAt.EqAt.int_int x xt y yt, SeqAt.RcAt.int_int x xt y yt, SeqAt.RcNeAt.int_int x xt y yt⟩
    | str y yt => exact ⟨SeqAt.EqAt.int_str x xt y yt, SeqAt.RcAt.int_str x xt y yt, SeqAt.RcNeAt.int_str x xt y yt⟩
    | list y1 y2 y3 y4 => exact ⟨SeqAt.EqAt.int_list x xt ⟨_, y1, y2, _, y3⟩ hu, SeqAt.RcAt.int_list x xt ⟨_, y1, y2, _, y3⟩ hu, SeqAt.RcNeAt.int_list x xt ⟨_, y1, y2, _, y3⟩ hu⟩
    | tuple y1 y2 y3 y4 => exact ⟨SeqAt.EqAt.int_tuple x xt ⟨_, y1, y2, _, y3⟩ hu, SeqAt.RcAt.int_tuple x xt ⟨_, y1, y2, _, y3⟩ hu, SeqAt.RcNeAt.int_tuple x xt ⟨_, y1, y2, _, y3⟩ hu⟩
    | dict => cases hb
  | str x xt =>
    cases rb with
    | none => exact ⟨SeqAt.EqAt.str_none x xt, SeqAt.RcAt.str_none x xt, SeqAt.RcNeAt.str_none x xt⟩
    | bool y => exact ⟨SeqAt.EqAt.str_bool x xt y, SeqAt.RcAt.str_bool x xt y, SeqAt.RcNeAt.str_bool x xt y⟩
    | int y yt => exact ⟨SeqAt.EqAt.str_int x xt y yt, SeqAt.RcAt.str_int x xt y yt, SeqAt.RcNeAt.str_int x xt y yt⟩
    | str y yt => exact ⟨SeqAt.EqAt.str_str x xt y yt, SeqAt.RcAt.str_str x xt y yt, SeqAt.RcNeAt.str_str x xt y yt⟩
    | list y1 y2 y3 y4 => exact ⟨SeqAt.EqAt.str_list x xt ⟨_, y1, y2, _, y3⟩ hu, SeqAt.RcAt.str_list x xt ⟨_, y1, y2, _, y3⟩ hu, SeqAt.RcNeAt.str_list x xt ⟨_, y1, y2, _, y3⟩ hu⟩
    | tuple y1 y2 y3 y4 => exact ⟨SeqAt.EqAt.str_tuple x xt ⟨_, y1, y2, _, y3⟩ hu, SeqAt.RcAt.str_tuple x xt ⟨_, y1, y2, _, y3⟩ hu, SeqAt.RcNeAt.str_tuple x xt ⟨_, y1, y2, _, y3⟩ hu⟩
    | dict => cases hb
  | list x1 x2 x3 x4 =>
    cases rb with
    | none => exact ⟨SeqAt.EqAt.list_none ⟨_, x1, x2, _, x3⟩ hu, SeqAt.RcAt.list_none ⟨_, x1, x2, _, x3⟩ hu, SeqAt.RcNeAt.list_none ⟨_, x1, x2, _, x3⟩ hu⟩
    | bool y => exact ⟨SeqAt.EqAt.list_bool y ⟨_, x1, x2, _, x3⟩ hu, SeqAt.RcAt.list_bool y ⟨_, x1, x2, _, x3⟩ hu, SeqAt.RcNeAt.list_bool y ⟨_, x1, x2, _, x3⟩ hu⟩
    | int y yt => exact ⟨SeqAt.EqAt.list_int y yt ⟨_, x1, x2, _, x3⟩ hu, SeqAt.RcAt.list_int y yt ⟨_, x1, x2, _, x3⟩ hu, SeqAt.RcNeAt.list_int y yt ⟨_, x1, x2, _, x3⟩ hu⟩
    | str y yt => exact ⟨SeqAt.EqAt.list_str y yt ⟨_, x1, x2, _, x3⟩ hu, SeqAt.RcAt.list_str y yt ⟨_, x1, x2, _, x3⟩ hu, SeqAt.RcNeAt.list_str y yt ⟨_, x1, x2, _, x3⟩ hu⟩
    | list y1 y2 y3 y4 => exact absurd rfl (h1 _ _ rfl)
    | tuple y1 y2 y3 y4 => exact ⟨SeqAt.EqAt.list_tuple ⟨_, x1, x2, _, x3⟩ ⟨_, y1, y2, _, y3⟩ hu, SeqAt.RcAt.list_tuple ⟨_, x1, x2, _, x3⟩ ⟨_, y1, y2, _, y3⟩ hu, SeqAt.RcNeAt.list_tuple ⟨_, x1, x2, _, x3⟩ ⟨_, y1, y2, _, y3⟩ hu⟩
    | dict => cases hb
  | tuple x1 x2 x3 x4 =>
    cases rb with
    | none => exact ⟨SeqAt.EqAt.tuple_none ⟨_, x1, x2, _, x3⟩ hu, SeqAt.RcAt.tuple_none ⟨_, x1, x2, _, x3⟩ hu, SeqAt.RcNeAt.tuple_none ⟨_, x1, x2, _, x3⟩ hu⟩
    | bool y => exact ⟨SeqAt.EqAt.tuple_bool y ⟨_, x1, x2, _, x3⟩ hu, SeqAt.RcAt.tuple_bool y ⟨_, x1, x2, _, x3⟩ hu, SeqAt.RcNeAt.tuple_bool y ⟨_, x1, x2, _, x3⟩ hu⟩
    | int y yt => exact ⟨SeqAt.EqAt.tuple_int y yt ⟨_, x1, x2, _, x3⟩ hu, SeqAt.RcAt.tuple_int y yt ⟨_, x1, x2, _, x3⟩ hu, SeqAt.RcNeAt.tuple_int y yt ⟨_, x1, x2, _, x3⟩ hu⟩
    | str y yt => exact ⟨SeqAt.EqAt.tuple_str y yt ⟨_, x1, x2, _, x3⟩ hu, SeqAt.RcAt.tuple_str y yt ⟨_, x1, x2, _, x3⟩ hu, SeqAt.RcNeAt.tuple_str y yt ⟨_, x1, x2, _, x3⟩ hu⟩
    | list y1 y2 y3 y4 => exact ⟨SeqAt.EqAt.tuple_list ⟨_, x1, x2, _, x3⟩ ⟨_, y1, y2, _, y3⟩ hu, SeqAt.RcAt.tuple_list ⟨_, x1, x2, _, x3⟩ ⟨_, y1, y2, _, y3⟩ hu, SeqAt.RcNeAt.tuple_list ⟨_, x1, x2, _, x3⟩ ⟨_, y1, y2, _, y3⟩ hu⟩
    | tuple y1 y2 y3 y4 => exact absurd rfl (h2 _ _ rfl)
    | dict => cases hb
  | dict => cases ha
theorem reads_len {h : Heap} : ∀ (xs : List D) (vs : List Value) (as : List Addr), ReadsAll h vs xs as → vs.length = xs.length := fun xs vs as r => SeqAt.ReadsAll.length xs vs as r
def pairE (xs ys : List D) (j : Nat) : Bool := SeqAt.pairEq xs ys j
mutual
theorem eq_deep : ∀ (da db : D) (A : Around) (s : Shared) (a b : Value) (as bs : List Addr), Reads s.heap a da as → Reads s.heap b db bs → nd da = true → nd db = true → A.units + min da.depth db.depth < cLine → EqOk A s a b (PyData.eqv da db)
  | .list xs, .list ys, A, s, _, _, _, _, ra, rb, ha, hb, hu => by
    cases ra with
    | @list l o vs n _ as1 h1 h2 h3 h4 =>
      cases rb with
      | @list l' o' vs' n' _ bs1 k1 k2 k3 k4 =>
        have hl : s.heap.IsList l vs := ⟨_, h1, h2, _, h3⟩
        have hl' : s.heap.IsList l' vs' := ⟨_, k1, k2, _, k3⟩
        have n1 : vs.size = xs.length := by simpa using reads_len _ _ _ h4
        have n2 : vs'.size = ys.length := by simpa using reads_len _ _ _ k4
        have hr := SeqAt.room_here hu
        have ha' : nds xs = true := by unfold nd at ha; exact ha
        have hb' : nds ys = true := by unfold nd at hb; exact hb
        have he : ∀ j (j1 : j < vs.size) (j2 : j < vs'.size), SeqAt.EqAt A.in1 s vs[j] vs'[j] (SeqAt.pairEq xs ys j) := fun j j1 j2 => by
          have := eq_deeps xs ys A.in1 s vs.toList vs'.toList _ _ h4 k4 ha' hb' (SeqAt.room_in hu) j (by simpa using j1) (by simpa using j2)
          simpa using this
        show EqOk A s (.ref l) (.ref l') (PyData.eqvAll xs ys)
        have rc : SeqAt.RcAt A s (.ref l) (.ref l') (PyData.eqvAll xs ys) ∧ SeqAt.RcNeAt A s (.ref l) (.ref l') (!PyData.eqvAll xs ys) := by
          by_cases hsz : vs.size = vs'.size
          · rw [← SeqAt.eqvAll_same_length (by omega : xs.length = ys.length), ← n1]
            exact ⟨SeqAt.RcAt.lists hl hl' hsz hr he, SeqAt.RcNeAt.lists hl hl' hsz hr he⟩
          · rw [SeqAt.eqvAll_other_length (by omega : xs.length ≠ ys.length)]
            exact ⟨SeqAt.RcAt.lists_lengths hl hl' (by simpa using hsz) hr, SeqAt.RcNeAt.lists_lengths hl hl' (by simpa using hsz) hr⟩
        refine ⟨?_, rc.1, rc.2⟩
        by_cases hll : l = l'
        · subst hll
          have e := (PySem.Reads.unique (Reads.list h1 h2 h3 h4) _ _ (Reads.list k1 k2 k3 k4)).1
          injection e with e
          subst e
          rw [eqvs_self xs ha']
          exact SeqAt.EqAt.same _
        · exact SeqAt.EqAt.of_refs hll rc.1
  | .tuple xs, .tuple ys, A, s, _, _, _, _, ra, rb, ha, hb, hu => by
    cases ra with
    | @tuple l o vs n _ as1 h1 h2 h3 h4 =>
      cases rb with
      | @tuple l' o' vs' n' _ bs1 k1 k2 k3 k4 =>
        have hl : s.heap.IsTuple l vs := ⟨_, h1, h2, _, h3⟩
        have hl' : s.heap.IsTuple l' vs' := ⟨_, k1, k2, _, k3⟩
        have n1 : vs.size = xs.length := by simpa using reads_len _ _ _ h4
        have n2 : vs'.size = ys.length := by simpa using reads_len _ _ _ k4
        have hr := SeqAt.room_here hu
        have ha' : nds xs = true := by unfold nd at ha; exact ha
        have hb' : nds ys = true := by unfold nd at hb; exact hb
        have he : ∀ j (j1 : j < vs.size) (j2 : j < vs'.size), SeqAt.EqAt A.in1 s vs[j] vs'[j] (SeqAt.pairEq xs ys j) := fun j j1 j2 => by
          have := eq_deeps xs ys A.in1 s vs.toList vs'.toList _ _ h4 k4 ha' hb' (SeqAt.room_in hu) j (by simpa using j1) (by simpa using j2)
          simpa using this
        show EqOk A s (.ref l) (.ref l') (PyData.eqvAll xs ys)
        have rc : SeqAt.RcAt A s (.ref l) (.ref l') (PyData.eqvAll xs ys) ∧ SeqAt.RcNeAt A s (.ref l) (.ref l') (!PyData.eqvAll xs ys) := by
          rw [← SeqAt.eqvAll_eq xs ys, ← n1, ← n2]
          exact ⟨SeqAt.RcAt.tuples hl hl' hr he, SeqAt.RcNeAt.tuples hl hl' hr he⟩
        refine ⟨?_, rc.1, rc.2⟩
        by_cases hll : l = l'
        · subst hll
          have e := (PySem.Reads.unique (Reads.tuple h1 h2 h3 h4) _ _ (Reads.tuple k1 k2 k3 k4)).1
          injection e with e
          subst e
          rw [eqvs_self xs ha']
          exact SeqAt.EqAt.same _
        · exact SeqAt.EqAt.of_refs hll rc.1
  | .list xs, .none, A, s, _, _, _, _, ra, rb, ha, hb, hu => eq_flat ra rb ha hb (SeqAt.room_here hu) (fun _ _ _ e => by cases e) fun _ _ e => by cases e
  | .list xs, .bool _, A, s, _, _, _, _, ra, rb, ha, hb, hu => eq_flat ra rb ha hb (SeqAt.room_here hu) (fun _ _ _ e => by cases e) fun _ _ e => by cases e
  | .list xs, .int _, A, s, _, _, _, _, ra, rb, ha, hb, hu => eq_flat ra rb ha hb (SeqAt.room_here hu) (fun _ _ _ e => by cases e) fun _ _ e => by cases e
  | .list xs, .str _, A, s, _, _, _, _, ra, rb, ha, hb, hu => eq_flat ra rb ha hb (SeqAt.room_here hu) (fun _ _ _ e => by cases e) fun _ _ e => by cases e
  | .list xs, .tuple _, A, s, _, _, _, _, ra, rb, ha, hb, hu => eq_flat ra rb ha hb (SeqAt.room_here hu) (fun _ _ _ e => by cases e) fun _ _ e => by cases e
  | .list xs, .dict _, A, s, _, _, _, _, ra, rb, ha, hb, hu => by cases hb
  | .tuple xs, .none, A, s, _, _, _, _, ra, rb, ha, hb, hu => eq_flat ra rb ha hb (SeqAt.room_here hu) (fun _ _ e => by cases e) fun _ _ _ e => by cases e
  | .tuple xs, .bool _, A, s, _, _, _, _, ra, rb, ha, hb, hu => eq_flat ra rb ha hb (SeqAt.room_here hu) (fun _ _ e => by cases e) fun _ _ _ e => by cases e
  | .tuple xs, .int _, A, s, _, _, _, _, ra, rb, ha, hb, hu => eq_flat ra rb ha hb (SeqAt.room_here hu) (fun _ _ e => by cases e) fun _ _ _ e => by cases e
  | .tuple xs, .str _, A, s, _, _, _, _, ra, rb, ha, hb, hu => eq_flat ra rb ha hb (SeqAt.room_here hu) (fun _ _ e => by cases e) fun _ _ _ e => by cases e
  | .tuple xs, .list _, A, s, _, _, _, _, ra, rb, ha, hb, hu => eq_flat ra rb ha hb (SeqAt.room_here hu) (fun _ _ e => by cases e) fun _ _ _ e => by cases e
  | .tuple xs, .dict _, A, s, _, _, _, _, ra, rb, ha, hb, hu => by cases hb
  | .none, _, A, s, _, _, _, _, ra, rb, ha, hb, hu => eq_flat ra rb ha hb (SeqAt.room_here hu) (fun _ _ e => by cases e) fun _ _ e => by cases e
  | .bool _, _, A, s, _, _, _, _, ra, rb, ha, hb, hu => eq_flat ra rb ha hb (SeqAt.room_here hu) (fun _ _ e => by cases e) fun _ _ e => by cases e
  | .int _, _, A, s, _, _, _, _, ra, rb, ha, hb, hu => eq_flat ra rb ha hb (SeqAt.room_here hu) (fun _ _ e => by cases e) fun _ _ e => by cases e
  | .str _, _, A, s, _, _, _, _, ra, rb, ha, hb, hu => eq_flat ra rb ha hb (SeqAt.room_here hu) (fun _ _ e => by cases e) fun _ _ e => by cases e
  | .dict _, _, _, _, _, _, _, _, _, _, ha, _, _ => by cases ha
theorem eq_deeps : ∀ (xs ys : List D) (A : Around) (s : Shared) (vs ws : List Value) (as bs : List Addr), ReadsAll s.heap vs xs as → ReadsAll s.heap ws ys bs → nds xs = true → nds ys = true →
    A.units + min (PyData.depthAll xs) (PyData.depthAll ys) < cLine → ∀ j (h1 : j < vs.length) (h2 : j < ws.length), SeqAt.EqAt A s vs[j] ws[j] (SeqAt.pairEq xs ys j)
  | [], _, _, _, _, _, _, _, ra, _, _, _, _, j, h1, _ => by cases ra; exact absurd h1 (Nat.not_lt_zero _)
  | _ :: _, [], _, _, _, _, _, _, _, rb, _, _, _, j, _, h2 => by cases rb; exact absurd h2 (Nat.not_lt_zero _)
  | x :: xs, y :: ys, A, s, _, _, _, _, ra, rb, ha, hb, hu, j, h1, h2 => by
    unfold nds at ha hb
    rw [Bool.and_eq_true] at ha hb
    cases ra with
    | cons r rs =>
      cases rb with
      | cons r' rs' =>
        cases j with
        | zero => exact (eq_deep x y A s _ _ _ _ r r' ha.1 hb.1 (SeqAt.room_head hu)).1
        | succ j => exact eq_deeps xs ys A s _ _ _ _ rs rs' ha.2 hb.2 (SeqAt.room_tail hu) j (Nat.lt_of_succ_lt_succ h1) (Nat.lt_of_succ_lt_succ h2)
end
end DL
namespace DL
open PySem L2
open PyProof.Rows (envOfC)
/-! ### operations on values -/
theorem aall1 {K : KF} {I H : Hp} {x : V} {ss : List S} (h : AAll K I H [x] ss) : ∃ p, ss = [p] ∧ ARel K I H x p := by
  cases h with
  | cons a b => cases b; exact ⟨_, rfl, a⟩
theorem aall2 {K : KF} {I H : Hp} {x y : V} {ss : List S} (h : AAll K I H [x, y] ss) : ∃ p q, ss = [p, q] ∧ ARel K I H x p ∧ ARel K I H y q := by
  cases h with
  | cons a b =>
    cases b with
    | cons b c => cases c; exact ⟨_, _, rfl, a, b⟩
theorem or_inv {α : Type} {a b : Option α} {z : α} (h : a.or b = some z) : a = some z ∨ b = some z := by
  cases a with
  | none => exact .inr h
  | some x => exact .inl h
theorem OpD.or {X : Cx} {f : Value → Value → Sem Value} {a b : List S → Option S} (ha : OpD X f a) (hb : OpD X f b) : OpD X f fun ss => (a ss).or (b ss) := by
  intro pins s σ H x y v u Q I rx ry h
  obtain ⟨I', ss, z, g, p, e, q⟩ := h
  rcases or_inv e with e | e
  · exact ha pins s σ H x y v u Q I rx ry ⟨I', ss, z, g, p, e, q⟩
  · exact hb pins s σ H x y v u Q I rx ry ⟨I', ss, z, g, p, e, q⟩
theorem CallD.or {X : Cx} {f : Value} {a b : List S → Option S} (ha : CallD X f a) (hb : CallD X f b) : CallD X f fun ss => (a ss).or (b ss) := by
  intro pins s σ H xs us Q I r h
  obtain ⟨I', ss, z, g, p, e, q⟩ := h
  rcases or_inv e with e | e
  · exact ha pins s σ H xs us Q I r ⟨I', ss, z, g, p, e, q⟩
  · exact hb pins s σ H xs us Q I r ⟨I', ss, z, g, p, e, q⟩
/-- lists, tuples as operands -/
def lstS : S → Option (List D)
  | .d (.list xs) => some xs
  | .bor (.lst xs) => some xs
  | _ => none
def tupS : S → Option (List D)
  | .d (.tuple xs) => some xs
  | _ => none
def seqS : S → Option (List D)
  | .d (.list xs) => some xs
  | .bor (.lst xs) => some xs
  | .d (.tuple xs) => some xs
  | _ => none
def datS : S → Option D
  | .d x => some x
  | .bor (.lst xs) => some (.list xs)
  | _ => none
theorem lstS_ok {K : KF} {I H : Hp} {v : V} {x : S} {xs : List D} (g : Same I H) (h : ARel K I H v x) (e : lstS x = some xs) : ∃ a vs, v = .ref a ∧ SqL K H a vs ∧ DpAll K I vs xs := by
  unfold lstS at e
  split at e
  · cases e
    cases h with
    | lst hs ha => exact ⟨_, _, rfl, g.seq hs, ha⟩
  · cases e
    obtain ⟨a, e1, vs, h1, h2⟩ := h
    exact ⟨a, vs, e1, SqL.of h1, h2⟩
  · cases e
theorem tupS_ok {K : KF} {I H : Hp} {v : V} {x : S} {xs : List D} (g : Same I H) (h : ARel K I H v x) (e : tupS x = some xs) : ∃ a vs, v = .ref a ∧ SqT K H a vs ∧ DpAll K I vs xs := by
  unfold tupS at e
  split at e
  · cases e
    cases h with
    | tup hs ha => exact ⟨_, _, rfl, Evl.ex_t g hs, ha⟩
  · cases e
theorem seqS_ok {K : KF} {I H : Hp} {v : V} {x : S} {xs : List D} (g : Same I H) (h : ARel K I H v x) (e : seqS x = some xs) : ∃ a vs, v = .ref a ∧ (SqL K H a vs ∨ SqT K H a vs) ∧ DpAll K I vs xs := by
  unfold seqS at e
  split at e
  · rename_i ys
    have e : lstS (.d (.list ys)) = some xs := e
    obtain ⟨a, vs, h1, h2, h3⟩ := lstS_ok g h e
    exact ⟨a, vs, h1, .inl h2, h3⟩
  · rename_i ys
    have e : lstS (.bor (.lst ys)) = some xs := e
    obtain ⟨a, vs, h1, h2, h3⟩ := lstS_ok g h e
    exact ⟨a, vs, h1, .inl h2, h3⟩
  · rename_i ys
    have e : tupS (.d (.tuple ys)) = some xs := e
    obtain ⟨a, vs, h1, h2, h3⟩ := tupS_ok g h e
    exact ⟨a, vs, h1, .inr h2, h3⟩
  · cases e
theorem datS_ok {K : KF} {I H : Hp} {v : V} {x : S} {d : D} (g : Same I H) (h : ARel K I H v x) (e : datS x = some d) : Dp K H v d := by
  unfold datS at e
  split at e
  · cases e
    exact dp_up g _ _ h
  · cases e
    obtain ⟨a, e1, vs, h1, h2⟩ := h
    subst e1
    exact .lst (SqL.of h1) (dpa_up g _ _ h2)
  · cases e
/-! ints -/
def mulOk (i j : Int) : Bool := decide (i.natAbs < 2 ^ 256) && decide (j.natAbs < 2 ^ 256)
def iAdd : List S → Option S
  | [.d (.int i), .d (.int j)] => some (.d (.int (i + j)))
  | _ => none
def iSub : List S → Option S
  | [.d (.int i), .d (.int j)] => some (.d (.int (i - j)))
  | _ => none
def iMul : List S → Option S
  | [.d (.int i), .d (.int j)] => if mulOk i j = true then some (.d (.int (i * j))) else none
  | _ => none
def iDiv : List S → Option S
  | [.d (.int i), .d (.int j)] => if 0 < j ∧ j.natAbs < 2 ^ 256 then some (.d (.int (i / j))) else none
  | _ => none
def iMod : List S → Option S
  | [.d (.int i), .d (.int j)] => if 0 < j then some (.d (.int (i % j))) else none
  | _ => none
def iPow : List S → Option S
  | [.d (.int i), .d (.int j)] => if 0 ≤ j ∧ j ≤ 1000 ∧ i.natAbs < 2 ^ 64 then some (.d (.int (i ^ j.toNat))) else none
  | _ => none
def iShl : List S → Option S
  | [.d (.int i), .d (.int j)] => if 0 ≤ j ∧ j ≤ 1000 ∧ i.natAbs < 2 ^ 64 then some (.d (.int (i * 2 ^ j.toNat))) else none
  | _ => none
def iNeg : List S → Option S
  | [.d (.int i)] => some (.d (.int (-i)))
  | _ => none
def iCmp (p : Int → Int → Bool) : List S → Option S
  | [.d (.int i), .d (.int j)] => some (.d (.bool (p i j)))
  | _ => none
section
variable {X : Cx}
/-- from a rule on ints -/
theorem opI_of {f : Value → Value → Sem Value} {r : R2} {op : List S → Option S} (h : OpR X f r)
    (e : ∀ ss z, op ss = some z → ∃ i j d, ss = [.d (.int i), .d (.int j)] ∧ z = .d d ∧ ∀ (H : Hp) (Q : VK), (∀ v, (∀ I, Dp X.K I v d) → Q v H) → r (.int i) (.int j) H Q) : OpD X f op := by
  intro pins s σ H x y v u Q I rx ry h1
  obtain ⟨I', ss, z, g, p, e1, q⟩ := h1
  obtain ⟨i, j, d, rfl, rfl, hr⟩ := e ss z e1
  obtain ⟨p1, p2, e2, a1, a2⟩ := aall2 p
  cases e2
  have a1 : Dp X.K I' x (.int i) := a1
  have a2 : Dp X.K I' y (.int j) := a2
  cases a1
  cases a2
  exact h pins s σ H _ _ v u Q I rx ry (hr H Q fun w hw => q w I' H (Grow.refl g) (hw I'))
theorem ok_iAdd : OpD X (binaryOp .Add) iAdd := opI_of op_add fun ss z e => by
  unfold iAdd at e
  split at e
  · rename_i i j
    cases e
    exact ⟨i, j, _, rfl, rfl, fun H Q q => ⟨i, j, rfl, rfl, q _ fun _ => .int _⟩⟩
  · cases e
theorem ok_iSub : OpD X (binaryOp .Sub) iSub := opI_of op_sub fun ss z e => by
  unfold iSub at e
  split at e
  · rename_i i j
    cases e
    exact ⟨i, j, _, rfl, rfl, fun H Q q => ⟨i, j, rfl, rfl, q _ fun _ => .int _⟩⟩
  · cases e
theorem ok_iMul : OpD X (binaryOp .Mult) iMul := opI_of op_mulW fun ss z e => by
  unfold iMul at e
  split at e
  · rename_i i j
    split at e
    · rename_i hm
      cases e
      unfold mulOk at hm
      rw [Bool.and_eq_true, decide_eq_true_eq, decide_eq_true_eq] at hm
      exact ⟨i, j, _, rfl, rfl, fun H Q q => ⟨i, j, rfl, rfl, wide_mul hm.1 hm.2 (by decide) (by decide) (by decide), q _ fun _ => .int _⟩⟩
    · cases e
  · cases e
theorem ok_iDiv : OpD X (binaryOp .FloorDiv) iDiv := opI_of op_fdivW fun ss z e => by
  unfold iDiv at e
  split at e
  · rename_i i j
    split at e
    · rename_i hm
      cases e
      exact ⟨i, j, _, rfl, rfl, fun H Q q => ⟨i, j, rfl, rfl, wide_div hm.1 hm.2 (by decide) (by decide), q _ fun _ => .int _⟩⟩
    · cases e
  · cases e
theorem ok_iMod : OpD X (binaryOp .Mod) iMod := opI_of op_mod fun ss z e => by
  unfold iMod at e
  split at e
  · rename_i i j
    split at e
    · rename_i hm
      cases e
      exact ⟨i, j, _, rfl, rfl, fun H Q q => ⟨i, j, rfl, rfl, hm, q _ fun _ => .int _⟩⟩
    · cases e
  · cases e
theorem ok_iPow : OpD X (binaryOp .Pow) iPow := opI_of op_pow fun ss z e => by
  unfold iPow at e
  split at e
  · rename_i i j
    split at e
    · rename_i hm
      cases e
      exact ⟨i, j, _, rfl, rfl, fun H Q q => ⟨i, j, rfl, rfl, ⟨hm.1, by omega, hm.2.2⟩, q _ fun _ => .int _⟩⟩
    · cases e
  · cases e
theorem ok_iShl : OpD X (binaryOp .LShift) iShl := opI_of op_shl fun ss z e => by
  unfold iShl at e
  split at e
  · rename_i i j
    split at e
    · rename_i hm
      cases e
      exact ⟨i, j, _, rfl, rfl, fun H Q q => ⟨i, j, rfl, rfl, ⟨hm.1, by omega, hm.2.2⟩, q _ fun _ => .int _⟩⟩
    · cases e
  · cases e
theorem ok_iNeg : UnD X (unaryOp .USub) iNeg := by
  intro pins s σ H x v Q I rx h1
  obtain ⟨I', ss, z, g, p, e, q⟩ := h1
  unfold iNeg at e
  split at e
  · rename_i i
    cases e
    obtain ⟨p1, e2, a1⟩ := aall1 p
    cases e2
    have a1 : Dp X.K I' x (.int i) := a1
    cases a1
    exact un_neg pins s σ H _ v Q I rx ⟨i, rfl, q _ I' H (Grow.refl g) (.int _)⟩
  · cases e
theorem iCmp_of {f : Value → Value → Sem Value} {p : Int → Int → Bool} (h : OpR X f (rI0 fun i j => .bl (p i j))) : OpD X f (iCmp p) := opI_of h fun ss z e => by
  unfold iCmp at e
  split at e
  · rename_i i j
    cases e
    exact ⟨i, j, _, rfl, rfl, fun H Q q => ⟨i, j, rfl, rfl, q _ fun _ => .bl _⟩⟩
  · cases e
theorem ok_iLt : OpD X (compareOp .Lt) (iCmp fun i j => decide (i < j)) := iCmp_of op_lt
theorem ok_iLe : OpD X (compareOp .LtE) (iCmp fun i j => decide (i ≤ j)) := iCmp_of op_le
theorem ok_iGt : OpD X (compareOp .Gt) (iCmp fun i j => decide (j < i)) := iCmp_of op_gt
theorem ok_iGe : OpD X (compareOp .GtE) (iCmp fun i j => decide (j ≤ i)) := iCmp_of op_ge
/-! texts, lists, tuples put together -/
def sAdd : List S → Option S
  | [.d (.str a), .d (.str b)] => if a.length + b.length ≤ 16777216 then some (.d (.str (a ++ b))) else none
  | _ => none
theorem ok_sAdd : OpD X (binaryOp .Add) sAdd := by
  intro pins s σ H x y v u Q I rx ry h1
  obtain ⟨I', ss, z, g, p, e, q⟩ := h1
  unfold sAdd at e
  split at e
  · rename_i a b
    split at e
    · rename_i hl
      cases e
      obtain ⟨p1, p2, e2, a1, a2⟩ := aall2 p
      cases e2
      have a1 : Dp X.K I' x (.str a) := a1
      have a2 : Dp X.K I' y (.str b) := a2
      cases a1
      cases a2
      exact op_add_str pins s σ H _ _ v u Q I rx ry ⟨a, b, rfl, rfl, by rw [sizeLine_eq]; exact hl, q _ I' H (Grow.refl g) (.str _)⟩
    · cases e
  · cases e
/-- t + u: a new object is known -/
def rCatZ (K : KF) : R2 := fun x y H Q => ∃ a b xs ys, x = .ref a ∧ y = .ref b ∧ SqT K H a xs ∧ SqT K H b ys ∧ xs.length + ys.length ≤ sizeLine ∧
  (xs = [] → Q (.ref b) H) ∧ (xs ≠ [] → ys = [] → Q (.ref a) H) ∧ (xs ≠ [] → ys ≠ [] → ∀ p o, H p = none → o.dict = none → Q (.ref p) (upd H p (.frz o (.tup (xs ++ ys)))))
theorem op_catZ : OpR X (binaryOp .Add) (rCatZ X.K) := by
  intro pins s σ H x y v u Q I rx ry h
  obtain ⟨a, b, xs, ys, ex, ey, ha, hb, hz, q0, q1, q2⟩ := h
  by_cases hx : xs = [] ∨ ys = []
  · refine op_catA pins s σ H x y v u Q I rx ry ⟨a, b, xs, ys, ex, ey, ha, hb, hz, q0, q1, fun h1 h2 => ?_⟩
    rcases hx with hx | hx
    · exact absurd hx h1
    · exact absurd hx h2
  · obtain ⟨h1, h2⟩ := not_or.mp hx
    subst ex ey
    cases rx
    cases ry
    obtain ⟨its, r1, p1, _⟩ := I.tuple ha
    obtain ⟨its2, r2, p2, _⟩ := I.tuple hb
    refine HT.cat_tup p1 p2 (fun z => h1 (r1.nil_iff.mp z)) (fun z => absurd (r2.nil_iff.mp z) h2) (fun z => ?_) (by rw [← r1.length, ← r2.length]; exact hz)
    exact ⟨.ref s.heap.objs.size, _, I.laid (t' := s.toks) (o := .frz _ (.tup (xs ++ ys))) (fun b ob q => Heap.get?_push_of_some _ q) (Nat.le_refl _) ⟨Heap.get?_push_size _ rfl, by rw [List.length_append]; exact hz, _, r1.append r2, PyProof.Rows.IsTup.new _ _⟩, rfl,
      q2 h1 h2 _ { cls := .type "tuple", data := .seq (its ++ its2).toArray } (I.hok.fresh (Nat.le_refl _)) rfl⟩
def tAddD : List S → Option S
  | [p, q] => match tupS p, tupS q with
    | some xs, some ys => if xs.length + ys.length ≤ 16777216 then some (.d (.tuple (xs ++ ys))) else none
    | _, _ => none
  | _ => none
theorem ok_tAdd : OpD X (binaryOp .Add) tAddD := by
  intro pins s σ H x y v u Q I rx ry h1
  obtain ⟨I', ss, z, g, p, e, q⟩ := h1
  obtain ⟨p1, p2, rfl, a1, a2⟩ := aall2 p
  unfold tAddD at e
  dsimp only at e
  split at e
  · rename_i xs ys e1 e2
    split at e
    · rename_i hl
      cases e
      obtain ⟨a, vs, rfl, h1, d1⟩ := tupS_ok g a1 e1
      obtain ⟨b, ws, rfl, h2, d2⟩ := tupS_ok g a2 e2
      have l1 := dpa_len d1
      have l2 := dpa_len d2
      -- each answer reads as the two together
      have fin : ∀ (c : Addr), SqT X.K I' c (vs ++ ws) → Q (.ref c) H := fun c hc => q _ I' H (Grow.refl g) (.tup hc (dpa_app d1 d2))
      have i1 : SqT X.K I' a vs := by
        unfold tupS at e1
        split at e1
        · cases e1
          have a1 : Dp X.K I' (.ref a) (.tuple xs) := a1
          cases a1 with
          | tup hs ha =>
            have := I.tuple_inj (Evl.ex_t g hs) h1
            rw [← this]
            exact hs
        · cases e1
      have i2 : SqT X.K I' b ws := by
        unfold tupS at e2
        split at e2
        · cases e2
          have a2 : Dp X.K I' (.ref b) (.tuple ys) := a2
          cases a2 with
          | tup hs ha =>
            have := I.tuple_inj (Evl.ex_t g hs) h2
            rw [← this]
            exact hs
        · cases e2
      refine op_catZ pins s σ H _ _ v u Q I rx ry ⟨a, b, vs, ws, rfl, rfl, h1, h2, by rw [l1, l2, sizeLine_eq]; exact hl, fun hx => ?_, fun _ hy => ?_, fun _ _ c o hc ho => ?_⟩
      · subst hx
        exact fin b i2
      · subst hy
        refine fin a ?_
        rw [List.append_nil]
        exact i1
      · have gr := grow_tup (o := .frz o (.tup (vs ++ ws))) g hc ho
        exact q _ _ _ gr (.tup rd_frz (dpa_app (dpa_up gr.i _ _ d1) (dpa_up gr.i _ _ d2)))
    · cases e
  · cases e
def lAddD : List S → Option S
  | [p, q] => match lstS p, lstS q with
    | some xs, some ys => if xs.length + ys.length ≤ 16777216 then some (.own false (.lst (xs ++ ys))) else none
    | _, _ => none
  | _ => none
theorem ok_lAdd : OpD X (binaryOp .Add) lAddD := by
  intro pins s σ H x y v u Q I rx ry h1
  obtain ⟨I', ss, z, g, p, e, q⟩ := h1
  obtain ⟨p1, p2, rfl, a1, a2⟩ := aall2 p
  unfold lAddD at e
  dsimp only at e
  split at e
  · rename_i xs ys e1 e2
    split at e
    · rename_i hl
      cases e
      obtain ⟨a, vs, rfl, h1, d1⟩ := lstS_ok g a1 e1
      obtain ⟨b, ws, rfl, h2, d2⟩ := lstS_ok g a2 e2
      cases rx
      cases ry
      obtain ⟨its, r1, ⟨⟨c1, dd1, dt1, sl1⟩, n1, o1, k1, m1, w1⟩, z1⟩ := I.list h1
      obtain ⟨its2, r2, ⟨⟨c2, dd2, dt2, sl2⟩, n2, o2, k2, m2, w2⟩, z2⟩ := I.list h2
      simp only at k1 w1 k2 w2
      subst k1 w1 k2 w2
      have hz : (vs ++ ws).length ≤ sizeLine := by
        rw [List.length_append, dpa_len d1, dpa_len d2, sizeLine_eq]
        exact hl
      refine PySem.concat_meets ⟨_, o1, rfl⟩ ⟨_, o2, rfl⟩ PySem.noFill_list_add PySem.seq_list_add PySem.F.slot_list_add PySem.F.entry_list_add (PySem.F.args_list_add_2 _ _)
        (PyProof.Rows.list_addW a b its.toArray its2.toArray n1 n2 dd1 dd2 sl1 sl2 (by
          have q1 := r1.length
          have q2 := r2.length
          rw [List.length_append] at hz
          simp only [List.size_toArray]
          omega)) ⟨o1, o2, ?_⟩
      have ea : its.toArray ++ its2.toArray = (its ++ its2).toArray := by simp
      rw [ea]
      have gr := grow_own (o := .lst (vs ++ ws)) g I.fresh
      exact ⟨.ref _, _, I.lnew (t' := s.toks) (r1.append r2) hz, rfl, q _ _ _ gr ⟨_, rfl, I.fresh, g.free I.fresh, _, upd_same, dpa_app d1 d2⟩⟩
    · cases e
  · cases e
def opAdd (ss : List S) : Option S := (iAdd ss).or ((sAdd ss).or ((tAddD ss).or (lAddD ss)))
theorem ok_add : OpD X (binaryOp .Add) opAdd := ok_iAdd.or (ok_sAdd.or (ok_tAdd.or ok_lAdd))
end
end DL
namespace DL
open PySem L2
open PyProof.Rows (envOfC)
/-! ### comparisons -/
def eqD (neg : Bool) : List S → Option S
  | [p, q] => match datS p, datS q with
    | some d, some e => if min d.depth e.depth ≤ 64 then some (.d (.bool (if neg = true then !PyData.eqv d e else PyData.eqv d e))) else none
    | _, _ => none
  | _ => none
section
variable {X : Cx}
theorem eqD_use (hu : X.A.units + 64 < cLine) {pins : List (Addr × Obj)} {s : Shared} {σ : L2.St} {H : Hp} {x y : V} {v u : Value} (I : Inv X pins σ H s) (rx : RelV x v) (ry : RelV y u) {d e : D} (hd : Dp X.K H x d) (he : Dp X.K H y e) (hm : min d.depth e.depth ≤ 64) :
    EqOk X.A s v u (PyData.eqv d e) := by
  obtain ⟨as, r1⟩ := Dp.reads I d x v hd rx
  obtain ⟨bs, r2⟩ := Dp.reads I e y u he ry
  exact eq_deep d e X.A s v u as bs r1 r2 (dp_nd _ _ hd) (dp_nd _ _ he) (by omega)
theorem ok_eq (hu : X.A.units + 64 < cLine) : OpD X (compareOp .Eq) (eqD false) := by
  intro pins s σ H x y v u Q I rx ry h1
  obtain ⟨I', ss, z, g, p, e, q⟩ := h1
  obtain ⟨p1, p2, rfl, a1, a2⟩ := aall2 p
  unfold eqD at e
  dsimp only at e
  split at e
  · rename_i d1 d2 e1 e2
    split at e
    · rename_i hm
      cases e
      have k := eqD_use hu I rx ry (datS_ok g a1 e1) (datS_ok g a2 e2) hm
      exact k.2.1 X.prog X.w X.xe (EP X pins σ Q) ⟨.bl _, H, I, rfl, q _ I' H (Grow.refl g) (.bl _)⟩
    · cases e
  · cases e
theorem ok_ne (hu : X.A.units + 64 < cLine) : OpD X (compareOp .NotEq) (eqD true) := by
  intro pins s σ H x y v u Q I rx ry h1
  obtain ⟨I', ss, z, g, p, e, q⟩ := h1
  obtain ⟨p1, p2, rfl, a1, a2⟩ := aall2 p
  unfold eqD at e
  dsimp only at e
  split at e
  · rename_i d1 d2 e1 e2
    split at e
    · rename_i hm
      cases e
      have k := eqD_use hu I rx ry (datS_ok g a1 e1) (datS_ok g a2 e2) hm
      exact k.2.2 X.prog X.w X.xe (EP X pins σ Q) ⟨.bl _, H, I, rfl, q _ I' H (Grow.refl g) (.bl _)⟩
    · cases e
  · cases e
/-- x in xs, xs a list or a tuple -/
def inD (neg : Bool) : List S → Option S
  | [p, q] => match datS p, seqS q with
    | some d, some xs => if d.depth ≤ 60 then some (.d (.bool (if neg = true then !(xs.any fun y => PyData.eqv y d) else xs.any fun y => PyData.eqv y d))) else none
    | _, _ => none
  | _ => none
open Classical in
/-- == of what a value reads as, and d -/
noncomputable def eqTo (h : Heap) (d : D) (u : Value) : Bool := decide (∃ d' as, Reads h u d' as ∧ PyData.eqv d' d = true)
open Classical in
theorem eqTo_of {h : Heap} {d d' : D} {u : Value} {as : List Addr} (r : Reads h u d' as) : eqTo h d u = PyData.eqv d' d := by
  unfold eqTo
  by_cases e : PyData.eqv d' d = true
  · rw [e, decide_eq_true ⟨d', as, r, e⟩]
  · rw [Bool.eq_false_iff.mpr e, decide_eq_false]
    rintro ⟨d2, as2, r2, e2⟩
    have := (PySem.Reads.unique r2 _ _ r).1
    subst this
    exact e e2
theorem any_eqTo {h : Heap} {d : D} : ∀ {us : List Value} {xs : List D} {as : List Addr}, ReadsAll h us xs as → us.any (eqTo h d) = xs.any fun y => PyData.eqv y d
  | _, _, _, .nil => rfl
  | _, _, _, .cons r rs => by rw [List.any_cons, List.any_cons, eqTo_of r, any_eqTo rs]
theorem readsAll_mem {h : Heap} : ∀ {us : List Value} {xs : List D} {as : List Addr}, ReadsAll h us xs as → ∀ u ∈ us, ∃ d as', d ∈ xs ∧ Reads h u d as'
  | _, _, _, .nil, u, hu => by simp at hu
  | _, _, _, .cons r rs, u, hu => by
    rcases List.mem_cons.mp hu with rfl | hu
    · exact ⟨_, _, List.mem_cons_self, r⟩
    · obtain ⟨d, as, h1, h2⟩ := readsAll_mem rs u hu
      exact ⟨d, as, List.mem_cons_of_mem _ h1, h2⟩
theorem nds_mem : ∀ {xs : List D} {d : D}, nds xs = true → d ∈ xs → nd d = true
  | x :: xs, d, h, m => by
    unfold nds at h
    rw [Bool.and_eq_true] at h
    rcases List.mem_cons.mp m with rfl | m
    · exact h.1
    · exact nds_mem h.2 m
theorem items_eqTo {A : Around} {s : Shared} {us : List Value} {xs : List D} {as bs : List Addr} {v : Value} {d : D} (r : ReadsAll s.heap us xs as) (rv : Reads s.heap v d bs) (hx : nds xs = true) (hd : nd d = true) (hu : A.units + 1 + d.depth < cLine) :
    ∀ u ∈ us, SeqAt.EqAt A.in1 s u v (eqTo s.heap d u) := fun u hm => by
  obtain ⟨d', as', h1, h2⟩ := readsAll_mem r u hm
  rw [eqTo_of h2]
  refine (eq_deep d' d A.in1 s u v as' bs h2 rv (nds_mem hx h1) hd ?_).1
  show A.units + 1 + min d'.depth d.depth < cLine
  have : min d'.depth d.depth ≤ d.depth := Nat.min_le_right _ _
  omega
theorem in_use (hu : X.A.units + 64 < cLine) {pins : List (Addr × Obj)} {s : Shared} {σ : L2.St} {H I' : Hp} {x y : V} {v u : Value} (I : Inv X pins σ H s) (rx : RelV x v) (ry : RelV y u) {p q : S} {d : D} {xs : List D} (g : Same I' H) (a1 : ARel X.K I' H x p) (a2 : ARel X.K I' H y q)
    (e1 : datS p = some d) (e2 : seqS q = some xs) (hm : d.depth ≤ 60) {Q : Value → Shared → Prop} :
    (Q (.bool (xs.any fun y => PyData.eqv y d)) s → wpAny (model X.prog X.w) X.A (compareOp .In v u) Q X.xe s) ∧ (Q (.bool (!xs.any fun y => PyData.eqv y d)) s → wpAny (model X.prog X.w) X.A (compareOp .NotIn v u) Q X.xe s) := by
  obtain ⟨a, vs, rfl, hs, da⟩ := seqS_ok g a2 e2
  have hx := datS_ok g a1 e1
  obtain ⟨bs, rv⟩ := Dp.reads I d x v hx rx
  cases ry
  have hr : X.A.units + 1 + d.depth < cLine := by omega
  have da' : DpAll X.K H vs xs := dpa_up g _ _ da
  have hn := dpa_nd _ _ da'
  rcases hs with hs | hs
  · obtain ⟨its, r, pl, _⟩ := I.list hs
    obtain ⟨as, ra⟩ := Dp.readsAll I xs vs its da' r
    have hi := items_eqTo (A := X.A) ra rv hn (dp_nd _ _ hx) hr
    have e : its.toArray.any (eqTo s.heap d) = xs.any fun y => PyData.eqv y d := by rw [← any_eqTo ra]; simp
    exact ⟨fun k => SeqAt.in_listAt (eqTo s.heap d) pl.isList (fun w hw => hi w (by simpa using hw)) (by rw [e]; exact k), fun k => SeqAt.notIn_listAt (eqTo s.heap d) pl.isList (fun w hw => hi w (by simpa using hw)) (by rw [e]; exact k)⟩
  · obtain ⟨its, r, pl, _⟩ := I.tuple hs
    obtain ⟨as, ra⟩ := Dp.readsAll I xs vs its da' r
    have hi := items_eqTo (A := X.A) ra rv hn (dp_nd _ _ hx) hr
    have e : its.toArray.any (eqTo s.heap d) = xs.any fun y => PyData.eqv y d := by rw [← any_eqTo ra]; simp
    exact ⟨fun k => SeqAt.in_tupleAt (eqTo s.heap d) pl (fun w hw => hi w (by simpa using hw)) (by rw [e]; exact k), fun k => SeqAt.notIn_tupleAt (eqTo s.heap d) pl (fun w hw => hi w (by simpa using hw)) (by rw [e]; exact k)⟩
theorem ok_in (hu : X.A.units + 64 < cLine) : OpD X (compareOp .In) (inD false) := by
  intro pins s σ H x y v u Q I rx ry h1
  obtain ⟨I', ss, z, g, p, e, q⟩ := h1
  obtain ⟨p1, p2, rfl, a1, a2⟩ := aall2 p
  unfold inD at e
  dsimp only at e
  split at e
  · rename_i d xs e1 e2
    split at e
    · rename_i hm
      cases e
      exact (in_use hu I rx ry g a1 a2 e1 e2 hm).1 ⟨.bl _, H, I, rfl, q _ I' H (Grow.refl g) (.bl _)⟩
    · cases e
  · cases e
theorem ok_notIn (hu : X.A.units + 64 < cLine) : OpD X (compareOp .NotIn) (inD true) := by
  intro pins s σ H x y v u Q I rx ry h1
  obtain ⟨I', ss, z, g, p, e, q⟩ := h1
  obtain ⟨p1, p2, rfl, a1, a2⟩ := aall2 p
  unfold inD at e
  dsimp only at e
  split at e
  · rename_i d xs e1 e2
    split at e
    · rename_i hm
      cases e
      exact (in_use hu I rx ry g a1 a2 e1 e2 hm).2 ⟨.bl _, H, I, rfl, q _ I' H (Grow.refl g) (.bl _)⟩
    · cases e
  · cases e
/-- a text in a text -/
def hasSub (i j : Str) : Bool := !(Builtin.Str.occurrences j i 0 j.length 1).isEmpty
def inS (neg : Bool) : List S → Option S
  | [.d (.str a), .d (.str b)] => some (.d (.bool (if neg = true then !hasSub a b else hasSub a b)))
  | _ => none
theorem ok_inS : OpD X (compareOp .In) (inS false) := by
  intro pins s σ H x y v u Q I rx ry h1
  obtain ⟨I', ss, z, g, p, e, q⟩ := h1
  unfold inS at e
  split at e
  · rename_i a b
    cases e
    obtain ⟨p1, p2, e2, a1, a2⟩ := aall2 p
    cases e2
    have a1 : Dp X.K I' x (.str a) := a1
    have a2 : Dp X.K I' y (.str b) := a2
    cases a1
    cases a2
    exact op_in_str pins s σ H _ _ v u Q I rx ry ⟨a, b, rfl, rfl, q _ I' H (Grow.refl g) (.bl _)⟩
  · cases e
theorem ok_notInS : OpD X (compareOp .NotIn) (inS true) := by
  intro pins s σ H x y v u Q I rx ry h1
  obtain ⟨I', ss, z, g, p, e, q⟩ := h1
  unfold inS at e
  split at e
  · rename_i a b
    cases e
    obtain ⟨p1, p2, e2, a1, a2⟩ := aall2 p
    cases e2
    have a1 : Dp X.K I' x (.str a) := a1
    have a2 : Dp X.K I' y (.str b) := a2
    cases a1
    cases a2
    exact op_notIn_str pins s σ H _ _ v u Q I rx ry ⟨a, b, rfl, rfl, q _ I' H (Grow.refl g) (.bl _)⟩
  · cases e
def opIn (ss : List S) : Option S := (inD false ss).or (inS false ss)
def opNotIn (ss : List S) : Option S := (inD true ss).or (inS true ss)
theorem ok_opIn (hu : X.A.units + 64 < cLine) : OpD X (compareOp .In) opIn := (ok_in hu).or ok_inS
theorem ok_opNotIn (hu : X.A.units + 64 < cLine) : OpD X (compareOp .NotIn) opNotIn := (ok_notIn hu).or ok_notInS
/-- is None, is not None, of anything -/
def isNon : D → Bool
  | .none => true
  | _ => false
def isD (neg : Bool) : List S → Option S
  | [.d d, .d .none] => some (.d (.bool (if neg = true then !isNon d else isNon d)))
  | [.bor _, .d .none] => some (.d (.bool neg))
  | _ => none
theorem isN_dec {K : KF} {I : Hp} {v : V} {d : D} (h : Dp K I v d) : decide (v = V.non) = isNon d := by
  cases h <;> simp [isNon]
theorem ok_is : OpD X (compareOp .Is) (isD false) := by
  intro pins s σ H x y v u Q I rx ry h1
  obtain ⟨I', ss, z, g, p, e, q⟩ := h1
  unfold isD at e
  split at e
  · rename_i d
    cases e
    obtain ⟨p1, p2, e2, a1, a2⟩ := aall2 p
    cases e2
    have a1 : Dp X.K I' x d := a1
    have a2 : Dp X.K I' y .none := a2
    cases a2
    refine op_isN pins s σ H _ _ v u Q I rx ry ⟨rfl, q _ I' H (Grow.refl g) ?_⟩
    rw [isN_dec a1]
    exact .bl _
  · rename_i m
    cases e
    obtain ⟨p1, p2, e2, a1, a2⟩ := aall2 p
    cases e2
    obtain ⟨a, ea, _⟩ := a1
    have a2 : Dp X.K I' y .none := a2
    cases a2
    subst ea
    exact op_isN pins s σ H _ _ v u Q I rx ry ⟨rfl, q _ I' H (Grow.refl g) (.bl _)⟩
  · cases e
theorem ok_isNot : OpD X (compareOp .IsNot) (isD true) := by
  intro pins s σ H x y v u Q I rx ry h1
  obtain ⟨I', ss, z, g, p, e, q⟩ := h1
  unfold isD at e
  split at e
  · rename_i d
    cases e
    obtain ⟨p1, p2, e2, a1, a2⟩ := aall2 p
    cases e2
    have a1 : Dp X.K I' x d := a1
    have a2 : Dp X.K I' y .none := a2
    cases a2
    refine op_notN pins s σ H _ _ v u Q I rx ry ⟨rfl, q _ I' H (Grow.refl g) ?_⟩
    rw [isN_dec a1]
    exact .bl _
  · rename_i m
    cases e
    obtain ⟨p1, p2, e2, a1, a2⟩ := aall2 p
    cases e2
    obtain ⟨a, ea, _⟩ := a1
    have a2 : Dp X.K I' y .none := a2
    cases a2
    subst ea
    exact op_notN pins s σ H _ _ v u Q I rx ry ⟨rfl, q _ I' H (Grow.refl g) (.bl _)⟩
  · cases e
def isB (neg : Bool) : List S → Option S
  | [.d (.bool a), .d (.bool b)] => some (.d (.bool (if neg = true then !(a == b) else a == b)))
  | _ => none
theorem dec_beq (a b : Bool) : decide (a = b) = (a == b) := by cases a <;> cases b <;> rfl
theorem ok_isB : OpD X (compareOp .Is) (isB false) := by
  intro pins s σ H x y v u Q I rx ry h1
  obtain ⟨I', ss, z, g, p, e, q⟩ := h1
  unfold isB at e
  split at e
  · rename_i a b
    cases e
    obtain ⟨p1, p2, e2, a1, a2⟩ := aall2 p
    cases e2
    have a1 : Dp X.K I' x (.bool a) := a1
    have a2 : Dp X.K I' y (.bool b) := a2
    cases a1
    cases a2
    refine op_is_bl pins s σ H _ _ v u Q I rx ry ⟨a, b, rfl, rfl, q _ I' H (Grow.refl g) ?_⟩
    rw [dec_beq]
    exact .bl _
  · cases e
theorem ok_isNotB : OpD X (compareOp .IsNot) (isB true) := by
  intro pins s σ H x y v u Q I rx ry h1
  obtain ⟨I', ss, z, g, p, e, q⟩ := h1
  unfold isB at e
  split at e
  · rename_i a b
    cases e
    obtain ⟨p1, p2, e2, a1, a2⟩ := aall2 p
    cases e2
    have a1 : Dp X.K I' x (.bool a) := a1
    have a2 : Dp X.K I' y (.bool b) := a2
    cases a1
    cases a2
    refine op_isnot_bl pins s σ H _ _ v u Q I rx ry ⟨a, b, rfl, rfl, q _ I' H (Grow.refl g) ?_⟩
    rw [dec_beq]
    exact .bl _
  · cases e
def opIs (ss : List S) : Option S := (isD false ss).or (isB false ss)
def opIsNot (ss : List S) : Option S := (isD true ss).or (isB true ss)
theorem ok_opIs : OpD X (compareOp .Is) opIs := ok_is.or ok_isB
theorem ok_opIsNot : OpD X (compareOp .IsNot) opIsNot := ok_isNot.or ok_isNotB
/-! ### what is subscripted -/
/-- xs[i], t[i], s[i] -/
def ixD : List S → Option S
  | [p, .d (.int i)] => match seqS p with
    | some xs => (atI xs i).map .d
    | none => match p with
      | .d (.str z) => if z.length ≤ 16777216 then (atI z.cps.toList i).map fun c => .d (.str ⟨#[c]⟩) else none
      | _ => none
  | _ => none
theorem atI_dpa {K : KF} {I : Hp} {vs : List V} {ds : List D} {i : Int} {d : D} (p : DpAll K I vs ds) (e : atI ds i = some d) : ∃ v, atI vs i = some v ∧ Dp K I v d := by
  unfold atI at e ⊢
  rw [dpa_len p]
  obtain ⟨j, h1, h2⟩ := Option.bind_eq_some_iff.mp e
  obtain ⟨v, h3, h4⟩ := dpa_get' p h2
  exact ⟨v, by rw [h1]; exact h3, h4⟩
theorem ok_ix : IxR X fun x y H Q => rApp X.K ixD [x, y] H Q := by
  intro value slice pins s σ H x y v u Q I rx ry h1 hs
  obtain ⟨I', ss, z, g, p, e, q⟩ := h1
  obtain ⟨p1, p2, rfl, a1, a2⟩ := aall2 p
  unfold ixD at e
  split at e
  · rename_i p i heq
    cases heq
    have a2 : Dp X.K I' y (.int i) := a2
    cases a2
    split at e
    · rename_i xs e1
      obtain ⟨d, h1, h2⟩ := Option.map_eq_some_iff.mp e
      subst h2
      obtain ⟨a, vs, rfl, hq, da⟩ := seqS_ok g a1 e1
      obtain ⟨w, h3, h4⟩ := atI_dpa da h1
      rcases hq with hq | hq
      · exact ix_seq value slice pins s σ H _ _ v u Q I rx ry (.inl ⟨a, vs, i, w, rfl, rfl, hq, h3, q w I' H (Grow.refl g) h4⟩) hs
      · exact ix_seq value slice pins s σ H _ _ v u Q I rx ry (.inr (.inl ⟨a, vs, i, w, rfl, rfl, hq, h3, q w I' H (Grow.refl g) h4⟩)) hs
    · split at e
      · rename_i z _
        split at e
        · rename_i hl
          obtain ⟨c, h1, h2⟩ := Option.map_eq_some_iff.mp e
          subst h2
          have a1 : Dp X.K I' x (.str z) := a1
          cases a1
          exact ix_seq value slice pins s σ H _ _ v u Q I rx ry (.inr (.inr ⟨z, i, c, rfl, rfl, by rw [sizeLine_eq]; exact hl, h1, q _ I' H (Grow.refl g) (.str _)⟩)) hs
        · cases e
      · cases e
  · cases e
/-- a[lo:hi] -/
def cutD {α : Type} (xs : List α) (lo hi : Option Int) : List α := (xs.drop (HT.sIx xs.length 0 lo)).take (HT.sIx xs.length xs.length hi - HT.sIx xs.length 0 lo)
def slD (p : S) (lo hi : Option Int) : Option S := match lstS p with
  | some xs => some (.own false (.lst (cutD xs lo hi)))
  | none => match p with
    | .d (.tuple xs) => some (.d (.tuple (cutD xs lo hi)))
    | .d (.str z) => if z.length ≤ 16777216 then some (.d (.str (cutS z lo hi))) else none
    | _ => none
theorem cut_dpa {K : KF} {I : Hp} {vs : List V} {ds : List D} (p : DpAll K I vs ds) (lo hi : Option Int) : DpAll K I (cutV vs lo hi) (cutD ds lo hi) := by
  unfold cutV cutD
  rw [dpa_len p]
  exact dpa_take _ (dpa_drop _ p)
end
end DL
namespace DL
open PySem L2
open PyProof.Rows (envOfC)
/-! ### one operand at a time -/
def ev1 : Od → EF Ov
  | .sl i => fun r => match r[i]? with
    | some (some _) => some (.ok (.sl i), r)
    | _ => none
  | .ex f => eb f fun d => er (.d d)
def evI : Option (EF D) → EF (Option Int)
  | none => er none
  | some f => eb f fun d => match d with
    | .int i => er (some i)
    | _ => fun _ => none
section
variable {K : KF} {mg : MG} {W : WX} {C : Cn} {I H : Hp} {r r' : Env} {s : L2.St}
/-- an exception's wish -/
def XPost (K : KF) (mg : MG) (W : WX) (C : Cn) (I : Hp) (r' : Env) (s : L2.St) (x : Exc) : Prop := ∀ c dx I' H', Rel K C I' H' r' s → Same I I' → XRel K mg C.H0 I' H' c dx x → W c dx s H'
theorem XPost.up {I J : Hp} {x : Exc} (g : Same I J) (h : XPost K mg W C I r' s x) : XPost K mg W C J r' s x := fun c dx I' H' R s1 => h c dx I' H' R (g.trans s1)
theorem od_eb {α : Type} {o : Od} {k : Ov → EF α} {z : R α} {Q : VK} (R0 : Rel K C I H r s) (e : eb (ev1 o) k r = some (z, r')) (hx : ∀ x, z = .ex x → XPost K mg W C I r' s x)
    (p : ∀ v I' H' ov r1, Rel K C I' H' r1 s → Same I I' → OvRel K I' s v ov → k ov r1 = some (z, r') → Q v H') : tOd K mg W o s H Q := by
  cases o with
  | sl i =>
    rcases eb_inv e with ⟨ov, r1, h1, e⟩ | ⟨x, h1, _⟩
    · have h1 : (match r[i]? with
        | some (some _) => some (R.ok (Ov.sl i), r)
        | _ => none) = some (.ok ov, r1) := h1
      split at h1
      · rename_i y hr
        cases h1
        obtain ⟨v, hv, _⟩ := R0.slot i y hr
        exact ⟨v, hv, p v I H (.sl i) _ R0 (Same.refl I) hv e⟩
      · cases h1
    · have h1 : (match r[i]? with
        | some (some _) => some (R.ok (Ov.sl i), r)
        | _ => none) = some (.ex x, r') := h1
      split at h1 <;> cases h1
  | ex f =>
    rcases eb_inv e with ⟨ov, r1, h1, e⟩ | ⟨x, h1, rfl⟩
    · rcases eb_inv h1 with ⟨d, r2, h2, h3⟩ | ⟨x, _, h2⟩
      · cases h3
        exact ⟨C, I, r, _, _, R0, h2, fun v I' H' R' g t => p v I' H' (.d d) _ R' g t e⟩
      · cases h2
    · rcases eb_inv h1 with ⟨d, r2, h2, h3⟩ | ⟨y, h2, h3⟩
      · cases h3
      · cases h3
        exact ⟨C, I, r, _, _, R0, h2, hx x rfl⟩
theorem part_eb {α : Type} {f : EF D} {k : Option Int → EF α} {z : R α} {Q : VK} (R0 : Rel K C I H r s) (e : eb (evI (some f)) k r = some (z, r')) (hx : ∀ x, z = .ex x → XPost K mg W C I r' s x)
    (p : ∀ i I' H' r1, Rel K C I' H' r1 s → Same I I' → k (some i) r1 = some (z, r') → Q (.int i) H') : tD K mg W f s H fun v H1 => (∃ i, v = .int i) ∧ Q v H1 := by
  rcases eb_inv e with ⟨ov, r1, h1, e⟩ | ⟨x, h1, rfl⟩
  · rcases eb_inv h1 with ⟨d, r2, h2, h3⟩ | ⟨x, _, h2⟩
    · refine ⟨C, I, r, _, _, R0, h2, fun v I' H' R' g t => ?_⟩
      cases d with
      | int i =>
        cases h3
        cases t
        exact ⟨⟨i, rfl⟩, p i I' H' _ R' g e⟩
      | _ => cases h3
    · cases h2
  · rcases eb_inv h1 with ⟨d, r2, h2, h3⟩ | ⟨y, h2, h3⟩
    · cases d <;> cases h3
    · cases h3
      exact ⟨C, I, r, _, _, R0, h2, hx x rfl⟩
end
/-- a[lo:hi] -/
def dSl (o : Od) (lo hi : Option (EF D)) : EF S := eb (ev1 o) fun ov => eb (evI lo) fun l => eb (evI hi) fun h => fun r => match ov.get r with
  | some p => (match slD p l h with
    | some x => some (.ok x, r)
    | none => none)
  | none => none
section
variable {X : Cx} {W : WX} {a : Expr} {oa : Od} {pos p2 : Pos}
/-- t[lo:hi]: a new object is known -/
def rSlZ (K : KF) : V → Option Int → Option Int → Hp → VK → Prop := fun x lo hi H Q => ∃ a xs, x = .ref a ∧ SqT K H a xs ∧
  (HT.sIx xs.length 0 lo = 0 ∧ HT.sIx xs.length xs.length hi = xs.length → Q (.ref a) H) ∧ (¬ (HT.sIx xs.length 0 lo = 0 ∧ HT.sIx xs.length xs.length hi = xs.length) → ∀ p o, H p = none → o.dict = none → Q (.ref p) (upd H p (.frz o (.tup (cutV xs lo hi)))))
theorem sl_tupZ : SlR X (rSlZ X.K) := by
  intro pins s σ H x v vl vu lo hi sl Q I rx hs pl pu h
  obtain ⟨a, xs, ex, hx, q1, q2⟩ := h
  by_cases hw : HT.sIx xs.length 0 lo = 0 ∧ HT.sIx xs.length xs.length hi = xs.length
  · exact sl_tupA pins s σ H x v vl vu lo hi sl Q I rx hs pl pu ⟨a, xs, ex, hx, q1, fun h => absurd hw h⟩
  · subst ex
    cases rx
    obtain ⟨its, r, ht, hz⟩ := I.tuple hx
    have hlen : its.toArray.size = xs.length := by rw [List.size_toArray]; exact r.length.symm
    refine ⟨"tuple", _, PyProof.Rows.slot_tuple_getitem.lookup, ht.typeIs, ?_⟩
    refine HT.getItem_tuple_cut ht hs pl pu (by rw [hlen]; exact hw) ?_ (by rw [hlen]; exact hz)
    rw [hlen]
    exact ⟨.ref s.heap.objs.size, _, I.laid (t' := s.toks) (o := .frz _ (.tup (cutV xs lo hi))) (fun b ob q => Heap.get?_push_of_some _ q) (Nat.le_refl _) ⟨Heap.get?_push_size _ rfl, Nat.le_trans (cutV_length xs lo hi) hz, _, (r.drop (HT.sIx xs.length 0 lo)).take (HT.sIx xs.length xs.length hi - HT.sIx xs.length 0 lo), PyProof.Rows.IsTup.new _ _⟩, rfl,
      q2 hw _ { cls := .type "tuple", data := .seq ((its.drop (HT.sIx xs.length 0 lo)).take (HT.sIx xs.length xs.length hi - HT.sIx xs.length 0 lo)).toArray } (I.hok.fresh (Nat.le_refl _)) rfl⟩
def rSlA3 (K : KF) : V → Option Int → Option Int → Hp → VK → Prop := fun x lo hi H Q => (rSlL K x lo hi H Q ∨ rSlZ K x lo hi H Q) ∨ rSlS x lo hi H Q
theorem sl_all : SlR X (rSlA3 X.K) := (sl_list.or sl_tupZ).or sl_str
theorem slD_ok {H I' : Hp} {x : V} {p z : S} {lo hi : Option Int} {Q : VK} (g : Same I' H) (a1 : ARel X.K I' H x p) (e : slD p lo hi = some z) (q : ∀ v I2 H2, Grow I' H I2 H2 → NewS X.K I' H v I2 H2 z → Q v H2) :
    rSlA3 X.K x lo hi H Q := by
  unfold slD at e
  split at e
  · rename_i xs e1
    cases e
    obtain ⟨a, vs, rfl, hs, da⟩ := lstS_ok g a1 e1
    refine .inl (.inl ⟨a, vs, rfl, hs, fun c hc => ?_⟩)
    have gr := grow_own (o := .lst (cutV vs lo hi)) g hc
    exact q _ _ _ gr ⟨c, rfl, hc, g.free hc, _, upd_same, cut_dpa da lo hi⟩
  · split at e
    · rename_i xs _
      cases e
      have a1 : Dp X.K I' x (.tuple xs) := a1
      cases a1 with
      | @tup a vs _ hs ha =>
        refine .inl (.inr ⟨a, vs, rfl, Evl.ex_t g hs, fun hw => ?_, fun _ c o hc ho => ?_⟩)
        · refine q _ I' H (Grow.refl g) (.tup hs ?_)
          have : cutV vs lo hi = vs := by
            unfold cutV
            rw [hw.1, hw.2]
            simp
          rw [← this]
          exact cut_dpa ha lo hi
        · have gr := grow_tup (o := .frz o (.tup (cutV vs lo hi))) g hc ho
          exact q _ _ _ gr (.tup rd_frz (dpa_up gr.i _ _ (cut_dpa ha lo hi)))
    · rename_i zz _
      split at e
      · rename_i hl
        cases e
        have a1 : Dp X.K I' x (.str zz) := a1
        cases a1
        exact .inr ⟨zz, rfl, by rw [sizeLine_eq]; exact hl, q _ I' H (Grow.refl g) (.str _)⟩
      · cases e
    · cases e
theorem de_sl_ab {f h : EF D} {e1 e2 : Expr} (ha : DO X W a oa) (h1 : DD X W e1 f) (h2 : DD X W e2 h) : DE X W (.Subscript a (.Slice (some e1) (some e2) none p2) pos) (dSl oa (some f) (some h)) :=
  pe_of (pe_slice sl_all ha (po_some h1) (po_some h2)) fun s H Q ⟨C, I, r, o, r', R, e, q⟩ => by
    refine od_eb R e (fun x z => by subst z; exact q) fun v I1 H1 ov r1 R1 g1 ov1 e => ?_
    have q1 : ∀ x, o = .ex x → XPost X.K X.mg W C I1 r' s x := fun x z => by subst z; exact XPost.up g1 q
    obtain ⟨C2, I2, r2, o2, r2', R2, e2, z2⟩ := part_eb R1 e q1 (Q := fun v2 H2 => ∃ i, v2 = .int i ∧ tD X.K X.mg W h s H2 fun v3 H3 => ∃ j, v3 = .int j ∧ rSlA3 X.K v (some i) (some j) H3 Q) fun i I2 H2 r2 R2 g2 e => by
      refine ⟨i, rfl, ?_⟩
      have q2 : ∀ x, o = .ex x → XPost X.K X.mg W C I2 r' s x := fun x z => XPost.up g2 (q1 x z)
      obtain ⟨C3, I3, r3, o3, r3', R3, e3, z3⟩ := part_eb R2 e q2 (Q := fun v3 H3 => ∃ j, v3 = .int j ∧ rSlA3 X.K v (some i) (some j) H3 Q) fun j I3 H3 r3 R3 g3 e => by
        refine ⟨j, rfl, ?_⟩
        split at e
        · rename_i p hp
          split at e
          · rename_i x hx
            cases e
            refine slD_ok R3.sub (get_ok R3 (ovRel_up (g2.trans g3) ov1) hp) hx fun w I4 H4 gr n => q w I4 H4 (R3.grow gr) (((g1.trans g2).trans g3).trans gr.i) (R3.newS gr n)
          · cases e
        · cases e
      exact ⟨C3, I3, r3, o3, r3', R3, e3, by cases o3 with
        | ok d => exact fun w I' H' R' g t => (z3 w I' H' R' g t).2
        | ex x => exact z3⟩
    exact ⟨C2, I2, r2, o2, r2', R2, e2, by cases o2 with
      | ok d => exact fun w I' H' R' g t => (z2 w I' H' R' g t).2
      | ex x => exact z2⟩
theorem de_sl_a {f : EF D} {e1 : Expr} (ha : DO X W a oa) (h1 : DD X W e1 f) : DE X W (.Subscript a (.Slice (some e1) none none p2) pos) (dSl oa (some f) none) :=
  pe_of (pe_slice sl_all ha (po_some h1) po_none) fun s H Q ⟨C, I, r, o, r', R, e, q⟩ => by
    refine od_eb R e (fun x z => by subst z; exact q) fun v I1 H1 ov r1 R1 g1 ov1 e => ?_
    have q1 : ∀ x, o = .ex x → XPost X.K X.mg W C I1 r' s x := fun x z => by subst z; exact XPost.up g1 q
    obtain ⟨C2, I2, r2, o2, r2', R2, e2, z2⟩ := part_eb R1 e q1 (Q := fun v2 H2 => ∃ i, v2 = .int i ∧ rSlA3 X.K v (some i) none H2 Q) fun i I2 H2 r2 R2 g2 e => by
      refine ⟨i, rfl, ?_⟩
      have e : (match ov.get r2 with
        | some p => (match slD p (some i) none with
          | some x => some (DL.R.ok x, r2)
          | none => none)
        | none => none) = some (o, r') := e
      split at e
      · rename_i p hp
        split at e
        · rename_i x hx
          cases e
          exact slD_ok R2.sub (get_ok R2 (ovRel_up g2 ov1) hp) hx fun w I4 H4 gr n => q w I4 H4 (R2.grow gr) ((g1.trans g2).trans gr.i) (R2.newS gr n)
        · cases e
      · cases e
    exact ⟨C2, I2, r2, o2, r2', R2, e2, by cases o2 with
      | ok d => exact fun w I' H' R' g t => (z2 w I' H' R' g t).2
      | ex x => exact z2⟩
theorem de_sl_b {f : EF D} {e1 : Expr} (ha : DO X W a oa) (h1 : DD X W e1 f) : DE X W (.Subscript a (.Slice none (some e1) none p2) pos) (dSl oa none (some f)) :=
  pe_of (pe_slice sl_all ha po_none (po_some h1)) fun s H Q ⟨C, I, r, o, r', R, e, q⟩ => by
    refine od_eb R e (fun x z => by subst z; exact q) fun v I1 H1 ov r1 R1 g1 ov1 e => ?_
    have q1 : ∀ x, o = .ex x → XPost X.K X.mg W C I1 r' s x := fun x z => by subst z; exact XPost.up g1 q
    have e : eb (evI (some f)) (fun h => fun r => match ov.get r with
      | some p => (match slD p none h with
        | some x => some (DL.R.ok x, r)
        | none => none)
      | none => none) r1 = some (o, r') := e
    obtain ⟨C2, I2, r2, o2, r2', R2, e2, z2⟩ := part_eb R1 e q1 (Q := fun v2 H2 => ∃ i, v2 = .int i ∧ rSlA3 X.K v none (some i) H2 Q) fun i I2 H2 r2 R2 g2 e => by
      refine ⟨i, rfl, ?_⟩
      split at e
      · rename_i p hp
        split at e
        · rename_i x hx
          cases e
          exact slD_ok R2.sub (get_ok R2 (ovRel_up g2 ov1) hp) hx fun w I4 H4 gr n => q w I4 H4 (R2.grow gr) ((g1.trans g2).trans gr.i) (R2.newS gr n)
        · cases e
      · cases e
    exact ⟨C2, I2, r2, o2, r2', R2, e2, by cases o2 with
      | ok d => exact fun w I' H' R' g t => (z2 w I' H' R' g t).2
      | ex x => exact z2⟩
/-! ### built-ins -/
def lenD : List S → Option S
  | [p] => match seqS p with
    | some xs => some (.d (.int xs.length))
    | none => match p with
      | .d (.str z) => if z.length ≤ 16777216 then some (.d (.int z.length)) else none
      | .bor (.dic kvs) => some (.d (.int kvs.length))
      | _ => none
  | _ => none
theorem ok_len : CallD X (.builtin "len") lenD := by
  intro pins s σ H xs us Q I r h
  obtain ⟨I', ss, z, g, p, e, q⟩ := h
  unfold lenD at e
  split at e
  · rename_i pp
    cases p with
    | cons a1 a2 =>
      cases a2
      rename_i x
      split at e
      · rename_i ys e1
        cases e
        obtain ⟨a, vs, rfl, hq, da⟩ := seqS_ok g a1 e1
        exact call_len_seq pins s σ H _ us Q I r ⟨a, vs, rfl, hq, q _ I' H (Grow.refl g) (by rw [dpa_len da]; exact .int _)⟩
      · split at e
        · rename_i zz _
          split at e
          · rename_i hl
            cases e
            have a1 : Dp X.K I' x (.str zz) := a1
            cases a1
            exact call_len_str pins s σ H _ us Q I r ⟨zz, rfl, by rw [sizeLine_eq]; exact hl, q _ I' H (Grow.refl g) (.int _)⟩
          · cases e
        · rename_i kvs _
          cases e
          obtain ⟨a, ea, ws, h1, h2⟩ := a1
          subst ea
          have hkl : ws.length = kvs.length := Paired.length h2
          obtain ⟨u, rfl, ru⟩ := vals1 r
          cases ru
          refine d_len I (.inl h1) fun t s' I2 => ?_
          exact ⟨.int ws.length, H, I2, ⟨t, rfl⟩, q _ I' H (Grow.refl g) (by rw [hkl]; exact .int _)⟩
        · cases e
  · cases e
def lstD : List S → Option S
  | [p] => (seqS p).map fun xs => .own false (.lst xs)
  | _ => none
theorem ok_list : CallD X (.type "list") lstD := by
  intro pins s σ H xs us Q I r h
  obtain ⟨I', ss, z, g, p, e, q⟩ := h
  unfold lstD at e
  split at e
  · obtain ⟨ys, e1, e2⟩ := Option.map_eq_some_iff.mp e
    subst e2
    cases p with
    | cons a1 a2 =>
      cases a2
      obtain ⟨a, vs, rfl, hq, da⟩ := seqS_ok g a1 e1
      refine call_list_of pins s σ H _ us Q I r ⟨a, vs, rfl, hq, fun c hc => ?_⟩
      have gr := grow_own (o := .lst vs) g hc
      exact q _ _ _ gr ⟨c, rfl, hc, g.free hc, _, upd_same, da⟩
  · cases e
/-- tuple(xs), xs a list: the new object is known -/
theorem call_tupleZ : CallR X (.type "tuple") (fun xs H Q => ∃ p ys, xs = [.ref p] ∧ SqL X.K H p ys ∧ ∀ l o, H l = none → o.dict = none → Q (.ref l) (upd H l (.frz o (.tup ys)))) := by
  intro pins s σ H xs us Q I r h
  obtain ⟨p, ys, rfl, hq, q⟩ := h
  obtain ⟨u, rfl, rx⟩ := vals1 r
  cases rx
  obtain ⟨its, r', pl, hz⟩ := I.list hq
  have hlen := r'.length
  refine PySem.call_tuple_list pl.isList (fun h' kp => ?_) (by simp only [List.size_toArray] <;> omega)
  have I1 : Inv X pins σ H { s with heap := h' } := I.kept (t' := s.toks) kp
  exact ⟨.ref h'.objs.size, _, I1.laid (t' := s.toks) (o := .frz _ (.tup ys)) (fun b o e => Heap.get?_push_of_some _ e) (Nat.le_refl _) ⟨Heap.get?_push_size _ rfl, hz, its, r', PyProof.Rows.IsTup.new _ _⟩, rfl, q _ { cls := .type "tuple", data := .seq its.toArray } (I1.hok.fresh (Nat.le_refl _)) rfl⟩
def tplD : List S → Option S
  | [p] => (seqS p).map fun xs => .d (.tuple xs)
  | _ => none
theorem ok_tuple : CallD X (.type "tuple") tplD := by
  intro pins s σ H xs us Q I r h
  obtain ⟨I', ss, z, g, p, e, q⟩ := h
  unfold tplD at e
  split at e
  · rename_i pp
    obtain ⟨ys, e1, e2⟩ := Option.map_eq_some_iff.mp e
    subst e2
    cases p with
    | cons a1 a2 =>
      cases a2
      cases e3 : lstS pp with
      | some zs =>
        have hz : zs = ys := by
          unfold lstS at e3
          unfold seqS at e1
          split at e3 <;> simp_all
        subst hz
        obtain ⟨a, vs, rfl, hq, da⟩ := lstS_ok g a1 e3
        refine call_tupleZ pins s σ H _ us Q I r ⟨a, vs, rfl, hq, fun c o hc ho => ?_⟩
        have gr := grow_tup (o := .frz o (.tup vs)) g hc ho
        exact q _ _ _ gr (.tup rd_frz (dpa_up gr.i _ _ da))
      | none =>
        unfold lstS at e3
        unfold seqS at e1
        split at e1
        · cases e3
        · cases e3
        · cases e1
          have a1 : Dp X.K I' _ (.tuple ys) := a1
          cases a1 with
          | @tup a vs _ hs ha => exact call_tuple_of pins s σ H _ us Q I r ⟨a, vs, rfl, .inr ⟨Evl.ex_t g hs, q _ I' H (Grow.refl g) (.tup hs ha)⟩⟩
        · cases e1
  · cases e
def absD : List S → Option S
  | [.d (.int i)] => some (.d (.int (if i < 0 then -i else i)))
  | _ => none
theorem ok_abs : CallD X (.builtin "abs") absD := by
  intro pins s σ H xs us Q I r h
  obtain ⟨I', ss, z, g, p, e, q⟩ := h
  unfold absD at e
  split at e
  · rename_i i
    cases e
    cases p with
    | cons a1 a2 =>
      cases a2
      have a1 : Dp X.K I' _ (.int i) := a1
      cases a1
      exact call_abs pins s σ H _ us Q I r ⟨i, rfl, q _ I' H (Grow.refl g) (.int _)⟩
  · cases e
def max2D : List S → Option S
  | [.d (.int i), .d (.int j)] => some (.d (.int (if j > i then j else i)))
  | _ => none
def min2D : List S → Option S
  | [.d (.int i), .d (.int j)] => some (.d (.int (if j < i then j else i)))
  | _ => none
theorem ok_max2 (hc : X.calm = true) : CallD X (.builtin "max") max2D := by
  intro pins s σ H xs us Q I r h
  obtain ⟨I', ss, z, g, p, e, q⟩ := h
  unfold max2D at e
  split at e
  · rename_i i j
    cases e
    cases p with
    | cons a1 a2 =>
      cases a2 with
      | cons a2 a3 =>
        cases a3
        have a1 : Dp X.K I' _ (.int i) := a1
        have a2 : Dp X.K I' _ (.int j) := a2
        cases a1
        cases a2
        exact call_max2 hc pins s σ H _ us Q I r ⟨i, j, rfl, q _ I' H (Grow.refl g) (.int _)⟩
  · cases e
theorem ok_min2 (hc : X.calm = true) : CallD X (.builtin "min") min2D := by
  intro pins s σ H xs us Q I r h
  obtain ⟨I', ss, z, g, p, e, q⟩ := h
  unfold min2D at e
  split at e
  · rename_i i j
    cases e
    cases p with
    | cons a1 a2 =>
      cases a2 with
      | cons a2 a3 =>
        cases a3
        have a1 : Dp X.K I' _ (.int i) := a1
        have a2 : Dp X.K I' _ (.int j) := a2
        cases a1
        cases a2
        exact call_min2 hc pins s σ H _ us Q I r ⟨i, j, rfl, q _ I' H (Grow.refl g) (.int _)⟩
  · cases e
/-- the truths, the numbers, the texts of a list -/
def boolsD : List D → Option (List Bool)
  | [] => some []
  | .bool b :: xs => (boolsD xs).map (b :: ·)
  | _ => none
def intsD : List D → Option (List Int)
  | [] => some []
  | .int b :: xs => (intsD xs).map (b :: ·)
  | _ => none
def strsD : List D → Option (List Str)
  | [] => some []
  | .str b :: xs => (strsD xs).map (b :: ·)
  | _ => none
theorem boolsD_ok {K : KF} {I : Hp} : ∀ {xs : List D} {bs : List Bool} {vs : List V}, boolsD xs = some bs → DpAll K I vs xs → vs = bs.map V.bl
  | [], bs, vs, e, h => by cases e; cases h; rfl
  | x :: xs, bs, vs, e, h => by
    cases h with
    | cons h1 h2 =>
      cases x with
      | bool b =>
        obtain ⟨cs, e1, e2⟩ := Option.map_eq_some_iff.mp (show (boolsD xs).map (b :: ·) = some bs from e)
        subst e2
        cases h1
        rw [boolsD_ok e1 h2]
        rfl
      | _ => simp [boolsD] at e
theorem intsD_ok {K : KF} {I : Hp} : ∀ {xs : List D} {bs : List Int} {vs : List V}, intsD xs = some bs → DpAll K I vs xs → vs = bs.map V.int
  | [], bs, vs, e, h => by cases e; cases h; rfl
  | x :: xs, bs, vs, e, h => by
    cases h with
    | cons h1 h2 =>
      cases x with
      | int b =>
        obtain ⟨cs, e1, e2⟩ := Option.map_eq_some_iff.mp (show (intsD xs).map (b :: ·) = some bs from e)
        subst e2
        cases h1
        rw [intsD_ok e1 h2]
        rfl
      | _ => simp [intsD] at e
theorem strsD_ok {K : KF} {I : Hp} : ∀ {xs : List D} {bs : List Str} {vs : List V}, strsD xs = some bs → DpAll K I vs xs → vs = bs.map V.str
  | [], bs, vs, e, h => by cases e; cases h; rfl
  | x :: xs, bs, vs, e, h => by
    cases h with
    | cons h1 h2 =>
      cases x with
      | str b =>
        obtain ⟨cs, e1, e2⟩ := Option.map_eq_some_iff.mp (show (strsD xs).map (b :: ·) = some bs from e)
        subst e2
        cases h1
        rw [strsD_ok e1 h2]
        rfl
      | _ => simp [strsD] at e
def allD : List S → Option S
  | [p] => ((lstS p).bind boolsD).map fun bs => .d (.bool (bs.all id))
  | _ => none
theorem ok_all (hc : X.calm = true) : CallD X (.builtin "all") allD := by
  intro pins s σ H xs us Q I r h
  obtain ⟨I', ss, z, g, p, e, q⟩ := h
  unfold allD at e
  split at e
  · obtain ⟨bs, e1, e2⟩ := Option.map_eq_some_iff.mp e
    subst e2
    obtain ⟨ys, e3, e4⟩ := Option.bind_eq_some_iff.mp e1
    cases p with
    | cons a1 a2 =>
      cases a2
      obtain ⟨a, vs, rfl, hq, da⟩ := lstS_ok g a1 e3
      rw [boolsD_ok e4 da] at hq
      exact cr_all hc pins s σ H _ us Q I r ⟨a, bs, rfl, hq, q _ I' H (Grow.refl g) (.bl _)⟩
  · cases e
def sumD : List S → Option S
  | [p] => ((lstS p).bind intsD).map fun bs => .d (.int bs.sum)
  | _ => none
theorem ok_sum (hc : X.calm = true) : CallD X (.builtin "sum") sumD := by
  intro pins s σ H xs us Q I r h
  obtain ⟨I', ss, z, g, p, e, q⟩ := h
  unfold sumD at e
  split at e
  · obtain ⟨bs, e1, e2⟩ := Option.map_eq_some_iff.mp e
    subst e2
    obtain ⟨ys, e3, e4⟩ := Option.bind_eq_some_iff.mp e1
    cases p with
    | cons a1 a2 =>
      cases a2
      obtain ⟨a, vs, rfl, hq, da⟩ := lstS_ok g a1 e3
      rw [intsD_ok e4 da] at hq
      exact cr_sum hc pins s σ H _ us Q I r ⟨a, bs, rfl, hq, q _ I' H (Grow.refl g) (.int _)⟩
  · cases e
/-- int(n), int(a truth) -/
def intD : List S → Option S
  | [.d (.int i)] => some (.d (.int i))
  | [.d (.bool b)] => some (.d (.int (if b = true then 1 else 0)))
  | _ => none
/-! ### isinstance -/
inductive Ty where
  | int | bool | str | tuple | list
def Ty.name : Ty → String
  | .int => "int"
  | .bool => "bool"
  | .str => "str"
  | .tuple => "tuple"
  | .list => "list"
def isTy : Ty → D → Bool
  | .int, .int _ => true
  | .int, .bool _ => true
  | .bool, .bool _ => true
  | .str, .str _ => true
  | .tuple, .tuple _ => true
  | .list, .list _ => true
  | _, _ => false
def tyN : D → String
  | .none => "NoneType"
  | .bool _ => "bool"
  | .int _ => "int"
  | .str _ => "str"
  | .list _ => "list"
  | .tuple _ => "tuple"
  | .dict _ => "dict"
theorem tyX_of {K : KF} {H : Hp} {v : V} {d : D} (h : Dp K H v d) : TyX K H v (.type (tyN d)) := by
  cases h with
  | non => exact .base .non
  | bl b => exact .base (.bl b)
  | int i => exact .base (.int i)
  | str x => exact .base (.str x)
  | lst hs _ =>
    rcases hs with (h | ⟨o, h⟩) | ⟨o, its, n, h1, h2, _⟩
    · exact .base (.lst h)
    · exact .base (.frz h)
    · exact .kList h1 h2
  | tup hs _ =>
    rcases hs with (h | ⟨o, h⟩) | ⟨o, its, n, h1, h2, _⟩
    · exact .base (.tup h)
    · exact .fTuple h
    · exact .kTuple h1 h2
theorem kit_all (t : Ty) (d : D) (h : nd d = true) : kitB (tyN d) t.name = some (isTy t d) := by
  cases d with
  | none => cases t <;> (show kitB _ _ = some _; decide +kernel)
  | bool b => cases t <;> (simp only [tyN, Ty.name, isTy]; decide +kernel)
  | int b => cases t <;> (simp only [tyN, Ty.name, isTy]; decide +kernel)
  | str b => cases t <;> (simp only [tyN, Ty.name, isTy]; decide +kernel)
  | list b => cases t <;> (simp only [tyN, Ty.name, isTy]; decide +kernel)
  | tuple b => cases t <;> (simp only [tyN, Ty.name, isTy]; decide +kernel)
  | dict _ => cases h
def isiD (t : Ty) : List S → Option S
  | [p] => (datS p).map fun d => .d (.bool (isTy t d))
  | _ => none
theorem de_isi {t : Ty} {x : Str} {p p3 : Pos} (hg : Gl X "isinstance") (hm : X.mg "isinstance" = none) (hg2 : Gl X x) (hm2 : X.mg x = none) (hv : bootBuiltins x = some (.type t.name)) (ha : DO X W a oa) (hn : x ≠ "__name__" := by decide) (hd : (x == ("__debug__" : Str)) = false := by decide)
    (he : starEach [a, .Name x p3] X.env = (false, eval a X.env) :: starEach [.Name x p3] X.env := by rfl) (he2 : starEach [.Name x p3] X.env = [(false, eval (.Name x p3) X.env)] := by rfl) (hpl : (backTo pos (starEach [.Name x p3] X.env)).any (·.1) = false := by rfl) :
    DE X W (.Call (.Name "isinstance" p) [a, .Name x p3] [] pos) (dApp [oa] (isiD t)) :=
  pe_of (pe_callB call_isi hg hm (by decide +kernel) (pa_cons ha (pa_cons (pe_bltn (v := .ty t.name) hg2 hm2 hv rfl hn hd) pa_nil he2) he) (by decide) (by decide) he hpl) fun s H Q q => by
    have z : tOds X.K X.mg W [oa] s H fun vs H1 => rIsi X.K (vs ++ [V.ty t.name]) H1 Q := app_gen (ods := [oa]) q fun C I r vs ss x H' R a e q => by
      unfold isiD at e
      split at e
      · obtain ⟨d, e1, e2⟩ := Option.map_eq_some_iff.mp e
        subst e2
        cases a with
        | cons a1 a2 =>
          cases a2
          have hd := datS_ok R.sub a1 e1
          exact ⟨_, _, _, _, _, rfl, .ty _, tyX_of hd, kit_ty (kit_all t d (dp_nd _ _ hd)), q _ I H' (Grow.refl R.sub) (.bl _)⟩
      · cases e
    exact z
end
end DL
namespace DL
open PySem L2
open PyProof.Rows (envOfC)
/-! ### a name is handed back: what it holds of its own goes along -/
def dMove (i : Nat) : EF S := fun r => match r[i]? with
  | some (some (.d x)) => some (.ok (.d x), r)
  | some (some (.own false m)) => some (.ok (.own false m), r.set i none)
  | _ => none
theorem move_ok {K : KF} {mg : MG} {W : WX} {s : L2.St} {H : Hp} {i : Nat} {Q : VK} (h : tE K mg W (dMove i) s H Q) : tVar i s H Q := by
  obtain ⟨C, I, r, o, r', R, e, q⟩ := h
  unfold dMove at e
  split at e
  · rename_i x hr
    cases e
    obtain ⟨v, hv, p⟩ := R.slot i _ hr
    exact ⟨v, hv, q v I H R (Same.refl I) p⟩
  · rename_i m hr
    cases e
    obtain ⟨v, hv, a, e, n, mm, h0⟩ := R.slot i _ hr
    subst e
    refine ⟨_, hv, q _ I H (R.drop i) (Same.refl I) ⟨a, rfl, n, mm, h0, fun j b m2 hj hs => ?_⟩⟩
    have hji : j ≠ i := by
      rintro rfl
      rw [List.getElem?_set_self (List.getElem?_eq_some_iff.mp hr).1] at hj
      cases hj
    rw [List.getElem?_set_ne (Ne.symm hji)] at hj
    exact R.dist j i _ _ _ _ _ hji hj hr hs hv
  · cases e
section
variable {X : Cx} {W : WX} {pos : Pos}
theorem de_move {i : Nat} {x : Str} (h : PE X (.Name x pos) (tVar i)) : DE X W (.Name x pos) (dMove i) := pe_of h fun _ _ _ q => move_ok q
/-- a name's value is dropped -/
theorem de_var {i : Nat} {x : Str} (h : PE X (.Name x pos) (tVar i)) : DE X W (.Name x pos) (ds (dVar i)) := de_d (dd_var h)
/-! ### a list's methods that change it -/
def rM (K : KF) (op : MO → List S → Option (D × MO)) : V → List V → Hp → VK → Prop := fun x vs H Q => ∃ I a m ss d m', Same I H ∧ x = .ref a ∧ I a = none ∧ MRel K I H a m ∧ AAll K I H vs ss ∧ op m ss = some (d, m') ∧
  ∀ v o, Dp K I v d → MRel K I (upd H a o) a m' → Q v (upd H a o)
def isLst : Option (Option S) → Bool
  | some (some (.own _ (.lst _))) => true
  | _ => false
def dMth (i : Nat) (ods : List Od) (op : MO → List S → Option (D × MO)) : EF S := fun r => if isLst r[i]? = true then eb (evO ods) (fun os r => match getAll r os with
    | some ss => (match r[i]? with
      | some (some (.own b m)) => (match op m ss with
        | some (d, m') => some (.ok (.d d), r.set i (some (.own b m')))
        | none => none)
      | _ => none)
    | none => none) r
  else none
theorem mth_ok {K : KF} {mg : MG} {s : L2.St} {H : Hp} {i : Nat} {ods : List Od} {op : MO → List S → Option (D × MO)} {Q : VK} (h : tE K mg W (dMth i ods op) s H Q) :
    tBM K "list" (rM K op) (tVar i) (tOds K mg W ods) s H Q := by
  obtain ⟨C, I, r, o, r', R, e, q⟩ := h
  unfold dMth at e
  split at e
  · rename_i hl
    unfold isLst at hl
    split at hl
    · rename_i b xs hr
      obtain ⟨v, hv, z⟩ := R.slot i _ hr
      obtain ⟨a, ea, _, ⟨vs, h1, _⟩, _⟩ := own_nz z
      subst ea
      refine ⟨_, hv, .inl ⟨rfl, vs, SqL.of h1⟩, ?_⟩
      rcases eb_inv e with ⟨os, r1, ho, e⟩ | ⟨x, ho, rfl⟩
      · refine evO_ok ods R ho fun ws I' H' R' g aa => ?_
        split at e
        · rename_i ss hg
          split at e
          · rename_i b2 m hr2
            split at e
            · rename_i d m' hop
              cases e
              obtain ⟨v2, hv2, z2⟩ := R'.slot i _ hr2
              rw [hv] at hv2
              cases hv2
              obtain ⟨a2, ea2, na, mr, _⟩ := own_nz z2
              cases ea2
              exact ⟨I', a, m, ss, d, m', R'.sub, rfl, na, mr, getAll_ok R' aa hg, hop, fun w o p mm => q w I' _ (R'.mut hr2 hv mm) g p⟩
            · cases e
          · cases e
        · cases e
      · exact evO_ok ods R ho q
    · cases hl
  · cases e
abbrev MtD (X : Cx) (id : String) (op : MO → List S → Option (D × MO)) : Prop := MtR X id (rM X.K op)
theorem de_mth {i : Nat} {x name : Str} {id : String} {op : MO → List S → Option (D × MO)} {e : Expr} {es : List Expr} {os : List Od} {p apos cpos : Pos} (slot : Slot "list" name id) (hty : typeOf (.builtin id) = pure (.type "method_descriptor")) (hm : MtD X id op)
    (ho : PE X (.Name x p) (tVar i)) (ha : DA X W (e :: es) os) (hbase : attributeBase (.Name x p) name X.env (eval (.Name x p) X.env) = eval (.Name x p) X.env := by rfl)
    (hk : ((backTo cpos (starEach (e :: es) X.env)).all (fun x => !x.1) && (backToKw cpos (keywordEach [] X.env)).all (fun x => x.1.isSome)
      && decide ((e :: es).length + ([] : List Keyword).length + (if ([] : List Keyword).isEmpty then 0 else 1) < 30)) = true := by rfl)
    (hline : (apos.endLine == cpos.line) = true := by rfl) (he : starEach (e :: es) X.env = (false, eval e X.env) :: starEach es X.env := by rfl) (hpl : (backTo cpos (starEach es X.env)).any (·.1) = false := by rfl) :
    DE X W (.Call (.Attribute (.Name x p) name apos) (e :: es) [] cpos) (dMth i os op) :=
  pe_of (pe_bm PySem.F.plainAttrs_list slot hty hm ho ha hbase hk hline he hpl) fun s H Q q => mth_ok q
theorem de_mth0 {i : Nat} {x name : Str} {id : String} {op : MO → List S → Option (D × MO)} {p apos cpos : Pos} (slot : Slot "list" name id) (hty : typeOf (.builtin id) = pure (.type "method_descriptor")) (hm : MtD X id op)
    (ho : PE X (.Name x p) (tVar i)) (hbase : attributeBase (.Name x p) name X.env (eval (.Name x p) X.env) = eval (.Name x p) X.env := by rfl) (hline : (apos.endLine == cpos.line) = true := by rfl) :
    DE X W (.Call (.Attribute (.Name x p) name apos) [] [] cpos) (dMth i [] op) :=
  pe_of (pe_bm0 PySem.F.plainAttrs_list slot hty hm ho hbase hline) fun s H Q q => mth_ok q
def mAppend : MO → List S → Option (D × MO)
  | .lst xs, [.d x] => if xs.length < 16777216 then some (.none, .lst (xs ++ [x])) else none
  | _, _ => none
theorem mt_app : MtD X "list.append" mAppend := by
  intro pins s σ H x vs v us Q I rx rv h
  obtain ⟨I', a, m, ss, d, m', g, rfl, na, mr, aa, e, q⟩ := h
  unfold mAppend at e
  split at e
  · rename_i xs y
    split at e
    · rename_i hl
      cases e
      cases aa with
      | cons a1 a2 =>
        cases a2
        obtain ⟨ws, h1, h2⟩ := mr
        rename_i yv
        refine mt_append pins s σ H _ _ v us Q I rx rv ⟨a, ws, yv, rfl, rfl, h1, by rw [dpa_len h2, sizeLine_eq]; exact hl, q .non _ .non ⟨_, upd_same, dpa_app h2 (.cons a1 .nil)⟩⟩
    · cases e
  · cases e
def mPop : MO → List S → Option (D × MO)
  | .lst xs, [] => (xs[xs.length - 1]?).map fun x => (x, .lst xs.dropLast)
  | _, _ => none
theorem mt_popL : MtD X "list.pop" mPop := by
  intro pins s σ H x vs v us Q I rx rv h
  obtain ⟨I', a, m, ss, d, m', g, rfl, na, mr, aa, e, q⟩ := h
  unfold mPop at e
  split at e
  · rename_i xs
    obtain ⟨y, e1, e2⟩ := Option.map_eq_some_iff.mp e
    cases e2
    cases aa
    obtain ⟨ws, h1, h2⟩ := mr
    obtain ⟨w, h3, h4⟩ := dpa_get' h2 e1
    exact mt_pop pins s σ H _ _ v us Q I rx rv ⟨a, ws, w, rfl, rfl, h1, by rw [dpa_len h2]; exact h3, q w _ h4 ⟨_, upd_same, dpa_dropLast h2⟩⟩
  · cases e
def mPopAt : MO → List S → Option (D × MO)
  | .lst xs, [.d (.int i)] => (ixN xs.length i).bind fun k => (xs[k]?).map fun x => (x, .lst (xs.eraseIdx k))
  | _, _ => none
theorem mt_popI : MtD X "list.pop" mPopAt := by
  intro pins s σ H x vs v us Q I rx rv h
  obtain ⟨I', a, m, ss, d, m', g, rfl, na, mr, aa, e, q⟩ := h
  unfold mPopAt at e
  split at e
  · rename_i xs i
    obtain ⟨k, e0, e⟩ := Option.bind_eq_some_iff.mp e
    obtain ⟨y, e1, e2⟩ := Option.map_eq_some_iff.mp e
    cases e2
    cases aa with
    | cons a1 a2 =>
      cases a2
      rename_i iv
      have a1 : Dp X.K I' iv (.int i) := a1
      cases a1
      obtain ⟨ws, h1, h2⟩ := mr
      obtain ⟨w, h3, h4⟩ := dpa_get' h2 e1
      obtain ⟨k1, k2, k3, k4⟩ := ixN_seq e0
      have hz := (I.lstM h1).1
      have hl := dpa_len h2
      have hs := sizeLine_eq
      exact mt_popAt pins s σ H _ _ v us Q I rx rv ⟨a, ws, i, k, w, rfl, rfl, h1, by omega, by omega, by rw [hl]; exact k1, h3, q w _ h4 ⟨_, upd_same, dpa_erase k h2⟩⟩
  · cases e
def mReverse : MO → List S → Option (D × MO)
  | .lst xs, [] => some (.none, .lst xs.reverse)
  | _, _ => none
theorem mt_rev : MtD X "list.reverse" mReverse := by
  intro pins s σ H x vs v us Q I rx rv h
  obtain ⟨I', a, m, ss, d, m', g, rfl, na, mr, aa, e, q⟩ := h
  unfold mReverse at e
  split at e
  · cases e
    cases aa
    obtain ⟨ws, h1, h2⟩ := mr
    exact mt_reverse pins s σ H _ _ v us Q I rx rv ⟨a, ws, rfl, rfl, h1, q .non _ .non ⟨_, upd_same, dpa_rev h2⟩⟩
  · cases e
/-! ### xs[k] = v -/
def sSetL (i : Nat) (k : EF D) (f : EF D) : SM := sx f fun d => sx (ev1 (.sl i)) fun _ => sx k fun kk => fun r => match kk with
  | .int j => (match r[i]? with
    | some (some (.own b (.lst xs))) => (match ixN xs.length j with
      | some n => some (.nx, r.set i (some (.own b (.lst (xs.set n d)))))
      | none => none)
    | _ => none)
  | _ => none
theorem tD_sx {K : KF} {mg : MG} {f : EF D} {k : D → SM} {D0 : Ends} {s : L2.St} {H : Hp} (h : tS K mg W (sx f k) D0 s H) {P : VK}
    (p : ∀ C I H' r r' o x v, Rel K C I H' r s → Dp K I v x → k x r = some (o, r') → SPost K mg W C D0 I o r' → P v H') : tD K mg W f s H P := by
  obtain ⟨C, I, r, o, r', R, e, q⟩ := h
  rcases sx_inv e with ⟨x, r1, hf, e⟩ | ⟨x, hf, rfl⟩
  · exact ⟨C, I, r, _, _, R, hf, fun v I' H' R' g t => p C I' H' r1 r' o x v R' t e (spost_up g q)⟩
  · exact ⟨C, I, r, _, _, R, hf, fun c dx I' H' R' g t => q c dx s I' H' R' g t⟩
theorem ds_setL {i : Nat} {x : Str} {p1 p2 : Pos} {ei ev : Expr} {k f : EF D} (ho : PE X (.Name x p1) (tVar i)) (hi : DD X W ei k) (hv : DD X W ev f)
    (hs : swapsWithSole [.Subscript (.Name x p1) ei p2] ev pos.line X.env = pure false := by rfl) (hw : swappedStores [.Subscript (.Name x p1) ei p2] ev X.env = pure none := by rfl)
    (h1 : (assignEach [.Subscript (.Name x p1) ei p2] X.env).map (·.2) = [assign (.Subscript (.Name x p1) ei p2) X.env] := by rfl)
    (ha : ∀ v, assign (.Subscript (.Name x p1) ei p2) X.env v = (do
      let ov ← holding [v] (eval (.Name x p1) X.env)
      let iv ← holding [v, ov] (eval ei X.env)
      standAt p2
      holding [v, ov, iv] (setItem ov iv v)
      release [v, ov, iv] []) := by intro _; rfl) : DS X W (.Assign [.Subscript (.Name x p1) ei p2] ev pos) (sSetL i k f) :=
  ps_of (ps_asg hv (pg_sub ho hi set_list ha) hs hw h1) fun D s H q => tD_sx q fun C I H' r r' o d v R t e q => by
    rcases sx_inv e with ⟨ov, r0, h0, e⟩ | ⟨x, h0, rfl⟩
    · have h0 : (match r[i]? with
        | some (some _) => some (DL.R.ok (Ov.sl i), r)
        | _ => none) = some (.ok ov, r0) := h0
      split at h0
      · rename_i y hr0
        cases h0
        obtain ⟨v0, hv0, _⟩ := R.slot i y hr0
        refine ⟨v0, hv0, ?_⟩
        rcases sx_inv e with ⟨kk, r1, hk, e⟩ | ⟨x, hk, rfl⟩
        · refine ⟨C, I, r, _, _, R, hk, fun iv I2 H2 R2 g2 t2 => ?_⟩
          cases kk with
          | int j =>
            dsimp only at e
            split at e
            · rename_i b xs hr
              split at e
              · rename_i n hn
                cases e
                cases t2
                obtain ⟨v2, hv2, z2⟩ := R2.slot i _ hr
                rw [hv0] at hv2
                cases hv2
                obtain ⟨a2, ea2, na, ⟨ws, h1, h2⟩, _⟩ := own_nz z2
                subst ea2
                refine ⟨a2, ws, j, n, rfl, rfl, h1, by rw [dpa_len h2]; exact hn, ?_⟩
                exact q s I2 _ (R2.mut hr hv0 ⟨_, upd_same, dpa_set (dp_up g2 _ _ t) n h2⟩) g2
              · cases e
            · cases e
          | _ => cases e
        · exact ⟨C, I, r, _, _, R, hk, fun c dx I' H' R' g t => q c dx s I' H' R' g t⟩
      · cases h0
    · have h0 : (match r[i]? with
        | some (some _) => some (DL.R.ok (Ov.sl i), r)
        | _ => none) = some (.ex x, r') := h0
      split at h0 <;> cases h0
end
end DL
namespace DL
open PySem L2
open PyProof.Rows (envOfC)
/-! ### the built-ins are not shadowed -/
structure Blt (mg : MG) : Prop where
  len : mg "len" = none
  isinstance : mg "isinstance" = none
  list : mg "list" = none
  tuple : mg "tuple" = none
  abs : mg "abs" = none
  all : mg "all" = none
  sum : mg "sum" = none
  max : mg "max" = none
  min : mg "min" = none
  int : mg "int" = none
  bool : mg "bool" = none
  str : mg "str" = none
  repr : mg "repr" = none
  sorted : mg "sorted" = none
  dict : mg "dict" = none
  set : mg "set" = none
  range : mg "range" = none
  enumerate : mg "enumerate" = none
  zip : mg "zip" = none
  reversed : mg "reversed" = none
section
variable {X : Cx} {W : WX} {pos : Pos}
theorem dd_gint' {x : Str} {i : Int} (hg : Gl X x) (hm : ∃ t, X.mg x = some (.int i t)) (hd : (x == ("__debug__" : Str)) = false := by decide) : DD X W (.Name x pos) (dC (.int i)) := by
  obtain ⟨t, hm⟩ := hm
  exact dd_gint hg hm hd
theorem dd_gstr' {x z : Str} (hg : Gl X x) (hm : ∃ t, X.mg x = some (.str z t)) (hd : (x == ("__debug__" : Str)) = false := by decide) : DD X W (.Name x pos) (dC (.str z)) := by
  obtain ⟨t, hm⟩ := hm
  exact dd_gstr hg hm hd
/-! ### texts compared -/
def sCmp (p : Str → Str → Bool) : List S → Option S
  | [.d (.str i), .d (.str j)] => some (.d (.bool (p i j)))
  | _ => none
theorem sCmp_of {f : Value → Value → Sem Value} {p : Str → Str → Bool} (h : OpR X f (fun x y H Q => ∃ i j, x = .str i ∧ y = .str j ∧ Q (.bl (p i j)) H)) : OpD X f (sCmp p) := by
  intro pins s σ H x y v u Q I rx ry h1
  obtain ⟨I', ss, z, g, q, e, k⟩ := h1
  unfold sCmp at e
  split at e
  · rename_i a b
    cases e
    obtain ⟨p1, p2, e2, a1, a2⟩ := aall2 q
    cases e2
    have a1 : Dp X.K I' x (.str a) := a1
    have a2 : Dp X.K I' y (.str b) := a2
    cases a1
    cases a2
    exact h pins s σ H _ _ v u Q I rx ry ⟨a, b, rfl, rfl, k _ I' H (Grow.refl g) (.bl _)⟩
  · cases e
def ltS (i j : Str) : Bool := decide (i.cps.toList < j.cps.toList)
def opLt0 (ss : List S) : Option S := (iCmp (fun i j => decide (i < j)) ss).or (sCmp ltS ss)
def opLe (ss : List S) : Option S := (iCmp (fun i j => decide (i ≤ j)) ss).or (sCmp (fun i j => !ltS j i) ss)
def opGt (ss : List S) : Option S := (iCmp (fun i j => decide (j < i)) ss).or (sCmp (fun i j => ltS j i) ss)
def opGe (ss : List S) : Option S := (iCmp (fun i j => decide (j ≤ i)) ss).or (sCmp (fun i j => !ltS i j) ss)
theorem ok_lt0 : OpD X (compareOp .Lt) opLt0 := ok_iLt.or (sCmp_of op_lt_str)
theorem ok_le : OpD X (compareOp .LtE) opLe := ok_iLe.or (sCmp_of op_le_str)
theorem ok_gt : OpD X (compareOp .Gt) opGt := ok_iGt.or (sCmp_of op_gt_str)
theorem ok_ge : OpD X (compareOp .GtE) opGe := ok_iGe.or (sCmp_of op_ge_str)
/-! ### a[i] -/
def opIx (ss : List S) : Option S := ixD ss
theorem de_item {a b : Expr} {oa ob : Od} (hu : X.A.units + 64 < cLine) (ha : DO X W a oa) (hb : DO X W b ob) (hs : PlainIx b) (hs2 : NoSl b) : DE X W (.Subscript a b pos) (dApp [oa, ob] opIx) := de_ix ok_ix ha hb hs
theorem de_in {a b : Expr} {oa ob : Od} (hu : X.A.units + 64 < cLine) (ha : DO X W a oa) (hb : DO X W b ob) (hm : behindInMarks .In b = false) : DE X W (.Compare a [.In] [b] pos) (dApp [oa, ob] opIn) := de_cmp (ok_opIn hu) ha hb hm
theorem de_notin {a b : Expr} {oa ob : Od} (hu : X.A.units + 64 < cLine) (ha : DO X W a oa) (hb : DO X W b ob) (hm : behindInMarks .NotIn b = false) : DE X W (.Compare a [.NotIn] [b] pos) (dApp [oa, ob] opNotIn) := de_cmp (ok_opNotIn hu) ha hb hm
theorem dt_in {a b : Expr} {oa ob : Od} (hu : X.A.units + 64 < cLine) (ha : DO X W a oa) (hb : DO X W b ob) (hm : behindInMarks .In b = false) : DT X W (.Compare a [.In] [b] pos) (cTst (dApp [oa, ob] opIn)) := dt_cmp (ok_opIn hu) ha hb hm
theorem dt_notin {a b : Expr} {oa ob : Od} (hu : X.A.units + 64 < cLine) (ha : DO X W a oa) (hb : DO X W b ob) (hm : behindInMarks .NotIn b = false) : DT X W (.Compare a [.NotIn] [b] pos) (cTst (dApp [oa, ob] opNotIn)) := dt_cmp (ok_opNotIn hu) ha hb hm
/-! ### a op b op c -/
def dChain (f g : List S → Option S) (oa ob oc : Od) : EF S := eb (ev1 oa) fun x => eb (ev1 ob) fun y => fun r => match getAll r [x, y] with
  | some ss => (match f ss with
    | some (.d (.bool true)) => eb (ev1 oc) (fun z => fun r => match getAll r [y, z] with
      | some ss => (match g ss with
        | some v => some (.ok v, r)
        | none => none)
      | none => none) r
    | some (.d (.bool false)) => some (.ok (.d (.bool false)), r)
    | _ => none)
  | none => none
theorem chain_ok {K : KF} {mg : MG} {f g : List S → Option S} {oa ob oc : Od} {s : L2.St} {H : Hp} {Q : VK} (h : tE K mg W (dChain f g oa ob oc) s H Q) :
    tChain (fun x y H Q => rApp K f [x, y] H Q) (fun x y H Q => rApp K g [x, y] H Q) (tOd K mg W oa) (tOd K mg W ob) (tOd K mg W oc) s H Q := by
  obtain ⟨C, I, r, o, r', R, e, q⟩ := h
  refine od_eb R e (fun x z => by subst z; exact q) fun v I1 H1 ov r1 R1 g1 ov1 e => ?_
  have q1 : ∀ x, o = .ex x → XPost K mg W C I1 r' s x := fun x z => by subst z; exact XPost.up g1 q
  refine od_eb R1 e q1 fun u I2 H2 ou r2 R2 g2 ov2 e => ?_
  have q2 : ∀ x, o = .ex x → XPost K mg W C I2 r' s x := fun x z => XPost.up g2 (q1 x z)
  split at e
  · rename_i ss hg
    have aa : OvAll K I2 s [v, u] [ov, ou] := .cons (ovRel_up g2 ov1) (.cons ov2 .nil)
    have ar := getAll_ok R2 aa hg
    split at e
    · rename_i hf
      refine ⟨I2, ss, _, R2.sub, ar, hf, fun w I3 H3 gr n => ?_⟩
      have n : Dp K I3 w (.bool true) := n
      cases n
      refine ⟨true, rfl, iteT ?_⟩
      have R3 := R2.grow gr
      have q3 : ∀ x, o = .ex x → XPost K mg W C I3 r' s x := fun x z => XPost.up gr.i (q2 x z)
      refine od_eb R3 e q3 fun w I4 H4 ow r4 R4 g4 ov4 e => ?_
      split at e
      · rename_i ss2 hg2
        have aa2 : OvAll K I4 s [u, w] [ou, ow] := .cons (ovRel_up g4 (ovRel_up gr.i ov2)) (.cons ov4 .nil)
        have ar2 := getAll_ok R4 aa2 hg2
        split at e
        · rename_i z hz
          cases e
          exact ⟨I4, ss2, z, R4.sub, ar2, hz, fun x I5 H5 gr5 n5 => q x I5 H5 (R4.grow gr5) ((((g1.trans g2).trans gr.i).trans g4).trans gr5.i) (R4.newS gr5 n5)⟩
        · cases e
      · cases e
    · rename_i hf
      cases e
      refine ⟨I2, ss, _, R2.sub, ar, hf, fun w I3 H3 gr n => ?_⟩
      have n : Dp K I3 w (.bool false) := n
      cases n
      exact ⟨false, rfl, iteF (q _ I3 H3 (R2.grow gr) ((g1.trans g2).trans gr.i) (.bl _))⟩
    · cases e
  · cases e
theorem de_chain {op op' : CmpOp} {f g : List S → Option S} {a b c : Expr} {oa ob oc : Od} (h1 : OpD X (compareOp op) f) (h2 : OpD X (compareOp op') g) (ha : DO X W a oa) (hb : DO X W b ob) (hc : DO X W c oc)
    (hm : lastMarks [op, op'] [b, c] = false := by with_unfolding_all rfl) : DE X W (.Compare a [op, op'] [b, c] pos) (dChain f g oa ob oc) :=
  pe_of (pe_chain h1 h2 ha hb hc hm) fun s H Q q => chain_ok q
theorem dt_chain {op op' : CmpOp} {f g : List S → Option S} {a b c : Expr} {oa ob oc : Od} (h1 : OpD X (compareOp op) f) (h2 : OpD X (compareOp op') g) (ha : DO X W a oa) (hb : DO X W b ob) (hc : DO X W c oc)
    (hm : lastMarks [op, op'] [b, c] = false := by with_unfolding_all rfl) : DT X W (.Compare a [op, op'] [b, c] pos) (cTst (dChain f g oa ob oc)) :=
  pt_of (pt_chain h1 h2 ha hb hc hm) fun s H Q ⟨C, I, r, o, r', R, e, q⟩ => by
    refine chain_ok (W := W) (mg := X.mg) ?_
    rcases eb_inv e with ⟨x, r1, hf, e⟩ | ⟨x, hf, rfl⟩
    · refine ⟨C, I, r, _, _, R, hf, fun v I' H' R' g t => ?_⟩
      cases x with
      | d x =>
        cases x with
        | bool b =>
          cases e
          have t : Dp X.K I' v (.bool b) := t
          cases t
          exact ⟨b, rfl, q I' H' R' g⟩
        | _ => cases e
      | _ => cases e
    · exact ⟨C, I, r, _, _, R, hf, q⟩
/-! ### a, b = e -/
def sUnp (t : Tg) (f : EF D) : SM := sx f fun d => fun r => match bindT t d r with
  | some r' => some (.nx, r')
  | none => none
theorem ds_unp {tg e : Expr} {t : Tg} {f : EF D} (hv : DD X W e f) (hg : DG X tg t) (hs : swapsWithSole [tg] e pos.line X.env = pure false := by rfl) (hw : swappedStores [tg] e X.env = pure none := by rfl)
    (h1 : (assignEach [tg] X.env).map (·.2) = [assign tg X.env] := by rfl) : DS X W (.Assign [tg] e pos) (sUnp t f) :=
  ps_of (ps_asg hv hg hs hw h1) fun D s H q => tD_sx q fun C I H' r r' o d v R p e q => by
    split at e
    · rename_i r1 hb
      cases e
      exact ⟨C, I, r, d, _, R, .inl p, hb, fun s' R' _ => q s' I H' R' (Same.refl I)⟩
    · cases e
def sSet (i : Nat) (k f : EF D) : SM := sSetL i k f
theorem ds_set {i : Nat} {x : Str} {p1 p2 : Pos} {ei ev : Expr} {k f : EF D} (hu : X.A.units + 64 < cLine) (ho : PE X (.Name x p1) (tVar i)) (hi : DD X W ei k) (hv : DD X W ev f)
    (hs : swapsWithSole [.Subscript (.Name x p1) ei p2] ev pos.line X.env = pure false := by rfl) (hw : swappedStores [.Subscript (.Name x p1) ei p2] ev X.env = pure none := by rfl)
    (h1 : (assignEach [.Subscript (.Name x p1) ei p2] X.env).map (·.2) = [assign (.Subscript (.Name x p1) ei p2) X.env] := by rfl)
    (ha : ∀ v, assign (.Subscript (.Name x p1) ei p2) X.env v = (do
      let ov ← holding [v] (eval (.Name x p1) X.env)
      let iv ← holding [v, ov] (eval ei X.env)
      standAt p2
      holding [v, ov, iv] (setItem ov iv v)
      release [v, ov, iv] []) := by intro _; rfl) : DS X W (.Assign [.Subscript (.Name x p1) ei p2] ev pos) (sSet i k f) := ds_setL ho hi hv hs hw h1 ha
end
end DL
namespace DL
open PySem L2
open PyProof.Rows (envOfC)
/-! ### repr, int, str -/
mutual
theorem nd_noDict : ∀ d : D, nd d = true → d.hasDict = false
  | .none, _ => by simp [PyData.hasDict]
  | .bool _, _ => by simp [PyData.hasDict]
  | .int _, _ => by simp [PyData.hasDict]
  | .str _, _ => by simp [PyData.hasDict]
  | .list xs, h => by simp only [PyData.hasDict]; exact nds_noDict xs (by simpa [nd] using h)
  | .tuple xs, h => by simp only [PyData.hasDict]; exact nds_noDict xs (by simpa [nd] using h)
  | .dict _, h => by simp [nd] at h
theorem nds_noDict : ∀ xs : List D, nds xs = true → PyData.hasDictAll xs = false
  | [], _ => by simp [PyData.hasDictAll]
  | x :: xs, h => by
    unfold nds at h
    rw [Bool.and_eq_true] at h
    simp only [PyData.hasDictAll, nd_noDict x h.1, nds_noDict xs h.2, Bool.or_self]
end
def reprD : List S → Option S
  | [p] => (datS p).bind fun d => if d.showable = true ∧ d.depth ≤ 60 ∧ d.shown.length ≤ 16777216 then some (.d (.str d.shown)) else none
  | _ => none
section
variable {X : Cx} {W : WX} {pos : Pos}
theorem ok_repr (hu : X.A.units + 64 < cLine) (hg : X.A.guards = some []) : CallD X (.builtin "repr") reprD := by
  intro pins s σ H xs us Q I r h
  obtain ⟨I', ss, z, g, p, e, q⟩ := h
  unfold reprD at e
  split at e
  · rename_i pp
    obtain ⟨d, e1, e2⟩ := Option.bind_eq_some_iff.mp e
    split at e2
    · rename_i hd
      cases e2
      cases p with
      | cons a1 a2 =>
        cases a2
        rename_i x
        have hx := datS_ok g a1 e1
        obtain ⟨u, rfl, ru⟩ := vals1 r
        have fin : ∀ h' t k, (∀ b o, s.heap.get? b = some o → h'.get? b = some o) → EP X pins σ Q (.str d.shown t) { s with heap := h', toks := k } := fun h' t k hk =>
          ⟨.str _, H, I.kept hk, ⟨t, rfl⟩, q _ I' H (Grow.refl g) (.str _)⟩
        have nd' := nd_noDict d (dp_nd _ _ hx)
        obtain ⟨as, rd⟩ := Dp.reads I d x u hx ru
        have hz : d.shown.length ≤ sizeLine := by rw [sizeLine_eq]; exact hd.2.2
        cases hx with
        | non =>
          cases ru
          refine PySem.P.repr_of_none ?_
          simp only [PyData.shown] at fin
          exact fin s.heap _ _ fun _ _ h => h
        | bl b =>
          cases ru
          refine PySem.P.repr_of_bool ?_
          have fin := fun h' t k hk => fin h' t k hk
          simp only [PyData.shown] at fin
          exact fin s.heap _ _ fun _ _ h => h
        | int i =>
          obtain ⟨t, rfl⟩ := ru
          refine PySem.P.repr_of_int (by simpa [PyData.showable] using hd.1) ?_
          simp only [PyData.shown] at fin
          exact fin s.heap _ _ fun _ _ h => h
        | str x =>
          obtain ⟨t, rfl⟩ := ru
          simp only [PyData.shown] at fin hz
          exact PySem.P.repr_of_str (fin s.heap _ _ fun _ _ h => h) hz
        | lst hs ha =>
          cases ru
          exact PySem.repr_of_reads' rd hd.1 (fun z => by rw [nd'] at z; cases z) hg (by omega) (fun _ _ h => h) (fun h' u tk hk => fin h' u tk hk) hz
        | tup hs ha =>
          cases ru
          exact PySem.repr_of_reads' rd hd.1 (fun z => by rw [nd'] at z; cases z) hg (by omega) (fun _ _ h => h) (fun h' u tk hk => fin h' u tk hk) hz
    · cases e2
  · cases e
theorem ok_int : CallD X (.type "int") intD := by
  intro pins s σ H xs us Q I r h
  obtain ⟨I', ss, z, g, p, e, q⟩ := h
  unfold intD at e
  split at e
  · rename_i i
    cases e
    cases p with
    | cons a1 a2 =>
      cases a2
      have a1 : Dp X.K I' _ (.int i) := a1
      cases a1
      exact call_int1 pins s σ H _ us Q I r (.inl ⟨i, rfl, q _ I' H (Grow.refl g) (.int _)⟩)
  · rename_i b
    cases e
    cases p with
    | cons a1 a2 =>
      cases a2
      have a1 : Dp X.K I' _ (.bool b) := a1
      cases a1
      exact call_int1 pins s σ H _ us Q I r (.inr ⟨b, rfl, q _ I' H (Grow.refl g) (.int _)⟩)
  · cases e
def strD : List S → Option S
  | [.d (.int i)] => if i.natAbs.log2 < 1920 then some (.d (.str (toString i))) else none
  | [.d (.str a)] => some (.d (.str a))
  | _ => none
theorem ok_str : CallD X (.type "str") strD := by
  intro pins s σ H xs us Q I r h
  obtain ⟨I', ss, z, g, p, e, q⟩ := h
  unfold strD at e
  split at e
  · rename_i i
    split at e
    · rename_i hl
      cases e
      cases p with
      | cons a1 a2 =>
        cases a2
        have a1 : Dp X.K I' _ (.int i) := a1
        cases a1
        exact call_str_int pins s σ H _ us Q I r ⟨i, rfl, hl, q _ I' H (Grow.refl g) (.str _)⟩
    · cases e
  · rename_i a
    cases e
    cases p with
    | cons a1 a2 =>
      cases a2
      have a1 : Dp X.K I' _ (.str a) := a1
      cases a1
      exact SkE.call_str_str pins s σ H _ us Q I r ⟨a, rfl, q _ I' H (Grow.refl g) (.str _)⟩
  · cases e
/-! ### methods of a text -/
def dStr (o : Od) (ods : List Od) (op : Str → List S → Option S) : EF S := eb (ev1 o) fun ov r => match ov.get r with
  | some (.d (.str a)) => dApp ods (op a) r
  | _ => none
abbrev MtS (X : Cx) (id : String) (op : Str → List S → Option S) : Prop := MtR X id fun x xs H Q => ∃ a, x = .str a ∧ rApp X.K (op a) xs H Q
theorem de_str1 {id : String} {name : Str} {o e : Expr} {oo oe : Od} {op : Str → List S → Option S} {apos : Pos} (slot : Slot "str" name id) (ty : typeOf (.builtin id) = pure (.type "method_descriptor")) (rule : MtS X id op) (ho : DO X W o oo) (he : DO X W e oe)
    (hs : starEach [e] X.env = [(false, eval e X.env)] := by rfl) (hbase : attributeBase o name X.env (eval o X.env) = eval o X.env := by rfl) (hline : (apos.endLine == pos.line) = true := by rfl) :
    DE X W (.Call (.Attribute o name apos) [e] [] pos) (dStr oo [oe] op) :=
  pe_of (pe_m1 slot ty rule ho he hs hbase hline) fun s H Q ⟨C, I, r, o, r', R, e, q⟩ => by
    refine od_eb R e (fun x z => by subst z; exact q) fun v I1 H1 ov r1 R1 g1 ov1 e => ?_
    split at e
    · rename_i a ha
      have ar := get_ok R1 ov1 ha
      have ar : Dp X.K I1 v (.str a) := ar
      cases ar
      refine ⟨⟨a, rfl⟩, ?_⟩
      have z : tE X.K X.mg W (dApp [oe] (op a)) s H1 Q := by
        refine ⟨C, I1, r1, o, r', R1, e, ?_⟩
        cases o with
        | ok x => exact fun v I' H' R' g t => q v I' H' R' (g1.trans g) t
        | ex x => exact fun c dx I' H' R' g t => q c dx I' H' R' (g1.trans g) t
      have z2 := app_ok (ods := [oe]) z
      have hc : tCons (tOd X.K X.mg W oe) tNil s H1 (fun vs H2 => rApp X.K (op a) vs H2 Q) := z2
      have : (tOd X.K X.mg W oe) s H1 fun y H2 => ∃ a', V.str a = .str a' ∧ rApp X.K (op a') [y] H2 Q := by
        refine (?_ : (tOd X.K X.mg W oe) s H1 fun y H2 => ∃ a', V.str a = .str a' ∧ rApp X.K (op a') [y] H2 Q)
        have hc : (tOd X.K X.mg W oe) s H1 fun y H2 => rApp X.K (op a) [y] H2 Q := hc
        cases oe with
        | sl i =>
          obtain ⟨w, h1, h2⟩ := hc
          exact ⟨w, h1, a, rfl, h2⟩
        | ex f =>
          obtain ⟨C, I, r, o, r', R, e, q⟩ := hc
          refine ⟨C, I, r, o, r', R, e, ?_⟩
          cases o with
          | ok x => exact fun v I' H' R' g t => ⟨a, rfl, q v I' H' R' g t⟩
          | ex x => exact q
      exact this
    · cases e
def joinO (a : Str) : List S → Option S
  | [p] => ((seqS p).bind strsD).bind fun ys => if (ys.map (·.length)).sum + ys.length * a.length ≤ 16777216 then some (.d (.str (Txt.join a ys))) else none
  | _ => none
theorem mt_joinD : MtS X "str.join" joinO := by
  intro pins s σ H x xs v us Q I rx rs h
  obtain ⟨a, rfl, I', ss, z, g, p, e, q⟩ := h
  unfold joinO at e
  split at e
  · rename_i pp
    obtain ⟨ys, e1, e2⟩ := Option.bind_eq_some_iff.mp e
    obtain ⟨zs, e3, e4⟩ := Option.bind_eq_some_iff.mp e1
    split at e2
    · rename_i hz
      cases e2
      cases p with
      | cons a1 a2 =>
        cases a2
        obtain ⟨b, vs, rfl, hq, da⟩ := seqS_ok g a1 e3
        rw [strsD_ok e4 da] at hq
        exact mt_join pins s σ H _ _ v us Q I rx rs ⟨a, b, ys, rfl, rfl, hq, hz, q _ I' H (Grow.refl g) (.str _)⟩
    · cases e2
  · cases e
def joinD := dStr
theorem de_join {o e : Expr} {oo oe : Od} {apos : Pos} (ho : DO X W o oo) (he : DO X W e oe) (hs : starEach [e] X.env = [(false, eval e X.env)] := by rfl) (hbase : attributeBase o "join" X.env (eval o X.env) = eval o X.env := by rfl) (hline : (apos.endLine == pos.line) = true := by rfl) :
    DE X W (.Call (.Attribute o "join" apos) [e] [] pos) (dStr oo [oe] joinO) := de_str1 F.slot_str_join F.type_str_join mt_joinD ho he hs hbase hline
/-! ### a text times a number -/
def sMul : List S → Option S
  | [.d (.str a), .d (.int n)] => if a.length ≤ 1000 ∧ n ≤ 1000 ∧ -1000 ≤ n then some (.d (.str (Txt.mul a n))) else none
  | _ => none
theorem ok_sMul : OpD X (binaryOp .Mult) sMul := by
  intro pins s σ H x y v u Q I rx ry h1
  obtain ⟨I', ss, z, g, p, e, q⟩ := h1
  unfold sMul at e
  split at e
  · rename_i a n
    split at e
    · rename_i hl
      cases e
      obtain ⟨p1, p2, e2, a1, a2⟩ := aall2 p
      cases e2
      have a1 : Dp X.K I' x (.str a) := a1
      have a2 : Dp X.K I' y (.int n) := a2
      cases a1
      cases a2
      obtain ⟨t, rfl⟩ := rx
      obtain ⟨t2, rfl⟩ := ry
      refine PySem.SB.mul ⟨?_, fun h1 h2 => ?_, fun h1 h2 => ?_⟩ fun t' k => ⟨.str _, H, I.tok _, ⟨t', rfl⟩, q _ I' H (Grow.refl g) (.str _)⟩
      · rw [decide_eq_false (by omega), decide_eq_false (by omega)]
        rfl
      · have : (1000 : Int) ≤ (2 ^ 63 - 1) / n := (Int.le_ediv_iff_mul_le (by omega)).mpr (by omega)
        omega
      · unfold Builtin.Str.tooLong
        rw [sizeLine_eq]
        have : a.length * n.toNat ≤ 1000 * 1000 := Nat.mul_le_mul hl.1 (by omega)
        exact decide_eq_false (by omega)
    · cases e
  · cases e
def opMul (ss : List S) : Option S := (iMul ss).or (sMul ss)
theorem ok_mul : OpD X (binaryOp .Mult) opMul := ok_iMul.or ok_sMul
end
end DL
/-! DLp: sorted. -/
namespace DLp
open PySem PySem.W PySem.Calls PyProof.Rows
section
variable {prog : Program} {w : World} {A : Around} {E : Value → Shared → Prop} {s : Shared}
/-- a tuple's items, collected into a list that is dropped -/
theorem tup_items {l : Addr} {vs : List Value} {Q : List Value → Shared → Prop} (hl : IsTup s.heap l vs.toArray) (hz : vs.length ≤ sizeLine)
    (q : Q vs { s with heap := (s.heap.push (seqObj "list" #[] 0)).update s.heap.objs.size (Obj.mapSeq (· ++ vs.toArray)) }) : wpAny (model prog w) A (collect (.ref l)) Q E s := by
  obtain ⟨o, ho, hc, n, hd⟩ := hl
  have blank : (s.heap.push (seqObj "list" #[] 0)).get? s.heap.objs.size = some { cls := .type "list", data := .seq #[] 0 } := Heap.get?_push_size _ rfl
  have full := Heap.get?_update_self (Obj.mapSeq (· ++ vs.toArray)) blank rfl
  obtain ⟨h2, e2⟩ : ∃ h2, h2 = (s.heap.push (seqObj "list" #[] 0)).update s.heap.objs.size (Obj.mapSeq (· ++ vs.toArray)) := ⟨_, rfl⟩
  have last : wpAny (model prog w) A (load s.heap.objs.size >>= fun o => match o.data with
      | .seq xs _ => pure xs.toList
      | _ => unsupported "internal:collect") Q E { s with heap := h2 } := by
    refine wpAny_bind (wpAny_load (by rw [e2]; exact full) (wpAny_pure ?_))
    show Q ((#[] : Array Value) ++ vs.toArray).toList _
    simpa [e2] using q
  have grow := wpAny_extend_seq (prog := prog) (w := w) (A := A) (R := fun r s' => r = .ok (.ret (.ref s.heap.objs.size)) ∧ s' = { s with heap := h2 }) (s := { s with heap := s.heap.push (seqObj "list" #[] 0) }) s.heap.objs.size l (.ref s.heap.objs.size) 0 (.inr rfl) blank (Heap.get?_push_of_some _ ho) hc hd
    ⟨rfl, by rw [e2]⟩ (by simpa using hz)
  unfold collect
  refine wpAny_bind (wpAny_runValue (codeAny_builtin F.entry_proto_collect ?_))
  rw [Around.under_plainId F.plain_proto_collect _]
  refine wpAny_bind (m := newList []) (wpAny_newObj_type (wpAny_pure ⟨plainId_quiet F.plain_list_iadd _, codeAny_builtin F.entry_list_iadd ?_⟩))
  rw [Around.under_plainId F.plain_list_iadd _]
  refine wpAny_mono grow (fun f s' h => ?_) fun e s' h => absurd h.1 (by simp)
  cases f with
  | done r =>
    obtain ⟨e, rfl⟩ := h
    cases e
    exact last
  | again c =>
    refine ⟨h.1, codeAny_mono h.2 fun r s3 hr => ?_⟩
    obtain ⟨rfl, rfl⟩ := hr
    exact last
/-- sorted of a tuple: list.sort of a copy of its items -/
theorem sorted_of_tup {l : Addr} {vs : List Value} {kw : List (Str × Value)} {Q : Value → Shared → Prop} (hl : IsTup s.heap l vs.toArray) (hL : vs.length ≤ sizeLine) (ha1 : argsOk "sorted" ⟨[.ref l], kw⟩) (ha2 : ∀ x, argsOk "list.sort" ⟨[.ref x], kw⟩)
    (body : ∀ E' : Value → Shared → Prop, wpAny (model prog w) A.in1.in1 (Builtin.«list.sort» ⟨[.ref (s.heap.objs.size + 1)], kw⟩) (fun f s' => f = .done (.ret .none) ∧ Q (.ref (s.heap.objs.size + 1)) s') E' { s with heap := copyHeap s.heap vs }) : wpAny (model prog w) A (call (.builtin "sorted") [.ref l] kw) Q E s := by
  have size : ((s.heap.push (seqObj "list" #[] 0)).update s.heap.objs.size (Obj.mapSeq (· ++ vs.toArray))).objs.size = s.heap.objs.size + 1 := (Heap.size_update ..).trans (size_push' ..)
  have sorts : ∀ {E' : Value → Shared → Prop}, wpAny (model prog w) A.in1 (call (.builtin "list.sort") [.ref (s.heap.objs.size + 1)] kw) (fun _ s' => Q (.ref (s.heap.objs.size + 1)) s') E' { s with heap := copyHeap s.heap vs } := fun {E'} =>
    wpAny_call_entry_kw slot_list_sort ⟨_, copyHeap_at s.heap vs, rfl⟩ entry_list_sort (wpAny_mono (body E') (fun f s' h => ⟨.none, h.1, h.2⟩) fun _ _ e => e) (ha2 _)
  have rest : ∀ {E' : Value → Shared → Prop}, wpAny (model prog w) A.in1 (newList vs) (fun v s' => v = .ref (s.heap.objs.size + 1) ∧ s' = { s with heap := copyHeap s.heap vs }) E' { s with heap := (s.heap.push (seqObj "list" #[] 0)).update s.heap.objs.size (Obj.mapSeq (· ++ vs.toArray)) } := fun {E'} =>
    wpAny_newList ⟨congrArg Value.ref size, rfl⟩ hL
  refine call_function_entry_kw kind_sorted plain_sorted entry_sorted ha1 ?_
  unfold Builtin.«sorted»
  refine wpAny_bind (m := checkCount "sorted" 1 1 _) (wpAny_pure (wpAny_bind (tup_items hl hL (wpAny_bind (wpAny_mono rest (fun v s' h => ?_) fun _ _ e => e)))))
  obtain ⟨rfl, rfl⟩ := h
  exact wpAny_bind (wpAny_holding (wpAny_mono sorts (fun _ s' h => wpAny_pure ⟨_, rfl, h⟩) fun _ _ e => e))
theorem sorted_tup {κ : KeyKind} {l : Addr} {vs : List Value} {Q : Value → Shared → Prop} (hl : IsTup s.heap l vs.toArray) (S : SortsAt prog w A.in1.in1 { s with heap := sortingHeap (copyHeap s.heap vs) (s.heap.objs.size + 1) vs } κ vs) (hL : vs.length ≤ sizeLine)
    (h : Q (.ref (s.heap.objs.size + 1)) { s with heap := sortedAll s.heap vs (sortVals κ false vs vs).toArray }) : wpAny (model prog w) A (call (.builtin "sorted") [.ref l]) Q E s :=
  sorted_of_tup hl hL (args_sorted1 _) (fun _ => args_list_sort _) fun _ => list_sort_vals (s := { s with heap := copyHeap s.heap vs }) (copyHeap_at s.heap vs) S hL ⟨rfl, h⟩
theorem sorted_tup_data {β : Type} {vs : List Value} {bs : List β} {enc : β → PyData} {R : Value → β → Prop} {l : Addr} {Q : Value → Shared → Prop} (hl : IsTup s.heap l vs.toArray) (e : EachIs R vs bs) (er : EachIs (fun v b => ∃ as, Reads s.heap v (enc b) as) vs bs) (hal : AllAlike (bs.map enc)) (hk : Sortable (bs.map enc)) (hL : bs.length ≤ sizeLine)
    (hu : ∀ b, b ∈ bs → A.units + 2 + (enc b).depth < cLine) (h : ∀ out, out.length = bs.length → EachIs R out (bs.mergeSort (dataLe false enc)) → Q (.ref (s.heap.objs.size + 1)) { s with heap := sortedAll s.heap vs (List.toArray out) }) :
    wpAny (model prog w) A (call (.builtin "sorted") [.ref l]) Q E s := by
  have er' : EachIs (fun v b => ∃ as, Reads (sortingHeap (copyHeap s.heap vs) (s.heap.objs.size + 1) vs) v (enc b) as) vs bs := er.mono fun _ _ ⟨as, r⟩ => ⟨as, PyProof.Rows.Reads.keeps (fun _ _ => sorting_copy_old) r⟩
  refine sorted_tup hl (SortsAt.data (s := { s with heap := sortingHeap (copyHeap s.heap vs) (s.heap.objs.size + 1) vs }) (each_map (R := fun v d => ∃ as, Reads (sortingHeap (copyHeap s.heap vs) (s.heap.objs.size + 1) vs) v d as) enc er') hal hk (bound_map hu)) (by rw [e.length]; exact hL) ?_
  exact h _ (by rw [sortVals_length false rfl]; exact e.length) (sortVals_data false e er' hal)
end
end DLp
namespace DL
open PySem L2
def isTupN : D → Bool
  | .tuple (_ :: _) => true
  | _ => false
def isOth : D → Bool
  | .none => false
  | .tuple _ => false
  | _ => true
def alikeB (xs : List D) : Bool := xs.all fun d => xs.all fun e => PySem.W.alike d e
def srtB (xs : List D) : Bool := (xs.all isTupN) || (xs.all isOth)
def srt (xs : List D) : List D := xs.mergeSort (PySem.W.dataLe false id)
def sortD : List S → Option S
  | [p] => (seqS p).bind fun xs => if alikeB xs = true ∧ srtB xs = true ∧ PyData.depthAll xs ≤ 60 then some (.own false (.lst (srt xs))) else none
  | _ => none
theorem depthAll_mem : ∀ {xs : List D} {d : D}, d ∈ xs → d.depth ≤ PyData.depthAll xs
  | x :: xs, d, h => by
    simp only [PyData.depthAll]
    rcases List.mem_cons.mp h with rfl | h
    · exact Nat.le_max_left _ _
    · exact Nat.le_trans (depthAll_mem h) (Nat.le_max_right _ _)
theorem alikeB_ok {xs : List D} (h : alikeB xs = true) : PySem.W.AllAlike xs := fun d hd e he => by
  unfold alikeB at h
  rw [List.all_eq_true] at h
  have := h d hd
  rw [List.all_eq_true] at this
  exact this e he
theorem srtB_ok {xs : List D} (h : srtB xs = true) : PySem.W.Sortable xs := by
  unfold srtB at h
  rw [Bool.or_eq_true, List.all_eq_true, List.all_eq_true] at h
  rcases h with h | h
  · refine .inl fun d hd => ?_
    have := h d hd
    unfold isTupN at this
    split at this
    · exact ⟨_, _, rfl⟩
    · cases this
  · refine .inr fun d hd => ?_
    have := h d hd
    unfold isOth at this
    split at this
    · cases this
    · cases this
    · rename_i h1 h2
      exact ⟨fun e => h1 e, fun xs e => h2 xs e⟩
section
variable {K : KF} {I : Hp}
def SR (K : KF) (I : Hp) : Value → V × D → Prop := fun u z => RelV z.1 u ∧ Dp K I z.1 z.2
theorem sr_each : ∀ {vs : List V} {us : List Value} {xs : List D}, Vals vs us → DpAll K I vs xs → PySem.W.EachIs (SR K I) us (vs.zip xs)
  | _, _, _, .nil, .nil => .nil
  | _, _, _, .cons r rs, .cons d ds => .cons ⟨r, d⟩ (sr_each rs ds)
theorem sr_reads {h : Heap} : ∀ {vs : List V} {us : List Value} {xs : List D} {as : List Addr}, vs.length = us.length → ReadsAll h us xs as → PySem.W.EachIs (fun u (z : V × D) => ∃ as, Reads h u z.2 as) us (vs.zip xs)
  | [], [], _, _, _, .nil => .nil
  | v :: vs, _, _, _, e, .cons r rs => .cons ⟨_, r⟩ (sr_reads (by simpa using e) rs)
theorem sr_back : ∀ {us : List Value} {zs : List (V × D)}, PySem.W.EachIs (SR K I) us zs → Vals (zs.map (·.1)) us ∧ DpAll K I (zs.map (·.1)) (zs.map (·.2))
  | _, _, .nil => ⟨.nil, .nil⟩
  | _, _, .cons ⟨h1, h2⟩ t => ⟨.cons h1 (sr_back t).1, .cons h2 (sr_back t).2⟩
end
section
variable {X : Cx}
theorem ok_sorted (hu : X.A.units + 64 < cLine) : CallD X (.builtin "sorted") sortD := by
  intro pins s σ H xs us Q I r h
  obtain ⟨I', ss, z, g, p, e, q⟩ := h
  unfold sortD at e
  split at e
  · rename_i pp
    obtain ⟨ys, e1, e2⟩ := Option.bind_eq_some_iff.mp e
    split at e2
    · rename_i hc
      cases e2
      cases p with
      | cons a1 a2 =>
        cases a2
        obtain ⟨a, vs, rfl, hq, da⟩ := seqS_ok g a1 e1
        obtain rfl := Vals.ref1 r
        have da' : DpAll X.K H vs ys := dpa_up g _ _ da
        have hl := dpa_len da
        have hm : (vs.zip ys).map (·.2) = ys := by rw [List.map_snd_zip (by omega)]
        have hal : PySem.W.AllAlike ((vs.zip ys).map (·.2)) := by rw [hm]; exact alikeB_ok hc.1
        have hsk : PySem.W.Sortable ((vs.zip ys).map (·.2)) := by rw [hm]; exact srtB_ok hc.2.1
        have hdp : ∀ b, b ∈ vs.zip ys → X.A.units + 2 + (b.2).depth < cLine := fun b hb => by
          have := depthAll_mem (xs := ys) (d := b.2) (List.of_mem_zip hb).2
          omega
        have hsort : ((vs.zip ys).mergeSort (PySem.W.dataLe false (·.2))).map (·.2) = srt ys := by
          unfold srt
          have e := List.map_mergeSort (r := PySem.W.dataLe false (β := V × D) (·.2)) (s := PySem.W.dataLe false id) (f := fun z : V × D => z.2) (l := vs.zip ys) fun a _ b _ => rfl
          rw [hm] at e
          exact e
        have fin : ∀ (its : List Value) (hz : vs.length ≤ sizeLine) (out : List Value), out.length = (vs.zip ys).length → PySem.W.EachIs (SR X.K I') out ((vs.zip ys).mergeSort (PySem.W.dataLe false (·.2))) →
            EP X pins σ Q (.ref (s.heap.objs.size + 1)) { s with heap := PyProof.Rows.sortedAll s.heap its (List.toArray out) } := fun its hz out ho eo => by
          obtain ⟨hv, hd⟩ := sr_back eo
          rw [hsort] at hd
          obtain ⟨c, hc2⟩ := PyProof.Rows.sortedAll_at s.heap its out.toArray
          have hfr : H (s.heap.objs.size + 1) = none := I.hok.fresh (Nat.le_succ _)
          have hzl : (((vs.zip ys).mergeSort (PySem.W.dataLe false (·.2))).map (·.1)).length ≤ sizeLine := by
            rw [hv.length, ho, List.length_zip]
            omega
          have J := I.laid (t' := s.toks) (a := s.heap.objs.size + 1) (o := .lst (((vs.zip ys).mergeSort (PySem.W.dataLe false (·.2))).map (·.1))) (h' := PyProof.Rows.sortedAll s.heap its out.toArray) (fun b o q => PyProof.Rows.sortedAll_old q) (Nat.le_succ _) ⟨hzl, out, c, hv, hc2⟩
          have gr := grow_own (o := .lst (((vs.zip ys).mergeSort (PySem.W.dataLe false (·.2))).map (·.1))) g hfr
          exact ⟨.ref _, _, J, rfl, q _ _ _ gr ⟨_, rfl, hfr, g.free hfr, _, upd_same, hd⟩⟩
        rcases hq with hq | hq
        · obtain ⟨its, rv, pl, hz⟩ := I.list hq
          obtain ⟨as, ra⟩ := Dp.readsAll I ys vs its da' rv
          exact PySem.W.sorted_data pl.isList (sr_each rv da) (sr_reads rv.length ra) hal hsk (by rw [List.length_zip]; omega) hdp (fin its hz)
        · obtain ⟨its, rv, pl, hz⟩ := I.tuple hq
          obtain ⟨as, ra⟩ := Dp.readsAll I ys vs its da' rv
          exact DLp.sorted_tup_data pl (sr_each rv da) (sr_reads rv.length ra) hal hsk (by rw [List.length_zip]; omega) hdp (fin its hz)
    · cases e2
  · cases e
end
end DL
/-! DLq: the key (t[2], t[0], t[1]), and sorted by it. -/
namespace DL
open PySem L2
open PyProof.Rows (envOfC IsTup)
section
variable {P : Program} {w : World} {K : KF} {x qual p : Str} {st : Stmt} {f : Addr} {fd : FuncData} {N : List Str} {p1 p2 p3 q1 q2 q3 r1 r2 r3 pt pr : Pos} {j1 j2 j3 k : Nat}
/-- the body (t[2], t[0], t[1]) -/
def isRank (p : Str) (b : List Stmt) : Prop := ∃ p1 p2 p3 q1 q2 q3 r1 r2 r3 pt pr j1 j2 j3 k, b = [.Return (some (.Tuple [.Subscript (.Name p p1) (.Constant (.int 2) j1 p2) p3, .Subscript (.Name p q1) (.Constant (.int 0) j2 q2) q3, .Subscript (.Name p r1) (.Constant (.int 1) j3 r2) r3] k pt)) pr]
theorem sub_at {A : Around} {env : PySem.Env} {E : Value → Shared → Prop} {s : Shared} {m : Str → Option Value} {a : Addr} {its : List Value} {u : Value} {i : Nat} {Q : Value → Shared → Prop} (hk : env.scope.kind = .function) (hl : env.kindOf p = some .local) (hn : s.heap.Ns env.locals m) (hv : m p = some (.ref a))
    (ht : IsTup s.heap a its.toArray) (h8 : its.length = 3) (hi : its[i]? = some u) (h : ∀ t, Q u { s with toks := t }) (hd : (p == ("__debug__" : Str)) = false) :
    wpAny (model P w) A (eval (.Subscript (.Name p p1) (.Constant (.int (i : Int)) j1 p2) p3) env) Q E s := by
  have hi3 : i < 3 := by rw [← h8]; exact (List.getElem?_eq_some_iff.mp hi).1
  refine PyProof.Rows.Subscript_ (wpAny_Name (wpAny_loadName_local hk hl hn hv ?_) hd)
  refine wpAny_Constant_int ?_
  have ht' : IsTup ({ s with toks := s.toks + 1 } : Shared).heap a its.toArray := ht
  refine PyProof.Rows.subscriptTail_builtinR (x := u) ht'.typeIs PyProof.Rows.slot_tuple_getitem.lookup (PyProof.Rows.getItem_tuple (j := i) (Q := fun r s' => r = u ∧ Q r s') ht' (by omega) (by omega) ?_ (by simpa using hi) ⟨rfl, h _⟩) (by with_unfolding_all rfl)
  rw [List.size_toArray, h8]
  rcases (by omega : i = 0 ∨ i = 1 ∨ i = 2) with rfl | rfl | rfl <;> decide
theorem rank_pure {A : Around} {E : Value → Shared → Prop} {s : Shared} {v : Value} {xa xb : Str} {l : Int} {as : List Addr} {ps : List Str} (F : Fun K x qual st f fd) (S : FnScope N ps (defScope st)) (hb : isRank p (defBody st)) (hl : (defScope st).names.lookup p = some .local)
    (hc : ∀ y ∈ (defScope st).names, y.2 ≠ .cell) (hd : (p == ("__debug__" : Str)) = false) (hbind : ∀ (s : Shared) (u : Value), BindsTo s fd ⟨[u], []⟩ [(p, u)]) (KX : K.In s.heap) (lim : s.heap.NoLimit) (hdep : A.depth < recursionLimit)
    (r : Reads s.heap v (.tuple [.str xa, .str xb, .int l]) as) : wpAny (model P w) A (call (.ref f) [v]) (PySem.W.KeyPure (.tuple [.int l, .str xa, .str xb]) s) E s := by
  obtain ⟨oc, od, kV, doc, pm, an, cdv, ct, osl, rfl, lk, hcd⟩ := F.ex
  obtain ⟨p1, p2, p3, q1, q2, q3, r1, r2, r3, pt, pr, j1, j2, j3, k, hb⟩ := hb
  cases r with
  | @tuple a o vs n _ _ h1 h2 h3 h4 =>
    generalize hvs : vs.toList = its at h4
    cases h4 with
    | cons ra h4 =>
      cases ra with
      | str _ t1 =>
        cases h4 with
        | cons rb h4 =>
          cases rb with
          | str _ t2 =>
            cases h4 with
            | cons rl h4 =>
              cases rl with
              | int _ t3 =>
                cases h4
                refine wpAny_call (codeAny_call_function hdep (KX _ _ lk) rfl S.co S.gen rfl (PySem.W.codeRec_of KX hcd) (hbind _ _ _ _ _ _ ?_))
                have hkind : ∀ y ∈ [(p, Value.ref a)], (defScope st).names.lookup y.1 = some .local ∨ ((defScope st).names.lookup y.1 = some .cell ∧ ((cellsFrom (s.heap.objs.size + 1) (defScope st).names []).lookup y.1).isSome = true) := fun y hy => by
                  simp at hy
                  subst hy
                  exact .inl hl
                refine wpAny_newFunctionEnv_cells S.kind hkind fun env he s1 x => ?_
                subst he
                refine ⟨lim.keeps x.toInCall.keep, codeAny_func ?_⟩
                rw [hb]
                obtain ⟨h', tk, rfl, keep⟩ := x.done
                have ns := x.toInCall.ns
                have e3 : ∀ env : PySem.Env, starEach [.Subscript (.Name p p1) (.Constant (.int 2) j1 p2) p3, .Subscript (.Name p q1) (.Constant (.int 0) j2 q2) q3, .Subscript (.Name p r1) (.Constant (.int 1) j3 r2) r3] env = (false, eval (.Subscript (.Name p p1) (.Constant (.int 2) j1 p2) p3) env) :: starEach [.Subscript (.Name p q1) (.Constant (.int 0) j2 q2) q3, .Subscript (.Name p r1) (.Constant (.int 1) j3 r2) r3] env := fun _ => rfl
                have e2 : ∀ env : PySem.Env, starEach [.Subscript (.Name p q1) (.Constant (.int 0) j2 q2) q3, .Subscript (.Name p r1) (.Constant (.int 1) j3 r2) r3] env = (false, eval (.Subscript (.Name p q1) (.Constant (.int 0) j2 q2) q3) env) :: starEach [.Subscript (.Name p r1) (.Constant (.int 1) j3 r2) r3] env := fun _ => rfl
                have e1 : ∀ env : PySem.Env, starEach [.Subscript (.Name p r1) (.Constant (.int 1) j3 r2) r3] env = (false, eval (.Subscript (.Name p r1) (.Constant (.int 1) j3 r2) r3) env) :: starEach [] env := fun _ => rfl
                have body : ∀ (env : PySem.Env) (m : Str → Option Value) (A : Around) (E : Value → Shared → Prop) (Q : Flow → Shared → Prop), env.scope.kind = .function → env.kindOf p = some .local → h'.Ns env.locals m → m p = some (.ref a) →
                    (∀ h2 t, (∀ b o, s.heap.get? b = some o → h2.get? b = some o) → ∀ c, Reads h2 (.ref c) (.tuple [.int l, .str xa, .str xb]) [] → Q (.ret (.ref c)) { s with heap := h2, toks := t }) →
                    wpAny (model P w) A (execs [.Return (some (.Tuple [.Subscript (.Name p p1) (.Constant (.int 2) j1 p2) p3, .Subscript (.Name p q1) (.Constant (.int 0) j2 q2) q3, .Subscript (.Name p r1) (.Constant (.int 1) j3 r2) r3] k pt)) pr] env) Q E { s with heap := h', toks := tk } := by
                  intro env m A E Q hk hko hn hv hQ
                  have ht : ∀ t, IsTup ({ s with heap := h', toks := t } : Shared).heap a [Value.str xa t1, .str xb t2, .int l t3].toArray := fun t => ⟨o, keep a o h1, h2, n, by rw [h3, ← hvs]⟩
                  refine wpAny_execs_cons (wpAny_Return_some (wpAny_Tuple_spliced ?_))
                  rw [e3]
                  show wpAny _ _ (spliced ((false, eval _ env) :: backTo pt (starEach _ env))) _ _ _
                  refine Calls.spliced_cons (sub_at (i := 2) hk hko hn hv (ht _) rfl rfl (fun u1 => ?_) hd)
                  rw [e2]
                  show wpAny _ _ (spliced ((false, eval _ env) :: backTo pt (starEach _ env))) _ _ _
                  refine Calls.spliced_cons (sub_at (i := 0) hk hko hn hv (ht _) rfl rfl (fun u2 => ?_) hd)
                  rw [e1]
                  show wpAny _ _ (spliced ((false, eval _ env) :: backTo pt (starEach _ env))) _ _ _
                  refine Calls.spliced_cons (sub_at (i := 1) hk hko hn hv (ht _) rfl rfl (fun u3 => ?_) hd)
                  refine Calls.spliced_nil ⟨by rw [sizeLine_eq]; simp, ?_⟩
                  refine hQ _ _ (fun b o q => Heap.get?_push_of_some _ (keep b o q)) _ ?_
                  exact .tuple (Heap.get?_push_size _ rfl) rfl rfl (.cons (.int _ _) (.cons (.str _ _) (.cons (.str _ _) .nil)))
                refine body _ _ _ _ _ S.kind hl ns ?_ fun h2 t kp c rd => ?_
                · show (if (defScope st).names.lookup p = some .local then fun y => if y = p then some (Value.ref a) else none else fun _ => none) p = some (.ref a)
                  rw [if_pos hl]
                  exact if_pos rfl
                · exact ⟨h2, t, rfl, kp, rd⟩
end
end DL
namespace DLp
open PySem PySem.W PySem.Calls PyProof.Rows
/-- sorted(t, key=f) of a tuple -/
theorem sorted_key_tup {prog : Program} {w : World} {A : Around} {E : Value → Shared → Prop} {s : Shared} {β : Type} {vs : List Value} {bs : List β} {R : Value → β → Prop} {l : Addr} {f : Value} {kw : List (Str × Value)} {b : Bool} {Q : Value → Shared → Prop} (k : β → PyData) (hl : IsTup s.heap l vs.toArray) (e : EachIs R vs bs)
    (hal : AllAlike (bs.map k)) (hk : Sortable (bs.map k)) (hL : bs.length ≤ sizeLine) (hu : ∀ x, x ∈ bs → A.units + 2 + (k x).depth < cLine) (ha1 : argsOk "sorted" ⟨[.ref l], kw⟩) (ha2 : ∀ x, argsOk "list.sort" ⟨[.ref x], kw⟩) (ht : ∀ x, Builtin.«list.sort» ⟨[.ref x], kw⟩ = ksk_tree x f b)
    (turn : ∀ (v : Value) (x : β), R v x → x ∈ bs → ∀ (h : Heap) (tk : Nat), (∀ b o, s.heap.get? b = some o → h.get? b = some o) → wpAny (model prog w) A.in1.in1 (call f [v]) (KeyPure (k x) { s with heap := h, toks := tk }) (fun _ _ => False) { s with heap := h, toks := tk })
    (h : ∀ out c h' tk, (∀ b o, s.heap.get? b = some o → h'.get? b = some o) → h'.get? (s.heap.objs.size + 1) = some (seqObj "list" (List.toArray out) c) → out.length = bs.length → EachIs R out (bs.mergeSort (dataLe b k)) → Q (.ref (s.heap.objs.size + 1)) { s with heap := h', toks := tk }) :
    wpAny (model prog w) A (call (.builtin "sorted") [.ref l] kw) Q E s := by
  have up : ∀ {g : Heap}, KeepsBut (s.heap.objs.size + 1) (copyHeap s.heap vs) g → ∀ b o, s.heap.get? b = some o → g.get? b = some o := fun {g} kp b o q => kp b o (Nat.ne_of_lt (Nat.lt_succ_of_lt (Heap.lt_size q))) (copyHeap_old q)
  have hv : vs.length ≤ sizeLine := by rw [e.length]; exact hL
  have hz : (bs.map k).length = vs.length := by rw [List.length_map]; exact e.length.symm
  refine sorted_of_tup hl hv ha1 ha2 fun E' => ?_
  rw [ht]
  exact keyH_tree (kz := bs.map k) (s := { s with heap := copyHeap s.heap vs }) (copyHeap_at s.heap vs) hz hv hal hk (bound_map (A := A.in1.in1) hu) (keyH_turns (s := { s with heap := copyHeap s.heap vs }) e fun v x hR hx g tk kp => turn v x hR hx g tk (up kp))
    fun h' tk out c kp hD ko => ⟨rfl, h out c h' tk (up kp) hD ((ko.length hz).trans e.length) (keyedOut_each k ko e)⟩
end DLp
namespace DL
open PySem L2
/-- a def of the key -/
def RankC (K : KF) (mg : MG) (x : Str) : Prop := ∃ (f : Addr) (fd : FuncData) (st : Stmt) (qual p : Str) (N ps : List Str), Fun K x qual st f fd ∧ FnScope N ps (defScope st) ∧ isRank p (defBody st) ∧ (defScope st).names.lookup p = some .local ∧ (∀ y ∈ (defScope st).names, y.2 ≠ .cell) ∧ (p == ("__debug__" : Str)) = false ∧
  (∀ (s : Shared) (u : Value), BindsTo s fd ⟨[u], []⟩ [(p, u)]) ∧ mg x = some (.ref f)
def isTie : D → Bool
  | .tuple [.str _, .str _, .int _] => true
  | _ => false
def keyD : D → D
  | .tuple [a, b, c] => .tuple [c, a, b]
  | d => d
def srtK (xs : List D) : List D := xs.mergeSort (PySem.W.dataLe false keyD)
def sortKD : List S → Option S
  | [p] => (seqS p).bind fun xs => if xs.all isTie = true then some (.own false (.lst (srtK xs))) else none
  | _ => none
theorem isTie_ok {d : D} (h : isTie d = true) : ∃ a b l, d = .tuple [.str a, .str b, .int l] := by
  unfold isTie at h
  split at h
  · exact ⟨_, _, _, rfl⟩
  · cases h
section
variable {X : Cx} {W : WX}
theorem cr_sortK {f : Addr} {fd : FuncData} {st : Stmt} {x qual p : Str} {N ps : List Str} (hu : X.A.units + 64 < cLine) (hdep : X.A.depth < recursionLimit) (F : Fun X.K x qual st f fd) (S : FnScope N ps (defScope st)) (hb : isRank p (defBody st)) (hl : (defScope st).names.lookup p = some .local)
    (hcl : ∀ y ∈ (defScope st).names, y.2 ≠ .cell) (hd : (p == ("__debug__" : Str)) = false) (hbind : ∀ (s : Shared) (u : Value), BindsTo s fd ⟨[u], []⟩ [(p, u)]) :
    CallRK X (.builtin "sorted") [Str.ofString "key"] fun vs zs H Q => zs = [.ref f] ∧ rApp X.K sortKD vs H Q := by
  intro pins s σ H xs zs us ws Q I r rz h
  obtain ⟨rfl, I', ss, z, g, p', e, q⟩ := h
  obtain rfl := Vals.ref1 rz
  unfold sortKD at e
  split at e
  · rename_i pp
    obtain ⟨ys, e1, e2⟩ := Option.bind_eq_some_iff.mp e
    split at e2
    · rename_i hc
      cases e2
      cases p' with
      | cons a1 a2 =>
        cases a2
        obtain ⟨a, vs, rfl, hq, da⟩ := seqS_ok g a1 e1
        obtain rfl := Vals.ref1 r
        have da' : DpAll X.K H vs ys := dpa_up g _ _ da
        have hl' := dpa_len da
        rw [List.all_eq_true] at hc
        have mem : ∀ b, b ∈ vs.zip ys → ∃ a c l, b.2 = .tuple [.str a, .str c, .int l] := fun b hb => isTie_ok (hc _ (List.of_mem_zip hb).2)
        have hm : (vs.zip ys).map (·.2) = ys := by rw [List.map_snd_zip (by omega)]
        have hal : PySem.W.AllAlike ((vs.zip ys).map fun z => keyD z.2) := by
          intro d hd e he
          obtain ⟨b, hb, rfl⟩ := List.mem_map.mp hd
          obtain ⟨b', hb', rfl⟩ := List.mem_map.mp he
          obtain ⟨a1, c1, l1, h1⟩ := mem b hb
          obtain ⟨a2, c2, l2, h2⟩ := mem b' hb'
          rw [h1, h2]
          simp [keyD, PySem.W.alike, PySem.W.alikeAll]
        have hsk : PySem.W.Sortable ((vs.zip ys).map fun z => keyD z.2) := .inl fun d hd => by
          obtain ⟨b, hb, rfl⟩ := List.mem_map.mp hd
          obtain ⟨a1, c1, l1, h1⟩ := mem b hb
          rw [h1]
          exact ⟨_, _, rfl⟩
        have hdp : ∀ b, b ∈ vs.zip ys → X.A.units + 2 + (keyD b.2).depth < cLine := fun b hb => by
          obtain ⟨a1, c1, l1, h1⟩ := mem b hb
          rw [h1]
          simp only [keyD, PyData.depth, PyData.depthAll]
          omega
        have hsort : ((vs.zip ys).mergeSort (PySem.W.dataLe false fun z => keyD z.2)).map (·.2) = srtK ys := by
          unfold srtK
          have e := List.map_mergeSort (r := PySem.W.dataLe false (β := V × D) fun z => keyD z.2) (s := PySem.W.dataLe false keyD) (f := fun z : V × D => z.2) (l := vs.zip ys) fun a _ b _ => rfl
          rw [hm] at e
          exact e
        have turn : ∀ (v : Value) (x : V × D), SR X.K I' v x → x ∈ vs.zip ys → ∀ (h : Heap) (tk : Nat), (∀ b o, s.heap.get? b = some o → h.get? b = some o) →
            wpAny (model X.prog X.w) X.A.in1.in1 (call (.ref f) [v]) (PySem.W.KeyPure (keyD x.2) { s with heap := h, toks := tk }) (fun _ _ => False) { s with heap := h, toks := tk } := fun v x hR hx h tk kp => by
          obtain ⟨a1, c1, l1, h1⟩ := mem x hx
          obtain ⟨hr, hdd⟩ := hR
          obtain ⟨as, rd⟩ := Dp.reads I x.2 x.1 v (dp_up g _ _ hdd) hr
          rw [h1] at rd ⊢
          exact rank_pure F S hb hl hcl hd hbind (I.kIn.keeps kp) (I.nolimit.keeps kp) hdep (PyProof.Rows.Reads.keeps kp rd)
        have fin : ∀ (hz : vs.length ≤ sizeLine) (out : List Value) (c : Nat) (h' : Heap) (tk : Nat), (∀ b o, s.heap.get? b = some o → h'.get? b = some o) → h'.get? (s.heap.objs.size + 1) = some (PyProof.Rows.seqObj "list" (List.toArray out) c) → out.length = (vs.zip ys).length →
            PySem.W.EachIs (SR X.K I') out ((vs.zip ys).mergeSort (PySem.W.dataLe false fun z => keyD z.2)) → EP X pins σ Q (.ref (s.heap.objs.size + 1)) { s with heap := h', toks := tk } := fun hz out c h' tk kp hget ho eo => by
          obtain ⟨hv, hdd⟩ := sr_back eo
          rw [hsort] at hdd
          have hfr : H (s.heap.objs.size + 1) = none := I.hok.fresh (Nat.le_succ _)
          have hzl : (((vs.zip ys).mergeSort (PySem.W.dataLe false fun z => keyD z.2)).map (·.1)).length ≤ sizeLine := by
            rw [hv.length, ho, List.length_zip]
            omega
          have J := I.laid (t' := tk) (a := s.heap.objs.size + 1) (o := .lst (((vs.zip ys).mergeSort (PySem.W.dataLe false fun z => keyD z.2)).map (·.1))) (h' := h') kp (Nat.le_succ _) ⟨hzl, out, c, hv, hget⟩
          have gr := grow_own (o := .lst (((vs.zip ys).mergeSort (PySem.W.dataLe false fun z => keyD z.2)).map (·.1))) g hfr
          exact ⟨.ref _, _, J, rfl, q _ _ _ gr ⟨_, rfl, hfr, g.free hfr, _, upd_same, hdd⟩⟩
        rcases hq with hq | hq
        · obtain ⟨its, rv, pl, hz⟩ := I.list hq
          exact PySem.W.sorted_key_data (b := false) (fun z : V × D => keyD z.2) pl.isList (sr_each rv da) hal hsk (by rw [List.length_zip]; omega) hdp (PyProof.Rows.ksk_s1 _ _) (fun _ => PyProof.Rows.ksk_l1 _ _) (fun _ => PyProof.Rows.ksk_t1 _ _) turn (fun out c h' tk kp _ hD ho eo => fin hz out c h' tk kp hD ho eo)
        · obtain ⟨its, rv, pl, hz⟩ := I.tuple hq
          exact DLp.sorted_key_tup (b := false) (fun z : V × D => keyD z.2) pl (sr_each rv da) hal hsk (by rw [List.length_zip]; omega) hdp (PyProof.Rows.ksk_s1 _ _) (fun _ => PyProof.Rows.ksk_l1 _ _) (fun _ => PyProof.Rows.ksk_t1 _ _) turn (fun out c h' tk kp hD ho eo => fin hz out c h' tk kp hD ho eo)
    · cases e2
  · cases e
theorem de_sortK {k : Nat} {x : Str} {e : Expr} {oe : Od} {p1 p2 pos kpos : Pos} (hr : Room k X.A) (R : RankC X.K X.mg x) (hu : X.A.units + 64 < cLine) (hg : Gl X "sorted") (hm : X.mg "sorted" = none) (hgx : Gl X x) (ha : DA X W [e] [oe]) (hdb : (x == ("__debug__" : Str)) = false := by decide)
    (he : backTo pos (starEach [e] X.env) = (false, eval e X.env) :: backTo pos (starEach [] X.env) := by rfl) (hpl : (backTo pos (starEach [e] X.env)).any (·.1) = false := by rfl)
    (hall : (backToKw pos (keywordEach [⟨some "key", .Name x p2, kpos⟩] X.env)).all (·.1.isSome) = true := by rfl) (hnone : (backToKw pos (keywordEach [⟨some "key", .Name x p2, kpos⟩] X.env)).any (·.1.isNone) = false := by rfl) (hks : (backToKw pos (keywordEach [⟨some "key", .Name x p2, kpos⟩] X.env)).filterMap (·.1) = [Str.ofString "key"] := by rfl) :
    DE X W (.Call (.Name "sorted" p1) [e] [⟨some "key", .Name x p2, kpos⟩] pos) (dApp [oe] sortKD) := by
  obtain ⟨f, fd, st, qual, p, N, ps, F, S, hb, hl, hcl, hd, hbind, hmx⟩ := R
  refine pe_of (pe_callBK (cr_sortK hu (by have := hr.dp; omega) F S hb hl hcl hd hbind) hg hm (by decide +kernel) ha (pk_cons (pe_glob (v := .ref f) hgx hmx rfl hdb) pk_nil) (by decide) (by decide) he hpl hall hnone hks) fun s H Q q => ?_
  have z : tOds X.K X.mg W [oe] s H fun vs H1 => [V.ref f] = [V.ref f] ∧ rApp X.K sortKD vs H1 Q := app_gen (ods := [oe]) q fun C I r vs ss x H' R a e q => ⟨rfl, I, ss, x, R.sub, a, e, q⟩
  exact z
end
end DL
/-! DLr: insert, remove, tuples compared. -/
namespace DL
open PySem L2
section
variable {X : Cx} {W : WX}
def mInsert : MO → List S → Option (D × MO)
  | .lst xs, [.d (.int i), .d y] => if xs.length < 16777216 ∧ 0 ≤ i ∧ i < 2 ^ 62 then some (.none, .lst (xs.take i.toNat ++ y :: xs.drop i.toNat)) else none
  | _, _ => none
theorem mt_ins : MtD X "list.insert" mInsert := by
  intro pins s σ H x vs v us Q I rx rv h
  obtain ⟨I', a, m, ss, d, m', g, rfl, na, mr, aa, e, q⟩ := h
  unfold mInsert at e
  split at e
  · rename_i xs i y
    split at e
    · rename_i hl
      cases e
      cases aa with
      | cons a1 a2 =>
        cases a2 with
        | cons a2 a3 =>
          cases a3
          rename_i iv yv
          have a1 : Dp X.K I' iv (.int i) := a1
          cases a1
          obtain ⟨ws, h1, h2⟩ := mr
          refine mt_insert pins s σ H _ _ v us Q I rx rv ⟨a, ws, i, yv, rfl, rfl, h1, by rw [dpa_len h2, sizeLine_eq]; exact hl.1, hl.2.1, by have := hl.2.2; omega, q .non _ .non ⟨_, upd_same, ?_⟩⟩
          have := dpa_ins a2 i.toNat h2
          rw [List.append_assoc]
          exact this
    · cases e
  · cases e
mutual
theorem nd_plain : ∀ d : D, nd d = true → d.plain = true
  | .none, _ => by simp [PyData.plain]
  | .bool _, _ => by simp [PyData.plain]
  | .int _, _ => by simp [PyData.plain]
  | .str _, _ => by simp [PyData.plain]
  | .list xs, h => by simp only [PyData.plain]; exact nds_plain xs (by simpa [nd] using h)
  | .tuple xs, h => by simp only [PyData.plain]; exact nds_plain xs (by simpa [nd] using h)
  | .dict _, h => by simp [nd] at h
theorem nds_plain : ∀ xs : List D, nds xs = true → PyData.plainAll xs = true
  | [], _ => by simp [PyData.plainAll]
  | x :: xs, h => by
    unfold nds at h
    rw [Bool.and_eq_true] at h
    simp only [PyData.plainAll, nd_plain x h.1, nds_plain xs h.2, Bool.and_self]
end
def mRemove : MO → List S → Option (D × MO)
  | .lst xs, [.d y] => if y.depth ≤ 60 then (PySem.SeqAt.dataPlace xs y).map fun j => (.none, .lst (xs.eraseIdx j)) else none
  | _, _ => none
theorem mt_rem (hu : X.A.units + 64 < cLine) : MtD X "list.remove" mRemove := by
  intro pins s σ H x vs v us Q I rx rv h
  obtain ⟨I', a, m, ss, d, m', g, rfl, na, mr, aa, e, q⟩ := h
  unfold mRemove at e
  split at e
  · rename_i xs y
    split at e
    · rename_i hl
      obtain ⟨j, e1, e2⟩ := Option.map_eq_some_iff.mp e
      cases e2
      cases aa with
      | cons a1 a2 =>
        cases a2
        rename_i yv
        obtain ⟨ws, h1, h2⟩ := mr
        cases rx
        obtain ⟨u, rfl, ru⟩ := vals1 rv
        obtain ⟨z, its, n, r, hlen, eo⟩ := I.lstM h1
        have dy : Dp X.K H yv y := dp_up g _ _ a1
        have dx : DpAll X.K H ws xs := dpa_up g _ _ h2
        obtain ⟨bs, rd⟩ := Dp.reads I y yv u dy ru
        obtain ⟨as, ra⟩ := Dp.readsAll I xs ws its dx r
        refine PySem.SeqAt.remove_list_data (vs := its.toArray) ⟨_, eo, rfl, n, rfl⟩ ra rd (nds_plain xs (dpa_nd _ _ dx)) (nd_plain y (dp_nd _ _ dy)) (by
          have := Nat.min_le_right (PyData.depthAll xs) y.depth
          omega) e1 (by rw [List.size_toArray]; omega) ?_
        refine ⟨.non, _, I.lset (its' := its.eraseIdx j) (t' := s.toks) h1 eo ?_ (r.eraseIdx j) ?_, rfl, q .non _ .non ⟨_, upd_same, dpa_erase j h2⟩⟩
        · show its.toArray.eraseIdxIfInBounds j = (its.eraseIdx j).toArray
          rw [List.eraseIdxIfInBounds_toArray]
        · have := len_erase ws j
          omega
    · cases e
  · cases e
/-- t < u, of alike tuples -/
def tLt : List S → Option S
  | [.d (.tuple xs), .d (.tuple ys)] => if PySem.W.alike (.tuple xs) (.tuple ys) = true ∧ PyData.depthAll xs ≤ 60 then some (.d (.bool (PySem.W.dataLt (.tuple xs) (.tuple ys)))) else none
  | _ => none
theorem ok_tLt (hu : X.A.units + 64 < cLine) : OpD X (compareOp .Lt) tLt := by
  intro pins s σ H x y v u Q I rx ry h1
  obtain ⟨I', ss, z, g, p, e, q⟩ := h1
  unfold tLt at e
  split at e
  · rename_i xs ys
    split at e
    · rename_i hc
      cases e
      obtain ⟨p1, p2, e2, a1, a2⟩ := aall2 p
      cases e2
      have a1 : Dp X.K I' x (.tuple xs) := a1
      have a2 : Dp X.K I' y (.tuple ys) := a2
      obtain ⟨as, r1⟩ := Dp.reads I _ x v (dp_up g _ _ a1) rx
      obtain ⟨bs, r2⟩ := Dp.reads I _ y u (dp_up g _ _ a2) ry
      have hd : X.A.units + min (PyData.tuple xs).depth (PyData.tuple ys).depth < cLine := by
        have : (PyData.tuple xs).depth ≤ 61 := by simp only [PyData.depth]; omega
        have := Nat.min_le_left (PyData.tuple xs).depth (PyData.tuple ys).depth
        omega
      have k := PySem.W.rcLt_alike _ _ X.A s v u as bs r1 r2 hc.1 (by simp) hd
      exact k X.prog X.w X.xe (EP X pins σ Q) ⟨.bl _, H, I, rfl, q _ I' H (Grow.refl g) (.bl _)⟩
    · cases e
  · cases e
def opLt (ss : List S) : Option S := (opLt0 ss).or (tLt ss)
theorem ok_lt (hu : X.A.units + 64 < cLine) : OpD X (compareOp .Lt) opLt := ok_lt0.or (ok_tLt hu)
/-! ### isinstance(x, (t, u)) -/
def isiD2 (t u : Ty) : List S → Option S
  | [p] => (datS p).map fun d => .d (.bool (isTy t d || isTy u d))
  | _ => none
theorem kit_any2 {K : KF} (t u : Ty) (d : D) (h : nd d = true) : PySem.W.kitAny K (.type (tyN d)) [.type t.name, .type u.name] = some (isTy t d || isTy u d) := by
  refine kitAny_cons (kit_ty (kit_all t d h)) (fun e => ?_) fun e => by rw [e]; rfl
  rw [e, Bool.false_or]
  exact kitAny_cons (kit_ty (kit_all u d h)) (fun e => by rw [e]; exact kitAny_nil) fun e => e
theorem de_isi2 {t u : Ty} {x y : Str} {a : Expr} {oa : Od} {k : Nat} {p p3 p4 p5 pos : Pos} (hg : Gl X "isinstance") (hm : X.mg "isinstance" = none) (hg2 : Gl X x) (hm2 : X.mg x = none) (hv : bootBuiltins x = some (.type t.name)) (hg3 : Gl X y) (hm3 : X.mg y = none) (hv3 : bootBuiltins y = some (.type u.name)) (ha : DO X W a oa)
    (hn : x ≠ "__name__" := by decide) (hd : (x == ("__debug__" : Str)) = false := by decide) (hn3 : y ≠ "__name__" := by decide) (hd3 : (y == ("__debug__" : Str)) = false := by decide)
    (he : starEach [a, .Tuple [.Name x p3, .Name y p4] k p5] X.env = (false, eval a X.env) :: starEach [.Tuple [.Name x p3, .Name y p4] k p5] X.env := by rfl) (he2 : starEach [.Tuple [.Name x p3, .Name y p4] k p5] X.env = [(false, eval (.Tuple [.Name x p3, .Name y p4] k p5) X.env)] := by rfl)
    (he3 : starEach [.Name x p3, .Name y p4] X.env = (false, eval (.Name x p3) X.env) :: starEach [.Name y p4] X.env := by rfl) (he4 : starEach [.Name y p4] X.env = [(false, eval (.Name y p4) X.env)] := by rfl)
    (hpl : (backTo pos (starEach [.Tuple [.Name x p3, .Name y p4] k p5] X.env)).any (·.1) = false := by rfl) :
    DE X W (.Call (.Name "isinstance" p) [a, .Tuple [.Name x p3, .Name y p4] k p5] [] pos) (dApp [oa] (isiD2 t u)) :=
  pe_of (pe_callB call_isiT hg hm (by decide +kernel) (pa_cons ha (pa_cons (pe_tup (pa_cons (pe_bltn (v := .ty t.name) hg2 hm2 hv rfl hn hd) (pa_cons (pe_bltn (v := .ty u.name) hg3 hm3 hv3 rfl hn3 hd3) pa_nil he4) he3)) pa_nil he2) he) (by decide) (by decide) he hpl) fun s H Q q => by
    have z : tOds X.K X.mg W [oa] s H fun vs H1 => (2 ≤ sizeLine) ∧ ∀ p, H1 p = none → rIsiT X.K (vs ++ [V.ref p]) (upd H1 p (.tup [.ty t.name, .ty u.name])) Q := app_gen (ods := [oa]) q fun C I r vs ss x H' R a e q => by
      unfold isiD2 at e
      split at e
      · obtain ⟨d, e1, e2⟩ := Option.map_eq_some_iff.mp e
        subst e2
        cases a with
        | cons a1 a2 =>
          cases a2
          have hd := datS_ok R.sub a1 e1
          refine ⟨by rw [sizeLine_eq]; decide, fun p hp => ?_⟩
          have gr := grow_own (o := .tup [.ty t.name, .ty u.name]) R.sub hp
          exact ⟨_, p, _, _, _, _, rfl, upd_same, .cons (.ty _) (.cons (.ty _) .nil), tyX_of (dp_up gr.h _ _ hd), kit_any2 t u d (dp_nd _ _ hd), q _ _ _ gr (.bl _)⟩
      · cases e
    exact z
end
end DL
/-! DLs: one's own list is walked. -/
namespace DL
open PySem L2
def Cn.lock (C : Cn) (i : Nat) (a : Addr) (o : HO) : Cn := { C with H0 := upd C.H0 a o, io := fun j => if C.io j = some a then none else C.io j, bo := fun c => C.bo c ∧ c ≠ a, lk := fun j => if j = i then some a else C.lk j }
section
variable {K : KF} {mg : MG} {W : WX} {C : Cn} {I H : Hp} {r : Env} {s : L2.St} {i : Nat} {b : Bool} {xs : List D}
theorem lock_io {a : Addr} {o : HO} {j : Nat} {c : Addr} (h : (C.lock i a o).io j = some c) : C.io j = some c ∧ c ≠ a := by
  have h : (if C.io j = some a then none else C.io j) = some c := h
  split at h
  · cases h
  · rename_i n
    exact ⟨h, fun e => n (by rw [h, e])⟩
theorem lock_io' {a : Addr} {o : HO} {j : Nat} {c : Addr} (h : C.io j = some c) (n : c ≠ a) : (C.lock i a o).io j = some c := by
  show (if C.io j = some a then none else C.io j) = some c
  rw [if_neg (by rw [h]; exact fun e => n (Option.some.inj e))]
  exact h
theorem Rel.lock (R : Rel K C I H r s) (h : r[i]? = some (some (.own b (.lst xs)))) : ∃ a vs, s[i]? = some (some (.ref a)) ∧ H a = some (.lst vs) ∧ DpAll K I vs xs ∧ I a = none ∧ ((b = true ∧ C.io i = some a) ∨ (b = false ∧ C.H0 a = none)) ∧
    Rel K (C.lock i a (.lst vs)) I H (r.set i (some (.lck (.lst xs)))) s := by
  obtain ⟨v, hv, z⟩ := R.slot i _ h
  obtain ⟨a, e, n, ⟨vs, ha, p⟩, w⟩ := own_nz z
  subst e
  have hi : i < r.length := (List.getElem?_eq_some_iff.mp h).1
  have back : ∀ {j : Nat} {y : S}, (r.set i (some (.lck (.lst xs))))[j]? = some (some y) → (j = i ∧ y = .lck (.lst xs)) ∨ (j ≠ i ∧ r[j]? = some (some y)) := fun {j y} q => by
    by_cases hj : j = i
    · subst hj
      rw [List.getElem?_set_self hi] at q
      cases q
      exact .inl ⟨rfl, rfl⟩
    · rw [List.getElem?_set_ne (Ne.symm hj)] at q
      exact .inr ⟨hj, q⟩
  have up : ∀ {c : Addr}, c ≠ a → upd C.H0 a (.lst vs) c = C.H0 c := fun {c} hc => upd_ne hc
  refine ⟨a, vs, hv, ha, p, n, w, ⟨by rw [List.length_set]; exact R.len, R.sub, R.mono, fun c u e k => ?_, fun c e => ?_, fun c e => ?_, fun j c e => ?_, fun j c e => ?_, fun c e1 e2 => ?_, fun j y q => ?_, fun j k b1 c1 m1 n1 a1 ne q1 q2 => ?_, R.tz⟩⟩
  · have e : upd C.H0 a (.lst vs) c = some u := e
    by_cases hc : c = a
    · subst hc
      rw [upd_same] at e
      cases e
      exact ha
    · rw [up hc] at e
      exact R.keep c u e fun j hj => k j (lock_io' hj hc)
  · have hc : c ≠ a := by
      rintro rfl
      rw [ha] at e
      cases e
    show upd C.H0 a (.lst vs) c = none
    rw [up hc]
    exact R.dom c e
  · show upd C.H0 a (.lst vs) c ≠ none
    rw [up e.2]
    exact R.bo c e.1
  · obtain ⟨e1, e2⟩ := lock_io e
    show upd C.H0 a (.lst vs) c ≠ none
    rw [up e2]
    exact R.iot j c e1
  · have e : (if j = i then some a else C.lk j) = some c := e
    split at e
    · cases e
      refine ⟨?_, fun k hk => (lock_io hk).2 rfl⟩
      show upd C.H0 a (.lst vs) a ≠ none
      rw [upd_same]
      exact fun z => by cases z
    · obtain ⟨l1, l2⟩ := R.lkt j c e
      refine ⟨?_, fun k hk => l2 k (lock_io hk).1⟩
      show upd C.H0 a (.lst vs) c ≠ none
      by_cases hc : c = a
      · subst hc
        rw [upd_same]
        exact fun z => by cases z
      · rw [up hc]
        exact l1
  · by_cases hc : c = a
    · rw [hc]
      exact n
    · have e2 : upd C.H0 a (.lst vs) c ≠ none := e2
      rw [up hc] at e2
      exact R.fresh c e1 e2
  · rcases back q with ⟨rfl, rfl⟩ | ⟨hj, q⟩
    · exact ⟨_, hv, a, rfl, if_pos rfl, n, vs, ha, p⟩
    · obtain ⟨u, hu, z2⟩ := R.slot j y q
      refine ⟨u, hu, ?_⟩
      cases y with
      | d y => exact z2
      | bor m =>
        obtain ⟨c, e, bo, k, mm⟩ := z2
        have hc : c ≠ a := by
          rintro rfl
          rcases w with ⟨_, w⟩ | ⟨_, w⟩
          · exact k i w
          · exact R.bo _ bo w
        exact ⟨c, e, ⟨bo, hc⟩, fun j' hj' => k j' (lock_io hj').1, mrel_up (Same.refl _) (up hc) mm⟩
      | lck m =>
        obtain ⟨c, e, l, k, mm⟩ := z2
        exact ⟨c, e, (if_neg hj).trans l, k, mm⟩
      | own b1 m =>
        obtain ⟨c, e, k, mm, w1⟩ := own_nz z2
        subst e
        have hc : c ≠ a := by
          rintro rfl
          exact R.dist j i _ _ _ _ _ hj q h hu hv
        refine own_mk rfl k mm ?_
        rcases w1 with ⟨e1, w1⟩ | ⟨e1, w1⟩
        · exact .inl ⟨e1, lock_io' w1 hc⟩
        · exact .inr ⟨e1, (up hc).trans w1⟩
  · rcases back q1 with ⟨_, z⟩ | ⟨_, q1⟩
    · cases z
    · rcases back q2 with ⟨_, z⟩ | ⟨_, q2⟩
      · cases z
      · exact R.dist j k _ _ _ _ _ ne q1 q2
theorem Rel.unlock {a : Addr} {vs : List V} {m : MO} {I' H' : Hp} {r' : Env} {s' : L2.St} (R0 : Rel K C I H r s) (n0 : I a = none) (w : (b = true ∧ C.io i = some a) ∨ (b = false ∧ C.H0 a = none)) (R : Rel K (C.lock i a (.lst vs)) I' H' r' s') (h : r'[i]? = some (some (.lck m))) :
    Rel K C I' H' (r'.set i (some (.own b m))) s' := by
  have hi : i < r'.length := (List.getElem?_eq_some_iff.mp h).1
  obtain ⟨v, hv, a2, e2, l2, n2, mm⟩ := R.slot i _ h
  have ea : a2 = a := by
    have l2 : (if i = i then some a else C.lk i) = some a2 := l2
    rw [if_pos rfl] at l2
    exact (Option.some.inj l2).symm
  subst ea
  subst e2
  have up : ∀ {c : Addr}, c ≠ a2 → (C.lock i a2 (.lst vs)).H0 c = C.H0 c := fun {c} hc => upd_ne hc
  have at' : (C.lock i a2 (.lst vs)).H0 a2 = some (.lst vs) := upd_same
  have back : ∀ {j : Nat} {y : S}, (r'.set i (some (.own b m)))[j]? = some (some y) → (j = i ∧ y = .own b m) ∨ (j ≠ i ∧ r'[j]? = some (some y)) := fun {j y} q => by
    by_cases hj : j = i
    · subst hj
      rw [List.getElem?_set_self hi] at q
      cases q
      exact .inl ⟨rfl, rfl⟩
    · rw [List.getElem?_set_ne (Ne.symm hj)] at q
      exact .inr ⟨hj, q⟩
  have noown : ∀ {j : Nat} {b1 : Bool} {m1 : MO}, r'[j]? = some (some (.own b1 m1)) → s'[j]? = some (some (.ref a2)) → False := fun {j b1 m1} q e => by
    obtain ⟨u, hu, z⟩ := R.slot j _ q
    rw [e] at hu
    cases hu
    obtain ⟨c, ec, _, _, w1⟩ := own_nz z
    cases ec
    rcases w1 with ⟨_, w1⟩ | ⟨_, w1⟩
    · exact (lock_io w1).2 rfl
    · rw [at'] at w1
      cases w1
  refine ⟨by rw [List.length_set]; exact R.len, R.sub, R.mono, fun c u e k => ?_, fun c e => ?_, R0.bo, R0.iot, R0.lkt, fun c e1 e2 => ?_, fun j y q => ?_, fun j k b1 c1 m1 n1 a1 ne q1 q2 e1 e2 => ?_, R.tz⟩
  · have hc : c ≠ a2 := by
      rintro rfl
      rcases w with ⟨_, w⟩ | ⟨_, w⟩
      · exact k i w
      · rw [w] at e
        cases e
    exact R.keep c u ((up hc).trans e) fun j hj => k j (lock_io hj).1
  · have h1 := R.dom c e
    have hc : c ≠ a2 := by
      rintro rfl
      rw [at'] at h1
      cases h1
    rw [← up hc]
    exact h1
  · by_cases hc : c = a2
    · rw [hc]
      exact n2
    · refine R.fresh c e1 ?_
      rw [up hc]
      exact e2
  · rcases back q with ⟨rfl, rfl⟩ | ⟨hj, q⟩
    · exact ⟨_, hv, own_mk rfl n2 mm w⟩
    · obtain ⟨u, hu, z⟩ := R.slot j y q
      refine ⟨u, hu, ?_⟩
      cases y with
      | d y => exact z
      | bor m1 =>
        obtain ⟨c, e, bo, k, mm1⟩ := z
        exact ⟨c, e, bo.1, fun j' hj' => k j' (lock_io' hj' bo.2), mrel_up (Same.refl _) (up bo.2).symm mm1⟩
      | lck m1 =>
        obtain ⟨c, e, l, k, mm1⟩ := z
        have l : (if j = i then some a2 else C.lk j) = some c := l
        rw [if_neg hj] at l
        exact ⟨c, e, l, k, mm1⟩
      | own b1 m1 =>
        obtain ⟨c, e, k, mm1, w1⟩ := own_nz z
        subst e
        refine own_mk rfl k mm1 ?_
        rcases w1 with ⟨e1, w1⟩ | ⟨e1, w1⟩
        · exact .inl ⟨e1, (lock_io w1).1⟩
        · have hc : c ≠ a2 := by
            rintro rfl
            rw [at'] at w1
            cases w1
          exact .inr ⟨e1, (up hc).symm.trans w1⟩
  · rcases back q1 with ⟨rfl, z1⟩ | ⟨hj, p1⟩
    · rw [hv] at e1
      cases e1
      rcases back q2 with ⟨rfl, _⟩ | ⟨_, p2⟩
      · exact ne rfl
      · exact noown p2 e2
    · rcases back q2 with ⟨rfl, z2⟩ | ⟨hk, p2⟩
      · rw [hv] at e2
        cases e2
        exact noown p1 e1
      · exact R.dist j k _ _ _ _ _ ne p1 p2 e1 e2
/-- the walked list, locked -/
theorem jd_lck {tg : Expr} {I0 : Hp} {a : Addr} {vs : List V} (h0 : C.H0 a = some (.lst vs)) (n : ∀ j, C.io j ≠ some a) (p : DpAll K I0 vs xs) : JD K C I0 tg (Itl K a) xs := fun C' k I H r s ⟨c1, c2, c3⟩ R g => by
  have hH : H a = some (.lst vs) := R.keep a _ (c3 a _ h0) (by rw [c2]; exact n)
  have hs : SqL K H a vs := SqL.of hH
  refine ⟨fun d e => ?_, fun hl => ⟨vs, hs, by rw [dpa_len p]; exact hl⟩⟩
  obtain ⟨v, hv, q⟩ := dpa_get' p e
  refine ⟨⟨vs, v, hs, hv⟩, fun x H' ⟨e1, e2⟩ => ?_⟩
  subst e1
  have := e2 vs hs
  rw [hv] at this
  cases this
  exact ⟨I, R, Same.refl I, .inl (dp_up g _ _ q)⟩
end
/-! ### for x in NAME, the name one's own list -/
open Classical in
noncomputable def sForV (i : Nat) (t : Tg) (g : SM) : SM := fun r => match r[i]? with
  | some (some (.own b (.lst xs))) => (match sForL t g xs (r.set i (some (.lck (.lst xs)))) with
    | some (o, r') => (match r'[i]? with
      | some (some (.lck m)) => some (o, r'.set i (some (.own b m)))
      | _ => none)
    | none => none)
  | _ => sFor (iVar i) t g r
/-- what ps_for asks behind the walked thing -/
def LoopP (K : KF) (mg : MG) (W : WX) (tg : Expr) (t : Tg) (g : SM) (D : Ends) : It → Hp → L2.St → Prop := fun J H1 s => ∃ W0 : Nat → Nat → L2.St → Hp → Prop, (∃ m, W0 0 m s H1) ∧ ∀ i m σ H, W0 i m σ H →
  (J.stop i H ∧ D.nx σ H) ∨ (J.go i H ∧ ∃ N : L2.St → Hp → Prop, (∀ σ' H', N σ' H' → ∃ m', m' < m ∧ W0 (i + 1) m' σ' H') ∧ ∀ x H', J.yld i H x H' → tG K tg t x σ H' fun σ2 H2 => tS K mg W g { D with nx := N, ct := N, bk := D.nx } σ2 H2)
theorem loop_ok {K : KF} {mg : MG} {W : WX} {tg : Expr} {t : Tg} {g : SM} {D : Ends} {C : Cn} {I1 H1 : Hp} {r1 r' : Env} {s : L2.St} {J : It} {xs : List DL.D} {o : O} (R1 : Rel K C I1 H1 r1 s) (j : JD K C I1 tg J xs) (e : sForL t g xs r1 = some (o, r')) (q : SPost K mg W C D I1 o r') : LoopP K mg W tg t g D J H1 s := by
  refine ⟨fun i m σ H => m = xs.length - i ∧ i ≤ xs.length ∧ ∃ I2 r2, Rel K C I2 H r2 σ ∧ Same I1 I2 ∧ sForL t g (xs.drop i) r2 = some (o, r'), ⟨xs.length, by simp, Nat.zero_le _, I1, r1, R1, Same.refl I1, e⟩, ?_⟩
  rintro i m σ H2 ⟨rfl, hi, I2, r2, R2, g2, e2⟩
  by_cases hl : i < xs.length
  · have hd : xs.drop i = xs[i] :: xs.drop (i + 1) := List.drop_eq_getElem_cons hl
    rw [hd] at e2
    unfold sForL at e2
    obtain ⟨j1, j2⟩ := (j C i I2 H2 r2 σ ⟨rfl, rfl, Same.refl _⟩ R2 g2).1 xs[i] (List.getElem?_eq_getElem hl)
    split at e2
    · cases e2
    · rename_i r3 hb3
      refine .inr ⟨j1, fun σ' H' => ∃ I4 r4, Rel K C I4 H' r4 σ' ∧ Same I1 I4 ∧ sForL t g (xs.drop (i + 1)) r4 = some (o, r'), fun σ' H' ⟨I4, r4, R4, g4, e4⟩ => ⟨xs.length - (i + 1), by omega, rfl, hl, I4, r4, R4, g4, e4⟩, fun x H' y => ?_⟩
      obtain ⟨I3, R3, g3, p3⟩ := j2 x H' y
      refine ⟨C, I3, r2, xs[i], r3, R3, p3, hb3, fun s' R4 _ => ?_⟩
      have g13 := g2.trans g3
      split at e2
      · rename_i r5 hg5
        exact ⟨C, I3, r3, _, _, R4, hg5, fun s' I' H' R' g' => ⟨I', r5, R', g13.trans g', e2⟩⟩
      · rename_i r5 hg5
        exact ⟨C, I3, r3, _, _, R4, hg5, fun s' I' H' R' g' => ⟨I', r5, R', g13.trans g', e2⟩⟩
      · rename_i r5 hg5
        cases e2
        exact ⟨C, I3, r3, _, _, R4, hg5, fun s' I' H' R' g' => q s' I' H' R' (g13.trans g')⟩
      · rename_i z h1 h2 h3
        refine ⟨C, I3, r3, o, r', R4, e2, ?_⟩
        cases o with
        | nx => exact absurd e2 (h1 _)
        | bk => exact absurd e2 (h3 _)
        | ct => exact absurd e2 (h2 _)
        | rt x => exact fun v s' I' H' R' g' => q v s' I' H' R' (g13.trans g')
        | ex x => exact fun c dx s' I' H' R' g' => q c dx s' I' H' R' (g13.trans g')
  · have hd : xs.drop i = [] := List.drop_eq_nil_of_le (by omega)
    rw [hd] at e2
    cases e2
    exact .inl ⟨(j C i I2 H2 _ σ ⟨rfl, rfl, Same.refl _⟩ R2 g2).2 (by omega), q σ I2 H2 R2 g2⟩
theorem trel_unlock {K : KF} {C : Cn} {I' H' : Hp} {r' : Env} {s' : L2.St} {i : Nat} {a : Addr} {vs : List V} {m : MO} {b : Bool} {v : V} {x : S} (hs : s'[i]? = some (some (.ref a)))
    (t : TRel K (C.lock i a (.lst vs)) I' H' r' s' v x) : TRel K C I' H' (r'.set i (some (.own b m))) s' v x := by
  cases x with
  | d x => exact t
  | bor m => exact t.elim
  | lck m => exact t.elim
  | own c m1 =>
    cases c with
    | true => exact t.elim
    | false =>
      obtain ⟨a1, e, n1, mm, h0, no⟩ := t
      have h0 : upd C.H0 a (.lst vs) a1 = none := h0
      have ha : a1 ≠ a := by
        rintro rfl
        rw [upd_same] at h0
        cases h0
      rw [upd_ne ha] at h0
      refine ⟨a1, e, n1, mm, h0, fun k c n hk hsk => ?_⟩
      by_cases hki : k = i
      · subst hki
        rw [hs] at hsk
        exact ha (by injection hsk with h; injection h with h; injection h with h; exact h.symm)
      · rw [List.getElem?_set_ne (Ne.symm hki)] at hk
        exact no k c n hk hsk
theorem ds_forV {X : Cx} {W : WX} {tg : Expr} {body : List Stmt} {x : Str} {p pos : Pos} {i : Nat} {t : Tg} {g : SM} (hp : PassesOwn (model X.prog X.w) X.A X.env X.xe) (hc : X.calm = true) (h : PE X (.Name x p) (tVar i)) (hg : DG X tg t) (hb : DSs X W body g)
    (hs : ∀ y, foldedSetIterable (.Name x p) X.env y = pure y := by intro _; rfl) : DS X W (.For tg (.Name x p) body [] pos) (sForV i t g) :=
  ps_of (ps_for hp hc (pi_or (pi_list h) (di_var (W := W) h) fun _ _ _ q => q) hg hb hs) fun D s H ⟨C, I, r, o, r', R, e, q⟩ => by
    unfold sForV at e
    split at e
    · rename_i b xs hr
      split at e
      · rename_i o1 r1 hf
        split at e
        · rename_i m hm
          cases e
          obtain ⟨a, vs, hsa, ha, pa, na, w, RL⟩ := R.lock hr
          refine .inl ⟨_, hsa, a, rfl, ⟨vs, SqL.of ha⟩, ?_⟩
          have hq : ∀ {I' H' : Hp} {s' : L2.St}, Rel X.K (C.lock i a (.lst vs)) I' H' r1 s' → Rel X.K C I' H' (r1.set i (some (.own b m))) s' := fun R' => R.unlock na w R' hm
          have hsi : ∀ {I' H' : Hp} {s' : L2.St}, Rel X.K (C.lock i a (.lst vs)) I' H' r1 s' → s'[i]? = some (some (.ref a)) := fun {I' H' s'} R' => by
            obtain ⟨v, hv, a2, e2, l2, _⟩ := R'.slot i _ hm
            have l2 : (if i = i then some a else C.lk i) = some a2 := l2
            rw [if_pos rfl] at l2
            cases l2
            rw [hv, e2]
          refine loop_ok RL (jd_lck (vs := vs) upd_same (fun j hj => (lock_io hj).2 rfl) pa) hf ?_
          cases o with
          | nx => exact fun s' I' H' R' g' => q s' I' H' (hq R') g'
          | bk => exact fun s' I' H' R' g' => q s' I' H' (hq R') g'
          | ct => exact fun s' I' H' R' g' => q s' I' H' (hq R') g'
          | rt y => exact fun v s' I' H' R' g' t => q v s' I' H' (hq R') g' (trel_unlock (hsi R') t)
          | ex y => exact fun c dx s' I' H' R' g' t => q c dx s' I' H' (hq R') g' (t.down fun _ => upd_none)
        · cases e
      · cases e
    · refine .inr ?_
      rcases sx_inv e with ⟨xs, r1, hf, e⟩ | ⟨y, hf, rfl⟩
      · exact ⟨C, I, r, _, _, R, hf, fun J I1 H1 R1 g1 j => loop_ok R1 j e (spost_up g1 q)⟩
      · exact ⟨C, I, r, _, _, R, hf, fun c dx I' H' R' g' t => q c dx s I' H' R' g' t⟩
end DL
/-! DLt: dicts with texts and ints as keys. -/
namespace DL
open PySem L2
open PyProof.Rows (envOfC)
/-! ### tables -/
def keyOf : D → Option Key
  | .int i => some (.inl i)
  | .str x => some (.inr x)
  | _ => none
theorem keyOf_ok {K : KF} {I : Hp} {v : V} {d : D} {k : Key} (h : Dp K I v d) (e : keyOf d = some k) : v = kV k := by
  cases h <;> cases e <;> rfl
section
variable {κ : Type} [DecidableEq κ] {K : KF} {I : Hp}
def valD (kvs : List (κ × D)) (k : κ) : Option D := (kvs.find? fun kv => decide (kv.1 = k)).map (·.2)
def putD (kvs : List (κ × D)) (k : κ) (v : D) : List (κ × D) :=
  if (kvs.any fun kv => decide (kv.1 = k)) = true then kvs.map (fun kv => if kv.1 = k then (kv.1, v) else kv) else kvs ++ [(k, v)]
def dropD (kvs : List (κ × D)) (k : κ) : List (κ × D) := kvs.filter fun kv => decide (kv.1 ≠ k)
theorem valD_nil {k : κ} : valD ([] : List (κ × D)) k = none := rfl
theorem valD_pos {p : κ × D} {r : List (κ × D)} {k : κ} (e : p.1 = k) : valD (p :: r) k = some p.2 := by simp [valD, List.find?_cons, e]
theorem valD_neg {p : κ × D} {r : List (κ × D)} {k : κ} (e : ¬ p.1 = k) : valD (p :: r) k = valD r k := by simp [valD, List.find?_cons, e]
theorem kvd_none {ws : List (κ × V)} {ks : List (κ × D)} {k : κ} (r : KvD K I ws ks) (e : valD ks k = none) : valV ws k = none := by
  unfold KvD at r
  induction r with
  | nil => rfl
  | @cons p q ps qs h t ih =>
    by_cases a : q.1 = k
    · rw [valD_pos a] at e
      cases e
    · rw [valV_neg (fun z => a (h.1.symm.trans z))]
      rw [valD_neg a] at e
      exact ih e
theorem kvd_some {ws : List (κ × V)} {ks : List (κ × D)} {k : κ} {d : D} (r : KvD K I ws ks) (e : valD ks k = some d) : ∃ v, valV ws k = some v ∧ Dp K I v d := by
  unfold KvD at r
  induction r with
  | nil => cases e
  | @cons p q ps qs h t ih =>
    by_cases a : q.1 = k
    · rw [valD_pos a] at e
      cases e
      exact ⟨p.2, valV_pos (h.1.trans a), h.2⟩
    · rw [valV_neg (fun z => a (h.1.symm.trans z))]
      rw [valD_neg a] at e
      exact ih e
theorem kvd_isSome {ws : List (κ × V)} {ks : List (κ × D)} {k : κ} (r : KvD K I ws ks) : (valV ws k).isSome = (valD ks k).isSome := by
  cases e : valD ks k with
  | none => rw [kvd_none r e]; rfl
  | some d => obtain ⟨v, h, _⟩ := kvd_some r e; rw [h]; rfl
theorem kvd_any {ws : List (κ × V)} {ks : List (κ × D)} {k : κ} (r : KvD K I ws ks) : (ws.any fun kv => decide (kv.1 = k)) = ks.any fun kv => decide (kv.1 = k) := by
  unfold KvD at r
  induction r with
  | nil => rfl
  | cons h t ih => rw [List.any_cons, List.any_cons, ih, h.1]
theorem kvd_repl {ws : List (κ × V)} {ks : List (κ × D)} {k : κ} {v : V} {d : D} (r : KvD K I ws ks) (h : Dp K I v d) : KvD K I (ws.map fun kv => if kv.1 = k then (kv.1, v) else kv) (ks.map fun kv => if kv.1 = k then (kv.1, d) else kv) := by
  unfold KvD at r ⊢
  induction r with
  | nil => exact .nil
  | @cons p q ps qs hh t ih =>
    rw [List.map_cons, List.map_cons]
    refine .cons ?_ ih
    by_cases e : p.1 = k
    · rw [if_pos e, if_pos (hh.1.symm.trans e)]
      exact ⟨hh.1, h⟩
    · rw [if_neg e, if_neg (fun z => e (hh.1.trans z))]
      exact hh
theorem kvd_put {ws : List (κ × V)} {ks : List (κ × D)} {k : κ} {v : V} {d : D} (r : KvD K I ws ks) (h : Dp K I v d) : KvD K I (putK ws k v) (putD ks k d) := by
  unfold putK putD
  rw [kvd_any r]
  split
  · exact kvd_repl r h
  · exact Paired.snoc r ⟨rfl, h⟩
theorem kvd_drop {ws : List (κ × V)} {ks : List (κ × D)} {k : κ} (r : KvD K I ws ks) : KvD K I (dropK ws k) (dropD ks k) := by
  unfold KvD at r ⊢
  unfold dropK dropD
  induction r with
  | nil => exact .nil
  | @cons p q ps qs h t ih =>
    rw [List.filter_cons, List.filter_cons]
    by_cases e : p.1 = k
    · have e' : q.1 = k := h.1.symm.trans e
      rw [if_neg (by simp [e]), if_neg (by simp [e'])]
      exact ih
    · have e' : ¬ q.1 = k := fun z => e (h.1.trans z)
      rw [if_pos (by simp [e]), if_pos (by simp [e'])]
      exact .cons h ih
theorem kvd_len {ws : List (κ × V)} {ks : List (κ × D)} (r : KvD K I ws ks) : ws.length = ks.length := Paired.length r
end
def mergeD (kvs more : List (Key × D)) : List (Key × D) := more.foldl (fun acc kv => putD acc kv.1 kv.2) kvs
theorem kvd_merge {K : KF} {I : Hp} : ∀ {more : List (Key × V)} {rs : List (Key × D)} {kvs : List (Key × V)} {vs : List (Key × D)}, KvD K I more rs → KvD K I kvs vs → KvD K I (mergeK kvs more) (mergeD vs rs) := by
  intro more rs kvs vs r
  unfold KvD at r
  induction r generalizing kvs vs with
  | nil => intro q; exact q
  | @cons p q ps qs h t ih =>
    intro r0
    have e := kvd_put (k := p.1) r0 h.2
    rw [h.1] at e
    have e2 := ih e
    rw [← h.1] at e2
    have : mergeD vs (q :: qs) = mergeD (putD vs q.1 q.2) qs := rfl
    rw [this, ← h.1]
    exact e2
/-! ### a dict among values -/
def dicS : S → Option (List (Key × D))
  | .bor (.dic kvs) => some kvs
  | .bor (.frd kvs) => some kvs
  | _ => none
theorem dicS_ok {K : KF} {I H : Hp} {v : V} {x : S} {kvs : List (Key × D)} (h : ARel K I H v x) (e : dicS x = some kvs) : ∃ a ws, v = .ref a ∧ Rd H a (.dK ws) ∧ KvD K I ws kvs := by
  cases x with
  | bor m =>
    cases m with
    | dic k =>
      cases e
      obtain ⟨a, ea, ws, h1, h2⟩ := h
      exact ⟨a, ws, ea, .inl h1, h2⟩
    | frd k =>
      cases e
      obtain ⟨a, ea, o, ws, h1, h2⟩ := h
      exact ⟨a, ws, ea, .inr ⟨o, h1⟩, h2⟩
    | _ => cases e
  | _ => cases e
theorem tOd_mono {K : KF} {mg : MG} {W : WX} {o : Od} {s : L2.St} {H : Hp} {Q Q' : VK} (h : tOd K mg W o s H Q) (m : ∀ v H, Q v H → Q' v H) : tOd K mg W o s H Q' := by
  cases o with
  | sl i => obtain ⟨v, hv, q⟩ := h; exact ⟨v, hv, m _ _ q⟩
  | ex f =>
    obtain ⟨C, I, r, o, r', R, e, q⟩ := h
    refine ⟨C, I, r, o, r', R, e, ?_⟩
    cases o with
    | ok x => exact fun v I' H' R' g t => m _ _ (q v I' H' R' g t)
    | ex x => exact q
def inDic (neg : Bool) : List S → Option S
  | [.d x, q] => (keyOf x).bind fun k => (dicS q).map fun kvs => .d (.bool (if neg = true then !(valD kvs k).isSome else (valD kvs k).isSome))
  | _ => none
section
variable {X : Cx} {W : WX} {pos : Pos}
theorem inDic_inv {neg : Bool} {ss : List S} {z : S} (e : inDic neg ss = some z) : ∃ x q k kvs, ss = [.d x, q] ∧ keyOf x = some k ∧ dicS q = some kvs ∧ z = .d (.bool (if neg = true then !(valD kvs k).isSome else (valD kvs k).isSome)) := by
  unfold inDic at e
  split at e
  · rename_i x q
    obtain ⟨k, h1, e⟩ := Option.bind_eq_some_iff.mp e
    obtain ⟨kvs, h2, e⟩ := Option.map_eq_some_iff.mp e
    exact ⟨x, q, k, kvs, rfl, h1, h2, e.symm⟩
  · cases e
theorem ok_inDic (hu : X.A.units + 64 < cLine) : OpD X (compareOp .In) (inDic false) := by
  intro pins s σ H x y v u Q I rx ry h1
  obtain ⟨I', ss, z, g, p, e, q⟩ := h1
  obtain ⟨x1, q1, k, kvs, rfl, e1, e2, rfl⟩ := inDic_inv e
  obtain ⟨p1, p2, e3, a1, a2⟩ := aall2 p
  cases e3
  obtain ⟨a, ws, rfl, hr, kv⟩ := dicS_ok a2 e2
  cases keyOf_ok (show Dp X.K I' x x1 from a1) e1
  cases ry
  refine d_in (by omega) I (.inl ⟨ws, k, hr, rfl, rfl⟩) rx fun s' I2 => ⟨.bl _, H, I2, rfl, ?_⟩
  rw [kvd_isSome kv]
  exact q _ I' H (Grow.refl g) (.bl _)
theorem ok_notInDic (hu : X.A.units + 64 < cLine) : OpD X (compareOp .NotIn) (inDic true) := by
  intro pins s σ H x y v u Q I rx ry h1
  obtain ⟨I', ss, z, g, p, e, q⟩ := h1
  obtain ⟨x1, q1, k, kvs, rfl, e1, e2, rfl⟩ := inDic_inv e
  obtain ⟨p1, p2, e3, a1, a2⟩ := aall2 p
  cases e3
  obtain ⟨a, ws, rfl, hr, kv⟩ := dicS_ok a2 e2
  cases keyOf_ok (show Dp X.K I' x x1 from a1) e1
  cases ry
  refine d_notIn (by omega) I (.inl ⟨ws, k, hr, rfl, rfl⟩) rx fun s' I2 => ⟨.bl _, H, I2, rfl, ?_⟩
  rw [kvd_isSome kv]
  exact q _ I' H (Grow.refl g) (.bl _)
def opInX (ss : List S) : Option S := (opIn ss).or (inDic false ss)
def opNotInX (ss : List S) : Option S := (opNotIn ss).or (inDic true ss)
theorem ok_opInX (hu : X.A.units + 64 < cLine) : OpD X (compareOp .In) opInX := (ok_opIn hu).or (ok_inDic hu)
theorem ok_opNotInX (hu : X.A.units + 64 < cLine) : OpD X (compareOp .NotIn) opNotInX := (ok_opNotIn hu).or (ok_notInDic hu)
theorem de_inX {a b : Expr} {oa ob : Od} (hu : X.A.units + 64 < cLine) (ha : DO X W a oa) (hb : DO X W b ob) (hm : behindInMarks .In b = false) : DE X W (.Compare a [.In] [b] pos) (dApp [oa, ob] opInX) := de_cmp (ok_opInX hu) ha hb hm
theorem de_notinX {a b : Expr} {oa ob : Od} (hu : X.A.units + 64 < cLine) (ha : DO X W a oa) (hb : DO X W b ob) (hm : behindInMarks .NotIn b = false) : DE X W (.Compare a [.NotIn] [b] pos) (dApp [oa, ob] opNotInX) := de_cmp (ok_opNotInX hu) ha hb hm
theorem dt_inX {a b : Expr} {oa ob : Od} (hu : X.A.units + 64 < cLine) (ha : DO X W a oa) (hb : DO X W b ob) (hm : behindInMarks .In b = false) : DT X W (.Compare a [.In] [b] pos) (cTst (dApp [oa, ob] opInX)) := dt_cmp (ok_opInX hu) ha hb hm
theorem dt_notinX {a b : Expr} {oa ob : Od} (hu : X.A.units + 64 < cLine) (ha : DO X W a oa) (hb : DO X W b ob) (hm : behindInMarks .NotIn b = false) : DT X W (.Compare a [.NotIn] [b] pos) (cTst (dApp [oa, ob] opNotInX)) := dt_cmp (ok_opNotInX hu) ha hb hm
/-! ### d[k] -/
def ixDic : List S → Option S
  | [q, .d x] => (keyOf x).bind fun k => (dicS q).bind fun kvs => (valD kvs k).map .d
  | _ => none
theorem ixDic_inv {ss : List S} {z : S} (e : ixDic ss = some z) : ∃ x q k kvs d, ss = [q, .d x] ∧ keyOf x = some k ∧ dicS q = some kvs ∧ valD kvs k = some d ∧ z = .d d := by
  unfold ixDic at e
  split at e
  · rename_i q x
    obtain ⟨k, h1, e⟩ := Option.bind_eq_some_iff.mp e
    obtain ⟨kvs, h2, e⟩ := Option.bind_eq_some_iff.mp e
    obtain ⟨d, h3, e⟩ := Option.map_eq_some_iff.mp e
    exact ⟨x, q, k, kvs, d, rfl, h1, h2, h3, e.symm⟩
  · cases e
theorem ok_ixDic (hu : X.A.units + 64 < cLine) : IxR X fun x y H Q => rApp X.K ixDic [x, y] H Q := by
  intro value slice pins s σ H x y v u Q I rx ry h1 hs
  obtain ⟨I', ss, z, g, p, e, q⟩ := h1
  obtain ⟨x1, q1, k, kvs, d, rfl, e1, e2, e3, rfl⟩ := ixDic_inv e
  obtain ⟨p1, p2, e4, a1, a2⟩ := aall2 p
  cases e4
  obtain ⟨a, ws, rfl, hr, kv⟩ := dicS_ok a1 e2
  cases keyOf_ok (show Dp X.K I' y x1 from a2) e1
  cases rx
  obtain ⟨w, hw, pw⟩ := kvd_some kv e3
  have hg : DGet H a (kV k) (some w) := .inl ⟨ws, k, hr, rfl, hw.symm⟩
  exact PyProof.Rows.tail_any (dict_typeIs I hg) PySem.F.slot_dict_getitem.lookup (d_getItem (by omega) I hg ry fun w' s' I2 rw' => ⟨w, H, I2, rw', q w I' H (Grow.refl g) pw⟩) hs
def opIxX (ss : List S) : Option S := (ixD ss).or (ixDic ss)
theorem ok_ixX (hu : X.A.units + 64 < cLine) : IxR X fun x y H Q => rApp X.K opIxX [x, y] H Q := by
  intro value slice pins s σ H x y v u Q I rx ry h1 hs
  obtain ⟨I', ss, z, g, p, e, q⟩ := h1
  rcases or_inv e with e | e
  · exact ok_ix value slice pins s σ H x y v u Q I rx ry ⟨I', ss, z, g, p, e, q⟩ hs
  · exact ok_ixDic hu value slice pins s σ H x y v u Q I rx ry ⟨I', ss, z, g, p, e, q⟩ hs
theorem de_itemX {a b : Expr} {oa ob : Od} (hu : X.A.units + 64 < cLine) (ha : DO X W a oa) (hb : DO X W b ob) (hs : PlainIx b) (hs2 : NoSl b) : DE X W (.Subscript a b pos) (dApp [oa, ob] opIxX) := de_ix (ok_ixX hu) ha hb hs
/-! ### d[k] = v -/
def rSetB : TSet := fun o i v H Q => rSetL o i v H Q ∨ ∃ a H4, o = .ref a ∧ DPut H a i v H4 ∧ Q H4
theorem set_both (hu : X.A.units + 64 < cLine) : PSet X rSetB := by
  intro pins s σ H o i v ov iv u Q I ro ri rv h
  rcases h with h | ⟨a, H4, rfl, g, q⟩
  · exact set_list pins s σ H o i v ov iv u Q I ro ri rv h
  · cases ro
    exact d_setItem (by omega) I g ri rv fun s' I' => ⟨H4, I', q⟩
def sSetX (i : Nat) (k : EF D) (f : EF D) : SM := sx f fun d => sx (ev1 (.sl i)) fun _ => sx k fun kk => fun r => match r[i]? with
  | some (some (.own b (.lst xs))) => (match kk with
    | .int j => (match ixN xs.length j with
      | some n => some (.nx, r.set i (some (.own b (.lst (xs.set n d)))))
      | none => none)
    | _ => none)
  | some (some (.own b (.dic kvs))) => (match keyOf kk with
    | some k => if kvs.length < 16777216 then some (.nx, r.set i (some (.own b (.dic (putD kvs k d))))) else none
    | none => none)
  | _ => none
theorem ds_setX {i : Nat} {x : Str} {p1 p2 : Pos} {ei ev : Expr} {k f : EF D} (hu : X.A.units + 64 < cLine) (ho : PE X (.Name x p1) (tVar i)) (hi : DD X W ei k) (hv : DD X W ev f)
    (hs : swapsWithSole [.Subscript (.Name x p1) ei p2] ev pos.line X.env = pure false := by rfl) (hw : swappedStores [.Subscript (.Name x p1) ei p2] ev X.env = pure none := by rfl)
    (h1 : (assignEach [.Subscript (.Name x p1) ei p2] X.env).map (·.2) = [assign (.Subscript (.Name x p1) ei p2) X.env] := by rfl)
    (ha : ∀ v, assign (.Subscript (.Name x p1) ei p2) X.env v = (do
      let ov ← holding [v] (eval (.Name x p1) X.env)
      let iv ← holding [v, ov] (eval ei X.env)
      standAt p2
      holding [v, ov, iv] (setItem ov iv v)
      release [v, ov, iv] []) := by intro _; rfl) : DS X W (.Assign [.Subscript (.Name x p1) ei p2] ev pos) (sSetX i k f) :=
  ps_of (ps_asg hv (pg_sub ho hi (set_both hu) ha) hs hw h1) fun D s H q => tD_sx q fun C I H' r r' o d v R t e q => by
    rcases sx_inv e with ⟨ov, r0, h0, e⟩ | ⟨x, h0, rfl⟩
    · have h0 : (match r[i]? with
        | some (some _) => some (DL.R.ok (Ov.sl i), r)
        | _ => none) = some (.ok ov, r0) := h0
      split at h0
      · rename_i y hr0
        cases h0
        obtain ⟨v0, hv0, _⟩ := R.slot i y hr0
        refine ⟨v0, hv0, ?_⟩
        rcases sx_inv e with ⟨kk, r1, hk, e⟩ | ⟨x, hk, rfl⟩
        · refine ⟨C, I, r, _, _, R, hk, fun iv I2 H2 R2 g2 t2 => ?_⟩
          split at e
          · rename_i b xs hr
            split at e
            · rename_i j
              split at e
              · rename_i n hn
                cases e
                cases t2
                obtain ⟨v2, hv2, z2⟩ := R2.slot i _ hr
                rw [hv0] at hv2
                cases hv2
                obtain ⟨a2, ea2, na, ⟨ws, h1, h2⟩, _⟩ := own_nz z2
                subst ea2
                refine .inl ⟨a2, ws, j, n, rfl, rfl, h1, by rw [dpa_len h2]; exact hn, ?_⟩
                exact q s I2 _ (R2.mut hr hv0 ⟨_, upd_same, dpa_set (dp_up g2 _ _ t) n h2⟩) g2
              · cases e
            · cases e
          · rename_i b kvs hr
            split at e
            · rename_i k hk2
              split at e
              · rename_i hl
                cases e
                obtain ⟨v2, hv2, z2⟩ := R2.slot i _ hr
                rw [hv0] at hv2
                cases hv2
                obtain ⟨a2, ea2, na, ⟨ws, h1, h2⟩, _⟩ := own_nz z2
                subst ea2
                cases keyOf_ok t2 hk2
                refine .inr ⟨a2, _, rfl, DPut.k h1 (by rw [kvd_len h2, sizeLine_eq]; exact hl), ?_⟩
                exact q s I2 _ (R2.mut hr hv0 ⟨_, upd_same, kvd_put h2 (dp_up g2 _ _ t)⟩) g2
              · cases e
            · cases e
          · cases e
        · exact ⟨C, I, r, _, _, R, hk, fun c dx I' H' R' g t => q c dx s I' H' R' g t⟩
      · cases h0
    · have h0 : (match r[i]? with
        | some (some _) => some (DL.R.ok (Ov.sl i), r)
        | _ => none) = some (.ex x, r') := h0
      split at h0 <;> cases h0
/-! ### d.pop(k) -/
def isDic : Option (Option S) → Bool
  | some (some (.own _ (.dic _))) => true
  | _ => false
def dMthD (i : Nat) (ods : List Od) (op : MO → List S → Option (D × MO)) : EF S := fun r => if isDic r[i]? = true then eb (evO ods) (fun os r => match getAll r os with
    | some ss => (match r[i]? with
      | some (some (.own b m)) => (match op m ss with
        | some (d, m') => some (.ok (.d d), r.set i (some (.own b m')))
        | none => none)
      | _ => none)
    | none => none) r
  else none
theorem mthD_ok {K : KF} {mg : MG} {s : L2.St} {H : Hp} {i : Nat} {ods : List Od} {op : MO → List S → Option (D × MO)} {Q : VK} (h : tE K mg W (dMthD i ods op) s H Q) :
    tBM K "dict" (rM K op) (tVar i) (tOds K mg W ods) s H Q := by
  obtain ⟨C, I, r, o, r', R, e, q⟩ := h
  unfold dMthD at e
  split at e
  · rename_i hl
    unfold isDic at hl
    split at hl
    · rename_i b xs hr
      obtain ⟨v, hv, z⟩ := R.slot i _ hr
      obtain ⟨a, ea, _, ⟨vs, h1, _⟩, _⟩ := own_nz z
      subst ea
      refine ⟨_, hv, .inr (.inr (.inl ⟨rfl, .inl ⟨vs, h1⟩⟩)), ?_⟩
      rcases eb_inv e with ⟨os, r1, ho, e⟩ | ⟨x, ho, rfl⟩
      · refine evO_ok ods R ho fun ws I' H' R' g aa => ?_
        split at e
        · rename_i ss hg
          split at e
          · rename_i b2 m hr2
            split at e
            · rename_i d m' hop
              cases e
              obtain ⟨v2, hv2, z2⟩ := R'.slot i _ hr2
              rw [hv] at hv2
              cases hv2
              obtain ⟨a2, ea2, na, mr, _⟩ := own_nz z2
              cases ea2
              exact ⟨I', a, m, ss, d, m', R'.sub, rfl, na, mr, getAll_ok R' aa hg, hop, fun w o p mm => q w I' _ (R'.mut hr2 hv mm) g p⟩
            · cases e
          · cases e
        · cases e
      · exact evO_ok ods R ho q
    · cases hl
  · cases e
theorem de_mthD {i : Nat} {x name : Str} {id : String} {op : MO → List S → Option (D × MO)} {e : Expr} {es : List Expr} {os : List Od} {p apos cpos : Pos} (slot : Slot "dict" name id) (hty : typeOf (.builtin id) = pure (.type "method_descriptor")) (hm : MtD X id op)
    (ho : PE X (.Name x p) (tVar i)) (ha : DA X W (e :: es) os) (hbase : attributeBase (.Name x p) name X.env (eval (.Name x p) X.env) = eval (.Name x p) X.env := by rfl)
    (hk : ((backTo cpos (starEach (e :: es) X.env)).all (fun x => !x.1) && (backToKw cpos (keywordEach [] X.env)).all (fun x => x.1.isSome)
      && decide ((e :: es).length + ([] : List Keyword).length + (if ([] : List Keyword).isEmpty then 0 else 1) < 30)) = true := by rfl)
    (hline : (apos.endLine == cpos.line) = true := by rfl) (he : starEach (e :: es) X.env = (false, eval e X.env) :: starEach es X.env := by rfl) (hpl : (backTo cpos (starEach es X.env)).any (·.1) = false := by rfl) :
    DE X W (.Call (.Attribute (.Name x p) name apos) (e :: es) [] cpos) (dMthD i os op) :=
  pe_of (pe_bm PySem.F.plainAttrs_dict slot hty hm ho ha hbase hk hline he hpl) fun s H Q q => mthD_ok q
def mPopD : MO → List S → Option (D × MO)
  | .dic kvs, [.d x] => (keyOf x).bind fun k => (valD kvs k).map fun d => (d, .dic (dropD kvs k))
  | _, _ => none
theorem mt_popD : MtD X "dict.pop" mPopD := by
  intro pins s σ H x vs v us Q I rx rv h
  obtain ⟨I', a, m, ss, d, m', g, rfl, na, mr, aa, e, q⟩ := h
  unfold mPopD at e
  split at e
  · rename_i kvs x1
    obtain ⟨k, e1, e⟩ := Option.bind_eq_some_iff.mp e
    obtain ⟨d1, e2, e⟩ := Option.map_eq_some_iff.mp e
    cases e
    cases aa with
    | cons a1 a2 =>
      cases a2
      rename_i y
      cases keyOf_ok (show Dp X.K I' y x1 from a1) e1
      cases rx
      obtain ⟨u, rfl, ru⟩ := vals1 rv
      obtain ⟨ws, h1, h2⟩ := mr
      obtain ⟨w, hw, pw⟩ := kvd_some h2 e2
      exact d_pop I h1 ru hw (.inl rfl) fun w' s' I2 rw' => ⟨w, _, I2, rw', q w _ pw ⟨_, upd_same, kvd_drop h2⟩⟩
  · cases e
/-! ### d.get(k), d.get(k, x) -/
def getDic : List S → Option S
  | [q, .d x] => (keyOf x).bind fun k => (dicS q).map fun kvs => .d ((valD kvs k).getD .none)
  | [q, .d x, .d y] => (keyOf x).bind fun k => (dicS q).map fun kvs => .d ((valD kvs k).getD y)
  | _ => none
def isDicR : Option (Option S) → Bool
  | some (some (.own _ (.dic _))) => true
  | some (some (.bor (.dic _))) => true
  | some (some (.lck (.frd _))) => true
  | some (some (.bor (.frd _))) => true
  | _ => false
theorem kvd_getD {K : KF} {I : Hp} {ws : List (Key × V)} {ks : List (Key × D)} {k : Key} {v : V} {d : D} (r : KvD K I ws ks) (h : Dp K I v d) : Dp K I ((valV ws k).getD v) ((valD ks k).getD d) := by
  cases e : valD ks k with
  | none => rw [kvd_none r e]; exact h
  | some d => obtain ⟨v, h1, h2⟩ := kvd_some r e; rw [h1]; exact h2
theorem isDicR_ok {K : KF} {C : Cn} {I H : Hp} {r : Env} {s : L2.St} {i : Nat} (R : Rel K C I H r s) (h : isDicR r[i]? = true) : ∃ a, s[i]? = some (some (.ref a)) ∧ IsD H a := by
  unfold isDicR at h
  split at h
  · rename_i b kvs hr
    obtain ⟨v, hv, z⟩ := R.slot i _ hr
    obtain ⟨a, ea, _, ⟨ws, h1, _⟩, _⟩ := own_nz z
    subst ea
    exact ⟨a, hv, .inl ⟨ws, .inl h1⟩⟩
  · rename_i kvs hr
    obtain ⟨v, hv, a, ea, _, n, mm⟩ := R.slot i _ hr
    subst ea
    obtain ⟨ws, h1, _⟩ := mrel_keep R n mm
    exact ⟨a, hv, .inl ⟨ws, .inl h1⟩⟩
  · rename_i kvs hr
    obtain ⟨v, hv, a, ea, _, _, o, ws, h1, _⟩ := R.slot i _ hr
    subst ea
    exact ⟨a, hv, .inl ⟨ws, .inr ⟨o, h1⟩⟩⟩
  · rename_i kvs hr
    obtain ⟨v, hv, a, ea, _, n, mm⟩ := R.slot i _ hr
    subst ea
    obtain ⟨o, ws, h1, _⟩ := mrel_keep R n mm
    exact ⟨a, hv, .inl ⟨ws, .inr ⟨o, h1⟩⟩⟩
  · cases h
/-- o.get(..), o a name -/
def dGetV (i : Nat) (ods : List Od) : EF S := fun r => if isDicR r[i]? = true then dApp (.sl i :: ods) getDic r else none
/-- what is asked of d and k, of d, k and x -/
def get1P (Q : VK) : List V → Hp → Prop := fun vs H => match vs with
  | [.ref a, y] => ∃ o, DGet H a y o ∧ Q (o.getD .non) H
  | _ => False
def get2P (Q : VK) : List V → Hp → Prop := fun vs H => match vs with
  | [.ref a, y, w] => ∃ o, DGet H a y o ∧ Q (o.getD w) H
  | _ => False
theorem get_fin1 {K : KF} {I H : Hp} {x y : V} {ss : List S} {z : S} {Q : VK} (g : Same I H) (p : AAll K I H [x, y] ss) (e : getDic ss = some z) (q : ∀ v I' H', Grow I H I' H' → NewS K I H v I' H' z → Q v H') : get1P Q [x, y] H := by
  cases p with
  | cons a1 p =>
    cases p with
    | cons a2 p =>
      cases p
      unfold getDic at e
      split at e
      · rename_i q1 x1 heq
        cases heq
        obtain ⟨k, e1, e⟩ := Option.bind_eq_some_iff.mp e
        obtain ⟨kvs, e2, e⟩ := Option.map_eq_some_iff.mp e
        cases e
        obtain ⟨a', ws, rfl, hr, kv⟩ := dicS_ok a1 e2
        cases keyOf_ok (show Dp K I y x1 from a2) e1
        exact ⟨valV ws k, .inl ⟨ws, k, hr, rfl, rfl⟩, q _ I H (Grow.refl g) (kvd_getD kv .non)⟩
      · rename_i heq
        cases heq
      · cases e
theorem get_fin2 {K : KF} {I H : Hp} {x y w : V} {ss : List S} {z : S} {Q : VK} (g : Same I H) (p : AAll K I H [x, y, w] ss) (e : getDic ss = some z) (q : ∀ v I' H', Grow I H I' H' → NewS K I H v I' H' z → Q v H') : get2P Q [x, y, w] H := by
  cases p with
  | cons a1 p =>
    cases p with
    | cons a2 p =>
      cases p with
      | cons a3 p =>
        cases p
        unfold getDic at e
        split at e
        · rename_i heq
          cases heq
        · rename_i q1 x1 y1 heq
          cases heq
          obtain ⟨k, e1, e⟩ := Option.bind_eq_some_iff.mp e
          obtain ⟨kvs, e2, e⟩ := Option.map_eq_some_iff.mp e
          cases e
          obtain ⟨a', ws, rfl, hr, kv⟩ := dicS_ok a1 e2
          cases keyOf_ok (show Dp K I y x1 from a2) e1
          exact ⟨valV ws k, .inl ⟨ws, k, hr, rfl, rfl⟩, q _ I H (Grow.refl g) (kvd_getD kv (show Dp K I w y1 from a3))⟩
        · cases e
theorem getV1_ok {K : KF} {mg : MG} {s : L2.St} {H : Hp} {i : Nat} {oe : Od} {Q : VK} (h : tE K mg W (dGetV i [oe]) s H Q) : tDGet1 (tVar i) (tOd K mg W oe) s H Q := by
  obtain ⟨C, I, r, o, r', R, e, q⟩ := h
  unfold dGetV at e
  split at e
  · rename_i hd
    obtain ⟨a, ha, hi⟩ := isDicR_ok R hd
    refine ⟨.ref a, ha, a, rfl, hi, ?_⟩
    have h2 : tOds K mg W [.sl i, oe] s H (fun vs H1 => ∀ y, vs = [.ref a, y] → get1P Q vs H1) := app_gen (ods := [.sl i, oe]) (op := getDic) ⟨C, I, r, o, r', R, e, q⟩ fun C2 I2 r2 vs ss x H2 R2 aa ex qq y hy => by
      subst hy
      exact get_fin1 R2.sub aa ex qq
    obtain ⟨v, hv, h2⟩ := h2
    rw [ha] at hv
    cases hv
    refine tOd_mono h2 fun y H2 h => h y rfl
  · cases e
theorem getV2_ok {K : KF} {mg : MG} {s : L2.St} {H : Hp} {i : Nat} {oe of : Od} {Q : VK} (h : tE K mg W (dGetV i [oe, of]) s H Q) : tDGet2 (tVar i) (tOd K mg W oe) (tOd K mg W of) s H Q := by
  obtain ⟨C, I, r, o, r', R, e, q⟩ := h
  unfold dGetV at e
  split at e
  · rename_i hd
    obtain ⟨a, ha, hi⟩ := isDicR_ok R hd
    refine ⟨.ref a, ha, a, rfl, hi, ?_⟩
    have h2 : tOds K mg W [.sl i, oe, of] s H (fun vs H1 => ∀ y w, vs = [.ref a, y, w] → get2P Q vs H1) := app_gen (ods := [.sl i, oe, of]) (op := getDic) ⟨C, I, r, o, r', R, e, q⟩ fun C2 I2 r2 vs ss x H2 R2 aa ex qq y w hy => by
      subst hy
      exact get_fin2 R2.sub aa ex qq
    obtain ⟨v, hv, h2⟩ := h2
    rw [ha] at hv
    cases hv
    exact tOd_mono h2 fun y H2 h => tOd_mono h fun w H3 h => h y w rfl
  · cases e
theorem de_getV1 {i : Nat} {x : Str} {e : Expr} {oe : Od} {p apos cpos : Pos} (hu : X.A.units + 64 < cLine) (ho : PE X (.Name x p) (tVar i)) (he : DO X W e oe) (m : M1 X (.Name x p) "get" apos e cpos := by exact ⟨rfl, rfl, rfl, rfl⟩) :
    DE X W (.Call (.Attribute (.Name x p) "get" apos) [e] [] cpos) (dGetV i [oe]) := pe_of (pe_dget1 (by omega) ho he m) fun s H Q q => getV1_ok q
theorem de_getV2 {i : Nat} {x : Str} {e f : Expr} {oe of : Od} {p apos cpos : Pos} (hu : X.A.units + 64 < cLine) (ho : PE X (.Name x p) (tVar i)) (he : DO X W e oe) (hf : DO X W f of) (m : M2 X (.Name x p) "get" apos e f cpos := by exact ⟨rfl, rfl, rfl, rfl⟩) :
    DE X W (.Call (.Attribute (.Name x p) "get" apos) [e, f] [] cpos) (dGetV i [oe, of]) := pe_of (pe_dget2 (by omega) ho he hf m) fun s H Q q => getV2_ok q
/-! ### a thing just made is kept while more is computed -/
theorem NoSlot.of_trel {K : KF} {C : Cn} {I H : Hp} {r : Env} {s : L2.St} {v : V} {m : MO} (t : TRel K C I H r s v (.own false m)) : ∃ a, v = .ref a ∧ I a = none ∧ MRel K I H a m ∧ C.H0 a = none ∧ NoSlot r s a := t
/-- E.get(..), E a dict just made -/
def dTmp (f : EF S) (ods : List Od) (op : List S → Option S) : EF S := eb f fun x => match x with
  | .own false (.dic kvs) => eb (evO ods) fun os r => match getAll r os with
    | some ss => (match op (.bor (.dic kvs) :: ss) with
      | some z => some (.ok z, r)
      | none => none)
    | none => none
  | _ => fun _ => none
theorem hold_ok {K : KF} {mg : MG} {C : Cn} {I H : Hp} {r r' : Env} {s : L2.St} {a : Addr} {kvs : List (Key × D)} {ods : List Od} {op : List S → Option S} {o : R S} {Q : VK} (R : Rel K C I H r s) (t : TRel K C I H r s (.ref a) (.own false (.dic kvs)))
    (e : eb (evO ods) (fun os r => match getAll r os with
    | some ss => (match op (.bor (.dic kvs) :: ss) with
      | some z => some (DL.R.ok z, r)
      | none => none)
    | none => none) r = some (o, r'))
    (q : match o with
      | .ok x => ∀ v I' H', Rel K C I' H' r' s → Same I I' → TRel K C I' H' r' s v x → Q v H'
      | .ex x => ∀ c dx I' H', Rel K C I' H' r' s → Same I I' → XRel K mg C.H0 I' H' c dx x → W c dx s H')
    {P : List V → Hp → Prop} (p : ∀ vs ss I2 H2 x, AAll K I2 H2 (.ref a :: vs) (.bor (.dic kvs) :: ss) → Same I2 H2 → op (.bor (.dic kvs) :: ss) = some x → (∀ v I' H', Grow I2 H2 I' H' → NewS K I2 H2 v I' H' x → Q v H') → P vs H2) : tOds K mg W ods s H P := by
  obtain ⟨a', ea, n, ⟨ws, h1, kv⟩, h0, no⟩ := t
  cases ea
  have Rh := R.hide (o := .dK ws) h1 n h0 no
  have i0 : C.I0 a = none := R.mono.free n
  rcases eb_inv e with ⟨os, r1, ho, e⟩ | ⟨x, ho, rfl⟩
  · refine evO_ok ods Rh ho fun vs I2 H2 R2 g aa => ?_
    split at e
    · rename_i ss hg
      split at e
      · rename_i z hz
        cases e
        obtain ⟨Ra, hDa, iDa, noa⟩ := R2.unhide h0 i0 R.bo R.iot R.lkt
        have ar := getAll_ok Ra aa hg
        refine p vs ss I2 H2 z (.cons ⟨a, rfl, ws, hDa, kvd_up g kv⟩ ar) R2.sub hz fun v I' H' gr ns => ?_
        exact q v I' H' (Ra.grow gr) (g.trans gr.i) (Ra.newS gr ns)
      · cases e
    · cases e
  · refine evO_ok ods Rh ho fun c dx I' H' R' g t => ?_
    exact q c dx I' H' (R'.unhide h0 i0 R.bo R.iot R.lkt).1 g (t.down fun _ => upd_none)
theorem getT_inv {f : EF S} {ods : List Od} {op : List S → Option S} {r r' : Env} {o : R S} (e : dTmp f ods op r = some (o, r')) : (∃ kvs r1, f r = some (.ok (.own false (.dic kvs)), r1) ∧ eb (evO ods) (fun os r => match getAll r os with
    | some ss => (match op (.bor (.dic kvs) :: ss) with
      | some z => some (DL.R.ok z, r)
      | none => none)
    | none => none) r1 = some (o, r')) ∨ ∃ x, f r = some (.ex x, r') ∧ o = .ex x := by
  rcases eb_inv e with ⟨x, r1, h1, e⟩ | ⟨x, h1, rfl⟩
  · split at e
    · exact .inl ⟨_, r1, h1, e⟩
    · cases e
  · exact .inr ⟨x, h1, rfl⟩
theorem getT1_ok {K : KF} {mg : MG} {s : L2.St} {H : Hp} {f : EF S} {oe : Od} {Q : VK} (h : tE K mg W (dTmp f [oe] getDic) s H Q) : tDGet1 (tE K mg W f) (tOd K mg W oe) s H Q := by
  obtain ⟨C, I, r, o, r', R, e, q⟩ := h
  rcases getT_inv e with ⟨kvs, r1, hf, e⟩ | ⟨x, hf, rfl⟩
  · refine ⟨C, I, r, _, _, R, hf, fun v I1 H1 R1 g1 t1 => ?_⟩
    obtain ⟨a, rfl, _, ⟨ws, h1, _⟩, _⟩ := id t1
    refine ⟨a, rfl, .inl ⟨ws, .inl h1⟩, ?_⟩
    have h2 := hold_ok (P := fun vs H1 => ∀ y, vs = [y] → get1P Q (.ref a :: vs) H1) (Q := Q) R1 t1 e (by
      cases o with
      | ok x => exact fun v I' H' R' g t => q v I' H' R' (g1.trans g) t
      | ex x => exact fun c dx I' H' R' g t => q c dx I' H' R' (g1.trans g) t) fun vs ss I2 H2 x aa g2 ex qq y hy => by
        subst hy
        exact get_fin1 g2 aa ex qq
    exact tOd_mono h2 fun y H2 h => h y rfl
  · exact ⟨C, I, r, _, _, R, hf, q⟩
theorem getT2_ok {K : KF} {mg : MG} {s : L2.St} {H : Hp} {f : EF S} {oe of : Od} {Q : VK} (h : tE K mg W (dTmp f [oe, of] getDic) s H Q) : tDGet2 (tE K mg W f) (tOd K mg W oe) (tOd K mg W of) s H Q := by
  obtain ⟨C, I, r, o, r', R, e, q⟩ := h
  rcases getT_inv e with ⟨kvs, r1, hf, e⟩ | ⟨x, hf, rfl⟩
  · refine ⟨C, I, r, _, _, R, hf, fun v I1 H1 R1 g1 t1 => ?_⟩
    obtain ⟨a, rfl, _, ⟨ws, h1, _⟩, _⟩ := id t1
    refine ⟨a, rfl, .inl ⟨ws, .inl h1⟩, ?_⟩
    have h2 := hold_ok (P := fun vs H1 => ∀ y w, vs = [y, w] → get2P Q (.ref a :: vs) H1) (Q := Q) R1 t1 e (by
      cases o with
      | ok x => exact fun v I' H' R' g t => q v I' H' R' (g1.trans g) t
      | ex x => exact fun c dx I' H' R' g t => q c dx I' H' R' (g1.trans g) t) fun vs ss I2 H2 x aa g2 ex qq y w hy => by
        subst hy
        exact get_fin2 g2 aa ex qq
    exact tOd_mono h2 fun y H2 h => tOd_mono h fun w H3 h => h y w rfl
  · exact ⟨C, I, r, _, _, R, hf, q⟩
theorem de_getT1 {a e : Expr} {f : EF S} {oe : Od} {apos cpos : Pos} (hu : X.A.units + 64 < cLine) (ho : DE X W a f) (he : DO X W e oe) (m : M1 X a "get" apos e cpos := by exact ⟨rfl, rfl, rfl, rfl⟩) :
    DE X W (.Call (.Attribute a "get" apos) [e] [] cpos) (dTmp f [oe] getDic) := pe_of (pe_dget1 (by omega) ho he m) fun s H Q q => getT1_ok q
theorem de_getT2 {a e g : Expr} {f : EF S} {oe og : Od} {apos cpos : Pos} (hu : X.A.units + 64 < cLine) (ho : DE X W a f) (he : DO X W e oe) (hg : DO X W g og) (m : M2 X a "get" apos e g cpos := by exact ⟨rfl, rfl, rfl, rfl⟩) :
    DE X W (.Call (.Attribute a "get" apos) [e, g] [] cpos) (dTmp f [oe, og] getDic) := pe_of (pe_dget2 (by omega) ho he hg m) fun s H Q q => getT2_ok q
/-- E[k], E a dict just made -/
def ixP (Q : VK) : List V → Hp → Prop := fun vs H => match vs with
  | [.ref a, y] => ∃ v, DGet H a y (some v) ∧ Q v H
  | _ => False
theorem ix_fin {K : KF} {I H : Hp} {x y : V} {ss : List S} {z : S} {Q : VK} (g : Same I H) (p : AAll K I H [x, y] ss) (e : ixDic ss = some z) (q : ∀ v I' H', Grow I H I' H' → NewS K I H v I' H' z → Q v H') : ixP Q [x, y] H := by
  obtain ⟨x1, q1, k, kvs, d, rfl, e1, e2, e3, rfl⟩ := ixDic_inv e
  obtain ⟨p1, p2, e4, a1, a2⟩ := aall2 p
  cases e4
  obtain ⟨a, ws, rfl, hr, kv⟩ := dicS_ok a1 e2
  cases keyOf_ok (show Dp K I y x1 from a2) e1
  obtain ⟨w, hw, pw⟩ := kvd_some kv e3
  exact ⟨w, .inl ⟨ws, k, hr, rfl, hw.symm⟩, q w I H (Grow.refl g) pw⟩
theorem ixT_ok {K : KF} {mg : MG} {s : L2.St} {H : Hp} {f : EF S} {oe : Od} {Q : VK} (h : tE K mg W (dTmp f [oe] ixDic) s H Q) : tDGet (tE K mg W f) (tOd K mg W oe) s H Q := by
  obtain ⟨C, I, r, o, r', R, e, q⟩ := h
  rcases getT_inv e with ⟨kvs, r1, hf, e⟩ | ⟨x, hf, rfl⟩
  · refine ⟨C, I, r, _, _, R, hf, fun v I1 H1 R1 g1 t1 => ?_⟩
    obtain ⟨a, rfl, _, ⟨ws, h1, _⟩, _⟩ := id t1
    have h2 := hold_ok (P := fun vs H1 => ∀ y, vs = [y] → ixP Q (.ref a :: vs) H1) (Q := Q) R1 t1 e (by
      cases o with
      | ok x => exact fun v I' H' R' g t => q v I' H' R' (g1.trans g) t
      | ex x => exact fun c dx I' H' R' g t => q c dx I' H' R' (g1.trans g) t) fun vs ss I2 H2 x aa g2 ex qq y hy => by
        subst hy
        exact ix_fin g2 aa ex qq
    exact tOd_mono h2 fun y H2 h => by
      obtain ⟨v, h3, h4⟩ := h y rfl
      exact ⟨a, v, rfl, h3, h4⟩
  · exact ⟨C, I, r, _, _, R, hf, q⟩
theorem de_ixT {a e : Expr} {f : EF S} {oe : Od} (hu : X.A.units + 64 < cLine) (ho : DE X W a f) (he : DO X W e oe) (hs : NoSl e) : DE X W (.Subscript a e pos) (dTmp f [oe] ixDic) := pe_of (pe_dget (by omega) ho he hs) fun s H Q q => ixT_ok q
/-- x in E, E a dict just made -/
def rInT (neg : Bool) : R2 := fun x y H Q => ∃ a k ws, y = .ref a ∧ x = kV k ∧ H a = some (.dK ws) ∧ Q (.bl (if neg = true then !(valV ws k).isSome else (valV ws k).isSome)) H
theorem op_inT (hu : X.A.units + 64 < cLine) : OpR X (compareOp .In) (rInT false) := by
  intro pins s σ H x y v u Q I rx ry h
  obtain ⟨a, k, ws, rfl, rfl, h1, q⟩ := h
  cases ry
  exact d_in (by omega) I (.inl ⟨ws, k, .inl h1, rfl, rfl⟩) rx fun s' I2 => ⟨.bl _, H, I2, rfl, q⟩
theorem op_notInT (hu : X.A.units + 64 < cLine) : OpR X (compareOp .NotIn) (rInT true) := by
  intro pins s σ H x y v u Q I rx ry h
  obtain ⟨a, k, ws, rfl, rfl, h1, q⟩ := h
  cases ry
  exact d_notIn (by omega) I (.inl ⟨ws, k, .inl h1, rfl, rfl⟩) rx fun s' I2 => ⟨.bl _, H, I2, rfl, q⟩
def inTK (neg : Bool) (ov : Ov) : S → EF S
  | .own false (.dic kvs) => fun r => match ov.get r with
    | some (.d x) => (match keyOf x with
      | some k => some (.ok (.d (.bool (if neg = true then !(valD kvs k).isSome else (valD kvs k).isSome))), r)
      | none => none)
    | _ => none
  | _ => fun _ => none
def dInT (neg : Bool) (o : Od) (f : EF S) : EF S := eb (ev1 o) fun ov => eb f (inTK neg ov)
theorem inT_ok {K : KF} {mg : MG} {s : L2.St} {H : Hp} {neg : Bool} {od : Od} {f : EF S} {Q : VK} (h : tE K mg W (dInT neg od f) s H Q) : tOp (rInT neg) (tOd K mg W od) (tE K mg W f) s H Q := by
  obtain ⟨C, I, r, o, r', R, e, q⟩ := h
  refine od_eb R e (fun x z => by subst z; exact q) fun v I1 H1 ov r1 R1 g1 ov1 e => ?_
  rcases eb_inv e with ⟨y, r2, hf, e⟩ | ⟨y, hf, rfl⟩
  · refine ⟨C, I1, r1, _, _, R1, hf, fun v2 I2 H2 R2 g2 t2 => ?_⟩
    unfold inTK at e
    split at e
    · rename_i kvs
      split at e
      · rename_i x hx
        split at e
        · rename_i k hk
          cases e
          have hv : Dp K I2 v x := get_ok R2 (ovRel_up g2 ov1) hx
          cases keyOf_ok hv hk
          obtain ⟨a, rfl, _, ⟨ws, h1, kv⟩, _⟩ := t2
          refine ⟨a, k, ws, rfl, rfl, h1, ?_⟩
          rw [kvd_isSome kv]
          exact q _ I2 H2 R2 (g1.trans g2) (.bl _)
        · cases e
      · cases e
    · cases e
  · exact ⟨C, I1, r1, _, _, R1, hf, fun c dx I' H' R' g t => q c dx I' H' R' (g1.trans g) t⟩
theorem tE_bool {K : KF} {mg : MG} {s : L2.St} {H : Hp} {f : EF S} {Q : Bool → Hp → Prop} (h : tT K mg W (cTst f) s H Q) : tE K mg W f s H fun v H1 => ∃ c, v = .bl c ∧ Q c H1 := by
  obtain ⟨C, I, r, o, r', R, e, q⟩ := h
  rcases eb_inv e with ⟨x, r1, hf, e⟩ | ⟨x, hf, rfl⟩
  · refine ⟨C, I, r, _, _, R, hf, fun v I' H' R' g t => ?_⟩
    cases x with
    | d x =>
      cases x with
      | bool b =>
        cases e
        have t : Dp K I' v (.bool b) := t
        cases t
        exact ⟨b, rfl, q I' H' R' g⟩
      | _ => cases e
    | _ => cases e
  · exact ⟨C, I, r, _, _, R, hf, q⟩
theorem de_inT {a b : Expr} {oa : Od} {f : EF S} (hu : X.A.units + 64 < cLine) (ha : DO X W a oa) (hb : DE X W b f) (hm : behindInMarks .In b = false) : DE X W (.Compare a [.In] [b] pos) (dInT false oa f) := pe_of (pe_cmpR (op_inT hu) ha hb hm) fun s H Q q => inT_ok q
theorem de_notinT {a b : Expr} {oa : Od} {f : EF S} (hu : X.A.units + 64 < cLine) (ha : DO X W a oa) (hb : DE X W b f) (hm : behindInMarks .NotIn b = false) : DE X W (.Compare a [.NotIn] [b] pos) (dInT true oa f) := pe_of (pe_cmpR (op_notInT hu) ha hb hm) fun s H Q q => inT_ok q
theorem dt_inT {a b : Expr} {oa : Od} {f : EF S} (hu : X.A.units + 64 < cLine) (ha : DO X W a oa) (hb : DE X W b f) (hm : behindInMarks .In b = false) : DT X W (.Compare a [.In] [b] pos) (cTst (dInT false oa f)) := pt_of (pt_cmpR (op_inT hu) ha hb hm) fun s H Q q => inT_ok (tE_bool q)
theorem dt_notinT {a b : Expr} {oa : Od} {f : EF S} (hu : X.A.units + 64 < cLine) (ha : DO X W a oa) (hb : DE X W b f) (hm : behindInMarks .NotIn b = false) : DT X W (.Compare a [.NotIn] [b] pos) (cTst (dInT true oa f)) := pt_of (pt_cmpR (op_notInT hu) ha hb hm) fun s H Q q => inT_ok (tE_bool q)
/-! ### {}, {k: v, ..} -/
def dNew : EF S := fun r => some (.ok (.own false (.dic [])), r)
theorem new_ok {K : KF} {mg : MG} {s : L2.St} {H : Hp} {Q : VK} (h : tE K mg W dNew s H Q) : tDNewK s H Q := fun p hp => by
  obtain ⟨C, I, r, o, r', R, e, q⟩ := h
  cases e
  have gr := grow_own (o := .dK []) R.sub hp
  exact q _ I _ (R.grow gr) (Same.refl I) (R.newS gr ⟨p, rfl, hp, R.sub.free hp, [], upd_same, .nil⟩)
theorem de_new : DE X W (.Dict [] [] pos) dNew := pe_of pe_dnewK fun s H Q q => new_ok q
def evP : List (EF D × EF D) → EF (List (D × D))
  | [] => er []
  | (k, v) :: t => eb k fun x => eb v fun y => eb (evP t) fun ps => er ((x, y) :: ps)
def keysOf : List (D × D) → Option (List (Key × D))
  | [] => some []
  | (x, y) :: t => (keyOf x).bind fun k => (keysOf t).map fun ps => (k, y) :: ps
def dDisp (ps : List (EF D × EF D)) : EF S := eb (evP ps) fun l r => match keysOf l with
  | some kvs => if kvs.length ≤ 15 then some (.ok (.own false (.dic (mergeD [] kvs))), r) else none
  | none => none
def trP (K : KF) (mg : MG) (W : WX) (ps : List (EF D × EF D)) : List (TE × TE) := ps.map fun p => (tD K mg W p.1, tD K mg W p.2)
abbrev PD (K : KF) (I : Hp) : List (V × V) → List (D × D) → Prop := Paired fun p q => Dp K I p.1 q.1 ∧ Dp K I p.2 q.2
theorem pd_up {K : KF} {I J : Hp} (g : Same I J) : ∀ {vs : List (V × V)} {ds : List (D × D)}, PD K I vs ds → PD K J vs ds
  | _, _, .nil => .nil
  | _, _, .cons h t => .cons ⟨dp_up g _ _ h.1, dp_up g _ _ h.2⟩ (pd_up g t)
theorem evP_ok {K : KF} {mg : MG} {C : Cn} {s : L2.St} : ∀ (ps : List (EF D × EF D)) {I H : Hp} {r r' : Env} {o : R (List (D × D))} (A : Rel K C I H r s) (e : evP ps r = some (o, r')) {Q : List (V × V) → Hp → Prop}
    (q : match o with
      | .ok l => ∀ vs I' H', Rel K C I' H' r' s → Same I I' → PD K I' vs l → Q vs H'
      | .ex x => ∀ c dx I' H', Rel K C I' H' r' s → Same I I' → XRel K mg C.H0 I' H' c dx x → W c dx s H'), tPairs (trP K mg W ps) s H Q
  | [], I, H, r, r', o, A, e, Q, q => by
    cases e
    exact q [] I H A (Same.refl I) .nil
  | (k, v) :: t, I, H, r, r', o, A, e, Q, q => by
    unfold evP at e
    rcases eb_inv e with ⟨x, r1, hk, e⟩ | ⟨x, hk, rfl⟩
    · refine ⟨C, I, r, _, _, A, hk, fun w I1 H1 R1 g1 p1 => ?_⟩
      rcases eb_inv e with ⟨y, r2, hv, e⟩ | ⟨y, hv, rfl⟩
      · refine ⟨C, I1, r1, _, _, R1, hv, fun w2 I2 H2 R2 g2 p2 => ?_⟩
        rcases eb_inv e with ⟨l, r3, ht, e⟩ | ⟨z, ht, rfl⟩
        · cases e
          exact evP_ok t R2 ht fun vs I3 H3 R3 g3 pd => q _ I3 H3 R3 ((g1.trans g2).trans g3) (.cons ⟨dp_up (g2.trans g3) _ _ p1, dp_up g3 _ _ p2⟩ pd)
        · exact evP_ok t R2 ht fun c dx I' H' R' g => q c dx I' H' R' ((g1.trans g2).trans g)
      · exact ⟨C, I1, r1, _, _, R1, hv, fun c dx I' H' R' g => q c dx I' H' R' (g1.trans g)⟩
    · exact ⟨C, I, r, _, _, A, hk, q⟩
theorem keysOf_ok {K : KF} {I : Hp} : ∀ {vs : List (V × V)} {l : List (D × D)} {kvs : List (Key × D)}, PD K I vs l → keysOf l = some kvs → ∃ ws : List (Key × V), vs = ws.map (fun kv => (kV kv.1, kv.2)) ∧ KvD K I ws kvs
  | _, _, kvs, .nil, e => by cases e; exact ⟨[], rfl, .nil⟩
  | _, _, kvs, .cons (a := p) (b := q) h t, e => by
    obtain ⟨x, y⟩ := q
    unfold keysOf at e
    obtain ⟨k, h1, e⟩ := Option.bind_eq_some_iff.mp e
    obtain ⟨ps, h2, e⟩ := Option.map_eq_some_iff.mp e
    cases e
    obtain ⟨ws, rfl, kv⟩ := keysOf_ok t h2
    obtain ⟨v1, v2⟩ := p
    cases keyOf_ok h.1 h1
    exact ⟨(k, v2) :: ws, rfl, .cons ⟨rfl, h.2⟩ kv⟩
theorem disp_ok {K : KF} {mg : MG} {s : L2.St} {H : Hp} {ps : List (EF D × EF D)} {Q : VK} (h : tE K mg W (dDisp ps) s H Q) : tDisp (trP K mg W ps) s H Q := fun p hp => by
  obtain ⟨C, I, r, o, r', R, e, q⟩ := h
  have gr := grow_own (o := .dK []) R.sub hp
  have R1 := R.grow gr
  have n := R.sub.free hp
  have h0 := R.dom p hp
  have i0 : C.I0 p = none := R.mono.free n
  have no : NoSlot r s p := fun i b m h e1 => by
    obtain ⟨v, hv, z⟩ := R.slot i _ h
    obtain ⟨a, ea, _, mm, _⟩ := own_nz z
    rw [e1] at hv
    cases hv
    cases ea
    obtain ⟨u, hu⟩ := mrel_some mm
    rw [hp] at hu
    cases hu
  have Rh := R1.hide (o := .dK []) upd_same n h0 no
  rcases eb_inv e with ⟨l, r1, hl, e⟩ | ⟨x, hl, rfl⟩
  · refine evP_ok ps Rh hl fun vs I2 H2 R2 g2 pd => ?_
    split at e
    · rename_i kvs hk
      split at e
      · rename_i hlen
        cases e
        obtain ⟨Ra, hDa, iDa, noa⟩ := R2.unhide h0 i0 R.bo R.iot R.lkt
        obtain ⟨ws, rfl, kv⟩ := keysOf_ok pd hk
        refine ⟨hDa, ws, rfl, by rw [kvd_len kv]; exact hlen, ?_⟩
        refine q _ I2 _ (Ra.updFree iDa h0 noa) g2 ⟨p, rfl, iDa, ⟨_, upd_same, kvd_merge kv .nil⟩, h0, noa⟩
      · cases e
    · cases e
  · exact evP_ok ps Rh hl fun c dx I' H' R' g t => q c dx I' H' (R'.unhide h0 i0 R.bo R.iot R.lkt).1 g (t.down fun _ => upd_none)
structure DPs (X : Cx) (W : WX) (pos : Pos) (keys : List (Option Expr)) (values : List Expr) (ps : List (EF D × EF D)) : Prop where
  run : PPs X pos keys values (trP X.K X.mg W ps)
theorem dps_nil : DPs X W pos [] [] [] := ⟨pps_nil⟩
theorem dps_cons {k v : Expr} {ks : List (Option Expr)} {vs : List Expr} {fk fv : EF D} {ps : List (EF D × EF D)} (hk : DD X W k fk) (hv : DD X W v fv) (hr : DPs X W pos ks vs ps) : DPs X W pos (some k :: ks) (v :: vs) ((fk, fv) :: ps) := ⟨pps_cons hk hv hr.run⟩
theorem de_disp {keys : List (Option Expr)} {values : List Expr} {ps : List (EF D × EF D)} (h : DPs X W pos keys values ps) (hall : keys.all (·.isSome) = true := by rfl) (hl : keys.length = values.length := by rfl) (h0 : keys ≠ [] := by simp) (h15 : keys.length ≤ 15 := by decide) :
    DE X W (.Dict keys values pos) (dDisp ps) := pe_of (pe_disp h.run hall hl h0 h15) fun s H Q q => disp_ok q
/-! ### dict(pairs) -/
def pairOf : D → Option (D × D)
  | .tuple [x, y] => some (x, y)
  | _ => none
def pairsOf : List D → Option (List (D × D))
  | [] => some []
  | d :: t => (pairOf d).bind fun p => (pairsOf t).map fun ps => p :: ps
def dictD : List S → Option S
  | [p] => (lstS p).bind fun xs => (pairsOf xs).bind fun l => (keysOf l).map fun kvs => .own false (.dic (mergeD [] kvs))
  | _ => none
theorem pairsOf_ok {K : KF} {I H : Hp} (g : Same I H) : ∀ {vs : List V} {xs : List D} {l : List (D × D)} {kvs : List (Key × D)}, DpAll K I vs xs → pairsOf xs = some l → keysOf l = some kvs →
    ∃ (ps : List Addr) (ws : List (Key × V)), vs = ps.map V.ref ∧ Paired (fun p kv => SqT K H p [kV kv.1, kv.2]) ps ws ∧ KvD K I ws kvs
  | _, _, l, kvs, .nil, e, ek => by cases e; cases ek; exact ⟨[], [], rfl, .nil, .nil⟩
  | _, _, l, kvs, .cons (v := v) (d := d) h t, e, ek => by
    unfold pairsOf at e
    obtain ⟨p, h1, e⟩ := Option.bind_eq_some_iff.mp e
    obtain ⟨l', h2, e⟩ := Option.map_eq_some_iff.mp e
    cases e
    obtain ⟨x, y⟩ := p
    unfold keysOf at ek
    obtain ⟨k, k1, ek⟩ := Option.bind_eq_some_iff.mp ek
    obtain ⟨kvs', k2, ek⟩ := Option.map_eq_some_iff.mp ek
    cases ek
    obtain ⟨ps, ws, rfl, pr, kv⟩ := pairsOf_ok g t h2 k2
    unfold pairOf at h1
    split at h1
    · cases h1
      cases h with
      | tup hs ha =>
        cases ha with
        | cons a1 a2 =>
          cases a2 with
          | cons a2 a3 =>
            cases a3
            rename_i a v1 v2
            cases keyOf_ok a1 k1
            exact ⟨a :: ps, (k, v2) :: ws, rfl, .cons (Evl.ex_t g hs) pr, .cons ⟨rfl, a2⟩ kv⟩
    · cases h1
theorem ok_dict (hc : X.calm = true) : CallD X (.type "dict") dictD := by
  intro pins s σ H xs us Q I r h
  obtain ⟨I', ss, z, g, p, e, q⟩ := h
  unfold dictD at e
  split at e
  · rename_i pp
    obtain ⟨xs1, e1, e⟩ := Option.bind_eq_some_iff.mp e
    obtain ⟨l, e2, e⟩ := Option.bind_eq_some_iff.mp e
    obtain ⟨kvs, e3, e⟩ := Option.map_eq_some_iff.mp e
    cases e
    cases p with
    | cons a1 a2 =>
      cases a2
      obtain ⟨a, vs, rfl, hq, da⟩ := lstS_ok g a1 e1
      obtain ⟨ps, ws, rfl, pr, kv⟩ := pairsOf_ok g da e2 e3
      refine call_dictP hc pins s σ H _ us Q I r ⟨a, ps, ws, rfl, hq, pr, fun p hp => ?_⟩
      have gr := grow_own (o := .dK (mergeK [] ws)) g hp
      exact q _ I' _ gr ⟨p, rfl, hp, g.free hp, _, upd_same, kvd_merge kv .nil⟩
  · cases e
/-! ### xs.extend(E), E a list just made; xs.clear() -/
def dExt (i : Nat) (f : EF S) : EF S := fun r => if isLst r[i]? = true then eb f (fun x => match x with
    | .own false (.lst zs) => fun r => (match r[i]? with
      | some (some (.own b (.lst xs))) => if xs.length + zs.length ≤ 16777216 then some (.ok (.d .none), r.set i (some (.own b (.lst (xs ++ zs))))) else none
      | _ => none)
    | _ => fun _ => none) r
  else none
theorem ext_ok {K : KF} {mg : MG} {s : L2.St} {H : Hp} {i : Nat} {f : EF S} {Q : VK} (h : tE K mg W (dExt i f) s H Q) :
    tBM K "list" rExtend (tVar i) (tCons (tE K mg W f) tNil) s H Q := by
  obtain ⟨C, I, r, o, r', R, e, q⟩ := h
  unfold dExt at e
  split at e
  · rename_i hl
    unfold isLst at hl
    split at hl
    · rename_i b xs hr
      obtain ⟨v, hv, z⟩ := R.slot i _ hr
      obtain ⟨a, ea, _, ⟨vs, h1, _⟩, _⟩ := own_nz z
      subst ea
      refine ⟨_, hv, .inl ⟨rfl, vs, SqL.of h1⟩, ?_⟩
      rcases eb_inv e with ⟨x, r1, ho, e⟩ | ⟨x, ho, rfl⟩
      · refine ⟨C, I, r, _, _, R, ho, fun v2 I' H' R' g t => ?_⟩
        split at e
        · rename_i zs
          split at e
          · rename_i b2 ys hr2
            split at e
            · rename_i hlen
              cases e
              obtain ⟨v3, hv3, z2⟩ := R'.slot i _ hr2
              rw [hv] at hv3
              cases hv3
              obtain ⟨a2, ea2, na, ⟨us, h2, d2⟩, _⟩ := own_nz z2
              cases ea2
              obtain ⟨c, rfl, nc, ⟨ws, h3, d3⟩, _⟩ := t
              refine ⟨a, c, us, ws, rfl, rfl, h2, h3, by rw [dpa_len d2, dpa_len d3, sizeLine_eq]; exact hlen, ?_⟩
              exact q .non I' _ (R'.mut hr2 hv ⟨_, upd_same, dpa_app d2 d3⟩) g .non
            · cases e
          · cases e
        · cases e
      · exact ⟨C, I, r, _, _, R, ho, q⟩
    · cases hl
  · cases e
theorem de_ext {i : Nat} {x : Str} {f : EF S} {e : Expr} {p apos cpos : Pos} (ho : PE X (.Name x p) (tVar i)) (ha : DE X W e f) (hbase : attributeBase (.Name x p) "extend" X.env (eval (.Name x p) X.env) = eval (.Name x p) X.env := by rfl)
    (hk : ((backTo cpos (starEach [e] X.env)).all (fun x => !x.1) && (backToKw cpos (keywordEach [] X.env)).all (fun x => x.1.isSome)
      && decide (([e] : List Expr).length + ([] : List Keyword).length + (if ([] : List Keyword).isEmpty then 0 else 1) < 30)) = true := by rfl)
    (hline : (apos.endLine == cpos.line) = true := by rfl) (he : starEach [e] X.env = (false, eval e X.env) :: starEach [] X.env := by rfl) (hpl : (backTo cpos (starEach [] X.env)).any (·.1) = false := by rfl) :
    DE X W (.Call (.Attribute (.Name x p) "extend" apos) [e] [] cpos) (dExt i f) :=
  pe_of (pe_bm PySem.F.plainAttrs_list PySem.F.slot_list_extend PySem.F.type_list_extend mt_extend ho (pa_cons ha pa_nil he) hbase hk hline he hpl) fun s H Q q => ext_ok q
def mClear : MO → List S → Option (D × MO)
  | .lst xs, [] => some (.none, .lst [])
  | _, _ => none
theorem mt_clr : MtD X "list.clear" mClear := by
  intro pins s σ H x vs v us Q I rx rv h
  obtain ⟨I', a, m, ss, d, m', g, rfl, na, mr, aa, e, q⟩ := h
  unfold mClear at e
  split at e
  · cases e
    cases aa
    obtain ⟨ws, h1, h2⟩ := mr
    exact mt_clear pins s σ H _ _ v us Q I rx rv ⟨a, ws, rfl, rfl, h1, q .non _ .non ⟨_, upd_same, .nil⟩⟩
  · cases e
end
end DL
/-! DLu: one's own dict is walked. -/
namespace DL
open PySem L2
section
variable {K : KF} {mg : MG} {W : WX} {C : Cn} {I H : Hp} {r : Env} {s : L2.St} {i : Nat} {b : Bool} {kvs : List (Key × D)}
theorem Rel.lockD (R : Rel K C I H r s) (h : r[i]? = some (some (.own b (.dic kvs)))) : ∃ a ws, s[i]? = some (some (.ref a)) ∧ H a = some (.dK ws) ∧ I a = none ∧ ((b = true ∧ C.io i = some a) ∨ (b = false ∧ C.H0 a = none)) ∧
    ∀ od, Rel K (C.lock i a (.frz od (.dK ws))) I (upd H a (.frz od (.dK ws))) (r.set i (some (.lck (.frd kvs)))) s := by
  obtain ⟨v, hv, z⟩ := R.slot i _ h
  obtain ⟨a, e, n, ⟨ws, ha, p⟩, w⟩ := own_nz z
  subst e
  have hi : i < r.length := (List.getElem?_eq_some_iff.mp h).1
  refine ⟨a, ws, hv, ha, n, w, fun od => ?_⟩
  have back : ∀ {j : Nat} {y : S}, (r.set i (some (.lck (.frd kvs))))[j]? = some (some y) → (j = i ∧ y = .lck (.frd kvs)) ∨ (j ≠ i ∧ r[j]? = some (some y)) := fun {j y} q => by
    by_cases hj : j = i
    · subst hj
      rw [List.getElem?_set_self hi] at q
      cases q
      exact .inl ⟨rfl, rfl⟩
    · rw [List.getElem?_set_ne (Ne.symm hj)] at q
      exact .inr ⟨hj, q⟩
  have up : ∀ {c : Addr}, c ≠ a → upd C.H0 a (.frz od (.dK ws)) c = C.H0 c := fun {c} hc => upd_ne hc
  have upH : ∀ {c : Addr}, c ≠ a → upd H a (.frz od (.dK ws)) c = H c := fun {c} hc => upd_ne hc
  refine ⟨by rw [List.length_set]; exact R.len, fun c u e => ?_, R.mono, fun c u e k => ?_, fun c e => ?_, fun c e => ?_, fun j c e => ?_, fun j c e => ?_, fun c e1 e2 => ?_, fun j y q => ?_, fun j k b1 c1 m1 n1 a1 ne q1 q2 => ?_, R.tz⟩
  · rw [upH (ne_of_none e n)]
    exact R.sub c u e
  · have e : upd C.H0 a (.frz od (.dK ws)) c = some u := e
    by_cases hc : c = a
    · subst hc
      rw [upd_same] at e
      cases e
      exact upd_same
    · rw [up hc] at e
      rw [upH hc]
      exact R.keep c u e fun j hj => k j (lock_io' hj hc)
  · have hc : c ≠ a := by
      rintro rfl
      rw [upd_same] at e
      cases e
    show upd C.H0 a (.frz od (.dK ws)) c = none
    rw [up hc]
    rw [upH hc] at e
    exact R.dom c e
  · show upd C.H0 a (.frz od (.dK ws)) c ≠ none
    rw [up e.2]
    exact R.bo c e.1
  · obtain ⟨e1, e2⟩ := lock_io e
    show upd C.H0 a (.frz od (.dK ws)) c ≠ none
    rw [up e2]
    exact R.iot j c e1
  · have e : (if j = i then some a else C.lk j) = some c := e
    split at e
    · cases e
      refine ⟨?_, fun k hk => (lock_io hk).2 rfl⟩
      show upd C.H0 a (.frz od (.dK ws)) a ≠ none
      rw [upd_same]
      exact fun z => by cases z
    · obtain ⟨l1, l2⟩ := R.lkt j c e
      refine ⟨?_, fun k hk => l2 k (lock_io hk).1⟩
      show upd C.H0 a (.frz od (.dK ws)) c ≠ none
      by_cases hc : c = a
      · subst hc
        rw [upd_same]
        exact fun z => by cases z
      · rw [up hc]
        exact l1
  · by_cases hc : c = a
    · rw [hc]
      exact n
    · have e2 : upd C.H0 a (.frz od (.dK ws)) c ≠ none := e2
      rw [up hc] at e2
      exact R.fresh c e1 e2
  · rcases back q with ⟨rfl, rfl⟩ | ⟨hj, q⟩
    · exact ⟨_, hv, a, rfl, if_pos rfl, n, od, ws, upd_same, p⟩
    · obtain ⟨u, hu, z2⟩ := R.slot j y q
      refine ⟨u, hu, ?_⟩
      cases y with
      | d y => exact z2
      | bor m =>
        obtain ⟨c, e, bo, k, mm⟩ := z2
        have hc : c ≠ a := by
          rintro rfl
          rcases w with ⟨_, w⟩ | ⟨_, w⟩
          · exact k i w
          · exact R.bo _ bo w
        exact ⟨c, e, ⟨bo, hc⟩, fun j' hj' => k j' (lock_io hj').1, mrel_up (Same.refl _) (up hc) mm⟩
      | lck m =>
        obtain ⟨c, e, l, k, mm⟩ := z2
        have hc : c ≠ a := by
          rintro rfl
          obtain ⟨l1, l2⟩ := R.lkt _ _ l
          rcases w with ⟨_, w⟩ | ⟨_, w⟩
          · exact l2 i w
          · exact l1 w
        exact ⟨c, e, (if_neg hj).trans l, k, mrel_up (Same.refl _) (upH hc) mm⟩
      | own b1 m =>
        obtain ⟨c, e, k, mm, w1⟩ := own_nz z2
        subst e
        have hc : c ≠ a := by
          rintro rfl
          exact R.dist j i _ _ _ _ _ hj q h hu hv
        refine own_mk rfl k (mrel_up (Same.refl _) (upH hc) mm) ?_
        rcases w1 with ⟨e1, w1⟩ | ⟨e1, w1⟩
        · exact .inl ⟨e1, lock_io' w1 hc⟩
        · exact .inr ⟨e1, (up hc).trans w1⟩
  · rcases back q1 with ⟨_, z⟩ | ⟨_, q1⟩
    · cases z
    · rcases back q2 with ⟨_, z⟩ | ⟨_, q2⟩
      · cases z
      · exact R.dist j k _ _ _ _ _ ne q1 q2
theorem Rel.unlockD {a : Addr} {od : Obj} {ws : List (Key × V)} {kvs' : List (Key × D)} {I' H' : Hp} {r' : Env} {s' : L2.St} (R0 : Rel K C I H r s) (n0 : I a = none) (w : (b = true ∧ C.io i = some a) ∨ (b = false ∧ C.H0 a = none)) (R : Rel K (C.lock i a (.frz od (.dK ws))) I' H' r' s') (h : r'[i]? = some (some (.lck (.frd kvs')))) :
    H' a = some (.frz od (.dK ws)) ∧ s'[i]? = some (some (.ref a)) ∧ Rel K C I' (upd H' a (.dK ws)) (r'.set i (some (.own b (.dic kvs')))) s' := by
  have hi : i < r'.length := (List.getElem?_eq_some_iff.mp h).1
  obtain ⟨v, hv, a2, e2, l2, n2, mm⟩ := R.slot i _ h
  have ea : a2 = a := by
    have l2 : (if i = i then some a else C.lk i) = some a2 := l2
    rw [if_pos rfl] at l2
    exact (Option.some.inj l2).symm
  subst ea
  subst e2
  have up : ∀ {c : Addr}, c ≠ a2 → (C.lock i a2 (.frz od (.dK ws))).H0 c = C.H0 c := fun {c} hc => upd_ne hc
  have at' : (C.lock i a2 (.frz od (.dK ws))).H0 a2 = some (.frz od (.dK ws)) := upd_same
  have hH : H' a2 = some (.frz od (.dK ws)) := R.keep a2 _ at' fun j hj => (lock_io hj).2 rfl
  have kv : KvD K I' ws kvs' := by
    obtain ⟨o, ws', h1, h2⟩ := mm
    rw [hH] at h1
    cases h1
    exact h2
  have upH : ∀ {c : Addr}, c ≠ a2 → upd H' a2 (.dK ws) c = H' c := fun {c} hc => upd_ne hc
  refine ⟨hH, hv, ?_⟩
  have back : ∀ {j : Nat} {y : S}, (r'.set i (some (.own b (.dic kvs'))))[j]? = some (some y) → (j = i ∧ y = .own b (.dic kvs')) ∨ (j ≠ i ∧ r'[j]? = some (some y)) := fun {j y} q => by
    by_cases hj : j = i
    · subst hj
      rw [List.getElem?_set_self hi] at q
      cases q
      exact .inl ⟨rfl, rfl⟩
    · rw [List.getElem?_set_ne (Ne.symm hj)] at q
      exact .inr ⟨hj, q⟩
  have noown : ∀ {j : Nat} {b1 : Bool} {m1 : MO}, r'[j]? = some (some (.own b1 m1)) → s'[j]? = some (some (.ref a2)) → False := fun {j b1 m1} q e => by
    obtain ⟨u, hu, z⟩ := R.slot j _ q
    rw [e] at hu
    cases hu
    obtain ⟨c, ec, _, _, w1⟩ := own_nz z
    cases ec
    rcases w1 with ⟨_, w1⟩ | ⟨_, w1⟩
    · exact (lock_io w1).2 rfl
    · rw [at'] at w1
      cases w1
  refine ⟨by rw [List.length_set]; exact R.len, fun c u e => ?_, R.mono, fun c u e k => ?_, fun c e => ?_, R0.bo, R0.iot, R0.lkt, fun c e1 e2 => ?_, fun j y q => ?_, fun j k b1 c1 m1 n1 a1 ne q1 q2 e1 e2 => ?_, R.tz⟩
  · rw [upH (ne_of_none e n2)]
    exact R.sub c u e
  · have hc : c ≠ a2 := by
      rintro rfl
      rcases w with ⟨_, w⟩ | ⟨_, w⟩
      · exact k i w
      · rw [w] at e
        cases e
    rw [upH hc]
    exact R.keep c u ((up hc).trans e) fun j hj => k j (lock_io hj).1
  · have hc : c ≠ a2 := by
      rintro rfl
      rw [upd_same] at e
      cases e
    rw [upH hc] at e
    have h1 := R.dom c e
    rw [← up hc]
    exact h1
  · by_cases hc : c = a2
    · rw [hc]
      exact n2
    · refine R.fresh c e1 ?_
      rw [up hc]
      exact e2
  · rcases back q with ⟨rfl, rfl⟩ | ⟨hj, q⟩
    · exact ⟨_, hv, own_mk rfl n2 ⟨ws, upd_same, kv⟩ w⟩
    · obtain ⟨u, hu, z⟩ := R.slot j y q
      refine ⟨u, hu, ?_⟩
      cases y with
      | d y => exact z
      | bor m1 =>
        obtain ⟨c, e, bo, k, mm1⟩ := z
        exact ⟨c, e, bo.1, fun j' hj' => k j' (lock_io' hj' bo.2), mrel_up (Same.refl _) (up bo.2).symm mm1⟩
      | lck m1 =>
        obtain ⟨c, e, l, k, mm1⟩ := z
        have l : (if j = i then some a2 else C.lk j) = some c := l
        rw [if_neg hj] at l
        have hc : c ≠ a2 := by
          intro hc
          rw [hc] at l
          obtain ⟨l1, l2⟩ := R0.lkt _ _ l
          rcases w with ⟨_, w⟩ | ⟨_, w⟩
          · exact l2 i w
          · exact l1 w
        exact ⟨c, e, l, k, mrel_up (Same.refl _) (upH hc) mm1⟩
      | own b1 m1 =>
        obtain ⟨c, e, k, mm1, w1⟩ := own_nz z
        subst e
        have hc : c ≠ a2 := by
          rintro rfl
          exact noown q hu
        refine own_mk rfl k (mrel_up (Same.refl _) (upH hc) mm1) ?_
        rcases w1 with ⟨e1, w1⟩ | ⟨e1, w1⟩
        · exact .inl ⟨e1, (lock_io w1).1⟩
        · exact .inr ⟨e1, (up hc).symm.trans w1⟩
  · rcases back q1 with ⟨rfl, z1⟩ | ⟨hj, p1⟩
    · rw [hv] at e1
      cases e1
      rcases back q2 with ⟨rfl, _⟩ | ⟨_, p2⟩
      · exact ne rfl
      · exact noown p2 e2
    · rcases back q2 with ⟨rfl, z2⟩ | ⟨hk, p2⟩
      · rw [hv] at e2
        cases e2
        exact noown p1 e1
      · exact R.dist j k _ _ _ _ _ ne p1 p2 e1 e2
/-- the keys of a walked dict -/
def keyD' : Key → D
  | .inl i => .int i
  | .inr x => .str x
def iKey (i : Nat) : EF (List D) := fun r => match r[i]? with
  | some (some (.lck (.frd kvs))) => some (.ok (kvs.map fun kv => keyD' kv.1), r)
  | _ => none
theorem key_dp {I : Hp} (k : Key) : Dp K I (kV k) (keyD' k) := by
  cases k with
  | inl i => exact .int i
  | inr x => exact .str x
theorem jd_keys {tg : Expr} {I0 : Hp} {a : Addr} {od : Obj} {ws : List (Key × V)} (h0 : C.H0 a = some (.frz od (.dK ws))) (n : ∀ j, C.io j ≠ some a) (p : KvD K I0 ws kvs) : JD K C I0 tg (Itk a od ws) (kvs.map fun kv => keyD' kv.1) := fun C' k I H r s ⟨c1, c2, c3⟩ R g => by
  have hH : H a = some (.frz od (.dK ws)) := R.keep a _ (c3 a _ h0) (by rw [c2]; exact n)
  have hl := kvd_len p
  refine ⟨fun d e => ?_, fun hk => ⟨hH, by rw [List.length_map] at hk; omega⟩⟩
  rw [List.getElem?_map] at e
  obtain ⟨kv, e1, rfl⟩ := Option.map_eq_some_iff.mp e
  have hk : k < ws.length := by
    have := (List.getElem?_eq_some_iff.mp e1).1
    omega
  refine ⟨⟨hH, hk⟩, fun x H' ⟨e2, k2, v, e3, e4⟩ => ?_⟩
  subst e2 e4
  refine ⟨I, R, Same.refl I, ?_⟩
  obtain ⟨w, h1, h2, _⟩ := paired_get p e3
  rw [e1] at h1
  cases h1
  rw [← h2]
  exact .inl (key_dp _)
end
section
variable {X : Cx} {W : WX} {pos : Pos}
theorem di_keys {tg : Expr} {i : Nat} {x : Str} (h : PE X (.Name x pos) (tVar i)) : DI X W tg (.Name x pos) (iKey i) := pi_of (pi_keys h) fun s H P ⟨C, I, r, o, r', R, e, q⟩ => by
  unfold iKey at e
  split at e
  · rename_i kvs hr
    cases e
    obtain ⟨v, hv, a, ea, l, n, od, ws, h1, kv⟩ := R.slot i _ hr
    subst ea
    refine ⟨_, hv, a, od, rfl, .inl ⟨ws, h1, ?_⟩⟩
    obtain ⟨l1, l2⟩ := R.lkt _ _ l
    have h0 : C.H0 a = some (.frz od (.dK ws)) := by
      cases e : C.H0 a with
      | none => exact absurd e l1
      | some o =>
        have := R.keep a o e l2
        rw [h1] at this
        exact this.symm
    exact q _ I H R (Same.refl I) (jd_keys h0 l2 kv)
  · cases e
/-- an expression over a dict of one's own, which stays while it runs -/
def lkE (i : Nat) (f : EF S) : EF S := fun r => match r[i]? with
  | some (some (.own b (.dic kvs))) => (match f (r.set i (some (.lck (.frd kvs)))) with
    | some (.ok x, r') => (match r'[i]? with
      | some (some (.lck (.frd kvs'))) => some (.ok x, r'.set i (some (.own b (.dic kvs'))))
      | _ => none)
    | _ => none)
  | _ => none
theorem trel_unlockD {K : KF} {C : Cn} {I' H' : Hp} {r' : Env} {s' : L2.St} {i : Nat} {a : Addr} {u : HO} {ws : List (Key × V)} {m : MO} {b : Bool} {v : V} {x : S} (hs : s'[i]? = some (some (.ref a)))
    (t : TRel K (C.lock i a u) I' H' r' s' v x) : TRel K C I' (upd H' a (.dK ws)) (r'.set i (some (.own b m))) s' v x := by
  cases x with
  | d x => exact t
  | bor m => exact t.elim
  | lck m => exact t.elim
  | own c m1 =>
    cases c with
    | true => exact t.elim
    | false =>
      obtain ⟨a1, e, n1, mm, h0, no⟩ := t
      have h0 : upd C.H0 a u a1 = none := h0
      have ha : a1 ≠ a := by
        rintro rfl
        rw [upd_same] at h0
        cases h0
      rw [upd_ne ha] at h0
      refine ⟨a1, e, n1, mrel_up (Same.refl _) (upd_ne ha) mm, h0, fun k c n hk hsk => ?_⟩
      by_cases hki : k = i
      · subst hki
        rw [hs] at hsk
        exact ha (by injection hsk with h; injection h with h; injection h with h; exact h.symm)
      · rw [List.getElem?_set_ne (Ne.symm hki)] at hk
        exact no k c n hk hsk
theorem lkE_ok {K : KF} {mg : MG} {s : L2.St} {H : Hp} {i : Nat} {f : EF S} {Q : VK} (h : tE K mg W (lkE i f) s H Q) : tLockE (tE K mg W f) s H Q := by
  obtain ⟨C, I, r, o, r', R, e, q⟩ := h
  unfold lkE at e
  split at e
  · rename_i b kvs hr
    split at e
    · rename_i x r1 hf
      split at e
      · rename_i kvs' hk
        cases e
        obtain ⟨a, ws, hs, ha, n, w, RL⟩ := R.lockD hr
        refine ⟨a, _, ha, True.intro, fun od => ⟨_, I, _, _, _, RL od, hf, fun v I' H' R' g t => ?_⟩⟩
        obtain ⟨h1, h2, R2⟩ := R.unlockD n w R' hk
        exact ⟨h1, q v I' _ R2 g (trel_unlockD h2 t)⟩
      · cases e
    · cases e
  · cases e
theorem de_lock {e : Expr} {f : EF S} (i : Nat) (h : DE X W e f) : DE X W e (lkE i f) := pe_of (pe_lock h) fun s H Q q => lkE_ok q
/-- a statement over a dict of one's own -/
def lkS (i : Nat) (g : SM) : SM := fun r => match r[i]? with
  | some (some (.own b (.dic kvs))) => (match g (r.set i (some (.lck (.frd kvs)))) with
    | some (.ex x, r') => none
    | some (o, r') => (match r'[i]? with
      | some (some (.lck (.frd kvs'))) => some (o, r'.set i (some (.own b (.dic kvs'))))
      | _ => none)
    | _ => none)
  | _ => none
theorem lkS_ok {K : KF} {mg : MG} {s : L2.St} {H : Hp} {i : Nat} {g : SM} {D0 : Ends} (h : tS K mg W (lkS i g) D0 s H) : tLock (tS K mg W g) D0 s H := by
  obtain ⟨C, I, r, o, r', R, e, q⟩ := h
  unfold lkS at e
  split at e
  · rename_i b kvs hr
    split at e
    · cases e
    · rename_i o1 r1 hne hf
      split at e
      · rename_i kvs' hk
        cases e
        obtain ⟨a, ws, hs, ha, n, w, RL⟩ := R.lockD hr
        refine ⟨a, _, ha, True.intro, fun od => ⟨_, I, _, _, _, RL od, hf, ?_⟩⟩
        cases o with
        | nx =>
          intro s' I' H' R' g'
          obtain ⟨h1, h2, R2⟩ := R.unlockD n w R' hk
          exact ⟨h1, q s' I' _ R2 g'⟩
        | bk =>
          intro s' I' H' R' g'
          obtain ⟨h1, h2, R2⟩ := R.unlockD n w R' hk
          exact ⟨h1, q s' I' _ R2 g'⟩
        | ct =>
          intro s' I' H' R' g'
          obtain ⟨h1, h2, R2⟩ := R.unlockD n w R' hk
          exact ⟨h1, q s' I' _ R2 g'⟩
        | rt y =>
          intro v s' I' H' R' g' t
          obtain ⟨h1, h2, R2⟩ := R.unlockD n w R' hk
          exact ⟨h1, q v s' I' _ R2 g' (trel_unlockD h2 t)⟩
        | ex y => exact (hne _ rfl).elim
      · cases e
    · cases e
  · cases e
theorem ds_lock {st : Stmt} {g : SM} (i : Nat) (h : DS X W st g) : DS X W st (lkS i g) := ps_of (ps_lock h) fun D s H q => lkS_ok q
end
end DL
/-! DLu2: enumerate, zip, reversed are walked; what is turned about. -/
namespace DL
open PySem PySem.Spec PyProof.Rows L2
theorem ad_lt {a n : Nat} (k : Nat) (h : a < n) : a ≠ n + k := by omega
theorem ad_ne {n : Nat} (i j : Nat) (h : i ≠ j) : n + i ≠ n + j := by omega
theorem ad_n2 {n a : Nat} (k i : Nat) (h : a < n) (hk : k ≠ i) : n + k ∉ [n + i, a] := by simp; omega
theorem fm_congr {α β : Type} {f g : α → Option β} : ∀ {l : List α}, (∀ x ∈ l, f x = g x) → l.filterMap f = l.filterMap g
  | [], _ => rfl
  | a :: l, h => by
    rw [List.filterMap_cons, List.filterMap_cons, h a List.mem_cons_self, fm_congr fun x hx => h x (List.mem_cons_of_mem _ hx)]
/-! ### a list or a tuple -/
def SqB (K : KF) (H : Hp) (k : Bool) (a : Addr) (xs : List V) : Prop := if k = true then SqT K H a xs else SqL K H a xs
def IsB (k : Bool) (h : Heap) (a : Addr) (its : Array Value) : Prop := if k = true then h.IsTuple a its else h.IsList a its
def IterB (k : Bool) (h : Heap) (it a : Addr) (i : Nat) : Prop := if k = true then h.IsTupleIter it a i else h.IsListIter it a i
theorem iterB_keep {k : Bool} {h h' : Heap} {it a : Addr} {i : Nat} (st : IterB k h it a i) (q : ∀ o, h.get? it = some o → h'.get? it = some o) : IterB k h' it a i := by
  cases k
  · exact Heap.IsListIter.at st q
  · exact Heap.IsTupleIter.at st q
theorem iterB_obj {k : Bool} {h : Heap} {it a : Addr} {i : Nat} (st : IterB k h it a i) : ∃ o, h.get? it = some o ∧ ∀ v, o.data ≠ .cell v := by
  cases k
  · obtain ⟨o, h1, h2, h3⟩ := (show h.IsListIter it a i from st)
    exact ⟨o, h1, fun v q => by rw [h3] at q; cases q⟩
  · obtain ⟨o, h1, h2, h3⟩ := (show h.IsTupleIter it a i from st)
    exact ⟨o, h1, fun v q => by rw [h3] at q; cases q⟩
theorem isB_keep {k : Bool} {h h' : Heap} {a : Addr} {its : Array Value} (st : IsB k h a its) (q : ∀ o, h.get? a = some o → h'.get? a = some o) : IsB k h' a its := by
  cases k
  · exact Heap.IsList.at st q
  · exact Heap.IsTuple.at st q
theorem isB_lt {k : Bool} {h : Heap} {a : Addr} {its : Array Value} (st : IsB k h a its) : a < h.objs.size := by
  cases k
  · obtain ⟨o, h1, _⟩ := (show h.IsList a its from st)
    exact Heap.lt_size h1
  · obtain ⟨o, h1, _⟩ := (show h.IsTuple a its from st)
    exact Heap.lt_size h1
theorem sqB_items {X : Cx} {pins : List (Addr × Obj)} {σ : L2.St} {H : Hp} {s : Shared} {k : Bool} {a : Addr} {xs : List V} (I : Inv X pins σ H s) (h : SqB X.K H k a xs) : ∃ its : List Value, Vals xs its ∧ IsB k s.heap a its.toArray ∧ xs.length ≤ sizeLine := by
  cases k
  · obtain ⟨its, r, p, z⟩ := I.list h
    exact ⟨its, r, p.isList, z⟩
  · obtain ⟨its, r, p, z⟩ := I.tuple h
    exact ⟨its, r, p, z⟩
theorem drawsB {prog : Program} {w : World} {A : Around} (k : Bool) (hh : A.handled = none) (it a : Addr) (hne : a ≠ it) (its : Array Value) :
    Draws prog w A it [it, a] its.size (fun i v => its[i]? = some v) (fun i h => IterB k h it a i ∧ IsB k h a its) := by
  cases k
  · exact Draws.list hh it a hne its
  · exact Draws.tuple hh it a hne its
theorem beginsB (k : Bool) (a : Addr) (its : Array Value) : ∃ o : Obj, Begins (.ref a) o (fun h => IsB k h a its) ∧ ∀ (h : Heap) (it : Addr), h.get? it = some o → IterB k h it a 0 := by
  cases k
  · exact ⟨_, begins_list a its, fun h it e => ⟨_, e, rfl, rfl⟩⟩
  · exact ⟨_, begins_tuple a its, fun h it e => ⟨_, e, rfl, rfl⟩⟩
/-- data that is walked so -/
theorem dp_seq {K : KF} {I : Hp} {v : V} {d : D} {xs : List D} (p : Dp K I v d) (e : d = .list xs ∨ d = .tuple xs) : ∃ k a vs, v = .ref a ∧ SqB K I k a vs ∧ DpAll K I vs xs := by
  rcases e with rfl | rfl
  · cases p with
    | lst hs ha => exact ⟨false, _, _, rfl, hs, ha⟩
  · cases p with
    | tup hs ha => exact ⟨true, _, _, rfl, hs, ha⟩
theorem sqB_up {K : KF} {I J : Hp} {k : Bool} {a : Addr} {xs : List V} (s : Same I J) (h : SqB K I k a xs) : SqB K J k a xs := by
  cases k
  · exact s.seq h
  · exact Evl.ex_t s h
/-- the items of a list or a tuple -/
def seqI : S → Option (List D)
  | .d (.list xs) => some xs
  | .d (.tuple xs) => some xs
  | _ => none
theorem seqI_ok {K : KF} {I H : Hp} {v : V} {x : S} {xs : List D} (a : ARel K I H v x) (e : seqI x = some xs) : ∃ k a vs, v = .ref a ∧ SqB K I k a vs ∧ DpAll K I vs xs := by
  unfold seqI at e
  split at e
  · cases e
    exact dp_seq a (.inl rfl)
  · cases e
    exact dp_seq a (.inr rfl)
  · cases e
/-! ### enumerate -/
set_option maxHeartbeats 1000000 in
theorem meets_enum1 {v : Value} {o : Obj} {B : Heap → Prop} (b : Begins v o B) :
    Meets (Builtin.«enumerate.__new__» ⟨[.type "enumerate", v], []⟩) (fun _ R s => B s.heap ∧
      R (.ok (.ret (.ref (s.heap.push o).objs.size))) { s with heap := (s.heap.push o).push { cls := .type "enumerate", data := .fields #[.none, .bool false, .ref s.heap.objs.size, rawInt 0, .none, .none] } }) :=
  .of_wp fun prog w A R s h => by
    obtain ⟨hp, g, d, tk, os⟩ := s; obtain ⟨h1, h⟩ := h
    have hsub := sub_enumerate
    have q1 : ∀ {A' : Around} {E : Value → Shared → Prop} {Q : Value → Shared → Prop}, Q (.ref hp.objs.size) ⟨hp.push o, g, d, tk, os⟩ → wpAny (model prog w) A' (pyIter v) Q E ⟨hp, g, d, tk, os⟩ :=
      fun q => b.iter prog w _ _ ⟨hp, g, d, tk, os⟩ _ h1 q
    wp_walk using q1
    refine wpAny_stack_any fun st => wpAny_pure ?_
    split
    · rename_i c _ _ _ _ _
      cases (c == Value.type "enumerate")
      · wp_walk using q1
        exact ⟨_, rfl, h⟩
      · wp_walk using q1
        exact ⟨_, rfl, h⟩
    · wp_walk using q1
      exact ⟨_, rfl, h⟩
theorem enum_begins1 {prog : Program} {w : World} {A : Around} {E : Value → Shared → Prop} {s : Shared} {v : Value} {o : Obj} {B : Heap → Prop} {Q : Value → Shared → Prop} (b : Begins v o B) (h1 : B s.heap)
    (h : ∀ h', IsEnum h' (s.heap.objs.size + 1) s.heap.objs.size 0 .none → h'.get? s.heap.objs.size = some o → h'.objs.size = s.heap.objs.size + 2 →
      (∀ b o, s.heap.get? b = some o → h'.get? b = some o) → Q (.ref (s.heap.objs.size + 1)) { s with heap := h' }) :
    wpAny (model prog w) A (call (.type "enumerate") [v]) Q E s := by
  refine callType_new F.called_enumerate (by decide) (F.typeCall_enumerate_1 _) (F.newCall_enumerate_1 _) (fun obj => F.args_object_init_2 obj _) F.entry_enumerate_new
    (meets_enum1 b) ⟨h1, ?_⟩
  have hz : (s.heap.push o).objs.size = s.heap.objs.size + 1 := Heap.size_push ..
  show _ ∧ _
  rw [hz]
  have he : IsEnum ((s.heap.push o).push { cls := .type "enumerate", data := .fields #[.none, .bool false, .ref s.heap.objs.size, rawInt 0, .none, .none] }) (s.heap.objs.size + 1) s.heap.objs.size 0 .none := by
    have := Heap.get?_push_size (s.heap.push o) (o := { cls := .type "enumerate", data := .fields #[.none, .bool false, .ref s.heap.objs.size, rawInt 0, .none, .none] }) rfl
    rw [hz] at this; exact this
  refine ⟨⟨_, he, rfl⟩, h _ he (Heap.get?_push_of_some _ (Heap.get?_push_size _ b.free)) (by rw [Heap.size_push, hz]) fun b o x => Heap.get?_push_of_some _ (Heap.get?_push_of_some _ x)⟩
def ItE (K : KF) (k : Bool) (a : Addr) (xs : List V) : It :=
  ⟨fun i H => i < xs.length ∧ SqB K H k a xs, fun i H v H' => ∃ T x, v = .ref T ∧ H T = none ∧ H' = upd H T (.tup [.int (i : Nat), x]) ∧ xs[i]? = some x, fun i H => xs.length ≤ i ∧ SqB K H k a xs⟩
theorem turn_E {P : Program} {w : World} {K : KF} {elts : List Expr} {kk : Nat} {tpos : Pos} (k : Bool) (a e it : Addr) (xs : List V) (hei : e ≠ it) (hae : a ≠ e) (hai : a ≠ it) :
    Turn P w K (.Tuple elts kk tpos) (ItE K k a xs) [e, it] e (fun i h => i ≤ xs.length ∧ (∃ old, IsEnum h e it (0 + (i : Int)) old) ∧ IterB k h it a i) where
  mem := by simp
  obj := fun i h st b hb => by
    obtain ⟨_, ⟨old, he⟩, st⟩ := st
    have e' : b = e ∨ b = it := by simpa using hb
    rcases e' with z | z
    · rw [z]; exact ⟨_, he, fun v q => nomatch q⟩
    · rw [z]; exact iterB_obj st
  keep := fun i h h' st q => let ⟨hi, ⟨old, he⟩, st⟩ := st; ⟨hi, ⟨old, q e (by simp) _ he⟩, iterB_keep st fun o z => q it (by simp) o z⟩
  item := by
    intro X hP hw hK hc i pins s σ H E I hf st hg
    subst hP hw hK
    obtain ⟨hi, he, st⟩ := st
    obtain ⟨hlt, hq⟩ := hg
    obtain ⟨its, rv, p, hz⟩ := sqB_items I hq
    have hl : its.toArray.size = xs.length := by rw [List.size_toArray]; exact rv.length.symm
    have ha : X.A.in1.handled = none := I.ok.hd hc
    have W := GoesN.enumFrom (elts := elts) (x1 := kk) (pos := tpos) (prog := X.prog) (w := X.w) (A := X.A) (0 : Int) (drawsB k ha it a hai its.toArray) e hei (by simp; exact ⟨hei, Ne.symm hae⟩) (by simp)
    refine W.goes i s (fun v s2 => ∃ x H', Inv X pins σ H' s2 ∧ RelV x v ∧ (ItE X.K k a xs).yld i H x H' ∧ (i + 1 ≤ xs.length ∧ (∃ old, IsEnum s2.heap e it (0 + ((i + 1 : Nat) : Int)) old) ∧ IterB k s2.heap it a (i + 1)) ∧ ∀ b ∈ [e, it], H' b = none) E (by rw [hl]; exact hlt) ⟨he, st, p⟩ fun v h' tk hY st' hk htk => ?_
    obtain ⟨T, t, u, rfl, hn, hu, hT⟩ := hY
    obtain ⟨he', st', _⟩ := st'
    have hiV : i < xs.length := hlt
    obtain ⟨u2, hu2, ru⟩ := rv.get (show xs[i]? = some xs[i] from List.getElem?_eq_getElem hiV)
    have hu : its[i]? = some u := by simpa using hu
    rw [hu] at hu2
    cases hu2
    have new : ObjOk X.prog X.w (upd H T (.tup [.int (i : Nat), xs[i]])) h' T (.tup [.int (i : Nat), xs[i]]) :=
      ⟨by show 2 ≤ sizeLine; decide, [.int (0 + (i : Int)) t, u], .cons ⟨_, by rw [Int.zero_add]⟩ (.cons ru .nil), hT⟩
    refine ⟨.ref T, _, I.turnedNew (ch := [e, it]) (fun b o hb q => hk b o hb q) hf hn new, rfl, ⟨T, xs[i], rfl, I.hok.fresh hn, rfl, List.getElem?_eq_getElem hiV⟩, ⟨hlt, he', st'⟩, fun b hb => ?_⟩
    rw [upd_ne]
    · exact (hf b hb).1
    · intro hbT
      subst hbT
      obtain ⟨⟨old, he⟩, _⟩ := And.intro he trivial
      have e' : b = e ∨ b = it := by simpa using hb
      rcases e' with z | z
      · exact absurd (Heap.lt_size he) (by rw [← z]; exact Nat.not_lt.mpr hn)
      · obtain ⟨o, ho, _⟩ := iterB_obj st
        exact absurd (Heap.lt_size ho) (by rw [← z]; exact Nat.not_lt.mpr hn)
  done := by
    intro X hP hw hK hc i pins s σ H E I hf st hg
    subst hP hw hK
    obtain ⟨hi, he, st⟩ := st
    obtain ⟨hlt, hq⟩ := hg
    obtain ⟨its, rv, p, hz⟩ := sqB_items I hq
    have hl : its.toArray.size = xs.length := by rw [List.size_toArray]; exact rv.length.symm
    have ha : X.A.in1.handled = none := I.ok.hd hc
    have W := GoesN.enumFrom (elts := elts) (x1 := kk) (pos := tpos) (prog := X.prog) (w := X.w) (A := X.A) (0 : Int) (drawsB k ha it a hai its.toArray) e hei (by simp; exact ⟨hei, Ne.symm hae⟩) (by simp)
    obtain rfl : i = its.toArray.size := by omega
    exact W.stops s (fun s1 => Inv X pins σ H s1) E ⟨he, st, p⟩ fun h' tk hk htk => I.turnedL (ch := [e, it]) (fun b o hb q => hk b o hb q) hf
  self := fun A i s Q E st h => let ⟨_, ⟨_, he⟩, _⟩ := st; wpAny_pyIter_enum he h
def iEnumB (K : KF) (ta : TA) : TI := fun σ H R => ta σ H fun vs H1 => ∃ k a xs, vs = [.ref a] ∧ SqB K H1 k a xs ∧ R (ItE K k a xs) H1
theorem new_fp {X : Cx} {pins : List (Addr × Obj)} {σ : L2.St} {H : Hp} {s : Shared} {b : Addr} (I : Inv X pins σ H s) (h : s.heap.objs.size ≤ b) : FpOk X pins H b := I.fpOk h (I.hok.fresh h)
theorem pi_enumB {X : Cx} {e : Expr} {ta : TA} {p pos tpos : Pos} {elts : List Expr} {kk : Nat} (hg : Gl X "enumerate") (hm : X.mg "enumerate" = none) (ha : PA X [e] ta) (hs : starEach [e] X.env = [(false, eval e X.env)] := by rfl) :
    PI X (.Tuple elts kk tpos) (.Call (.Name "enumerate" p) [e] [] pos) (iEnumB X.K ta) := by
  refine ⟨fun pins s σ H R I h => ?_⟩
  refine Call_ (ld_blt I hg hm boot_enumerate (PyProof.Rows.callWith_type1 (thn (ha.run pos pins s σ H _ I h) fun us s1 ⟨vs, H1, I1, r1, q1⟩ => ?_) hs rfl))
  obtain ⟨k, a, xs, ex, hq, q⟩ := q1
  subst ex
  cases r1 with
  | cons r rr =>
    cases rr
    cases r
    obtain ⟨its, rv, p', hz⟩ := sqB_items I1 hq
    obtain ⟨o, b, hit⟩ := beginsB k a its.toArray
    refine enum_begins1 b p' fun h' he ho hsz hk => wpAny_pyIter_enum he ?_
    have I2 : Inv X pins σ H1 { s1 with heap := h' } := I1.kept (t' := s1.toks) hk
    have hal := isB_lt p'
    refine ⟨s1.heap.objs.size + 1, [s1.heap.objs.size + 1, s1.heap.objs.size], _, _, H1, rfl, I2, turn_E k a (s1.heap.objs.size + 1) s1.heap.objs.size xs (Nat.succ_ne_self _) (ad_lt 1 hal) (ad_lt 0 hal), ⟨Nat.zero_le _, ⟨.none, he⟩, hit h' _ ho⟩, fun b hb => ?_, q⟩
    exact new_fp I1 (by simp only [List.mem_cons, List.not_mem_nil, or_false] at hb; rcases hb with h | h <;> rw [h] <;> first | exact Nat.le_refl _ | exact Nat.le_add_right _ _)
/-! ### zip -/
def ItZ (K : KF) (k l : Bool) (a b : Addr) (xs ys : List V) : It :=
  ⟨fun i H => i < min xs.length ys.length ∧ SqB K H k a xs ∧ SqB K H l b ys, fun i H v H' => ∃ T x y, v = .ref T ∧ H T = none ∧ H' = upd H T (.tup [x, y]) ∧ xs[i]? = some x ∧ ys[i]? = some y, fun i H => min xs.length ys.length ≤ i ∧ SqB K H k a xs ∧ SqB K H l b ys⟩
theorem turn_Z {P : Program} {w : World} {K : KF} {elts : List Expr} {kk : Nat} {tpos : Pos} (k l : Bool) (a b z TI TO i1 i2 : Addr) (xs ys : List V) (Z : ZipSep2 z TI TO i1 i2 [i1, a] [i2, b]) (hai : a ≠ i1) (hbi : b ≠ i2) :
    Turn P w K (.Tuple elts kk tpos) (ItZ K k l a b xs ys) [z, TI, TO, i1, i2] z (fun i h => i ≤ min xs.length ys.length ∧ IsZip h z TI TO .none ∧ IsTupOf2 h TI (.ref i1) (.ref i2) ∧ (∃ a1 a2, IsTupOf2 h TO a1 a2) ∧ IterB k h i1 a i ∧ IterB l h i2 b i) where
  mem := by simp
  obj := fun i h st c hc => by
    obtain ⟨_, hz, hTI, ⟨x, y, hTO⟩, h1, h2⟩ := st
    simp only [List.mem_cons, List.not_mem_nil, or_false] at hc
    rcases hc with rfl | rfl | rfl | rfl | rfl
    · exact ⟨_, hz, fun _ e => nomatch e⟩
    · exact ⟨_, hTI, fun _ e => nomatch e⟩
    · exact ⟨_, hTO, fun _ e => nomatch e⟩
    · exact iterB_obj h1
    · exact iterB_obj h2
  keep := fun i h h' st q => by
    obtain ⟨hi, hz, hTI, ⟨x, y, hTO⟩, h1, h2⟩ := st
    exact ⟨hi, q z (by simp) _ hz, q TI (by simp) _ hTI, ⟨x, y, q TO (by simp) _ hTO⟩, iterB_keep h1 fun o e => q i1 (by simp) o e, iterB_keep h2 fun o e => q i2 (by simp) o e⟩
  item := by
    intro X hP hw hK hc i pins s σ H E I hf st hg
    subst hP hw hK
    obtain ⟨hi, hz, hTI, hTO, h1, h2⟩ := st
    obtain ⟨hlt, hq1, hq2⟩ := hg
    obtain ⟨its, rv, p1, _⟩ := sqB_items I hq1
    obtain ⟨its2, rv2, p2, _⟩ := sqB_items I hq2
    have hl1 : its.toArray.size = xs.length := by rw [List.size_toArray]; exact rv.length.symm
    have hl2 : its2.toArray.size = ys.length := by rw [List.size_toArray]; exact rv2.length.symm
    have ha : X.A.in1.handled = none := I.ok.hd hc
    have W := GoesN.zip2 (elts := elts) (x1 := kk) (pos := tpos) (prog := X.prog) (w := X.w) (A := X.A) Z (drawsB k ha i1 a hai its.toArray) (drawsB l ha i2 b hbi its2.toArray)
    have hlt1 : i < xs.length := by omega
    have hlt2 : i < ys.length := by omega
    refine W.goes i s (fun v s2 => ∃ x H', Inv X pins σ H' s2 ∧ RelV x v ∧ (ItZ X.K k l a b xs ys).yld i H x H' ∧ (i + 1 ≤ min xs.length ys.length ∧ IsZip s2.heap z TI TO .none ∧ IsTupOf2 s2.heap TI (.ref i1) (.ref i2) ∧ (∃ a1 a2, IsTupOf2 s2.heap TO a1 a2) ∧ IterB k s2.heap i1 a (i + 1) ∧ IterB l s2.heap i2 b (i + 1)) ∧ ∀ c ∈ [z, TI, TO, i1, i2], H' c = none) E (by rw [hl1, hl2]; exact hlt) ⟨hz, hTI, hTO, ⟨h1, p1⟩, h2, p2⟩ fun v h' tk hY st' hk htk => ?_
    obtain ⟨T, u1, u2, rfl, hn, hu1, hu2, hT⟩ := hY
    obtain ⟨hz', hTI', hTO', ⟨h1', _⟩, h2', _⟩ := st'
    obtain ⟨w1, hw1, rw1⟩ := rv.get (show xs[i]? = some xs[i] from List.getElem?_eq_getElem hlt1)
    obtain ⟨w2, hw2, rw2⟩ := rv2.get (show ys[i]? = some ys[i] from List.getElem?_eq_getElem hlt2)
    have hu1 : its[i]? = some u1 := by simpa using hu1
    have hu2 : its2[i]? = some u2 := by simpa using hu2
    rw [hu1] at hw1
    cases hw1
    rw [hu2] at hw2
    cases hw2
    have new : ObjOk X.prog X.w (upd H T (.tup [xs[i], ys[i]])) h' T (.tup [xs[i], ys[i]]) :=
      ⟨by show 2 ≤ sizeLine; decide, [u1, u2], .cons rw1 (.cons rw2 .nil), hT⟩
    have nk : ∀ c, c ∉ [z, TI, TO, i1, i2] → c ∉ [z, TO, i1, i2] := fun c hc q => hc (by
      simp at q
      simp
      rcases q with q | q | q | q <;> simp [q])
    refine ⟨.ref T, _, I.turnedNew (ch := [z, TI, TO, i1, i2]) (fun c o hb q => hk c o (nk c hb) q) hf hn new, rfl, ⟨T, xs[i], ys[i], rfl, I.hok.fresh hn, rfl, List.getElem?_eq_getElem hlt1, List.getElem?_eq_getElem hlt2⟩, ⟨by omega, hz', hTI', hTO', h1', h2'⟩, fun c hcm => ?_⟩
    rw [upd_ne]
    · exact (hf c hcm).1
    · intro hcT
      have lt : c < s.heap.objs.size := by
        have e' : c = z ∨ c = TI ∨ c = TO ∨ c = i1 ∨ c = i2 := by simpa using hcm
        rcases e' with q | q | q | q | q
        · rw [q]; exact Heap.lt_size hz
        · rw [q]; exact Heap.lt_size hTI
        · rw [q]; obtain ⟨x, y, hTO⟩ := hTO; exact Heap.lt_size hTO
        · rw [q]; obtain ⟨_, e1, _⟩ := iterB_obj h1; exact Heap.lt_size e1
        · rw [q]; obtain ⟨_, e2, _⟩ := iterB_obj h2; exact Heap.lt_size e2
      exact absurd lt (by rw [hcT]; exact Nat.not_lt.mpr hn)
  done := by
    intro X hP hw hK hc i pins s σ H E I hf st hg
    subst hP hw hK
    obtain ⟨hi, hz, hTI, hTO, h1, h2⟩ := st
    obtain ⟨hlt, hq1, hq2⟩ := hg
    obtain ⟨its, rv, p1, _⟩ := sqB_items I hq1
    obtain ⟨its2, rv2, p2, _⟩ := sqB_items I hq2
    have hl1 : its.toArray.size = xs.length := by rw [List.size_toArray]; exact rv.length.symm
    have hl2 : its2.toArray.size = ys.length := by rw [List.size_toArray]; exact rv2.length.symm
    have ha : X.A.in1.handled = none := I.ok.hd hc
    have W := GoesN.zip2 (elts := elts) (x1 := kk) (pos := tpos) (prog := X.prog) (w := X.w) (A := X.A) Z (drawsB k ha i1 a hai its.toArray) (drawsB l ha i2 b hbi its2.toArray)
    have ei : i = min its.toArray.size its2.toArray.size := by omega
    rw [ei] at h1 h2
    have nk : ∀ c, c ∉ [z, TI, TO, i1, i2] → c ∉ [z, TO, i1, i2] := fun c hc q => hc (by
      simp at q
      simp
      rcases q with q | q | q | q <;> simp [q])
    exact W.stops s (fun s1 => Inv X pins σ H s1) E ⟨hz, hTI, hTO, ⟨h1, p1⟩, h2, p2⟩ fun h' tk hk htk => I.turnedL (ch := [z, TI, TO, i1, i2]) (fun c o hb q => hk c o (nk c hb) q) hf
  self := fun A i s Q E st h => wpAny_pyIter_zip st.2.1 h
def iZipB (K : KF) (ta : TA) : TI := fun σ H R => ta σ H fun vs H1 => ∃ k l a b xs ys, vs = [.ref a, .ref b] ∧ SqB K H1 k a xs ∧ SqB K H1 l b ys ∧ R (ItZ K k l a b xs ys) H1
theorem pi_zipB {X : Cx} {e e2 : Expr} {ta : TA} {p pos tpos : Pos} {elts : List Expr} {kk : Nat} (hg : Gl X "zip") (hm : X.mg "zip" = none) (ha : PA X [e, e2] ta)
    (hs : starEach [e, e2] X.env = (false, eval e X.env) :: starEach [e2] X.env := by rfl) (hpl : (backTo pos (starEach [e2] X.env)).any (·.1) = false := by rfl) :
    PI X (.Tuple elts kk tpos) (.Call (.Name "zip" p) [e, e2] [] pos) (iZipB X.K ta) := by
  refine ⟨fun pins s σ H R I h => ?_⟩
  refine Call_ (ld_blt I hg hm PyProof.Rows.boot_zip (PyProof.Rows.callWith_type1 (thn (ha.run pos pins s σ H _ I h) fun us s1 ⟨vs, H1, I1, r1, q1⟩ => ?_) hs hpl))
  obtain ⟨k, l, a, b, xs, ys, ex, hq1, hq2, q⟩ := q1
  subst ex
  cases r1 with
  | cons r rr =>
    cases rr with
    | cons r' rr =>
      cases rr
      cases r
      cases r'
      obtain ⟨its, rv, p1, _⟩ := sqB_items I1 hq1
      obtain ⟨its2, rv2, p2, _⟩ := sqB_items I1 hq2
      obtain ⟨o1, b1, hit1⟩ := beginsB k a its.toArray
      obtain ⟨o2, b2, hit2⟩ := beginsB l b its2.toArray
      refine zip_begins2 b1 b2 p1 p2 fun h' hz hTI hTO ho1 ho2 hsz hk => wpAny_pyIter_zip hz ?_
      have I2 : Inv X pins σ H1 { s1 with heap := h' } := I1.kept (t' := s1.toks) hk
      have la := isB_lt p1
      have lb := isB_lt p2
      have Z : ZipSep2 (s1.heap.objs.size + 4) (s1.heap.objs.size + 2) (s1.heap.objs.size + 3) s1.heap.objs.size (s1.heap.objs.size + 1) [s1.heap.objs.size, a] [s1.heap.objs.size + 1, b] :=
        ⟨ad_ne 2 4 (by decide), ad_ne 3 4 (by decide), ad_ne 2 3 (by decide), ad_ne 2 0 (by decide), List.mem_cons_self, ad_n2 4 0 la (by decide), ad_n2 3 0 la (by decide), ad_ne 2 1 (by decide), List.mem_cons_self, ad_n2 4 1 lb (by decide), ad_n2 3 1 lb (by decide), ad_n2 0 1 lb (by decide), ad_n2 1 0 la (by decide)⟩
      refine ⟨s1.heap.objs.size + 4, [s1.heap.objs.size + 4, s1.heap.objs.size + 2, s1.heap.objs.size + 3, s1.heap.objs.size, s1.heap.objs.size + 1], _, _, H1, rfl, I2, turn_Z k l a b _ _ _ _ _ xs ys Z (ad_lt 0 la) (ad_lt 1 lb), ⟨Nat.zero_le _, hz, hTI, ⟨_, _, hTO⟩, hit1 h' _ ho1, hit2 h' _ ho2⟩, fun c hcm => ?_, q⟩
      exact new_fp I1 (by simp only [List.mem_cons, List.not_mem_nil, or_false] at hcm; rcases hcm with h | h | h | h | h <;> rw [h] <;> first | exact Nat.le_refl _ | exact Nat.le_add_right _ _)
/-! ### over data -/
section
variable {K : KF} {C : Cn} {I0 : Hp}
theorem jd_E {elts : List Expr} {kk : Nat} {tpos : Pos} {k : Bool} {a : Addr} {vs : List V} {xs : List D} (h : SqB K I0 k a vs) (p : DpAll K I0 vs xs) : JD K C I0 (.Tuple elts kk tpos) (ItE K k a vs) (xs.mapIdx fun i x => .tuple [.int (i : Int), x]) := fun C' i I H r s _ R g => by
  have hs : SqB K H k a vs := sqB_up (g.trans R.sub) h
  have hl := dpa_len p
  refine ⟨fun d e => ?_, fun hl2 => ⟨by simp at hl2; omega, hs⟩⟩
  rw [List.getElem?_mapIdx] at e
  obtain ⟨x, hx, rfl⟩ := Option.map_eq_some_iff.mp e
  obtain ⟨v, hv, q⟩ := dpa_get' p hx
  have hi : i < vs.length := (List.getElem?_eq_some_iff.mp hv).1
  refine ⟨⟨hi, hs⟩, fun y H' ⟨T, x', e1, hT, e2, e3⟩ => ?_⟩
  rw [hv] at e3
  cases e3
  subst e1 e2
  have gr := grow_own (o := .tup [.int (i : Nat), v]) R.sub hT
  exact ⟨_, R.grow gr, gr.i, .inr ⟨⟨_, _, _, rfl⟩, T, _, _, rfl, rfl, upd_same, .cons (.int _) (.cons (dp_up (g.trans gr.i) _ _ q) .nil)⟩⟩
theorem jd_Z {elts : List Expr} {kk : Nat} {tpos : Pos} {k l : Bool} {a b : Addr} {vs ws : List V} {xs ys : List D} (h1 : SqB K I0 k a vs) (p1 : DpAll K I0 vs xs) (h2 : SqB K I0 l b ws) (p2 : DpAll K I0 ws ys) : JD K C I0 (.Tuple elts kk tpos) (ItZ K k l a b vs ws) ((xs.zip ys).map fun p => .tuple [p.1, p.2]) := fun C' i I H r s _ R g => by
  have hs1 : SqB K H k a vs := sqB_up (g.trans R.sub) h1
  have hs2 : SqB K H l b ws := sqB_up (g.trans R.sub) h2
  have hl1 := dpa_len p1
  have hl2 := dpa_len p2
  refine ⟨fun d e => ?_, fun hl => ⟨by simp at hl; omega, hs1, hs2⟩⟩
  rw [List.getElem?_map] at e
  obtain ⟨⟨x, y⟩, hx, rfl⟩ := Option.map_eq_some_iff.mp e
  obtain ⟨hx, hy⟩ := List.getElem?_zip_eq_some.mp hx
  obtain ⟨v, hv, q⟩ := dpa_get' p1 hx
  obtain ⟨w, hw, q'⟩ := dpa_get' p2 hy
  have hi : i < vs.length := (List.getElem?_eq_some_iff.mp hv).1
  have hi2 : i < ws.length := (List.getElem?_eq_some_iff.mp hw).1
  refine ⟨⟨by omega, hs1, hs2⟩, fun y H' ⟨T, x', y', e1, hT, e2, e3, e4⟩ => ?_⟩
  rw [hv] at e3
  rw [hw] at e4
  cases e3
  cases e4
  subst e1 e2
  have gr := grow_own (o := .tup [v, w]) R.sub hT
  exact ⟨_, R.grow gr, gr.i, .inr ⟨⟨_, _, _, rfl⟩, T, _, _, rfl, rfl, upd_same, .cons (dp_up (g.trans gr.i) _ _ q) (.cons (dp_up (g.trans gr.i) _ _ q') .nil)⟩⟩
theorem rev_get {α : Type} {xs : List α} {i : Nat} (hi : i < xs.length) : xs.reverse[i]? = xs[xs.length - 1 - i]? := by
  rw [List.getElem?_reverse hi]
theorem jd_revL {tg : Expr} {a : Addr} {vs : List V} {xs : List D} (h : SqL K I0 a vs) (p : DpAll K I0 vs xs) : JD K C I0 tg (Itv K a vs.length) xs.reverse := fun C' i I H r s _ R g => by
  have hs : SqL K H a vs := (g.trans R.sub).seq h
  have hl := dpa_len p
  refine ⟨fun d e => ?_, fun hl2 => by
    have : vs.length ≤ i := by simp at hl2; omega
    exact this⟩
  have hi : i < xs.length := by have := (List.getElem?_eq_some_iff.mp e).1; simpa using this
  rw [rev_get hi] at e
  obtain ⟨v, hv, q⟩ := dpa_get' p e
  rw [← hl] at hv
  refine ⟨⟨by omega, vs, v, hs, hv⟩, fun x H' ⟨e1, e2⟩ => ?_⟩
  subst e1
  have := e2 vs hs
  rw [hv] at this
  cases this
  exact ⟨I, R, Same.refl I, .inl (dp_up g _ _ q)⟩
theorem jd_revT {tg : Expr} {a : Addr} {vs : List V} {xs : List D} (h : SqT K I0 a vs) (p : DpAll K I0 vs xs) : JD K C I0 tg (RT.ItvT K a vs.length) xs.reverse := fun C' i I H r s _ R g => by
  have hs : SqT K H a vs := Evl.ex_t (g.trans R.sub) h
  have hl := dpa_len p
  refine ⟨fun d e => ?_, fun hl2 => by
    have : vs.length ≤ i := by simp at hl2; omega
    exact this⟩
  have hi : i < xs.length := by have := (List.getElem?_eq_some_iff.mp e).1; simpa using this
  rw [rev_get hi] at e
  obtain ⟨v, hv, q⟩ := dpa_get' p e
  rw [← hl] at hv
  refine ⟨⟨by omega, vs, v, hs, hv⟩, fun x H' ⟨e1, e2⟩ => ?_⟩
  subst e1
  have := e2 vs hs
  rw [hv] at this
  cases this
  exact ⟨I, R, Same.refl I, .inl (dp_up g _ _ q)⟩
end
def enumI : List S → Option (List D)
  | [x] => (seqI x).map fun xs => xs.mapIdx fun i x => .tuple [.int (i : Int), x]
  | _ => none
def zipI : List S → Option (List D)
  | [x, y] => match seqI x, seqI y with
    | some xs, some ys => some ((xs.zip ys).map fun p => .tuple [p.1, p.2])
    | _, _ => none
  | _ => none
def revI : List S → Option (List D)
  | [x] => (seqI x).map List.reverse
  | _ => none
section
variable {X : Cx} {W : WX}
theorem di_enum {a : Expr} {oa : Od} {p pos tpos : Pos} {elts : List Expr} {kk : Nat} (hg : Gl X "enumerate") (hm : X.mg "enumerate" = none) (ha : DA X W [a] [oa]) (hs : starEach [a] X.env = [(false, eval a X.env)] := by rfl) :
    DI X W (.Tuple elts kk tpos) (.Call (.Name "enumerate" p) [a] [] pos) (iApp [oa] enumI) :=
  pi_of (pi_enumB hg hm ha hs) fun s H P q => iApp_gen q fun C I vs ss xs r H' R a e q => by
    cases a with
    | cons a1 a2 =>
      cases a2 with
      | nil =>
        obtain ⟨ds, e2, rfl⟩ := Option.map_eq_some_iff.mp (show Option.map _ _ = some xs from e)
        obtain ⟨k, a, us, rfl, hq, da⟩ := seqI_ok a1 e2
        exact ⟨k, a, us, rfl, sqB_up R.sub hq, q _ I H' R (Same.refl I) (jd_E hq da)⟩
      | cons _ _ => cases e
    | nil => cases e
theorem di_zip {a b : Expr} {oa ob : Od} {p pos tpos : Pos} {elts : List Expr} {kk : Nat} (hg : Gl X "zip") (hm : X.mg "zip" = none) (ha : DA X W [a, b] [oa, ob])
    (hs : starEach [a, b] X.env = (false, eval a X.env) :: starEach [b] X.env := by rfl) (hpl : (backTo pos (starEach [b] X.env)).any (·.1) = false := by rfl) :
    DI X W (.Tuple elts kk tpos) (.Call (.Name "zip" p) [a, b] [] pos) (iApp [oa, ob] zipI) :=
  pi_of (pi_zipB hg hm ha hs hpl) fun s H P q => iApp_gen q fun C I vs ss xs r H' R a e q => by
    cases a with
    | cons a1 a2 =>
      cases a2 with
      | nil => cases e
      | cons a2 a3 =>
        cases a3 with
        | cons _ _ => cases e
        | nil =>
          rename_i v1 x1 v2 x2
          have e : (match seqI x1, seqI x2 with
            | some xs, some ys => some ((xs.zip ys).map fun p => PyData.tuple [p.1, p.2])
            | _, _ => none) = some xs := e
          split at e
          · rename_i ds es h1 h2
            cases e
            obtain ⟨k, a, us, rfl, hq, da⟩ := seqI_ok a1 h1
            obtain ⟨l, b, ws, rfl, hq2, db⟩ := seqI_ok a2 h2
            exact ⟨k, l, a, b, us, ws, rfl, sqB_up R.sub hq, sqB_up R.sub hq2, q _ I H' R (Same.refl I) (jd_Z hq da hq2 db)⟩
          · cases e
    | nil => cases e
theorem di_rev {tg a : Expr} {oa : Od} {p pos : Pos} (hg : Gl X "reversed") (hm : X.mg "reversed" = none) (ha : DO X W a oa) (hs : starEach [a] X.env = (false, eval a X.env) :: starEach [] X.env := by rfl) :
    DI X W tg (.Call (.Name "reversed" p) [a] [] pos) (iApp [oa] revI) :=
  pi_of (RT.pi_revA hg hm ha hs) fun s H P q => by
    exact iApp_gen (Q := fun vs H1 => match vs with
      | [v] => ∃ (a : Addr) (xs : List V), v = .ref a ∧ ((SqL X.K H1 a xs ∧ P (Itv X.K a xs.length) H1) ∨ (SqT X.K H1 a xs ∧ P (RT.ItvT X.K a xs.length) H1))
      | _ => False) q fun C I vs ss xs r H' R a e q => by
      cases a with
      | cons a1 a2 =>
        cases a2 with
        | nil =>
          obtain ⟨ds, e2, rfl⟩ := Option.map_eq_some_iff.mp (show Option.map _ _ = some xs from e)
          obtain ⟨k, a, us, rfl, hq, da⟩ := seqI_ok a1 e2
          refine ⟨a, us, rfl, ?_⟩
          cases k
          · exact .inl ⟨R.sub.seq hq, q _ I H' R (Same.refl I) (jd_revL hq da)⟩
          · exact .inr ⟨Evl.ex_t R.sub hq, q _ I H' R (Same.refl I) (jd_revT hq da)⟩
        | cons _ _ => cases e
      | nil => cases e
end
/-! ### what is turned about -/
section
variable {prog : Program} {w : World} {A : Around} {E : Value → Shared → Prop} {s : Shared}
theorem rev_pick (xs : Array Value) : ((List.range xs.size).filterMap fun (k : Nat) => xs[((xs.size : Int) - 1 + (k : Int) * (-1)).toNat]?) = xs.toList.reverse := by
  have h := HT.pick_gen xs.toList.reverse.toArray 0 xs.size
  have h := congrArg Array.toList h
  simp only [List.toList_toArray, List.drop_zero] at h
  rw [List.take_of_length_le (by simp)] at h
  rw [← h]
  refine fm_congr fun k hk => ?_
  have hk : k < xs.size := by simpa using hk
  have e1 : ((xs.size : Int) - 1 + (k : Int) * (-1)).toNat = xs.size - 1 - k := by omega
  have e2 : (((0 : Nat) : Int) + (k : Int) * 1).toNat = k := by omega
  rw [e1, e2]
  simp [List.getElem?_reverse (l := xs.toList) (i := k) (by simpa using hk)]
theorem sliceApplied_rev {sl : Addr} {n : Nat} {u : Tok} {Q : Int × Int × Nat → Shared → Prop} (hs : s.heap.IsSliceOf sl .none .none (.int (-1) u))
    (h : Q ((n : Int) - 1, -1, n) s) : wpAny (model prog w) A (Builtin.Slice.sliceApplied (.ref sl) (pure (n : Int))) Q E s := by
  obtain ⟨os, hos, hcs, hds⟩ := id hs
  unfold Builtin.Slice.sliceApplied Builtin.Slice.sliceFields
  refine wpAny_bind (wpAny_bind (wpAny_field hos hds (x := .none) rfl (wpAny_bind (wpAny_field hos hds (x := .none) rfl (wpAny_bind (wpAny_field hos hds (x := .int (-1) u) rfl (wpAny_pure ?_)))))))
  refine wpAny_bind (HT.slicePart_ (.int (-1) u) ?_)
  show wpAny _ _ (if ((-1 : Int) == 0) = true then _ else _) _ _ s
  rw [if_neg (by decide)]
  refine wpAny_bind (HT.slicePart_ .none (wpAny_bind (HT.slicePart_ .none (wpAny_bind (wpAny_pure ?_)))))
  have e1 : Builtin.Slice.sliceAdjust none none (-1) (n : Int) = ((n : Int) - 1, -1) := by
    unfold Builtin.Slice.sliceAdjust
    simp
  have e2 : Builtin.Slice.slicePlaces ((n : Int) - 1) (-1) (-1) = n := by
    unfold Builtin.Slice.slicePlaces
    simp
    split <;> omega
  show wpAny _ _ (match Builtin.Slice.sliceAdjust none none (-1) (n : Int) with | (lo, hi) => pure (lo, (-1 : Int), Builtin.Slice.slicePlaces lo hi (-1))) _ _ s
  rw [e1]
  show wpAny _ _ (pure ((n : Int) - 1, (-1 : Int), Builtin.Slice.slicePlaces ((n : Int) - 1) (-1) (-1))) _ _ s
  rw [e2]
  exact wpAny_pure h
theorem getItem_tuple_rev {t sl : Addr} {items : Array Value} {u : Tok} {Q : Value → Shared → Prop} (ht : IsTup s.heap t items) (hs : s.heap.IsSliceOf sl .none .none (.int (-1) u))
    (h : Q (.ref s.heap.objs.size) { s with heap := s.heap.push { cls := .type "tuple", data := .seq items.toList.reverse.toArray } })
    (hsz : items.size ≤ sizeLine) : wpAny (model prog w) A (getItem (.ref t) (.ref sl)) Q E s := by
  have htake : sizeOk (.seq items.toList.reverse.toArray) := by
    show items.toList.reverse.toArray.size ≤ sizeLine
    rw [List.size_toArray, List.length_reverse, Array.length_toList]
    omega
  have ty : s.TypeIs (.ref sl) "slice" := let ⟨o, ho, hc, _⟩ := hs; ⟨o, ho, hc⟩
  unfold getItem
  try with_reducible refine wpAny_holding ?_
  first | refine wpAny_bind (wpAny_pure ?_) | skip
  refine wpAny_bind (wpAny_sequenceKey ht.typeIs (by decide) (wpAny_bind (wpAny_callSpecial?_slot (name := Str.ofString "__getitem__") ht.typeIs PyProof.Rows.slot_tuple_getitem (wpAny_call_entry PyProof.Rows.slot_tuple_getitem ht.typeIs PyProof.Rows.entry_tuple_getitem ?_ (PyProof.Rows.args_tuple_getitem _ _)))))
  show wpAny _ _ (Builtin.Tuple.tupleItemsOf (.ref t) >>= _) _ _ s
  refine wpAny_bind (PyProof.Rows.tupleItemsOf_ ht (wpAny_bind (wpAny_typeOf ty ?_)))
  rw [if_pos (by decide)]
  refine wpAny_bind (sliceApplied_rev hs ?_)
  show wpAny _ _ (if (((items.size : Int) - 1) == 0 && (-1 : Int) == 1 && items.size == items.size) = true then _ else _) _ _ s
  rw [if_neg (by simp), rev_pick]
  first
    | exact wpAny_bind (m := Builtin.Tuple.tupleExact _) (wpAny_newObj_type (wpAny_pure ⟨_, rfl, wpAny_pure h⟩) htake)
    | exact wpAny_bind (m := Builtin.Tuple.tupleExact _) (wpAny_newObj_type (wpAny_bind (wpAny_pure (wpAny_pure ⟨_, rfl, wpAny_pure h⟩))) htake)
    | exact wpAny_bind (wpAny_bind (m := Builtin.Tuple.tupleExact _) (wpAny_newObj_type (wpAny_pure (wpAny_pure ⟨_, rfl, wpAny_pure h⟩)) htake))
    | exact wpAny_bind (wpAny_bind (m := Builtin.Tuple.tupleExact _) (wpAny_newObj_type (wpAny_pure ⟨_, rfl, wpAny_pure h⟩) htake))
theorem slicePick_rev (its : List Value) : slicePick its.toArray none none (some (-1)) = its.reverse.toArray := by
  have h := rev_pick its.toArray
  have e1 : sliceBounds none none (some (-1)) its.toArray.size = ((its.toArray.size : Int) - 1, -1, -1) := by
    unfold sliceBounds
    simp
  unfold slicePick
  rw [e1]
  show ((sliceRange ((its.toArray.size : Int) - 1) (-1) (-1)).filterMap (its.toArray[·]?)).toArray = _
  unfold sliceRange
  have e2 : (if (-1 : Int) > 0 then (if ((its.toArray.size : Int) - 1) < -1 then (-1 - ((its.toArray.size : Int) - 1) + -1 - 1) / -1 else 0) else (if ((its.toArray.size : Int) - 1) > -1 then (((its.toArray.size : Int) - 1) - -1 - -1 - 1) / (- -1) else 0)).toNat = its.toArray.size := by
    simp
    split <;> omega
  simp only [e2]
  rw [List.filterMap_map]
  congr 1
  refine Eq.trans (fm_congr fun k hk => ?_) h
  show its.toArray[((its.toArray.size : Int) - 1 + -1 * (k : Int)).toNat]? = _
  rw [Int.mul_comm]
end
section
variable {X : Cx} {e c : Expr} {te tc : TE} {pos p2 : Pos}
def rRv (K : KF) : V → Hp → VK → Prop := fun x H Q => ∃ a xs, x = .ref a ∧ ((SqT K H a xs ∧ ∀ p o, H p = none → o.dict = none → Q (.ref p) (upd H p (.frz o (.tup xs.reverse)))) ∨ (SqL K H a xs ∧ ∀ p, H p = none → Q (.ref p) (upd H p (.lst xs.reverse))))
def tRv (K : KF) (te tc : TE) : TE := fun σ H Q => te σ H fun x H1 => tc σ H1 fun y H2 => y = .int (-1) ∧ rRv K x H2 Q
theorem rv_get {pins : List (Addr × Obj)} {σ : L2.St} {H : Hp} {s : Shared} {a sl : Addr} {xs : List V} {u : Tok} {Q : VK} (I : Inv X pins σ H s) (hs : s.heap.IsSliceOf sl .none .none (.int (-1) u))
    (q : (SqT X.K H a xs ∧ ∀ p o, H p = none → o.dict = none → Q (.ref p) (upd H p (.frz o (.tup xs.reverse)))) ∨ (SqL X.K H a xs ∧ ∀ p, H p = none → Q (.ref p) (upd H p (.lst xs.reverse)))) :
    ∃ T id, typeLookup (.type T) "__getitem__" = pure (some (.builtin id)) ∧ s.TypeIs (.ref a) T ∧ wpAny (model X.prog X.w) X.A (getItem (.ref a) (.ref sl)) (EP X pins σ Q) X.xe s := by
  rcases q with ⟨hx, q⟩ | ⟨hx, q⟩
  · obtain ⟨its, r, ht, hz⟩ := I.tuple hx
    have hlen : its.toArray.size = xs.length := by rw [List.size_toArray]; exact r.length.symm
    refine ⟨"tuple", _, PyProof.Rows.slot_tuple_getitem.lookup, ht.typeIs, ?_⟩
    refine getItem_tuple_rev ht hs ?_ (by rw [hlen]; exact hz)
    refine ⟨.ref s.heap.objs.size, _, I.laid (t' := s.toks) (o := .frz _ (.tup xs.reverse)) (fun b ob q => Heap.get?_push_of_some _ q) (Nat.le_refl _) ?_, rfl, q _ { cls := .type "tuple", data := .seq its.reverse.toArray } (I.hok.fresh (Nat.le_refl _)) rfl⟩
    exact ⟨Heap.get?_push_size _ rfl, by rw [List.length_reverse]; exact hz, _, r.reverse, IsTup.new _ _⟩
  · obtain ⟨its, r, ht, hz⟩ := I.list hx
    have hlen := r.length
    refine ⟨"list", _, slot_list_getitem.lookup, ht.isList.typeIs, ?_⟩
    refine wpAny_getItem_list_slice ht.isList hs .none .none (.int (-1) u) (by simp) ?_ (by rw [List.size_toArray] <;> omega)
    rw [slicePick_rev]
    refine ⟨.ref s.heap.objs.size, _, I.laid (t' := s.toks) (o := .lst xs.reverse) (fun b ob q => Heap.get?_push_of_some _ q) (Nat.le_refl _) ?_, rfl, q _ (I.hok.fresh (Nat.le_refl _))⟩
    exact ⟨by rw [List.length_reverse]; exact hz, _, 0, r.reverse, Heap.get?_push_size _ rfl⟩
theorem pe_rv (he : PE X e te) (hl : PE X c tc) : PE X (.Subscript e (.Slice none none (some c) p2) pos) (tRv X.K te tc) := by
  refine ⟨fun pins s σ H Q I h => ?_⟩
  refine Subscript_ (thn (he.run pins s σ H _ I h) fun v s1 ⟨x, H1, I1, r1, q1⟩ => ?_)
  refine wpAny_Slice ?_
  rw [evalPart_none]
  refine wpAny_pure (wpAny_pure ?_)
  rw [evalPart_some]
  refine thn (hl.run pins s1 σ H1 _ I1 q1) fun vl s3 ⟨y, H3, I3, ry, ey, q3⟩ => ?_
  subst ey
  obtain ⟨u, rfl⟩ := ry
  have I4 : Inv X pins σ H3 { s3 with heap := s3.heap.push { cls := .type "slice", data := .fields #[.none, .none, .int (-1) u] } } := I3.kept (t' := s3.toks) fun b ob q => Heap.get?_push_of_some _ q
  have hs := Heap.IsSliceOf.new s3.heap .none .none (.int (-1) u)
  obtain ⟨a, xs, rfl, q⟩ := q3
  cases r1
  have key : ∃ T id, typeLookup (.type T) "__getitem__" = pure (some (.builtin id)) ∧ Shared.TypeIs { s3 with heap := s3.heap.push { cls := .type "slice", data := .fields #[.none, .none, .int (-1) u] } } (.ref a) T ∧
      wpAny (model X.prog X.w) X.A (getItem (.ref a) (.ref s3.heap.objs.size)) (EP X pins σ Q) X.xe { s3 with heap := s3.heap.push { cls := .type "slice", data := .fields #[.none, .none, .int (-1) u] } } := by
    exact rv_get I4 hs q
  obtain ⟨T, id, hT, ht, hg⟩ := key
  show wpAny (model X.prog X.w) X.A (subscriptTail e (.Slice none none (some c) p2) (.ref a) (.ref s3.heap.objs.size)) (EP X pins σ Q) X.xe { s3 with heap := s3.heap.push { cls := .type "slice", data := .fields #[.none, .none, .int (-1) u] } }
  exact tail_any (ops := [.ref a, .ref s3.heap.objs.size]) ht hT hg (by with_unfolding_all rfl)
end
/-- a[::-1] -/
def rvD (p : S) (l : Option Int) : Option S := if l = some (-1) then (match lstS p with
  | some xs => some (.own false (.lst xs.reverse))
  | none => match p with
    | .d (.tuple xs) => some (.d (.tuple xs.reverse))
    | _ => none) else none
def dRv (o : Od) (f : EF D) : EF S := eb (ev1 o) fun ov => eb (evI (some f)) fun l => fun r => match ov.get r with
  | some p => (match rvD p l with
    | some x => some (.ok x, r)
    | none => none)
  | none => none
section
variable {X : Cx} {W : WX} {a : Expr} {oa : Od} {pos p2 : Pos}
theorem rvD_ok {H I' : Hp} {x : V} {p z : S} {l : Option Int} {Q : VK} (g : Same I' H) (a1 : ARel X.K I' H x p) (e : rvD p l = some z) (q : ∀ v I2 H2, Grow I' H I2 H2 → NewS X.K I' H v I2 H2 z → Q v H2) :
    l = some (-1) ∧ rRv X.K x H Q := by
  unfold rvD at e
  split at e
  · rename_i hl
    refine ⟨hl, ?_⟩
    split at e
    · rename_i xs e1
      cases e
      obtain ⟨a, vs, rfl, hs, da⟩ := lstS_ok g a1 e1
      refine ⟨a, vs, rfl, .inr ⟨hs, fun c hc => ?_⟩⟩
      have gr := grow_own (o := .lst vs.reverse) g hc
      exact q _ _ _ gr ⟨c, rfl, hc, g.free hc, _, upd_same, dpa_rev da⟩
    · split at e
      · rename_i xs _
        cases e
        have a1 : Dp X.K I' x (.tuple xs) := a1
        cases a1 with
        | @tup a vs _ hs ha =>
          refine ⟨a, vs, rfl, .inl ⟨Evl.ex_t g hs, fun c o hc ho => ?_⟩⟩
          have gr := grow_tup (o := .frz o (.tup vs.reverse)) g hc ho
          exact q _ _ _ gr (.tup rd_frz (dpa_up gr.i _ _ (dpa_rev ha)))
      · cases e
  · cases e
theorem de_rv {f : EF D} {e1 : Expr} (ha : DO X W a oa) (h1 : DD X W e1 f) : DE X W (.Subscript a (.Slice none none (some e1) p2) pos) (dRv oa f) :=
  pe_of (pe_rv ha h1) fun s H Q ⟨C, I, r, o, r', R, e, q⟩ => by
    refine od_eb R e (fun x z => by subst z; exact q) fun v I1 H1 ov r1 R1 g1 ov1 e => ?_
    have q1 : ∀ x, o = .ex x → XPost X.K X.mg W C I1 r' s x := fun x z => by subst z; exact XPost.up g1 q
    obtain ⟨C2, I2, r2, o2, r2', R2, e2, z2⟩ := part_eb R1 e q1 (Q := fun v2 H2 => v2 = .int (-1) ∧ rRv X.K v H2 Q) fun i I2 H2 r2 R2 g2 e => by
      have e : (match ov.get r2 with
        | some p => (match rvD p (some i) with
          | some x => some (DL.R.ok x, r2)
          | none => none)
        | none => none) = some (o, r') := e
      split at e
      · rename_i p hp
        split at e
        · rename_i x hx
          cases e
          obtain ⟨h1, h2⟩ := rvD_ok R2.sub (get_ok R2 (ovRel_up g2 ov1) hp) hx fun w I4 H4 gr n => q w I4 H4 (R2.grow gr) ((g1.trans g2).trans gr.i) (R2.newS gr n)
          cases h1
          exact ⟨rfl, h2⟩
        · cases e
      · cases e
    exact ⟨C2, I2, r2, o2, r2', R2, e2, by cases o2 with
      | ok d => exact fun w I' H' R' g t => (z2 w I' H' R' g t).2
      | ex x => exact z2⟩
end
/-! ### what is not reached -/
def sNone : SM := fun _ => none
theorem ds_none {X : Cx} {W : WX} {st : Stmt} : DS X W st sNone := ⟨fun pins s σ H D I h => by
  obtain ⟨C, I', r, o, r', R, e, q⟩ := h
  cases e⟩
end DL
namespace DL
open PySem L2
open PyProof.Rows (envOfC IntsAre)
open PySem PySem.W PySem.Calls PyProof.Rows in
abbrev caller0 : Around := callerA
open PySem PySem.W PySem.Calls PyProof.Rows in
/-- what the row asks behind the law's call -/
def Told (s1 : Shared) (r : Result) (s' : Shared) : Prop := r = .ok (.ret (.bool true)) ∧ OldK s1.heap s'.heap ∧ s'.os = s1.os ∧ AllBare s'.gens
/-! ### a def as callers see it -/
def Cl (P : Program) (w : World) (K : KF) (mg : MG) (base : Heap) (k : Nat) (x : Str) (ps : List Str) (F : FD) : Prop :=
  ∃ (f : Addr) (fd : FuncData), FnG P w K mg base k f fd ps F ∧ mg x = some (.ref f) ∧ PySem.W.keepIn K (.ref f) = true ∧ Binds K fd ps []
theorem Cl.mono {P : Program} {w : World} {K : KF} {mg : MG} {base : Heap} {j k : Nat} {x : Str} {ps : List Str} {F : FD} (c : Cl P w K mg base j x ps F) (h : j ≤ k) : Cl P w K mg base k x ps F := by
  obtain ⟨f, fd, G, a, b, d⟩ := c
  exact ⟨f, fd, G.mono h, a, b, d⟩
theorem fnG_nil {P : Program} {w : World} {K : KF} {mg : MG} {base : Heap} {k : Nat} {f : Addr} {fd : FuncData} {ps : List Str} : FnG P w K mg base k f fd ps (fun _ => none) := by
  refine ⟨?_, ?_⟩
  · intro ss y e
    cases e
  · intro A outer s H args us vs Q E _ _ _ _ _ h
    obtain ⟨I, ss, o, ss', _, _, e, _⟩ := h
    cases e
section
variable {X : Cx} {W : WX} {k : Nat} {ps : List Str} {F : FD} {x : Str} {p pos : Pos} {e : Expr} {es : List Expr} {os : List Od} {ms : List Bool}
theorem de_callC (c : Cl X.prog X.w X.K X.mg X.base k x ps F) (hr : Room k X.A) (hgd : X.A.guards = some []) (hg : Gl X x) (tk : Takes X W)
    (ha : DA X W (e :: es) os) (hdb : (x == ("__debug__" : Str)) = false := by decide) (he : starEach (e :: es) X.env = (false, eval e X.env) :: starEach es X.env := by rfl) (hpl : (backTo pos (starEach es X.env)).any (·.1) = false := by rfl) :
    DE X W (.Call (.Name x p) (e :: es) [] pos) (dCall F ms os) := by
  obtain ⟨f, fd, G, a, b, d⟩ := c
  exact de_call G hr hgd hg a b d tk ha hdb he hpl
theorem de_callC0 (c : Cl X.prog X.w X.K X.mg X.base k x ps F) (hr : Room k X.A) (hgd : X.A.guards = some []) (hg : Gl X x) (tk : Takes X W) (hdb : (x == ("__debug__" : Str)) = false := by decide) :
    DE X W (.Call (.Name x p) [] [] pos) (dCall F [] []) := by
  obtain ⟨f, fd, G, a, b, d⟩ := c
  exact de_call0 G hr hgd hg a b d tk hdb
end
theorem takesW0 {X : Cx} : Takes X W0 := takes0
/-! ### the row's end -/
/-- the law's call, from a heap in which at most the script at a is tracked -/
theorem law_core {P : Program} {w : World} {K : KF} {mg mb : MG} {k : Nat} {fa a : Addr} {fd : FuncData} {x : Str} {F : FD} {s1 : Shared} {vs : List Value} {ns : List Int} {H : Hp}
    (KX : K.In s1.heap) (hns : s1.heap.Ns mainGlobals mg) (hb : s1.heap.Ns builtinsNs mb) (hbb : ∀ x : Str, x ≠ "__name__" → mb x = bootBuiltins x) (hlim : s1.heap.NoLimit) (hg : s1.gens = #[])
    (ha : s1.heap.get? a = some { cls := .type "list", data := .seq vs.toArray }) (hr : Room k caller0)
    (G : ∀ base : Heap, K.In base → base.Ns mainGlobals mg → FnG P w K mg base k fa fd [x] F) (hbind : ∀ (s : Shared) (u : Value), BindsTo s fd ⟨[u], []⟩ [(x, u)])
    (hF : ∃ o, F [.d (.list (ns.map PyData.int))] = some (.ok (.d (.bool true)), o))
    (hS : SqL K H a (ns.map V.int)) (hok : HOk P w H s1.heap) (hA : ∀ b, H b ≠ none → b = a) (hfrz : ∀ u, H a = some u → ∃ ob ys, u = .frz ob (.lst ys)) (hK : H a ≠ none → K.lookup a = none) :
    codeAny (model P w) caller0 (.call (.ref fa) ⟨[.ref a], []⟩) (Told s1) s1 := by
  have clear : ∀ {b : Addr} {o : Obj}, s1.heap.get? b = some o → (b = a → H a = none) → (hidT s1.heap H).get? b = some o := fun {b o} e n => hidT_get e (by
    cases q : H b with
    | none => rfl
    | some u =>
      have hba := hA b (by rw [q]; exact fun z => by cases z)
      subst hba
      rw [n rfl] at q
      cases q)
  have dicts : ∀ {b : Addr} {m : Str → Option Value}, s1.heap.Ns b m → (hidT s1.heap H).Ns b m := fun {b m} ⟨o, es, ep, e, d, z⟩ => ⟨o, es, ep, clear e (fun hba => by
    subst hba
    rw [ha] at e
    cases e
    cases d), d, z⟩
  have kin : K.In (hidT s1.heap H) := fun b o e => clear (KX b o e) fun hba => by
    subst hba
    cases q : H b with
    | none => rfl
    | some u =>
      rw [hK (by rw [q]; exact fun z => by cases z)] at e
      cases e
  have md : Mod K mg (hidT s1.heap H) := ⟨kin, dicts hns, ⟨mb, dicts hb, hbb⟩, let ⟨mc, h1, h2⟩ := hlim; ⟨mc, dicts h1, h2⟩⟩
  have e0 : Env0 P w K mg (hidT s1.heap H) caller0 [] s1 H :=
    ⟨rfl, md, fun b o e => of_hidT e, Nat.le_of_eq (hidT_size _ _), trivial, fun b z => absurd (show b ∈ ([] : List Addr) from z) (by simp), hok, .of_eq hg⟩
  obtain ⟨o, hF⟩ := hF
  have dp : Dp K H (.ref a) (.list (ns.map PyData.int)) := .lst hS (by
    clear hF hS
    induction ns with
    | nil => exact .nil
    | cons n ns ih => exact .cons (.int n) ih)
  have sp : spF K mg F [.ref a] H (fun v _ => v = .bl true) fun _ _ _ => False := by
    refine ⟨H, [.d (.list (ns.map PyData.int))], _, o, Same.refl H, ⟨rfl, fun i y hy => ?_, fun i j m y c ne h1 => ?_, fun b u e => ?_⟩, hF, fun v I' H' A n => ?_⟩
    · cases i with
      | zero => simp at hy; subst hy; exact ⟨_, rfl, dp⟩
      | succ i => simp at hy
    · cases i <;> simp at h1
    · have hba := hA b (by rw [e]; exact fun z => by cases z)
      subst hba
      obtain ⟨oz, y, rfl⟩ := hfrz u e
      exact trivial
    · have n : Dp K I' v (.bool true) := n
      cases n
      rfl
  refine codeAny_mono ((G _ kin (dicts hns)).run caller0 [] s1 H ⟨[.ref a], []⟩ [.ref a] [.ref a] _ _ hr rfl e0 (hbind s1 (.ref a)) (.cons rfl .nil) sp) fun r s' h => ?_
  cases r with
  | error e =>
    obtain ⟨_, _, _, _, _, _, _, _, _, _, _, _, z⟩ := h
    exact z.elim
  | ok fl =>
    cases fl with
    | next => exact False.elim h
    | brk => exact False.elim h
    | cont => exact False.elim h
    | ret u =>
      obtain ⟨v, H', os, bare, un, hok', rv, q⟩ := h
      have q : v = .bl true := q
      subst q
      obtain rfl : u = Value.bool true := rv
      refine ⟨rfl, OldK.of_keep fun b ob e => ?_, os, bare⟩
      cases q : H b with
      | none => exact un.keep b ob e q (fun z => absurd (show b ∈ ([] : List Addr) from z) (by simp)) (by simp)
      | some u =>
        have hba := hA b (by rw [q]; exact fun z => by cases z)
        subst hba
        obtain ⟨oz, y, rfl⟩ := hfrz u q
        obtain ⟨e1, _⟩ := hok b _ q
        obtain ⟨e2, _⟩ := hok' b _ (un.frzs b oz (.lst y) q)
        rw [e] at e1
        cases e1
        exact e2
theorem law_callG {P : Program} {w : World} {K : KF} {mg mb : MG} {k : Nat} {fa a : Addr} {fd : FuncData} {x : Str} {F : FD} {s1 : Shared} {vs : List Value} {ns : List Int}
    (KX : K.In s1.heap) (hns : s1.heap.Ns mainGlobals mg) (hb : s1.heap.Ns builtinsNs mb) (hbb : ∀ x : Str, x ≠ "__name__" → mb x = bootBuiltins x) (hlim : s1.heap.NoLimit) (hg : s1.gens = #[])
    (ha : s1.heap.get? a = some { cls := .type "list", data := .seq vs.toArray }) (hi : IntsAre vs ns) (hl : ns.length ≤ sizeLine) (hr : Room k caller0)
    (G : ∀ base : Heap, K.In base → base.Ns mainGlobals mg → FnG P w K mg base k fa fd [x] F) (hbind : ∀ (s : Shared) (u : Value), BindsTo s fd ⟨[u], []⟩ [(x, u)])
    (hF : ∃ o, F [.d (.list (ns.map PyData.int))] = some (.ok (.d (.bool true)), o)) :
    codeAny (model P w) caller0 (.call (.ref fa) ⟨[.ref a], []⟩) (Told s1) s1 := by
  have rv := vals_ints hi
  have lenV := hi.length
  cases hk : K.lookup a with
  | some o =>
    have e := KX a o hk
    rw [ha] at e
    cases e
    exact law_core (H := fun _ => none) KX hns hb hbb hlim hg ha hr G hbind hF (.inr ⟨_, vs.toArray, _, hk, rfl, rfl, rfl, by rw [List.size_toArray, lenV]; exact hl, by simpa using rv⟩)
      (fun b u z => by have z : (none : Option HO) = some u := z; cases z) (fun b z => absurd rfl z) (fun u z => by have z : (none : Option HO) = some u := z; cases z) fun z => absurd rfl z
  | none =>
    refine law_core (H := fun b => if b = a then some (.frz { cls := .type "list", data := .seq vs.toArray } (.lst (ns.map V.int))) else none) KX hns hb hbb hlim hg ha hr G hbind hF (.inl (.inr ⟨{ cls := .type "list", data := .seq vs.toArray }, if_pos rfl⟩))
      (fun b u z => ?_) (fun b z => ?_) (fun u z => ?_) fun _ => hk
    · by_cases hb : b = a
      · have z := (if_pos hb).symm.trans z
        cases z
        subst hb
        exact ⟨ha, by rw [List.length_map]; exact hl, vs, _, rv, ha⟩
      · have z := (if_neg hb).symm.trans z
        cases z
    · by_cases hb : b = a
      · exact hb
      · exact absurd (if_neg hb) z
    · have z := (if_pos rfl).symm.trans z
      cases z
      exact ⟨_, _, rfl⟩
open PySem.W in
/-- the goal that the head leaves -/
theorem walk_G {l : OpenLaw} {n k : Nat} {q : Program} {loose : List Str} {XP : (Str → Option Value) → Heap → Prop} {YP : World → Heap → Prop} {d : DefRec} {K : Params → KF} {x : Str} {F : FD}
    (hn : l.most = some n) (hn2 : n ≤ sizeLine) (hdf : d.params.defaults = []) (hr : Room k caller0) (hY : ∀ (w : World) (h : Heap), YP w h → (K w.params).In h)
    (G : ∀ (w : World) (mg : MG) (fa : Addr) (h : Heap), (K w.params).In h → h.Ns mainGlobals mg → mg d.name = some (.ref fa) →
      ∃ fd : FuncData, (∀ (s : Shared) (u : Value), BindsTo s fd ⟨[u], []⟩ [(x, u)]) ∧ ∀ base : Heap, (K w.params).In base → base.Ns mainGlobals mg → FnG l.prog w (K w.params) mg base k fa fd [x] F)
    (hF : ∀ ns : List Int, ns.length ≤ n → ∃ o, F [.d (.list (ns.map PyData.int))] = some (.ok (.d (.bool true)), o)) :
    WalkO q loose XP YP l.row.toRowW d [] (fun f vs => PySem.call f vs) := by
  refine Att.attach_call hn hdf fun w s0 s1 mg mb fa o pm cd doc a vs ns Gr Y ho hd hcd hmg hobj hints hlen hg => ?_
  obtain ⟨fd, hb, hG⟩ := G w mg fa _ (hY w _ Y) Gr.T.g hmg
  exact law_callG (hY w _ Y) Gr.T.g Gr.T.b Gr.T.builtins Gr.T.nolimit hg hobj hints (Nat.le_trans hlen hn2) hr hG hb (hF ns hlen)
end DL
/-! DLw: what a denotation comes to, told by what is wanted behind it. -/
namespace DL
open PySem L2
/-- what simp leaves alone: a later argument's form hangs on it -/
inductive Blk {α : Sort u} (a : α) : Type where
  | mk
/-! ### wishes -/
def Wp {α : Type} (f : EF α) (r : Env) (P : α → Env → Prop) (E : Exc → Env → Prop) (_u : Blk (f, P, E) := .mk) : Prop := match f r with
  | some (.ok x, r') => P x r'
  | some (.ex x, r') => E x r'
  | none => False
def Ws (g : SM) (r : Env) (N : Env → Prop) (Q : O → Env → Prop) (_u : Blk (g, N, Q) := .mk) : Prop := match g r with
  | some (.nx, r') => N r'
  | some (o, r') => Q o r'
  | none => False
def Wf (F : FD) (ss : List S) (P : S → List S → Prop) (E : Exc → List S → Prop) (_u : Blk (F, P, E) := .mk) : Prop := match F ss with
  | some (.ok x, o) => P x o
  | some (.ex x, o) => E x o
  | none => False
def Wo {α : Type} (o : Option α) (P : α → Prop) (_u : Blk P := .mk) : Prop := match o with
  | some x => P x
  | none => False
/-- by a truth -/
def Wite (b : Bool) (A B : Prop) (_u : Blk (A, B) := .mk) : Prop := match b with
  | true => A
  | false => B
@[simp] theorem wite_t {A B : Prop} : Wite true A B ↔ A := Iff.rfl
@[simp] theorem wite_f {A B : Prop} : Wite false A B ↔ B := Iff.rfl
theorem Wite.mk {b : Bool} {A B : Prop} (h1 : b = true → A) (h0 : b = false → B) : Wite b A B := by
  cases b with
  | true => exact h1 rfl
  | false => exact h0 rfl
theorem Wite.mkP {p : Prop} [Decidable p] {A B : Prop} (h1 : p → A) (h0 : ¬ p → B) : Wite (decide p) A B := .mk (fun h => h1 (of_decide_eq_true h)) fun h => h0 (of_decide_eq_false h)
section
variable {α β : Type} {r : Env}
@[simp] theorem wo_some {x : α} {P : α → Prop} : Wo (some x) P ↔ P x := Iff.rfl
@[simp] theorem wo_none {P : α → Prop} : Wo (none : Option α) P ↔ False := Iff.rfl
theorem wo_iff {o : Option α} {P : α → Prop} : Wo o P ↔ ∃ x, o = some x ∧ P x := by
  cases o <;> simp [Wo]
@[simp] theorem wo_bind {o : Option α} {k : α → Option β} {P : β → Prop} : Wo (o.bind k) P ↔ Wo o fun x => Wo (k x) P := by
  cases o <;> simp [Wo]
@[simp] theorem wo_map {o : Option α} {k : α → β} {P : β → Prop} : Wo (o.map k) P ↔ Wo o fun x => P (k x) := by
  cases o <;> simp [Wo]
@[simp] theorem wo_ite {c : Prop} [Decidable c] {a b : Option α} {P : α → Prop} : Wo (if c then a else b) P ↔ if c then Wo a P else Wo b P := by
  by_cases h : c <;> simp [h]
theorem Wp.mono {f : EF α} {P P' : α → Env → Prop} {E E' : Exc → Env → Prop} (h : Wp f r P E) (hp : ∀ x r, P x r → P' x r) (he : ∀ x r, E x r → E' x r) : Wp f r P' E' := by
  unfold Wp at *
  split <;> simp_all
theorem Ws.mono {g : SM} {N N' : Env → Prop} {Q Q' : O → Env → Prop} (h : Ws g r N Q) (hn : ∀ r, N r → N' r) (hq : ∀ o r, Q o r → Q' o r) : Ws g r N' Q' := by
  unfold Ws at *
  split <;> simp_all
theorem Wf.mono {F : FD} {ss : List S} {P P' : S → List S → Prop} {E E' : Exc → List S → Prop} (h : Wf F ss P E) (hp : ∀ x r, P x r → P' x r) (he : ∀ x r, E x r → E' x r) : Wf F ss P' E' := by
  unfold Wf at *
  split <;> simp_all
theorem wp_some {f : EF α} {P : α → Env → Prop} {E : Exc → Env → Prop} {x : α} {r' : Env} (e : f r = some (.ok x, r')) : Wp f r P E ↔ P x r' := by
  unfold Wp; rw [e]
theorem wf_of {F : FD} {ss : List S} {P : S → List S → Prop} {E : Exc → List S → Prop} {x : S} {o : List S} (e : F ss = some (.ok x, o)) : Wf F ss P E ↔ P x o := by
  unfold Wf; rw [e]
theorem wf_ex {F : FD} {ss : List S} {P : S → List S → Prop} (h : Wf F ss P fun _ _ => False) : ∃ x o, F ss = some (.ok x, o) ∧ P x o := by
  unfold Wf at h
  split at h
  · rename_i x o e
    exact ⟨x, o, e, h⟩
  · exact h.elim
  · exact h.elim
@[simp] theorem wp_er {x : α} {P : α → Env → Prop} {E : Exc → Env → Prop} : Wp (er x) r P E ↔ P x r := Iff.rfl
@[simp] theorem wp_eb {a : EF α} {k : α → EF β} {P : β → Env → Prop} {E : Exc → Env → Prop} : Wp (eb a k) r P E ↔ Wp a r (fun x r1 => Wp (k x) r1 P E) E := by
  unfold Wp eb
  cases h : a r with
  | none => simp
  | some z =>
    obtain ⟨o, r1⟩ := z
    cases o <;> simp
theorem wp_congr {f : EF α} {P P' : α → Env → Prop} {E : Exc → Env → Prop} (h : ∀ x r1, P x r1 ↔ P' x r1) : Wp f r P E ↔ Wp f r P' E := by
  unfold Wp
  split
  · exact h _ _
  · rfl
  · rfl
theorem wp_ebC {a : EF α} {k : α → EF β} {P : β → Env → Prop} {E : Exc → Env → Prop} {M : α → Env → Prop} (h : ∀ x r1, Wp (k x) r1 P E ↔ M x r1) : Wp (eb a k) r P E ↔ Wp a r M E := wp_eb.trans (wp_congr h)
@[simp] theorem wp_dC {x : D} {P : D → Env → Prop} {E : Exc → Env → Prop} : Wp (dC x) r P E ↔ P x r := Iff.rfl
@[simp] theorem wp_ds {f : EF D} {P : S → Env → Prop} {E : Exc → Env → Prop} : Wp (ds f) r P E ↔ Wp f r (fun x r1 => P (.d x) r1) E := wp_eb
/-- what was made, as data -/
def Wd (x : S) (P : D → Prop) (_u : Blk P := .mk) : Prop := match x with
  | .d x => P x
  | .own false (.lst xs) => P (.list xs)
  | _ => False
@[simp] theorem wd_d {x : D} {P : D → Prop} : Wd (.d x) P ↔ P x := Iff.rfl
@[simp] theorem wd_l {xs : List D} {P : D → Prop} : Wd (.own false (.lst xs)) P ↔ P (.list xs) := Iff.rfl
@[simp] theorem wp_dd {f : EF S} {P : D → Env → Prop} {E : Exc → Env → Prop} : Wp (dd f) r P E ↔ Wp f r (fun x r1 => Wd x fun y => P y r1) E := by
  unfold dd
  refine wp_ebC fun x r1 => ?_
  unfold Wp Wd
  dsimp only
  split <;> rename_i h <;> (repeat' split at h) <;> simp_all
/-- a name -/
def Wv (o : Option (Option S)) (r : Env) (i : Nat) (P : D → Env → Prop) (_u : Blk P := .mk) : Prop := match o with
  | some (some (.d x)) => P x r
  | some (some (.own false (.lst xs))) => P (.list xs) (r.set i (some (.d (.list xs))))
  | _ => False
@[simp] theorem wv_d {x : D} {i : Nat} {P : D → Env → Prop} : Wv (some (some (.d x))) r i P ↔ P x r := Iff.rfl
@[simp] theorem wv_l {xs : List D} {i : Nat} {P : D → Env → Prop} : Wv (some (some (.own false (.lst xs)))) r i P ↔ P (.list xs) (r.set i (some (.d (.list xs)))) := Iff.rfl
@[simp] theorem wp_var {i : Nat} {P : D → Env → Prop} {E : Exc → Env → Prop} : Wp (dVar i) r P E ↔ Wv r[i]? r i P := by
  unfold Wp dVar Wv
  cases h : r[i]? with
  | none => rfl
  | some z =>
    cases z with
    | none => rfl
    | some z =>
      cases z with
      | d x => rfl
      | bor m => rfl
      | lck m => rfl
      | own b m =>
        cases b with
        | true => rfl
        | false => cases m <;> rfl
def Wm (o : Option (Option S)) (r : Env) (i : Nat) (P : S → Env → Prop) (_u : Blk P := .mk) : Prop := match o with
  | some (some (.d x)) => P (.d x) r
  | some (some (.own false m)) => P (.own false m) (r.set i none)
  | _ => False
@[simp] theorem wm_d {x : D} {i : Nat} {P : S → Env → Prop} : Wm (some (some (.d x))) r i P ↔ P (.d x) r := Iff.rfl
@[simp] theorem wm_o {m : MO} {i : Nat} {P : S → Env → Prop} : Wm (some (some (.own false m))) r i P ↔ P (.own false m) (r.set i none) := Iff.rfl
@[simp] theorem wp_move {i : Nat} {P : S → Env → Prop} {E : Exc → Env → Prop} : Wp (dMove i) r P E ↔ Wm r[i]? r i P := by
  unfold Wp dMove Wm
  cases h : r[i]? with
  | none => rfl
  | some z =>
    cases z with
    | none => rfl
    | some z =>
      cases z with
      | d x => rfl
      | bor m => rfl
      | lck m => rfl
      | own b m =>
        cases b with
        | true => rfl
        | false => cases m <;> rfl
/-- operands -/
def isOn (o : Option (Option S)) : Prop := match o with
  | some (some _) => True
  | _ => False
@[simp] theorem isOn_s {x : S} : isOn (some (some x)) ↔ True := Iff.rfl
@[simp] theorem wp_ev0 {P : List Ov → Env → Prop} {E : Exc → Env → Prop} : Wp (evO []) r P E ↔ P [] r := Iff.rfl
@[simp] theorem wp_evs {i : Nat} {t : List Od} {P : List Ov → Env → Prop} {E : Exc → Env → Prop} : Wp (evO (.sl i :: t)) r P E ↔ isOn r[i]? ∧ Wp (evO t) r (fun os r1 => P (.sl i :: os) r1) E := by
  have : Wp (evO (.sl i :: t)) r P E = Wp (fun r => match r[i]? with
    | some (some _) => eb (evO t) (fun os => er (.sl i :: os)) r
    | _ => none) r P E := rfl
  rw [this]
  have h2 : Wp (eb (evO t) fun os => er (.sl i :: os)) r P E ↔ Wp (evO t) r (fun os r1 => P (.sl i :: os) r1) E := wp_eb
  rw [← h2]
  unfold Wp isOn
  dsimp only
  cases h : r[i]? with
  | none => simp
  | some z => cases z <;> simp
@[simp] theorem wp_eve {f : EF D} {t : List Od} {P : List Ov → Env → Prop} {E : Exc → Env → Prop} : Wp (evO (.ex f :: t)) r P E ↔ Wp f r (fun d r1 => Wp (evO t) r1 (fun os r2 => P (.d d :: os) r2) E) E := by
  show Wp (eb f fun d => eb (evO t) fun os => er (.d d :: os)) r P E ↔ _
  rw [wp_eb]
  have : (fun (d : D) (r1 : Env) => Wp (eb (evO t) fun os => er (Ov.d d :: os)) r1 P E) = fun d r1 => Wp (evO t) r1 (fun os r2 => P (.d d :: os) r2) E := by
    funext d r1
    exact propext wp_eb
  rw [this]
@[simp] theorem wp_e1s {i : Nat} {P : Ov → Env → Prop} {E : Exc → Env → Prop} : Wp (ev1 (.sl i)) r P E ↔ isOn r[i]? ∧ P (.sl i) r := by
  unfold Wp ev1 isOn
  dsimp only
  cases h : r[i]? with
  | none => simp
  | some z => cases z <;> simp
@[simp] theorem wp_e1e {f : EF D} {P : Ov → Env → Prop} {E : Exc → Env → Prop} : Wp (ev1 (.ex f)) r P E ↔ Wp f r (fun d r1 => P (.d d) r1) E := wp_eb
@[simp] theorem wp_app {ods : List Od} {op : List S → Option S} {P : S → Env → Prop} {E : Exc → Env → Prop} : Wp (dApp ods op) r P E ↔ Wp (evO ods) r (fun os r1 => Wo (getAll r1 os) fun ss => Wo (op ss) fun x => P x r1) E := by
  unfold dApp
  refine wp_ebC fun os r1 => ?_
  unfold Wp Wo
  dsimp only
  cases getAll r1 os with
  | none => rfl
  | some ss => dsimp only; cases op ss <;> rfl
/-- a truth, among values -/
def Ws1 (x : S) (P : Bool → Prop) (_u : Blk P := .mk) : Prop := match x with
  | .d (.bool b) => P b
  | _ => False
@[simp] theorem ws1_b {b : Bool} {P : Bool → Prop} : Ws1 (.d (.bool b)) P ↔ P b := Iff.rfl
/-- a truth -/
def Wt (x : D) (P : Bool → Prop) (_u : Blk P := .mk) : Prop := match x with
  | .bool b => P b
  | _ => False
@[simp] theorem wt_b {b : Bool} {P : Bool → Prop} : Wt (.bool b) P ↔ P b := Iff.rfl
@[simp] theorem wp_cTst {f : EF S} {P : Bool → Env → Prop} {E : Exc → Env → Prop} : Wp (cTst f) r P E ↔ Wp f r (fun x r1 => Ws1 x fun b => P b r1) E := by
  refine wp_ebC fun x r1 => ?_
  cases x with
  | d x => cases x <;> rfl
  | _ => rfl
@[simp] theorem wp_cVal {f : EF D} {P : Bool → Env → Prop} {E : Exc → Env → Prop} : Wp (cVal f) r P E ↔ Wp f r (fun x r1 => Wt x fun b => P b r1) E := by
  refine wp_ebC fun x r1 => ?_
  cases x <;> rfl
theorem wp_kTru {b : Option Bool} {P : Bool → Env → Prop} {E : Exc → Env → Prop} : Wp (kTru b) r P E ↔ Wo b fun k => P k r := by
  cases b <;> rfl
theorem wp_kOpt {b : Option α} {P : α → Env → Prop} {E : Exc → Env → Prop} : Wp (kOpt b) r P E ↔ Wo b fun k => P k r := by
  cases b <;> rfl
@[simp] theorem wp_cTru {f : EF D} {P : Bool → Env → Prop} {E : Exc → Env → Prop} : Wp (cTru f) r P E ↔ Wp f r (fun x r1 => Wo (truD x) fun k => P k r1) E := by
  exact wp_ebC fun x r1 => wp_kTru
@[simp] theorem wp_cAnd {f g : EF Bool} {P : Bool → Env → Prop} {E : Exc → Env → Prop} : Wp (cAnd f g) r P E ↔ Wp f r (fun k r1 => Wite k (Wp g r1 P E) (P false r1)) E := by
  unfold cAnd
  refine wp_ebC fun k r1 => ?_
  cases k <;> rfl
@[simp] theorem wp_cOr {f g : EF Bool} {P : Bool → Env → Prop} {E : Exc → Env → Prop} : Wp (cOr f g) r P E ↔ Wp f r (fun k r1 => Wite k (P true r1) (Wp g r1 P E)) E := by
  unfold cOr
  refine wp_ebC fun k r1 => ?_
  cases k <;> rfl
@[simp] theorem wp_cNot {f : EF Bool} {P : Bool → Env → Prop} {E : Exc → Env → Prop} : Wp (cNot f) r P E ↔ Wp f r (fun k r1 => P (!k) r1) E := wp_eb
@[simp] theorem wp_vB {f : EF Bool} {P : D → Env → Prop} {E : Exc → Env → Prop} : Wp (vB f) r P E ↔ Wp f r (fun k r1 => P (.bool k) r1) E := wp_eb
@[simp] theorem wp_vIf {c : EF Bool} {f g : EF α} {P : α → Env → Prop} {E : Exc → Env → Prop} : Wp (vIf c f g) r P E ↔ Wp c r (fun k r1 => Wite k (Wp f r1 P E) (Wp g r1 P E)) E := by
  unfold vIf
  refine wp_ebC fun k r1 => ?_
  cases k <;> rfl
@[simp] theorem wp_vAnd {f g : EF D} {P : D → Env → Prop} {E : Exc → Env → Prop} : Wp (vAnd f g) r P E ↔ Wp f r (fun x r1 => Wo (truD x) fun k => Wite k (Wp g r1 P E) (P x r1)) E := by
  unfold vAnd
  refine wp_ebC fun x r1 => ?_
  cases truD x with
  | none => rfl
  | some k => cases k <;> rfl
@[simp] theorem wp_vOr {f g : EF D} {P : D → Env → Prop} {E : Exc → Env → Prop} : Wp (vOr f g) r P E ↔ Wp f r (fun x r1 => Wo (truD x) fun k => Wite k (P x r1) (Wp g r1 P E)) E := by
  unfold vOr
  refine wp_ebC fun x r1 => ?_
  cases truD x with
  | none => rfl
  | some k => cases k <;> rfl
/-- a call -/
@[simp] theorem wp_call {F : FD} {ms : List Bool} {ods : List Od} {P : S → Env → Prop} {E : Exc → Env → Prop} :
    Wp (dCall F ms ods) r P E ↔ Wp (evO ods) r (fun os r1 => Wo (callArgs r1 ms os) fun ss => ioOnce ms os = true ∧ Wf F ss (fun x o => P x (putBack ms os o r1)) fun x o => E x (putBack ms os o r1)) E := by
  unfold dCall
  refine wp_ebC fun os r1 => ?_
  unfold Wp Wo Wf
  dsimp only
  cases callArgs r1 ms os with
  | none => rfl
  | some ss =>
    dsimp only
    by_cases h : ioOnce ms os = true
    · simp only [h, if_true, true_and]
      cases F ss with
      | none => rfl
      | some z => obtain ⟨o, t⟩ := z; cases o <;> rfl
    · simp [h]
/-! statements -/
variable {N : Env → Prop} {Q : O → Env → Prop}
@[simp] theorem ws_pass : Ws sPass r N Q ↔ N r := Iff.rfl
@[simp] theorem ws_break : Ws sBreak r N Q ↔ Q .bk r := Iff.rfl
@[simp] theorem ws_cont : Ws sCont r N Q ↔ Q .ct r := Iff.rfl
@[simp] theorem ws_retN : Ws sRetN r N Q ↔ Q (.rt (.d .none)) r := Iff.rfl
@[simp] theorem ws_sb {a b : SM} : Ws (sb a b) r N Q ↔ Ws a r (fun r1 => Ws b r1 N Q) Q := by
  unfold Ws sb
  cases h : a r with
  | none => simp
  | some z =>
    obtain ⟨o, r1⟩ := z
    cases o <;> simp
theorem ws_sx {f : EF α} {k : α → SM} : Ws (sx f k) r N Q ↔ Wp f r (fun x r1 => Ws (k x) r1 N Q) fun x r1 => Q (.ex x) r1 := by
  unfold Ws sx Wp
  cases h : f r with
  | none => simp
  | some z =>
    obtain ⟨o, r1⟩ := z
    cases o <;> simp
theorem ws_sxC {f : EF α} {k : α → SM} {M : α → Env → Prop} (h : ∀ x r1, Ws (k x) r1 N Q ↔ M x r1) : Ws (sx f k) r N Q ↔ Wp f r M fun x r1 => Q (.ex x) r1 := ws_sx.trans (wp_congr h)
@[simp] theorem ws_asg {i : Nat} {f : EF S} : Ws (sAsg i f) r N Q ↔ Wp f r (fun x r1 => N (r1.set i (some x))) fun x r1 => Q (.ex x) r1 := ws_sx
@[simp] theorem ws_ret {f : EF S} : Ws (sRet f) r N Q ↔ Wp f r (fun x r1 => Q (.rt x) r1) fun x r1 => Q (.ex x) r1 := ws_sx
@[simp] theorem ws_drop {f : EF S} : Ws (sDrop f) r N Q ↔ Wp f r (fun x r1 => N r1) fun x r1 => Q (.ex x) r1 := ws_sx
@[simp] theorem ws_if {c : EF Bool} {a b : SM} : Ws (sIf c a b) r N Q ↔ Wp c r (fun k r1 => Wite k (Ws a r1 N Q) (Ws b r1 N Q)) fun x r1 => Q (.ex x) r1 := by
  refine ws_sxC fun k r1 => ?_
  cases k <;> rfl
@[simp] theorem ws_unp {t : Tg} {f : EF D} : Ws (sUnp t f) r N Q ↔ Wp f r (fun d r1 => Wo (bindT t d r1) N) fun x r1 => Q (.ex x) r1 := by
  refine ws_sxC fun d r1 => ?_
  unfold Ws Wo
  dsimp only
  cases bindT t d r1 <;> rfl
@[simp] theorem ws_for {f : EF (List D)} {t : Tg} {g : SM} : Ws (sFor f t g) r N Q ↔ Wp f r (fun xs r1 => Ws (sForL t g xs) r1 N Q) fun x r1 => Q (.ex x) r1 := ws_sx
@[simp] theorem ws_for0 {t : Tg} {g : SM} : Ws (sForL t g []) r N Q ↔ N r := Iff.rfl
/-- a turn's ends -/
def turnQ (N : Env → Prop) (M : Env → Prop) (Q : O → Env → Prop) : O → Env → Prop
  | .nx, r => M r
  | .ct, r => M r
  | .bk, r => N r
  | o, r => Q o r
@[simp] theorem turn_ct {M : Env → Prop} : turnQ N M Q .ct r ↔ M r := Iff.rfl
@[simp] theorem turn_bk {M : Env → Prop} : turnQ N M Q .bk r ↔ N r := Iff.rfl
@[simp] theorem turn_rt {M : Env → Prop} {x : S} : turnQ N M Q (.rt x) r ↔ Q (.rt x) r := Iff.rfl
@[simp] theorem turn_ex {M : Env → Prop} {x : Exc} : turnQ N M Q (.ex x) r ↔ Q (.ex x) r := Iff.rfl
theorem ws_forS {t : Tg} {g : SM} {d : D} {xs : List D} : Ws (sForL t g (d :: xs)) r N Q ↔ Wo (bindT t d r) fun r1 => Ws g r1 (fun r2 => Ws (sForL t g xs) r2 N Q) (turnQ N (fun r2 => Ws (sForL t g xs) r2 N Q) Q) := by
  show Ws (fun r => match bindT t d r with
    | none => none
    | some r1 => match g r1 with
      | some (.nx, r2) => sForL t g xs r2
      | some (.ct, r2) => sForL t g xs r2
      | some (.bk, r2) => some (.nx, r2)
      | z => z) r N Q ↔ _
  unfold Wo
  cases h : bindT t d r with
  | none => simp [Ws, h]
  | some r1 =>
    simp only [Ws, h]
    cases hg : g r1 with
    | none => simp
    | some z =>
      obtain ⟨o, r2⟩ := z
      cases o <;> simp [turnQ]
/-- a loop by its invariant: what is left to walk, and the slots -/
theorem ws_forI {t : Tg} {g : SM} (J : List D → Env → Prop) {xs : List D} (h0 : J xs r)
    (hs : ∀ d ys r, J (d :: ys) r → Wo (bindT t d r) fun r1 => Ws g r1 (J ys) (turnQ N (J ys) Q)) (he : ∀ r, J [] r → N r) : Ws (sForL t g xs) r N Q := by
  induction xs generalizing r with
  | nil => exact he r h0
  | cons d ys ih =>
    rw [ws_forS]
    have h := hs d ys r h0
    rw [wo_iff] at h ⊢
    obtain ⟨r1, h1, h2⟩ := h
    refine ⟨r1, h1, h2.mono (fun r2 q => ih q) fun o r2 q => ?_⟩
    cases o with
    | nx => exact ih q
    | ct => exact ih q
    | bk => exact q
    | rt x => exact q
    | ex x => exact q
theorem ws_whileS {c : EF Bool} {g : SM} {n : Nat} (h : Ws (sWh c g n) r N Q) : Ws (sWhile c g) r N Q := by
  unfold Ws at h ⊢
  cases e : sWh c g n r with
  | none => rw [e] at h; exact h.elim
  | some z =>
    rw [e] at h
    rw [sWhile_of e]
    exact h
theorem ws_step {c : EF Bool} {g k : SM} : Ws (sStep c g k) r N Q ↔ Wp c r (fun b r1 => Wite b (Ws g r1 (fun r2 => Ws k r2 N Q) (turnQ N (fun r2 => Ws k r2 N Q) Q)) (N r1)) fun x r1 => Q (.ex x) r1 := by
  unfold sStep
  simp only [Ws, Wp]
  cases hc : c r with
  | none => simp
  | some z =>
    obtain ⟨o, r1⟩ := z
    cases o with
    | ex x => simp
    | ok b =>
      cases b with
      | false => simp
      | true =>
        simp only [wite_t]
        cases hg : g r1 with
        | none => simp
        | some z =>
          obtain ⟨o, r2⟩ := z
          cases o <;> simp [turnQ]
/-- a while by its invariant and measure -/
theorem ws_while {c : EF Bool} {g : SM} (J : Nat → Env → Prop) {n : Nat} (h0 : J n r)
    (hs : ∀ m r, J m r → Wp c r (fun b r1 => Wite b (Ws g r1 (fun r2 => ∃ k, k < m ∧ J k r2) (turnQ N (fun r2 => ∃ k, k < m ∧ J k r2) Q)) (N r1)) fun x r1 => Q (.ex x) r1) : Ws (sWhile c g) r N Q := by
  refine ws_whileS (n := n + 1) ?_
  have key : ∀ (f m : Nat), m < f → ∀ r, J m r → Ws (sWh c g f) r N Q := by
    intro f
    induction f with
    | zero => intro m h; omega
    | succ f ih =>
      intro m hm r hj
      show Ws (sStep c g (sWh c g f)) r N Q
      rw [ws_step]
      refine (hs m r hj).mono (fun b r1 q => ?_) fun x r1 q => q
      cases b with
      | true =>
        refine Ws.mono (show Ws _ _ _ _ from q) (fun r2 ⟨k, hk, q⟩ => ih k (by omega) r2 q) fun o r2 q => ?_
        cases o with
        | nx => obtain ⟨k, hk, q⟩ := q; exact ih k (by omega) r2 q
        | ct => obtain ⟨k, hk, q⟩ := q; exact ih k (by omega) r2 q
        | bk => exact q
        | rt x => exact q
        | ex x => exact q
      | false => exact q
  exact key (n + 1) n (Nat.lt_succ_self n) r h0
/-- xs[k] = v -/
def Wset (o : Option (Option S)) (r : Env) (i : Nat) (j : Int) (d : D) (N : Env → Prop) (_u : Blk N := .mk) : Prop := match o with
  | some (some (.own b (.lst xs))) => Wo (ixN xs.length j) fun n => N (r.set i (some (.own b (.lst (xs.set n d)))))
  | _ => False
@[simp] theorem wset_l {b : Bool} {xs : List D} {i : Nat} {j : Int} {d : D} : Wset (some (some (.own b (.lst xs)))) r i j d N ↔ Wo (ixN xs.length j) fun n => N (r.set i (some (.own b (.lst (xs.set n d))))) := Iff.rfl
@[simp] theorem ws_set {i : Nat} {k f : EF D} : Ws (sSet i k f) r N Q ↔ Wp f r (fun d r1 => isOn r1[i]? ∧ Wp k r1 (fun kk r2 => ∃ j, kk = .int j ∧ Wset r2[i]? r2 i j d N) fun x r1 => Q (.ex x) r1) fun x r1 => Q (.ex x) r1 := by
  refine ws_sxC fun d r1 => ?_
  rw [ws_sx, wp_e1s]
  refine and_congr_right fun _ => ws_sxC fun kk r2 => ?_
  cases kk with
  | int j =>
    have e : (∃ j', PyData.int j = PyData.int j' ∧ Wset r2[i]? r2 i j' d N) ↔ Wset r2[i]? r2 i j d N := ⟨fun ⟨_, e, q⟩ => by cases e; exact q, fun q => ⟨j, rfl, q⟩⟩
    refine Iff.trans ?_ e.symm
    unfold Ws Wset
    dsimp only
    cases r2[i]? with
    | none => rfl
    | some z =>
      cases z with
      | none => rfl
      | some z =>
        cases z with
        | d x => rfl
        | bor m => rfl
        | lck m => rfl
        | own b m =>
          cases m with
          | lst xs =>
            dsimp only
            cases ixN xs.length j <;> rfl
          | dic _ => rfl
          | frd _ => rfl
          | dit _ => rfl
          | exc _ => rfl
  | _ => simp [Ws]
/-- walks -/
@[simp] theorem wp_iD {f : EF D} {P : List D → Env → Prop} {E : Exc → Env → Prop} : Wp (iD f) r P E ↔ Wp f r (fun d r1 => Wo (itemsD d) fun xs => P xs r1) E := by
  exact wp_ebC fun x r1 => wp_kOpt
def Wi (o : Option (Option S)) (r : Env) (i : Nat) (P : List D → Env → Prop) (_u : Blk P := .mk) : Prop := match o with
  | some (some (.bor (.lst xs))) => P xs r
  | some (some (.d x)) => Wo (itemsD x) fun xs => P xs r
  | some (some (.own false (.lst xs))) => P xs (r.set i (some (.d (.list xs))))
  | _ => False
@[simp] theorem wi_b {xs : List D} {i : Nat} {P : List D → Env → Prop} : Wi (some (some (.bor (.lst xs)))) r i P ↔ P xs r := Iff.rfl
@[simp] theorem wi_d {x : D} {i : Nat} {P : List D → Env → Prop} : Wi (some (some (.d x))) r i P ↔ Wo (itemsD x) fun xs => P xs r := Iff.rfl
@[simp] theorem wi_l {xs : List D} {i : Nat} {P : List D → Env → Prop} : Wi (some (some (.own false (.lst xs)))) r i P ↔ P xs (r.set i (some (.d (.list xs)))) := Iff.rfl
@[simp] theorem wp_iVar {i : Nat} {P : List D → Env → Prop} {E : Exc → Env → Prop} : Wp (iVar i) r P E ↔ Wi r[i]? r i P := by
  have k : Wp (iD (dVar i)) r P E ↔ Wv r[i]? r i fun d r1 => Wo (itemsD d) fun xs => P xs r1 := by
    rw [wp_iD, wp_var]
  cases h : r[i]? with
  | none =>
    rw [h] at k
    unfold Wp iVar at *
    rw [h]
    exact k
  | some z =>
    cases z with
    | none =>
      rw [h] at k
      unfold Wp iVar at *
      rw [h]
      exact k
    | some z =>
      cases z with
      | d x =>
        rw [h] at k
        unfold Wp iVar at *
        rw [h]
        exact k
      | bor m =>
        cases m with
        | lst xs =>
          unfold Wp iVar
          rw [h]
          rfl
        | dic _ =>
          rw [h] at k
          unfold Wp iVar at *
          rw [h]
          exact k
        | frd _ =>
          rw [h] at k
          unfold Wp iVar at *
          rw [h]
          exact k
        | dit _ =>
          rw [h] at k
          unfold Wp iVar at *
          rw [h]
          exact k
        | exc _ =>
          rw [h] at k
          unfold Wp iVar at *
          rw [h]
          exact k
      | lck m =>
        rw [h] at k
        unfold Wp iVar at *
        rw [h]
        exact k
      | own b m =>
        rw [h] at k
        unfold Wp iVar at *
        rw [h]
        refine k.trans ?_
        cases b with
        | true => rfl
        | false => cases m <;> rfl
@[simp] theorem wp_iApp {ods : List Od} {op : List S → Option (List D)} {P : List D → Env → Prop} {E : Exc → Env → Prop} : Wp (iApp ods op) r P E ↔ Wp (evO ods) r (fun os r1 => Wo (getAll r1 os) fun ss => Wo (op ss) fun x => P x r1) E := by
  unfold iApp
  refine wp_ebC fun os r1 => ?_
  unfold Wp Wo
  dsimp only
  cases getAll r1 os with
  | none => rfl
  | some ss => dsimp only; cases op ss <;> rfl
/-- a walk over a name -/
def Wfv (o : Option (Option S)) (r : Env) (i : Nat) (t : Tg) (g : SM) (N : Env → Prop) (Q : O → Env → Prop) (_u : Blk (t, g, N, Q) := .mk) : Prop := match o with
  | some (some (.own b (.lst xs))) => Ws (sForL t g xs) (r.set i (some (.lck (.lst xs)))) (fun r' => match r'[i]? with
    | some (some (.lck m)) => N (r'.set i (some (.own b m)))
    | _ => False) fun o r' => match r'[i]? with
    | some (some (.lck m)) => Q o (r'.set i (some (.own b m)))
    | _ => False
  | _ => Ws (sFor (iVar i) t g) r N Q
@[simp] theorem wfv_d {d : D} {i : Nat} {t : Tg} {g : SM} : Wfv (some (some (.d d))) r i t g N Q ↔ Ws (sFor (iVar i) t g) r N Q := Iff.rfl
@[simp] theorem wfv_b {m : MO} {i : Nat} {t : Tg} {g : SM} : Wfv (some (some (.bor m))) r i t g N Q ↔ Ws (sFor (iVar i) t g) r N Q := Iff.rfl
@[simp] theorem wfv_o {b : Bool} {xs : List D} {i : Nat} {t : Tg} {g : SM} : Wfv (some (some (.own b (.lst xs)))) r i t g N Q ↔ Ws (sForL t g xs) (r.set i (some (.lck (.lst xs)))) (fun r' => match r'[i]? with
    | some (some (.lck m)) => N (r'.set i (some (.own b m)))
    | _ => False) fun o r' => match r'[i]? with
    | some (some (.lck m)) => Q o (r'.set i (some (.own b m)))
    | _ => False := Iff.rfl
@[simp] theorem ws_forV {i : Nat} {t : Tg} {g : SM} : Ws (sForV i t g) r N Q ↔ Wfv r[i]? r i t g N Q := by
  unfold Wfv
  split
  · rename_i b xs h
    have : sForV i t g r = (match sForL t g xs (r.set i (some (.lck (.lst xs)))) with
      | some (o, r') => (match r'[i]? with
        | some (some (.lck m)) => some (o, r'.set i (some (.own b m)))
        | _ => none)
      | none => none) := by
      unfold sForV
      rw [h] <;> rfl
    unfold Ws
    rw [this]
    cases sForL t g xs (r.set i (some (.lck (.lst xs)))) with
    | none => rfl
    | some z =>
      obtain ⟨o, r'⟩ := z
      dsimp only
      cases hq : r'[i]? with
      | none => cases o <;> simp [hq]
      | some z =>
        cases z with
        | none => cases o <;> simp [hq]
        | some z => cases z <;> cases o <;> simp [hq]
  · rename_i h
    have : sForV i t g r = sFor (iVar i) t g r := by
      unfold sForV
      split
      · rename_i b xs e
        exact absurd e (h b xs)
      · rfl
    unfold Ws
    rw [this]
/-- a def by its body -/
theorem wf_runB {np n : Nat} {g : SM} {ss : List S} {P : S → List S → Prop} {E : Exc → List S → Prop} : Wf (runB np n g) ss P E ↔ ss.length = np ∧ Ws g (ss.map some ++ List.replicate (n - ss.length) none) (fun r => Wo (outs ss r) fun o => P (.d .none) o) fun o r => match o with
    | .rt x => Wo (outs ss r) fun o => P x o
    | .ex x => Wo (outs ss r) fun o => E x o
    | _ => False := by
  unfold Wf runB
  by_cases h : ss.length = np
  · simp only [h, if_true, true_and]
    unfold Ws
    cases hg : g (ss.map some ++ List.replicate (n - np) none) with
    | none => simp
    | some z =>
      obtain ⟨o, r⟩ := z
      cases o <;> simp only [Wo] <;> cases outs ss r <;> simp
  · simp [h]
end
end DL
/-! DLx: operations on given data, as simp goes. -/
namespace DL
open PySem L2
def rdO : Option (Option S) → Option S
  | some (some (.d x)) => some (.d x)
  | some (some (.bor m)) => some (.bor m)
  | some (some (.lck m)) => some (.bor m)
  | some (some (.own _ m)) => some (.bor m)
  | _ => none
section
variable {r : Env} {P : List S → Prop}
@[simp] theorem rdO_d {x : D} : rdO (some (some (.d x))) = some (.d x) := rfl
@[simp] theorem rdO_b {x : MO} : rdO (some (some (.bor x))) = some (.bor x) := rfl
@[simp] theorem rdO_k {x : MO} : rdO (some (some (.lck x))) = some (.bor x) := rfl
@[simp] theorem rdO_o {b : Bool} {x : MO} : rdO (some (some (.own b x))) = some (.bor x) := rfl
@[simp] theorem get_d {x : D} : Ov.get r (.d x) = some (.d x) := rfl
@[simp] theorem get_sl {i : Nat} : Ov.get r (.sl i) = rdO r[i]? := by
  show rdS r i = _
  unfold rdS rdO
  split <;> simp_all
@[simp] theorem wo_all0 : Wo (getAll r []) P ↔ P [] := Iff.rfl
@[simp] theorem wo_allS {o : Ov} {t : List Ov} : Wo (getAll r (o :: t)) P ↔ Wo (o.get r) fun x => Wo (getAll r t) fun xs => P (x :: xs) := by
  show Wo (match o.get r, getAll r t with
    | some x, some xs => some (x :: xs)
    | _, _ => none) P ↔ _
  cases o.get r <;> cases getAll r t <;> simp
def Wow (o : Option (Option S)) (P : MO → Prop) (_u : Blk P := .mk) : Prop := match o with
  | some (some (.own _ m)) => P m
  | _ => False
@[simp] theorem wow_o {b : Bool} {m : MO} {P : MO → Prop} : Wow (some (some (.own b m))) P ↔ P m := Iff.rfl
@[simp] theorem wo_ca0 : Wo (callArgs r [] []) P ↔ P [] := Iff.rfl
@[simp] theorem wo_caF {ms : List Bool} {o : Ov} {t : List Ov} : Wo (callArgs r (false :: ms) (o :: t)) P ↔ Wo (o.get r) fun x => Wo (callArgs r ms t) fun xs => P (x :: xs) := by
  show Wo (match o.get r, callArgs r ms t with
    | some x, some xs => some (x :: xs)
    | _, _ => none) P ↔ _
  cases o.get r <;> cases callArgs r ms t <;> simp
@[simp] theorem wo_caT {ms : List Bool} {i : Nat} {t : List Ov} : Wo (callArgs r (true :: ms) (.sl i :: t)) P ↔ Wow r[i]? fun m => Wo (callArgs r ms t) fun xs => P (.own true m :: xs) := by
  show Wo (match r[i]?, callArgs r ms t with
    | some (some (.own _ m)), some xs => some (.own true m :: xs)
    | _, _ => none) P ↔ _
  unfold Wow
  cases h : r[i]? with
  | none => simp
  | some z =>
    cases z with
    | none => simp
    | some z => cases z <;> cases callArgs r ms t <;> simp
end
section
variable {P : S → Prop} {i j : Int} {a b : Str} {xs ys : List D} {x y : D}
theorem mulOk_iff : mulOk i j = true ↔ (i.natAbs < 2 ^ 256 ∧ j.natAbs < 2 ^ 256) := by
  unfold mulOk
  rw [Bool.and_eq_true, decide_eq_true_eq, decide_eq_true_eq]
@[simp] theorem o_add : opAdd [.d (.int i), .d (.int j)] = some (.d (.int (i + j))) := rfl
@[simp] theorem o_adds : Wo (opAdd [.d (.str a), .d (.str b)]) P ↔ a.length + b.length ≤ 16777216 ∧ P (.d (.str (a ++ b))) := by
  have : opAdd [.d (.str a), .d (.str b)] = if a.length + b.length ≤ 16777216 then some (.d (.str (a ++ b))) else none := by
    by_cases h : a.length + b.length ≤ 16777216 <;> simp [opAdd, iAdd, sAdd, tAddD, lAddD, tupS, lstS, h]
  rw [this]
  by_cases h : a.length + b.length ≤ 16777216 <;> simp [h]
@[simp] theorem o_addT : Wo (opAdd [.d (.tuple xs), .d (.tuple ys)]) P ↔ xs.length + ys.length ≤ 16777216 ∧ P (.d (.tuple (xs ++ ys))) := by
  have : opAdd [.d (.tuple xs), .d (.tuple ys)] = if xs.length + ys.length ≤ 16777216 then some (.d (.tuple (xs ++ ys))) else none := by
    by_cases h : xs.length + ys.length ≤ 16777216 <;> simp [opAdd, iAdd, sAdd, tAddD, lAddD, tupS, lstS, h]
  rw [this]
  by_cases h : xs.length + ys.length ≤ 16777216 <;> simp [h]
theorem o_addL {p q : S} (hp : lstS p = some xs) (hq : lstS q = some ys) : Wo (opAdd [p, q]) P ↔ xs.length + ys.length ≤ 16777216 ∧ P (.own false (.lst (xs ++ ys))) := by
  have e1 : iAdd [p, q] = none := by
    unfold lstS at hp
    split at hp <;> first | rfl | cases hp
  have e2 : sAdd [p, q] = none := by
    unfold lstS at hp
    split at hp <;> first | rfl | cases hp
  have e3 : tAddD [p, q] = none := by
    unfold lstS at hp
    split at hp <;> first | rfl | cases hp
  have : opAdd [p, q] = if xs.length + ys.length ≤ 16777216 then some (.own false (.lst (xs ++ ys))) else none := by
    unfold opAdd lAddD
    rw [e1, e2, e3]
    dsimp only
    rw [hp, hq]
    rfl
  rw [this]
  by_cases h : xs.length + ys.length ≤ 16777216 <;> simp [h]
@[simp] theorem o_addLL : Wo (opAdd [.d (.list xs), .d (.list ys)]) P ↔ xs.length + ys.length ≤ 16777216 ∧ P (.own false (.lst (xs ++ ys))) := o_addL rfl rfl
@[simp] theorem o_addBL : Wo (opAdd [.bor (.lst xs), .d (.list ys)]) P ↔ xs.length + ys.length ≤ 16777216 ∧ P (.own false (.lst (xs ++ ys))) := o_addL rfl rfl
@[simp] theorem o_addLB : Wo (opAdd [.d (.list xs), .bor (.lst ys)]) P ↔ xs.length + ys.length ≤ 16777216 ∧ P (.own false (.lst (xs ++ ys))) := o_addL rfl rfl
@[simp] theorem o_addBB : Wo (opAdd [.bor (.lst xs), .bor (.lst ys)]) P ↔ xs.length + ys.length ≤ 16777216 ∧ P (.own false (.lst (xs ++ ys))) := o_addL rfl rfl
@[simp] theorem o_sub : iSub [.d (.int i), .d (.int j)] = some (.d (.int (i - j))) := rfl
@[simp] theorem o_mul : Wo (opMul [.d (.int i), .d (.int j)]) P ↔ (i.natAbs < 2 ^ 256 ∧ j.natAbs < 2 ^ 256) ∧ P (.d (.int (i * j))) := by
  have : opMul [.d (.int i), .d (.int j)] = if mulOk i j = true then some (.d (.int (i * j))) else none := by
    by_cases h : mulOk i j = true <;> simp [opMul, iMul, sMul, h]
  rw [this, ← mulOk_iff]
  by_cases h : mulOk i j = true <;> simp [h]
@[simp] theorem o_muls : Wo (opMul [.d (.str a), .d (.int j)]) P ↔ (a.length ≤ 1000 ∧ j ≤ 1000 ∧ -1000 ≤ j) ∧ P (.d (.str (Txt.mul a j))) := by
  have : opMul [.d (.str a), .d (.int j)] = if a.length ≤ 1000 ∧ j ≤ 1000 ∧ -1000 ≤ j then some (.d (.str (Txt.mul a j))) else none := rfl
  rw [this]
  by_cases h : a.length ≤ 1000 ∧ j ≤ 1000 ∧ -1000 ≤ j <;> simp [h]
@[simp] theorem o_repr : Wo (reprD [.d x]) P ↔ (x.showable = true ∧ x.depth ≤ 60 ∧ x.shown.length ≤ 16777216) ∧ P (.d (.str x.shown)) := by
  have : reprD [.d x] = if x.showable = true ∧ x.depth ≤ 60 ∧ x.shown.length ≤ 16777216 then some (.d (.str x.shown)) else none := rfl
  rw [this]
  by_cases h : x.showable = true ∧ x.depth ≤ 60 ∧ x.shown.length ≤ 16777216 <;> simp [h]
@[simp] theorem o_intI : intD [.d (.int i)] = some (.d (.int i)) := rfl
@[simp] theorem o_intB {c : Bool} : intD [.d (.bool c)] = some (.d (.int (if c = true then 1 else 0))) := rfl
@[simp] theorem o_strS : strD [.d (.str a)] = some (.d (.str a)) := rfl
@[simp] theorem o_strI : Wo (strD [.d (.int i)]) P ↔ i.natAbs.log2 < 1920 ∧ P (.d (.str (toString i))) := by
  have : strD [.d (.int i)] = if i.natAbs.log2 < 1920 then some (.d (.str (toString i))) else none := rfl
  rw [this]
  by_cases h : i.natAbs.log2 < 1920 <;> simp [h]
@[simp] theorem o_all {q : S} : Wo (allD [q]) P ↔ Wo (lstS q) fun xs => Wo (boolsD xs) fun bs => P (.d (.bool (bs.all id))) := by
  have : allD [q] = ((lstS q).bind boolsD).map fun bs => .d (.bool (bs.all id)) := rfl
  rw [this]
  exact wo_map.trans wo_bind
@[simp] theorem o_sum {q : S} : Wo (sumD [q]) P ↔ Wo (lstS q) fun xs => Wo (intsD xs) fun bs => P (.d (.int bs.sum)) := by
  have : sumD [q] = ((lstS q).bind intsD).map fun bs => .d (.int bs.sum) := rfl
  rw [this]
  exact wo_map.trans wo_bind
@[simp] theorem lstS_l : lstS (.d (.list xs)) = some xs := rfl
@[simp] theorem lstS_b : lstS (.bor (.lst xs)) = some xs := rfl
@[simp] theorem seqS_l : seqS (.d (.list xs)) = some xs := rfl
@[simp] theorem seqS_b : seqS (.bor (.lst xs)) = some xs := rfl
@[simp] theorem seqS_t : seqS (.d (.tuple xs)) = some xs := rfl
@[simp] theorem datS_d : datS (.d x) = some x := rfl
@[simp] theorem o_join {q : S} : Wo (joinO a [q]) P ↔ Wo (seqS q) fun xs => Wo (strsD xs) fun ys => (ys.map (·.length)).sum + ys.length * a.length ≤ 16777216 ∧ P (.d (.str (Txt.join a ys))) := by
  have : joinO a [q] = ((seqS q).bind strsD).bind fun ys => if (ys.map (·.length)).sum + ys.length * a.length ≤ 16777216 then some (.d (.str (Txt.join a ys))) else none := rfl
  rw [this]
  simp only [wo_bind]
  cases seqS q with
  | none => rfl
  | some xs =>
    rw [wo_some, wo_some]
    cases strsD xs with
    | none => rfl
    | some ys =>
      rw [wo_some, wo_some]
      by_cases h : (ys.map (·.length)).sum + ys.length * a.length ≤ 16777216
      · rw [if_pos h]; exact ⟨fun q => ⟨h, q⟩, fun q => q.2⟩
      · rw [if_neg h]; exact ⟨fun q => q.elim, fun q => h q.1⟩
@[simp] theorem o_sort {q : S} : Wo (sortD [q]) P ↔ Wo (seqS q) fun xs => (alikeB xs = true ∧ srtB xs = true ∧ PyData.depthAll xs ≤ 60) ∧ P (.own false (.lst (srt xs))) := by
  have : sortD [q] = (seqS q).bind fun xs => if alikeB xs = true ∧ srtB xs = true ∧ PyData.depthAll xs ≤ 60 then some (.own false (.lst (srt xs))) else none := rfl
  rw [this]
  cases seqS q with
  | none => rfl
  | some xs =>
    rw [wo_some]
    dsimp only [Option.bind]
    by_cases h : alikeB xs = true ∧ srtB xs = true ∧ PyData.depthAll xs ≤ 60
    · rw [if_pos h]; exact ⟨fun q => ⟨h, q⟩, fun q => q.2⟩
    · rw [if_neg h]; exact ⟨fun q => q.elim, fun q => h q.1⟩
theorem o_inD {neg : Bool} {q : S} : Wo (inD neg [.d x, q]) P ↔ Wo (seqS q) fun xs => x.depth ≤ 60 ∧ P (.d (.bool (if neg = true then !(xs.any fun y => PyData.eqv y x) else xs.any fun y => PyData.eqv y x))) := by
  unfold inD
  dsimp only [datS]
  cases seqS q with
  | none => rfl
  | some xs => by_cases h : x.depth ≤ 60 <;> simp [h]
theorem inS_no {neg : Bool} {p q : S} {xs : List D} (h : seqS q = some xs) : inS neg [p, q] = none := by
  unfold seqS at h
  split at h <;> (unfold inS; split <;> simp_all)
theorem o_inQ {q : S} {xs : List D} (h : seqS q = some xs) : Wo (opIn [.d x, q]) P ↔ x.depth ≤ 60 ∧ P (.d (.bool (xs.any fun y => PyData.eqv y x))) := by
  unfold opIn
  rw [inS_no h, Option.or_none, o_inD, h]
  simp
theorem o_notInQ {q : S} {xs : List D} (h : seqS q = some xs) : Wo (opNotIn [.d x, q]) P ↔ x.depth ≤ 60 ∧ P (.d (.bool (!(xs.any fun y => PyData.eqv y x)))) := by
  unfold opNotIn
  rw [inS_no h, Option.or_none, o_inD, h]
  simp
@[simp] theorem o_inL : Wo (opIn [.d x, .d (.list xs)]) P ↔ x.depth ≤ 60 ∧ P (.d (.bool (xs.any fun y => PyData.eqv y x))) := o_inQ rfl
@[simp] theorem o_inT : Wo (opIn [.d x, .d (.tuple xs)]) P ↔ x.depth ≤ 60 ∧ P (.d (.bool (xs.any fun y => PyData.eqv y x))) := o_inQ rfl
@[simp] theorem o_inB : Wo (opIn [.d x, .bor (.lst xs)]) P ↔ x.depth ≤ 60 ∧ P (.d (.bool (xs.any fun y => PyData.eqv y x))) := o_inQ rfl
@[simp] theorem o_ninL : Wo (opNotIn [.d x, .d (.list xs)]) P ↔ x.depth ≤ 60 ∧ P (.d (.bool (!(xs.any fun y => PyData.eqv y x)))) := o_notInQ rfl
@[simp] theorem o_ninT : Wo (opNotIn [.d x, .d (.tuple xs)]) P ↔ x.depth ≤ 60 ∧ P (.d (.bool (!(xs.any fun y => PyData.eqv y x)))) := o_notInQ rfl
@[simp] theorem o_ninB : Wo (opNotIn [.d x, .bor (.lst xs)]) P ↔ x.depth ≤ 60 ∧ P (.d (.bool (!(xs.any fun y => PyData.eqv y x)))) := o_notInQ rfl
@[simp] theorem o_inS : opIn [.d (.str a), .d (.str b)] = some (.d (.bool (hasSub a b))) := rfl
@[simp] theorem o_ninS : opNotIn [.d (.str a), .d (.str b)] = some (.d (.bool (!hasSub a b))) := rfl
@[simp] theorem o_div : Wo (iDiv [.d (.int i), .d (.int j)]) P ↔ (0 < j ∧ j.natAbs < 2 ^ 256) ∧ P (.d (.int (i / j))) := by
  have : iDiv [.d (.int i), .d (.int j)] = if 0 < j ∧ j.natAbs < 2 ^ 256 then some (.d (.int (i / j))) else none := rfl
  rw [this]
  by_cases h : 0 < j ∧ j.natAbs < 2 ^ 256 <;> simp [h]
@[simp] theorem o_mod : Wo (iMod [.d (.int i), .d (.int j)]) P ↔ 0 < j ∧ P (.d (.int (i % j))) := by
  have : iMod [.d (.int i), .d (.int j)] = if 0 < j then some (.d (.int (i % j))) else none := rfl
  rw [this]
  by_cases h : 0 < j <;> simp [h]
@[simp] theorem o_pow : Wo (iPow [.d (.int i), .d (.int j)]) P ↔ (0 ≤ j ∧ j ≤ 1000 ∧ i.natAbs < 2 ^ 64) ∧ P (.d (.int (i ^ j.toNat))) := by
  have : iPow [.d (.int i), .d (.int j)] = if 0 ≤ j ∧ j ≤ 1000 ∧ i.natAbs < 2 ^ 64 then some (.d (.int (i ^ j.toNat))) else none := rfl
  rw [this]
  by_cases h : 0 ≤ j ∧ j ≤ 1000 ∧ i.natAbs < 2 ^ 64 <;> simp [h]
@[simp] theorem o_neg : iNeg [.d (.int i)] = some (.d (.int (-i))) := rfl
@[simp] theorem o_lt : opLt [.d (.int i), .d (.int j)] = some (.d (.bool (decide (i < j)))) := rfl
@[simp] theorem o_ltS : opLt [.d (.str a), .d (.str b)] = some (.d (.bool (ltS a b))) := rfl
@[simp] theorem o_leS : opLe [.d (.str a), .d (.str b)] = some (.d (.bool (!ltS b a))) := rfl
@[simp] theorem o_gtS : opGt [.d (.str a), .d (.str b)] = some (.d (.bool (ltS b a))) := rfl
@[simp] theorem o_geS : opGe [.d (.str a), .d (.str b)] = some (.d (.bool (!ltS a b))) := rfl
@[simp] theorem o_ltT : Wo (opLt [.d (.tuple xs), .d (.tuple ys)]) P ↔ (PySem.W.alike (.tuple xs) (.tuple ys) = true ∧ PyData.depthAll xs ≤ 60) ∧ P (.d (.bool (PySem.W.dataLt (.tuple xs) (.tuple ys)))) := by
  have : opLt [.d (.tuple xs), .d (.tuple ys)] = if PySem.W.alike (.tuple xs) (.tuple ys) = true ∧ PyData.depthAll xs ≤ 60 then some (.d (.bool (PySem.W.dataLt (.tuple xs) (.tuple ys)))) else none := rfl
  rw [this]
  by_cases h : PySem.W.alike (.tuple xs) (.tuple ys) = true ∧ PyData.depthAll xs ≤ 60 <;> simp [h]
@[simp] theorem o_sortK {q : S} : Wo (sortKD [q]) P ↔ Wo (seqS q) fun xs => xs.all isTie = true ∧ P (.own false (.lst (srtK xs))) := by
  have : sortKD [q] = (seqS q).bind fun xs => if xs.all isTie = true then some (.own false (.lst (srtK xs))) else none := rfl
  rw [this]
  cases seqS q with
  | none => rfl
  | some xs =>
    rw [wo_some]
    dsimp only [Option.bind]
    by_cases h : xs.all isTie = true
    · rw [if_pos h]; exact ⟨fun q => ⟨h, q⟩, fun q => q.2⟩
    · rw [if_neg h]; exact ⟨fun q => q.elim, fun q => h q.1⟩
@[simp] theorem o_le : opLe [.d (.int i), .d (.int j)] = some (.d (.bool (decide (i ≤ j)))) := rfl
@[simp] theorem o_gt : opGt [.d (.int i), .d (.int j)] = some (.d (.bool (decide (j < i)))) := rfl
@[simp] theorem o_ge : opGe [.d (.int i), .d (.int j)] = some (.d (.bool (decide (j ≤ i)))) := rfl
theorem o_eq {neg : Bool} : Wo (eqD neg [.d x, .d y]) P ↔ min x.depth y.depth ≤ 64 ∧ P (.d (.bool (if neg = true then !PyData.eqv x y else PyData.eqv x y))) := by
  have : eqD neg [.d x, .d y] = if min x.depth y.depth ≤ 64 then some (.d (.bool (if neg = true then !PyData.eqv x y else PyData.eqv x y))) else none := rfl
  rw [this]
  by_cases h : min x.depth y.depth ≤ 64 <;> simp [h]
@[simp] theorem o_eqI {neg : Bool} : eqD neg [.d (.int i), .d (.int j)] = some (.d (.bool (if neg = true then !decide (i = j) else decide (i = j)))) := by
  show (if min (PyData.int i).depth (PyData.int j).depth ≤ 64 then some (S.d (.bool (if neg = true then !PyData.eqv (.int i) (.int j) else PyData.eqv (.int i) (.int j)))) else none) = _
  rw [if_pos (by simp [PyData.depth])]
  have : (i == j) = decide (i = j) := by by_cases h : i = j <;> simp [h]
  simp [PyData.eqv, this]
@[simp] theorem o_eqB {neg c d : Bool} : eqD neg [.d (.bool c), .d (.bool d)] = some (.d (.bool (if neg = true then !(c == d) else c == d))) := by
  show (if min (PyData.bool c).depth (PyData.bool d).depth ≤ 64 then some (S.d (.bool (if neg = true then !PyData.eqv (.bool c) (.bool d) else PyData.eqv (.bool c) (.bool d)))) else none) = _
  rw [if_pos (by simp [PyData.depth])]
  simp [PyData.eqv]
@[simp] theorem o_eqS {neg : Bool} : eqD neg [.d (.str a), .d (.str b)] = some (.d (.bool (if neg = true then !decide (a = b) else decide (a = b)))) := by
  show (if min (PyData.str a).depth (PyData.str b).depth ≤ 64 then some (S.d (.bool (if neg = true then !PyData.eqv (.str a) (.str b) else PyData.eqv (.str a) (.str b)))) else none) = _
  rw [if_pos (by simp [PyData.depth])]
  have : (a == b) = decide (a = b) := by by_cases h : a = b <;> simp [h]
  simp [PyData.eqv, this]
@[simp] theorem o_eqN {neg : Bool} : eqD neg [.d (.list xs), .d (.list [])] = some (.d (.bool (if neg = true then !xs.isEmpty else xs.isEmpty))) := by
  show (if min (PyData.list xs).depth (PyData.list []).depth ≤ 64 then some (S.d (.bool (if neg = true then !PyData.eqv (.list xs) (.list []) else PyData.eqv (.list xs) (.list [])))) else none) = _
  rw [if_pos (by simp [PyData.depth, PyData.depthAll])]
  cases xs <;> simp [PyData.eqv, PyData.eqvAll]
@[simp] theorem o_ixB : opIx [.bor (.lst xs), .d (.int i)] = (atI xs i).map .d := rfl
@[simp] theorem o_ixL : opIx [.d (.list xs), .d (.int i)] = (atI xs i).map .d := rfl
@[simp] theorem o_ixT : opIx [.d (.tuple xs), .d (.int i)] = (atI xs i).map .d := rfl
@[simp] theorem o_ixS : Wo (opIx [.d (.str a), .d (.int i)]) P ↔ a.length ≤ 16777216 ∧ Wo (atI a.cps.toList i) fun c => P (.d (.str ⟨#[c]⟩)) := by
  have : opIx [.d (.str a), .d (.int i)] = if a.length ≤ 16777216 then (atI a.cps.toList i).map fun c => .d (.str ⟨#[c]⟩) else none := rfl
  rw [this]
  by_cases h : a.length ≤ 16777216 <;> simp [h, wo_map]
@[simp] theorem at_0 {α : Type} {x : α} {t : List α} : atI (x :: t) 0 = some x := by simp [atI, ixN]
@[simp] theorem at_1 {α : Type} {x y : α} {t : List α} : atI (x :: y :: t) 1 = some y := by
  have : (1 : Int) < ((x :: y :: t).length : Nat) := by simp; omega
  simp only [atI, ixN, this, if_true]
  simp
@[simp] theorem at_2 {α : Type} {x y z : α} {t : List α} : atI (x :: y :: z :: t) 2 = some z := by
  have : (2 : Int) < ((x :: y :: z :: t).length : Nat) := by simp; omega
  simp only [atI, ixN, this, if_true]
  simp
theorem at_of {α : Type} {xs : List α} {i : Int} (h : 0 ≤ i) (h2 : i < xs.length) : ∃ x, atI xs i = some x ∧ x ∈ xs ∧ xs[i.toNat]? = some x := by
  have hl : i.toNat < xs.length := by omega
  refine ⟨xs[i.toNat], ?_, List.getElem_mem _, List.getElem?_eq_getElem hl⟩
  simp only [atI, ixN, h, h2, if_true]
  simp [hl]
@[simp] theorem o_lenL : lenD [.d (.list xs)] = some (.d (.int xs.length)) := rfl
@[simp] theorem o_lenB : lenD [.bor (.lst xs)] = some (.d (.int xs.length)) := rfl
@[simp] theorem o_lenT : lenD [.d (.tuple xs)] = some (.d (.int xs.length)) := rfl
@[simp] theorem o_lenS : Wo (lenD [.d (.str a)]) P ↔ a.length ≤ 16777216 ∧ P (.d (.int a.length)) := by
  have : lenD [.d (.str a)] = if a.length ≤ 16777216 then some (.d (.int a.length)) else none := rfl
  rw [this]
  by_cases h : a.length ≤ 16777216 <;> simp [h]
@[simp] theorem o_lstL : lstD [.d (.list xs)] = some (.own false (.lst xs)) := rfl
@[simp] theorem o_lstB : lstD [.bor (.lst xs)] = some (.own false (.lst xs)) := rfl
@[simp] theorem o_lstT : lstD [.d (.tuple xs)] = some (.own false (.lst xs)) := rfl
@[simp] theorem o_tplL : tplD [.d (.list xs)] = some (.d (.tuple xs)) := rfl
@[simp] theorem o_tplB : tplD [.bor (.lst xs)] = some (.d (.tuple xs)) := rfl
@[simp] theorem o_tplT : tplD [.d (.tuple xs)] = some (.d (.tuple xs)) := rfl
@[simp] theorem o_max : max2D [.d (.int i), .d (.int j)] = some (.d (.int (if j > i then j else i))) := rfl
@[simp] theorem o_min : min2D [.d (.int i), .d (.int j)] = some (.d (.int (if j < i then j else i))) := rfl
@[simp] theorem o_datas0 : datas [] = some [] := rfl
@[simp] theorem o_datasS {t : List S} : datas (.d x :: t) = (datas t).map (x :: ·) := rfl
@[simp] theorem o_isi {t : Ty} : isiD t [.d x] = some (.d (.bool (isTy t x))) := rfl
@[simp] theorem o_isi2 {t u : Ty} : isiD2 t u [.d x] = some (.d (.bool (isTy t x || isTy u x))) := rfl
@[simp] theorem o_isiB {t : Ty} : isiD t [.bor (.lst xs)] = some (.d (.bool (isTy t (.list xs)))) := rfl
@[simp] theorem o_isi2B {t u : Ty} : isiD2 t u [.bor (.lst xs)] = some (.d (.bool (isTy t (.list xs) || isTy u (.list xs)))) := rfl
@[simp] theorem o_reprB : Wo (reprD [.bor (.lst xs)]) P ↔ ((PyData.list xs).showable = true ∧ (PyData.list xs).depth ≤ 60 ∧ (PyData.list xs).shown.length ≤ 16777216) ∧ P (.d (.str (PyData.list xs).shown)) := o_repr (x := .list xs)
@[simp] theorem o_eqNB {neg : Bool} : eqD neg [.bor (.lst xs), .d (.list [])] = some (.d (.bool (if neg = true then !xs.isEmpty else xs.isEmpty))) := o_eqN
@[simp] theorem o_isB {c d : Bool} : opIs [.d (.bool c), .d (.bool d)] = some (.d (.bool (c == d))) := by cases c <;> cases d <;> rfl
@[simp] theorem o_isNB {c d : Bool} : opIsNot [.d (.bool c), .d (.bool d)] = some (.d (.bool (!(c == d)))) := by cases c <;> cases d <;> rfl
@[simp] theorem o_isN : opIs [.d x, .d .none] = some (.d (.bool (isNon x))) := rfl
@[simp] theorem o_isNN : opIsNot [.d x, .d .none] = some (.d (.bool (!isNon x))) := rfl
end
section
variable {P : S → Prop} {r : Env} {xs : List D} {d : D}
@[simp] theorem o_tup {ss : List S} : Wo (opTup ss) P ↔ Wo (datas ss) fun xs => xs.length ≤ 16777216 ∧ P (.d (.tuple xs)) := by
  unfold opTup
  cases datas ss with
  | none => rfl
  | some xs => by_cases h : xs.length ≤ 16777216 <;> simp [h]
@[simp] theorem o_lst {ss : List S} : Wo (opLst ss) P ↔ Wo (datas ss) fun xs => xs.length ≤ 16777216 ∧ P (.own false (.lst xs)) := by
  unfold opLst
  cases datas ss with
  | none => rfl
  | some xs => by_cases h : xs.length ≤ 16777216 <;> simp [h]
@[simp] theorem bind_nm {i : Nat} : bindT (.nm i) d r = some (r.set i (some (.d d))) := by unfold bindT; rfl
@[simp] theorem bind_tup {ts : List Tg} : bindT (.tup ts) (.tuple xs) r = bindTs ts xs r := by rw [bindT]
@[simp] theorem binds_0 : bindTs [] [] r = some r := by rw [bindTs]
@[simp] theorem binds_S {t : Tg} {ts : List Tg} {P : Env → Prop} : Wo (bindTs (t :: ts) (d :: xs) r) P ↔ Wo (bindT t d r) fun r1 => Wo (bindTs ts xs r1) P := by
  rw [bindTs]
  cases bindT t d r <;> rfl
@[simp] theorem outs_0 : outs [] r = some [] := rfl
@[simp] theorem outs_T {m n : MO} {t : List S} : outs (.own true m :: t) (some (.own true n) :: r) = (outs t r).map (S.own true n :: ·) := rfl
@[simp] theorem outs_D {y : Option S} {t : List S} : outs (.d d :: t) (y :: r) = (outs t r).map (S.d d :: ·) := rfl
@[simp] theorem outs_B {m : MO} {y : Option S} {t : List S} : outs (.bor m :: t) (y :: r) = (outs t r).map (S.bor m :: ·) := rfl
def putO (o : Option (Option S)) (r : Env) (i : Nat) (m : MO) : Env := match o with
  | some (some (.own b _)) => r.set i (some (.own b m))
  | _ => r
@[simp] theorem putO_o {b : Bool} {m n : MO} {i : Nat} : putO (some (some (.own b n))) r i m = r.set i (some (.own b m)) := rfl
@[simp] theorem putBack_0 {os : List Ov} {ss : List S} : putBack [] os ss r = r := by simp [putBack]
@[simp] theorem putBack_T {ms : List Bool} {i : Nat} {os : List Ov} {m : MO} {ss : List S} : putBack (true :: ms) (.sl i :: os) (.own true m :: ss) r = putBack ms os ss (putO r[i]? r i m) := rfl
@[simp] theorem putBack_F {ms : List Bool} {o : Ov} {os : List Ov} {x : S} {ss : List S} : putBack (false :: ms) (o :: os) (x :: ss) r = putBack ms os ss r := rfl
@[simp] theorem io_0 {os : List Ov} : ioOnce [] os = true := by unfold ioOnce; rfl
@[simp] theorem io_FD {ms : List Bool} {os : List Ov} : ioOnce (false :: ms) (.d d :: os) = ioOnce ms os := by rw [ioOnce] <;> simp
@[simp] theorem io_TS {ms : List Bool} {os : List Ov} {i : Nat} : ioOnce (true :: ms) (.sl i :: os) = ((os.all fun o => match o with
      | .sl j => i != j
      | _ => true) && ioOnce ms os) := rfl
@[simp] theorem io_FS {ms : List Bool} {os : List Ov} {i : Nat} : ioOnce (false :: ms) (.sl i :: os) = (((ms.zip os).all fun p => match p with
      | (true, .sl j) => i != j
      | _ => true) && ioOnce ms os) := rfl
@[simp] theorem tru_n : truD .none = some false := rfl
@[simp] theorem tru_b {b : Bool} : truD (.bool b) = some b := rfl
@[simp] theorem tru_i {i : Int} : truD (.int i) = some (i != 0) := rfl
@[simp] theorem tru_l : truD (.list xs) = some (!xs.isEmpty) := rfl
@[simp] theorem tru_t : truD (.tuple xs) = some (!xs.isEmpty) := rfl
@[simp] theorem it_l : itemsD (.list xs) = some xs := rfl
@[simp] theorem it_t : itemsD (.tuple xs) = some xs := rfl
@[simp] theorem it_s {z : Str} : itemsD (.str z) = some (signs z) := rfl
@[simp] theorem o_rng1 {n : Int} {P : List D → Prop} : Wo (rng1 [.d (.int n)]) P ↔ (-(2 ^ 62) ≤ n ∧ n < 2 ^ 62) ∧ P (rngD n.toNat 0) := by
  show Wo (if -(2 ^ 62) ≤ n ∧ n < 2 ^ 62 then some (rngD n.toNat 0) else none) P ↔ _
  by_cases h : -(2 ^ 62) ≤ n ∧ n < 2 ^ 62 <;> simp [h]
@[simp] theorem o_rng2 {a b : Int} {P : List D → Prop} : Wo (rng2 [.d (.int a), .d (.int b)]) P ↔ (-(2 ^ 62) ≤ a ∧ a < 2 ^ 62 ∧ -(2 ^ 62) ≤ b ∧ b < 2 ^ 62) ∧ P (rngD (b - a).toNat a) := by
  show Wo (if -(2 ^ 62) ≤ a ∧ a < 2 ^ 62 ∧ -(2 ^ 62) ≤ b ∧ b < 2 ^ 62 then some (rngD (b - a).toNat a) else none) P ↔ _
  by_cases h : -(2 ^ 62) ≤ a ∧ a < 2 ^ 62 ∧ -(2 ^ 62) ≤ b ∧ b < 2 ^ 62 <;> simp [h]
@[simp] theorem ixN_0 {n : Nat} : ixN (n + 1) 0 = some 0 := by simp [ixN]
@[simp] theorem ixN_1 {n : Nat} : ixN (n + 1 + 1) 1 = some 1 := by
  have : (1 : Int) < ((n + 1 + 1 : Nat) : Int) := by omega
  simp only [ixN, this, if_true]
  rfl
@[simp] theorem ixN_2 {n : Nat} : ixN (n + 1 + 1 + 1) 2 = some 2 := by
  have : (2 : Int) < ((n + 1 + 1 + 1 : Nat) : Int) := by omega
  simp only [ixN, this, if_true]
  rfl
@[simp] theorem non_n : isNon .none = true := rfl
@[simp] theorem non_b {b : Bool} : isNon (.bool b) = false := rfl
@[simp] theorem non_i {b : Int} : isNon (.int b) = false := rfl
@[simp] theorem non_s {b : Str} : isNon (.str b) = false := rfl
@[simp] theorem non_l : isNon (.list xs) = false := rfl
@[simp] theorem non_t : isNon (.tuple xs) = false := rfl
end
section
variable {P : S → Env → Prop} {E : Exc → Env → Prop} {r : Env}
/-- a slice -/
@[simp] theorem wp_sl {o : Od} {lo hi : Option (EF D)} : Wp (dSl o lo hi) r P E ↔ Wp (ev1 o) r (fun ov r1 => Wp (evI lo) r1 (fun l r2 => Wp (evI hi) r2 (fun h r3 => Wo (ov.get r3) fun p => Wo (slD p l h) fun x => P x r3) E) E) E := by
  refine wp_ebC fun ov r1 => wp_ebC fun l r2 => wp_ebC fun h r3 => ?_
  unfold Wp
  dsimp only
  cases ov.get r3 with
  | none => rfl
  | some p => dsimp only; rw [wo_some]; cases slD p l h <;> rfl
@[simp] theorem wp_evN {P : Option Int → Env → Prop} : Wp (evI none) r P E ↔ P none r := Iff.rfl
@[simp] theorem wp_evS {f : EF D} {P : Option Int → Env → Prop} : Wp (evI (some f)) r P E ↔ Wp f r (fun d r1 => ∃ i, d = .int i ∧ P (some i) r1) E := by
  refine wp_ebC fun d r1 => ?_
  cases d with
  | int i => exact ⟨fun h => ⟨i, rfl, h⟩, fun ⟨j, e, h⟩ => by cases e; exact h⟩
  | _ => simp [Wp]
@[simp] theorem sl_l {xs : List D} {lo hi : Option Int} : slD (.d (.list xs)) lo hi = some (.own false (.lst (cutD xs lo hi))) := rfl
@[simp] theorem sl_b {xs : List D} {lo hi : Option Int} : slD (.bor (.lst xs)) lo hi = some (.own false (.lst (cutD xs lo hi))) := rfl
@[simp] theorem sl_t {xs : List D} {lo hi : Option Int} : slD (.d (.tuple xs)) lo hi = some (.d (.tuple (cutD xs lo hi))) := rfl
def Wstr (o : Option S) (P : Str → Prop) (_u : Blk P := .mk) : Prop := match o with
  | some (.d (.str a)) => P a
  | _ => False
@[simp] theorem wstr_s {a : Str} {P : Str → Prop} : Wstr (some (.d (.str a))) P ↔ P a := Iff.rfl
@[simp] theorem wp_str {o : Od} {ods : List Od} {op : Str → List S → Option S} : Wp (dStr o ods op) r P E ↔ Wp (ev1 o) r (fun ov r1 => Wstr (ov.get r1) fun a => Wp (dApp ods (op a)) r1 P E) E := by
  refine wp_ebC fun ov r1 => ?_
  unfold Wstr
  split
  · rename_i a h
    simp only [Wp, h]
  · rename_i h
    unfold Wp
    split
    · rename_i e; dsimp only at e; split at e <;> simp_all
    · rename_i e; dsimp only at e; split at e <;> simp_all
    · rfl
@[simp] theorem sl_s {z : Str} {lo hi : Option Int} {P : S → Prop} : Wo (slD (.d (.str z)) lo hi) P ↔ z.length ≤ 16777216 ∧ P (.d (.str (cutS z lo hi))) := by
  have : slD (.d (.str z)) lo hi = if z.length ≤ 16777216 then some (.d (.str (cutS z lo hi))) else none := rfl
  rw [this]
  by_cases h : z.length ≤ 16777216 <;> simp [h]
/-- a method -/
def Wmt (o : Option (Option S)) (r : Env) (i : Nat) (op : MO → Option (D × MO)) (P : S → Env → Prop) (_u : Blk P := .mk) : Prop := match o with
  | some (some (.own b m)) => Wo (op m) fun z => P (.d z.1) (r.set i (some (.own b z.2)))
  | _ => False
@[simp] theorem wmt_o {b : Bool} {m : MO} {i : Nat} {op : MO → Option (D × MO)} : Wmt (some (some (.own b m))) r i op P ↔ Wo (op m) fun z => P (.d z.1) (r.set i (some (.own b z.2))) := Iff.rfl
@[simp] theorem isLst_o {b : Bool} {xs : List D} : isLst (some (some (.own b (.lst xs)))) = true := rfl
@[simp] theorem wp_mth {i : Nat} {ods : List Od} {op : MO → List S → Option (D × MO)} : Wp (dMth i ods op) r P E ↔ isLst r[i]? = true ∧ Wp (evO ods) r (fun os r1 => Wo (getAll r1 os) fun ss => Wmt r1[i]? r1 i (fun m => op m ss) P) E := by
  have k : Wp (eb (evO ods) (fun os r => match getAll r os with
    | some ss => (match r[i]? with
      | some (some (.own b m)) => (match op m ss with
        | some (d, m') => some (R.ok (S.d d), r.set i (some (.own b m')))
        | none => none)
      | _ => none)
    | none => none)) r P E ↔ Wp (evO ods) r (fun os r1 => Wo (getAll r1 os) fun ss => Wmt r1[i]? r1 i (fun m => op m ss) P) E := by
    refine wp_ebC fun os r1 => ?_
    unfold Wp
    dsimp only
    cases getAll r1 os with
    | none => rfl
    | some ss =>
      dsimp only
      rw [wo_some]
      cases r1[i]? with
      | none => rfl
      | some z =>
        cases z with
        | none => rfl
        | some z =>
          cases z with
          | d x => rfl
          | bor m => rfl
          | lck m => rfl
          | own b m =>
            dsimp only
            rw [wmt_o]
            cases op m ss with
            | none => rfl
            | some z => rfl
  rw [← k]
  by_cases h : isLst r[i]? = true
  · refine Iff.trans ?_ (and_iff_right h).symm
    unfold Wp dMth
    rw [if_pos h] <;> exact Iff.rfl
  · refine ⟨fun z => ?_, fun z => absurd z.1 h⟩
    unfold Wp dMth at z
    rw [if_neg h] at z
    exact z.elim
@[simp] theorem m_ins {xs : List D} {i : Int} {y : D} {P : D × MO → Prop} : Wo (mInsert (.lst xs) [.d (.int i), .d y]) P ↔ (xs.length < 16777216 ∧ 0 ≤ i ∧ i < 2 ^ 62) ∧ P (.none, .lst (xs.take i.toNat ++ y :: xs.drop i.toNat)) := by
  show Wo (if xs.length < 16777216 ∧ 0 ≤ i ∧ i < 2 ^ 62 then some (PyData.none, MO.lst (xs.take i.toNat ++ y :: xs.drop i.toNat)) else none) P ↔ _
  by_cases h : xs.length < 16777216 ∧ 0 ≤ i ∧ i < 2 ^ 62 <;> simp [h]
@[simp] theorem m_rem {xs : List D} {y : D} {P : D × MO → Prop} : Wo (mRemove (.lst xs) [.d y]) P ↔ y.depth ≤ 60 ∧ Wo (PySem.SeqAt.dataPlace xs y) fun j => P (.none, .lst (xs.eraseIdx j)) := by
  show Wo (if y.depth ≤ 60 then (PySem.SeqAt.dataPlace xs y).map fun j => (PyData.none, MO.lst (xs.eraseIdx j)) else none) P ↔ _
  by_cases h : y.depth ≤ 60 <;> simp [h]
@[simp] theorem m_app {xs : List D} {d : D} {P : D × MO → Prop} : Wo (mAppend (.lst xs) [.d d]) P ↔ xs.length < 16777216 ∧ P (.none, .lst (xs ++ [d])) := by
  show Wo (if xs.length < 16777216 then some (PyData.none, MO.lst (xs ++ [d])) else none) P ↔ _
  by_cases h : xs.length < 16777216 <;> simp [h]
/-- a chain -/
def Wb (o : Option S) (P : Bool → Prop) (_u : Blk P := .mk) : Prop := match o with
  | some (.d (.bool b)) => P b
  | _ => False
@[simp] theorem wb_b {b : Bool} {P : Bool → Prop} : Wb (some (.d (.bool b))) P ↔ P b := Iff.rfl
@[simp] theorem wp_chain {f g : List S → Option S} {oa ob oc : Od} : Wp (dChain f g oa ob oc) r P E ↔ Wp (ev1 oa) r (fun x r1 => Wp (ev1 ob) r1 (fun y r2 => Wo (getAll r2 [x, y]) fun ss => Wb (f ss) fun b => Wite b
    (Wp (ev1 oc) r2 (fun z r3 => Wo (getAll r3 [y, z]) fun ss => Wo (g ss) fun v => P v r3) E) (P (.d (.bool false)) r2)) E) E := by
  refine wp_ebC fun x r1 => wp_ebC fun y r2 => ?_
  have k : Wp (eb (ev1 oc) (fun z r => match getAll r [y, z] with
      | some ss => (match g ss with
        | some v => some (R.ok v, r)
        | none => none)
      | none => none)) r2 P E ↔ Wp (ev1 oc) r2 (fun z r3 => Wo (getAll r3 [y, z]) fun ss => Wo (g ss) fun v => P v r3) E := by
    refine wp_ebC fun z r3 => ?_
    unfold Wp
    dsimp only
    cases getAll r3 [y, z] with
    | none => rfl
    | some ss => dsimp only; rw [wo_some]; cases g ss <;> rfl
  rw [← k]
  unfold Wp
  dsimp only
  cases getAll r2 [x, y] with
  | none => rfl
  | some ss =>
    dsimp only
    rw [wo_some]
    cases f ss with
    | none => rfl
    | some z =>
      cases z with
      | d z =>
        cases z with
        | bool b => cases b <;> rfl
        | _ => rfl
      | _ => rfl
end
end DL
/-! DLy: comprehensions. -/
namespace DL
open PySem L2
def Wc (t : Tg) (c : EF Bool) (f : EF D) (vs : List Nat) (xs : List D) (r : Env) (P : List D → Env → Prop) (_u : Blk (c, f, P) := .mk) : Prop := match cmpL t c f vs xs r with
  | some (.ok ys, r') => P ys r'
  | _ => False
section
variable {t : Tg} {c : EF Bool} {f : EF D} {vs : List Nat} {xs : List D} {r : Env} {P : List D → Env → Prop}
@[simp] theorem wp_comp {fi : EF (List D)} {P : S → Env → Prop} {E : Exc → Env → Prop} : Wp (dComp fi t c f vs) r P E ↔ Wp fi r (fun xs r1 => xs.length ≤ 16777216 ∧ Wc t c f vs xs (wipeE r1 vs) fun ys r2 => P (.own false (.lst ys)) (restE r1 r2 vs)) E := by
  refine wp_ebC fun xs r1 => ?_
  unfold Wp Wc
  dsimp only
  by_cases h : xs.length ≤ 16777216
  · rw [if_pos h]
    refine Iff.trans ?_ (and_iff_right h).symm
    cases cmpL t c f vs xs (wipeE r1 vs) with
    | none => rfl
    | some z =>
      obtain ⟨o, r2⟩ := z
      cases o <;> rfl
  · rw [if_neg h]
    exact ⟨fun z => z.elim, fun z => absurd z.1 h⟩
@[simp] theorem wc_nil : Wc t c f vs [] r P ↔ P [] r := Iff.rfl
@[simp] theorem wc_cons {d : D} : Wc t c f vs (d :: xs) r P ↔ Wo (bindT t d r) fun r1 => Wp c r1 (fun k r2 => Wite k (Wp f r2 (fun y r3 => Wc t c f vs xs (wipeE r3 vs) fun ys r4 => P (y :: ys) r4) fun _ _ => False) (Wc t c f vs xs (wipeE r2 vs) P)) fun _ _ => False := by
  unfold Wc
  conv => lhs; unfold cmpL
  unfold Wo Wp
  cases bindT t d r with
  | none => rfl
  | some r1 =>
    dsimp only
    cases c r1 with
    | none => rfl
    | some z =>
      obtain ⟨o, r2⟩ := z
      cases o with
      | ex x => rfl
      | ok k =>
        cases k with
        | false => exact Iff.rfl
        | true =>
          dsimp only
          rw [wite_t]
          cases f r2 with
          | none => rfl
          | some z =>
            obtain ⟨o, r3⟩ := z
            cases o with
            | ex x => rfl
            | ok y =>
              dsimp only
              cases cmpL t c f vs xs (wipeE r3 vs) with
              | none => rfl
              | some z =>
                obtain ⟨o, r4⟩ := z
                cases o <;> rfl
theorem Wc.mono {P' : List D → Env → Prop} (h : Wc t c f vs xs r P) (hp : ∀ ys r, P ys r → P' ys r) : Wc t c f vs xs r P' := by
  unfold Wc at *
  split <;> simp_all
/-- a comprehension by its invariant: what is left to walk, what was made, the slots -/
theorem wc_inv (J : List D → List D → Env → Prop) (h0 : J xs [] r)
    (hs : ∀ d ys acc r, J (d :: ys) acc r → Wo (bindT t d r) fun r1 => Wp c r1 (fun k r2 => Wite k (Wp f r2 (fun y r3 => J ys (acc ++ [y]) (wipeE r3 vs)) fun _ _ => False) (J ys acc (wipeE r2 vs))) fun _ _ => False)
    (he : ∀ acc r, J [] acc r → P acc r) : Wc t c f vs xs r P := by
  have key : ∀ (xs acc : List D) (r : Env), J xs acc r → Wc t c f vs xs r fun ys r' => J [] (acc ++ ys) r' := by
    intro xs
    induction xs with
    | nil => intro acc r h; rw [wc_nil, List.append_nil]; exact h
    | cons d ys ih =>
      intro acc r h
      rw [wc_cons]
      have := hs d ys acc r h
      rw [wo_iff] at this ⊢
      obtain ⟨r1, e, this⟩ := this
      refine ⟨r1, e, this.mono (fun k r2 q => ?_) fun _ _ q => q⟩
      cases k with
      | true =>
        refine Wp.mono (show Wp _ _ _ _ from q) (fun y r3 q => ?_) fun _ _ q => q
        exact (ih _ _ q).mono fun zs r4 q => by rw [List.append_assoc] at q; exact q
      | false => exact ih _ _ q
  exact (key xs [] r h0).mono fun ys r q => he ys r (by simpa using q)
/-- each item told alone, the slots as they were -/
theorem wc_map (g : D → D) (h : ∀ d ∈ xs, Wo (bindT t d r) fun r1 => Wp c r1 (fun k r2 => k = true ∧ Wp f r2 (fun y r3 => y = g d ∧ wipeE r3 vs = r) fun _ _ => False) fun _ _ => False) (hp : P (xs.map g) r) : Wc t c f vs xs r P := by
  refine wc_inv (fun ys acc r' => r' = r ∧ (∀ d ∈ ys, d ∈ xs) ∧ acc ++ ys.map g = xs.map g) ⟨rfl, fun _ h => h, rfl⟩ ?_ ?_
  · rintro d ys acc r' ⟨rfl, hm, e⟩
    have := h d (hm d List.mem_cons_self)
    rw [wo_iff] at this ⊢
    obtain ⟨r1, e1, this⟩ := this
    refine ⟨r1, e1, this.mono (fun k r2 ⟨hk, q⟩ => ?_) fun _ _ q => q⟩
    rw [hk]
    refine Wp.mono (P' := fun y r3 => _) q (fun y r3 ⟨e2, e3⟩ => ?_) fun _ _ q => q
    exact ⟨e3, fun d hd => hm d (List.mem_cons_of_mem _ hd), by rw [e2, ← e]; simp⟩
  · rintro acc r' ⟨rfl, _, e⟩
    rw [List.map_nil, List.append_nil] at e
    rw [e]
    exact hp
@[simp] theorem wipe_0 : wipeE r [] = r := rfl
@[simp] theorem wipe_S {v : Nat} : wipeE r (v :: vs) = (wipeE r vs).set v none := rfl
@[simp] theorem rest_0 {r0 : Env} : restE r0 r [] = r := rfl
@[simp] theorem rest_S {r0 : Env} {v : Nat} : restE r0 r (v :: vs) = (restE r0 r vs).set v (keepD r0[v]?) := rfl
@[simp] theorem keep_d {x : D} : keepD (some (some (.d x))) = some (.d x) := rfl
@[simp] theorem keep_n : keepD (some none) = none := rfl
@[simp] theorem keep_b {x : MO} : keepD (some (some (.bor x))) = none := rfl
@[simp] theorem keep_o {b : Bool} {x : MO} : keepD (some (some (.own b x))) = none := rfl
@[simp] theorem bools_0 : boolsD [] = some [] := rfl
@[simp] theorem bools_S {b : Bool} : boolsD (.bool b :: xs) = (boolsD xs).map (b :: ·) := rfl
theorem bools_map {α : Type} (p : α → Bool) : ∀ l : List α, boolsD (l.map fun x => PyData.bool (p x)) = some (l.map p)
  | [] => rfl
  | x :: l => by simp [bools_map p l]
@[simp] theorem ints_0 : intsD [] = some [] := rfl
@[simp] theorem ints_S {i : Int} : intsD (.int i :: xs) = (intsD xs).map (i :: ·) := rfl
theorem ints_map {α : Type} (p : α → Int) : ∀ l : List α, intsD (l.map fun x => PyData.int (p x)) = some (l.map p)
  | [] => rfl
  | x :: l => by simp [ints_map p l]
@[simp] theorem strs_0 : strsD [] = some [] := rfl
@[simp] theorem strs_S {i : Str} : strsD (.str i :: xs) = (strsD xs).map (i :: ·) := rfl
theorem strs_map {α : Type} (p : α → Str) : ∀ l : List α, strsD (l.map fun x => PyData.str (p x)) = some (l.map p)
  | [] => rfl
  | x :: l => by simp [strs_map p l]
@[simp] theorem isTy_i1 {i : Int} : isTy .int (.int i) = true := rfl
@[simp] theorem isTy_i2 {i : Int} : isTy .bool (.int i) = false := rfl
@[simp] theorem isTy_i3 {i : Int} : isTy .str (.int i) = false := rfl
@[simp] theorem isTy_i4 {i : Int} : isTy .tuple (.int i) = false := rfl
@[simp] theorem isTy_i5 {i : Int} : isTy .list (.int i) = false := rfl
@[simp] theorem isTy_b1 {i : Bool} : isTy .int (.bool i) = true := rfl
@[simp] theorem isTy_b2 {i : Bool} : isTy .bool (.bool i) = true := rfl
@[simp] theorem isTy_b3 {i : Bool} : isTy .str (.bool i) = false := rfl
@[simp] theorem isTy_b4 {i : Bool} : isTy .tuple (.bool i) = false := rfl
@[simp] theorem isTy_b5 {i : Bool} : isTy .list (.bool i) = false := rfl
@[simp] theorem isTy_s1 {i : Str} : isTy .int (.str i) = false := rfl
@[simp] theorem isTy_s2 {i : Str} : isTy .bool (.str i) = false := rfl
@[simp] theorem isTy_s3 {i : Str} : isTy .str (.str i) = true := rfl
@[simp] theorem isTy_s4 {i : Str} : isTy .tuple (.str i) = false := rfl
@[simp] theorem isTy_s5 {i : Str} : isTy .list (.str i) = false := rfl
@[simp] theorem isTy_t1 : isTy .int (.tuple xs) = false := rfl
@[simp] theorem isTy_t2 : isTy .bool (.tuple xs) = false := rfl
@[simp] theorem isTy_t3 : isTy .str (.tuple xs) = false := rfl
@[simp] theorem isTy_t4 : isTy .tuple (.tuple xs) = true := rfl
@[simp] theorem isTy_t5 : isTy .list (.tuple xs) = false := rfl
@[simp] theorem isTy_l1 : isTy .int (.list xs) = false := rfl
@[simp] theorem isTy_l2 : isTy .bool (.list xs) = false := rfl
@[simp] theorem isTy_l3 : isTy .str (.list xs) = false := rfl
@[simp] theorem isTy_l4 : isTy .tuple (.list xs) = false := rfl
@[simp] theorem isTy_l5 : isTy .list (.list xs) = true := rfl
@[simp] theorem isTy_n {t : Ty} : isTy t .none = false := by cases t <;> rfl
end
/-! ### what shows shortly -/
mutual
def shortD : D → Bool
  | .none | .bool _ => true
  | .int i => decide (-99999999999999999999999999999999 ≤ i) && decide (i ≤ 99999999999999999999999999999999)
  | .str x => x.cps.toList.all fun c => decide (c < 16 ^ 8)
  | .list xs | .tuple xs => shortAll xs
  | .dict _ => false
def shortAll : List D → Bool
  | [] => true
  | x :: xs => shortD x && shortAll xs
end
mutual
theorem short_show : ∀ d : D, shortD d = true → d.showable = true ∧ d.leavesShort 33 = true
  | .none, _ => by simp [PyData.showable, PyData.leavesShort]
  | .bool _, _ => by simp [PyData.showable, PyData.leavesShort]
  | .int i, h => by
    simp only [shortD, Bool.and_eq_true, decide_eq_true_eq] at h
    refine ⟨?_, ?_⟩
    · simp only [PyData.showable, decide_eq_true_eq]
      by_cases hi : i.natAbs = 0
      · rw [hi]; decide
      · rw [Nat.log2_lt hi]
        have : (2 : Nat) ^ 110 ≤ 2 ^ 1920 := Nat.pow_le_pow_right (by decide) (by decide)
        have h40 : (2 : Nat) ^ 110 = 1298074214633706907132624082305024 := by decide
        omega
    · simp only [PyData.leavesShort, decide_eq_true_eq]
      show (Str.ofString (toString i)).length ≤ 33
      rw [ofString_length]
      exact int_text_length_le10 (k := 32) (by decide) (by
        have e : (10 : Nat) ^ 32 = 100000000000000000000000000000000 := by decide
        rw [e]
        omega)
  | .str x, h => by simpa [PyData.showable, PyData.leavesShort, shortD] using h
  | .list xs, h => by
    have := short_shows xs (by simpa [shortD] using h)
    simpa [PyData.showable, PyData.leavesShort] using this
  | .tuple xs, h => by
    have := short_shows xs (by simpa [shortD] using h)
    simpa [PyData.showable, PyData.leavesShort] using this
  | .dict _, h => by simp [shortD] at h
theorem short_shows : ∀ xs : List D, shortAll xs = true → PyData.showableAll xs = true ∧ PyData.leavesShortAll 33 xs = true
  | [], _ => by simp [PyData.showableAll, PyData.leavesShortAll]
  | x :: xs, h => by
    simp only [shortAll, Bool.and_eq_true] at h
    have h1 := short_show x h.1
    have h2 := short_shows xs h.2
    simp [PyData.showableAll, PyData.leavesShortAll, h1, h2]
end
theorem short_repr {d : D} (h : shortD d = true) (hb : d.bulk ≤ 2 ^ 18) (hd : d.depth ≤ 60) : d.showable = true ∧ d.depth ≤ 60 ∧ d.shown.length ≤ 16777216 := by
  have := PyData.shown_le_bulk 33 (by decide) d (short_show d h).2
  have e : (2 : Nat) ^ 18 = 262144 := by decide
  exact ⟨(short_show d h).1, hd, by omega⟩
theorem rng_mem {n : Nat} {lo : Int} {d : D} (h : d ∈ rngD n lo) : ∃ k : Int, d = .int k ∧ lo ≤ k ∧ k < lo + n := by
  unfold rngD at h
  obtain ⟨i, hi, rfl⟩ := List.mem_map.mp h
  have := List.mem_range.mp hi
  exact ⟨_, rfl, by omega, by omega⟩
@[simp] theorem rng_len {n : Nat} {lo : Int} : (rngD n lo).length = n := by simp [rngD]
theorem sign_mem {z : Str} {d : D} (h : d ∈ signs z) : ∃ c, d = .str ⟨#[c]⟩ ∧ c ∈ z.cps.toList := by
  unfold signs at h
  obtain ⟨c, hc, rfl⟩ := List.mem_map.mp h
  exact ⟨c, rfl, hc⟩
@[simp] theorem signs_len {z : Str} : (signs z).length = z.length := by simp [signs, Str.length]
/-! ### walks by place -/
section
variable {r : Env} {N : Env → Prop} {Q : O → Env → Prop} {t : Tg} {g : SM} {xs : List D}
theorem ws_idx (J : Nat → Env → Prop) (h0 : J 0 r)
    (hs : ∀ k d r, xs[k]? = some d → J k r → Wo (bindT t d r) fun r1 => Ws g r1 (J (k + 1)) (turnQ N (J (k + 1)) Q)) (he : ∀ r, J xs.length r → N r) : Ws (sForL t g xs) r N Q := by
  refine ws_forI (fun ys r => ∃ k, k ≤ xs.length ∧ ys = xs.drop k ∧ J k r) ⟨0, Nat.zero_le _, rfl, h0⟩ ?_ ?_
  · rintro d ys r ⟨k, hk, e, hj⟩
    have hd : xs[k]? = some d := by
      have := congrArg (·[0]?) e
      simpa using this.symm
    have hlt : k < xs.length := (List.getElem?_eq_some_iff.mp hd).1
    have ht : ys = xs.drop (k + 1) := by
      have := congrArg List.tail e
      simpa using this
    have := hs k d r hd hj
    rw [wo_iff] at this ⊢
    obtain ⟨r1, e1, h⟩ := this
    refine ⟨r1, e1, h.mono (fun r2 q => ⟨k + 1, hlt, ht, q⟩) fun o r2 q => ?_⟩
    cases o with
    | nx => exact ⟨k + 1, hlt, ht, q⟩
    | ct => exact ⟨k + 1, hlt, ht, q⟩
    | bk => exact q
    | rt x => exact q
    | ex x => exact q
  · rintro r ⟨k, hk, e, hj⟩
    have : xs.length ≤ k := by
      have := congrArg List.length e
      rw [List.length_drop, List.length_nil] at this
      omega
    have hkx : k = xs.length := by omega
    rw [hkx] at hj
    exact he r hj
theorem rng_at {n : Nat} {lo : Int} {k : Nat} {d : D} (h : (rngD n lo)[k]? = some d) : k < n ∧ d = .int (lo + k) := by
  unfold rngD at h
  rw [List.getElem?_map] at h
  obtain ⟨i, h1, h2⟩ := Option.map_eq_some_iff.mp h
  have hk : k < n := by simpa using (List.getElem?_eq_some_iff.mp h1).1
  rw [List.getElem?_range hk] at h1
  cases h1
  exact ⟨hk, h2.symm⟩
theorem ws_rng {n : Nat} {lo : Int} (J : Nat → Env → Prop) (h0 : J 0 r)
    (hs : ∀ k r, k < n → J k r → Wo (bindT t (.int (lo + k)) r) fun r1 => Ws g r1 (J (k + 1)) (turnQ N (J (k + 1)) Q)) (he : ∀ r, J n r → N r) : Ws (sForL t g (rngD n lo)) r N Q := by
  refine ws_idx J h0 (fun k d r hd hj => ?_) fun r hj => he r (by simpa using hj)
  obtain ⟨hk, rfl⟩ := rng_at hd
  exact hs k r hk hj
theorem wc_idx {c : EF Bool} {f : EF D} {vs : List Nat} {P : List D → Env → Prop} (J : Nat → List D → Env → Prop) (h0 : J 0 [] r)
    (hs : ∀ k d acc r, xs[k]? = some d → J k acc r → Wo (bindT t d r) fun r1 => Wp c r1 (fun b r2 => Wite b (Wp f r2 (fun y r3 => J (k + 1) (acc ++ [y]) (wipeE r3 vs)) fun _ _ => False) (J (k + 1) acc (wipeE r2 vs))) fun _ _ => False)
    (he : ∀ acc r, J xs.length acc r → P acc r) : Wc t c f vs xs r P := by
  refine wc_inv (fun ys acc r => ∃ k, k ≤ xs.length ∧ ys = xs.drop k ∧ J k acc r) ⟨0, Nat.zero_le _, rfl, h0⟩ ?_ ?_
  · rintro d ys acc r ⟨k, hk, e, hj⟩
    have hd : xs[k]? = some d := by
      have := congrArg (·[0]?) e
      simpa using this.symm
    have hlt : k < xs.length := (List.getElem?_eq_some_iff.mp hd).1
    have ht : ys = xs.drop (k + 1) := by
      have := congrArg List.tail e
      simpa using this
    have := hs k d acc r hd hj
    rw [wo_iff] at this ⊢
    obtain ⟨r1, e1, h⟩ := this
    refine ⟨r1, e1, h.mono (fun b r2 q => ?_) fun _ _ q => q⟩
    cases b with
    | true => exact Wp.mono (show Wp _ _ _ _ from q) (fun y r3 q => ⟨k + 1, hlt, ht, q⟩) fun _ _ q => q
    | false => exact ⟨k + 1, hlt, ht, q⟩
  · rintro acc r ⟨k, hk, e, hj⟩
    have : xs.length ≤ k := by
      have := congrArg List.length e
      rw [List.length_drop, List.length_nil] at this
      omega
    have hkx : k = xs.length := by omega
    rw [hkx] at hj
    exact he acc r hj
end
/-! ### texts in order -/
def strL (l : List Str) : List D := l.map PyData.str
def leS (a b : Str) : Bool := decide (a.cps.toList ≤ b.cps.toList)
def Inc (l : List Str) : Prop := l.Pairwise fun a b => a.cps.toList < b.cps.toList
@[simp] theorem strL_len {l : List Str} : (strL l).length = l.length := by simp [strL]
theorem at_str {l : List Str} {i : Int} (h : 0 ≤ i) (h2 : i < l.length) : atI (strL l) i = some (.str (l.getD i.toNat "")) := by
  obtain ⟨x, e, _, e2⟩ := at_of (xs := strL l) h (by simpa using h2)
  rw [e]
  unfold strL at e2
  rw [List.getElem?_map] at e2
  have hl : i.toNat < l.length := by omega
  rw [List.getElem?_eq_getElem hl] at e2
  have e2 : some (PyData.str l[i.toNat]) = some x := e2
  rw [List.getD_eq_getElem?_getD, List.getElem?_eq_getElem hl]
  exact e2.symm
theorem srt_strs (l : List Str) : srt (strL l) = strL (l.mergeSort leS) := by
  unfold srt strL
  rw [List.map_mergeSort (r := leS) (s := PySem.W.dataLe false id) (f := PyData.str) (l := l)]
  intro a _ b _
  have := congrFun (congrFun (PySem.W.dataLe_str (β := Str) fun x => x) a) b
  exact this.symm
theorem alike_strs (l : List Str) : alikeB (strL l) = true := by
  simp [alikeB, strL, PySem.W.alike]
theorem srtB_strs (l : List Str) : srtB (strL l) = true := by
  simp [srtB, strL, isOth]
theorem depth_strs : ∀ l : List Str, PyData.depthAll (strL l) = 0
  | [] => by simp [strL, PyData.depthAll]
  | a :: l => by
    have := depth_strs l
    unfold strL at this ⊢
    simp [PyData.depthAll, PyData.depth, this]
theorem str_eq {a b : Str} (h : a.cps.toList = b.cps.toList) : a = b := PySem.W.str_of_cps h
theorem lt_of_le_ne {a b : Str} (h : a.cps.toList ≤ b.cps.toList) (n : a ≠ b) : a.cps.toList < b.cps.toList := by
  by_cases q : a.cps.toList < b.cps.toList
  · exact q
  · exact absurd (str_eq (List.le_antisymm h (List.not_lt.mp q))) n
theorem inc_sort {l : List Str} (nd : l.Nodup) : Inc (l.mergeSort leS) := by
  have hp : (l.mergeSort leS).Pairwise (fun a b => leS a b = true) := List.pairwise_mergeSort (fun a b c h1 h2 => by
      simp only [leS, decide_eq_true_eq] at *
      exact List.le_trans h1 h2) (fun a b => by
      simp only [leS, Bool.or_eq_true, decide_eq_true_eq]
      exact List.le_total _ _) l
  have hn : (l.mergeSort leS).Nodup := (List.mergeSort_perm l leS).nodup_iff.mpr nd
  unfold Inc
  refine (hp.and hn).imp ?_
  rintro a b ⟨h1, h2⟩
  simp only [leS, decide_eq_true_eq] at h1
  exact lt_of_le_ne h1 h2
theorem lt_append {l s : List Nat} (h : s ≠ []) : l < l ++ s := by
  induction l with
  | nil =>
    cases s with
    | nil => exact absurd rfl h
    | cons a t => exact List.nil_lt_cons a t
  | cons a l ih =>
    rw [List.cons_append, List.cons_lt_cons_iff]
    exact .inr ⟨rfl, ih⟩
end DL
/-! DLv: dicts, as simp goes. -/
namespace DL
open PySem L2
section
variable {P : S → Prop} {x y : D} {xs ys : List D} {kvs : List (Key × D)} {p q : S} {i : Int} {a : Str} {neg : Bool}
@[simp] theorem key_i : keyOf (.int i) = some (.inl i) := rfl
@[simp] theorem key_s : keyOf (.str a) = some (.inr a) := rfl
@[simp] theorem inDic_d : inDic neg [p, .d y] = none := by
  cases p <;> simp [inDic, dicS]
@[simp] theorem inDic_l : inDic neg [p, .bor (.lst xs)] = none := by
  cases p <;> simp [inDic, dicS]
@[simp] theorem o_inXd : opInX [p, .d y] = opIn [p, .d y] := by simp [opInX]
@[simp] theorem o_inXl : opInX [p, .bor (.lst xs)] = opIn [p, .bor (.lst xs)] := by simp [opInX]
@[simp] theorem o_notInXd : opNotInX [p, .d y] = opNotIn [p, .d y] := by simp [opNotInX]
@[simp] theorem o_notInXl : opNotInX [p, .bor (.lst xs)] = opNotIn [p, .bor (.lst xs)] := by simp [opNotInX]
theorem in_none {m : MO} (h : ∀ xs, m ≠ .lst xs) : opIn [.d x, .bor m] = none := by
  cases m with
  | lst xs => exact absurd rfl (h xs)
  | _ => cases x <;> rfl
theorem notIn_none {m : MO} (h : ∀ xs, m ≠ .lst xs) : opNotIn [.d x, .bor m] = none := by
  cases m with
  | lst xs => exact absurd rfl (h xs)
  | _ => cases x <;> rfl
@[simp] theorem o_inXD : Wo (opInX [.d x, .bor (.dic kvs)]) P ↔ Wo (keyOf x) fun k => P (.d (.bool (valD kvs k).isSome)) := by
  unfold opInX
  rw [in_none (by intro xs h; cases h)]
  show Wo ((keyOf x).bind fun k => (some kvs).map fun kvs => S.d (.bool (if false = true then !(valD kvs k).isSome else (valD kvs k).isSome))) P ↔ _
  rw [wo_bind]
  rfl
@[simp] theorem o_inXF : Wo (opInX [.d x, .bor (.frd kvs)]) P ↔ Wo (keyOf x) fun k => P (.d (.bool (valD kvs k).isSome)) := by
  unfold opInX
  rw [in_none (by intro xs h; cases h)]
  show Wo ((keyOf x).bind fun k => (some kvs).map fun kvs => S.d (.bool (if false = true then !(valD kvs k).isSome else (valD kvs k).isSome))) P ↔ _
  rw [wo_bind]
  rfl
@[simp] theorem o_notInXD : Wo (opNotInX [.d x, .bor (.dic kvs)]) P ↔ Wo (keyOf x) fun k => P (.d (.bool (!(valD kvs k).isSome))) := by
  unfold opNotInX
  rw [notIn_none (by intro xs h; cases h)]
  show Wo ((keyOf x).bind fun k => (some kvs).map fun kvs => S.d (.bool (if true = true then !(valD kvs k).isSome else (valD kvs k).isSome))) P ↔ _
  rw [wo_bind]
  rfl
@[simp] theorem o_notInXF : Wo (opNotInX [.d x, .bor (.frd kvs)]) P ↔ Wo (keyOf x) fun k => P (.d (.bool (!(valD kvs k).isSome))) := by
  unfold opNotInX
  rw [notIn_none (by intro xs h; cases h)]
  show Wo ((keyOf x).bind fun k => (some kvs).map fun kvs => S.d (.bool (if true = true then !(valD kvs k).isSome else (valD kvs k).isSome))) P ↔ _
  rw [wo_bind]
  rfl
@[simp] theorem o_ixXd : opIxX [.d y, q] = opIx [.d y, q] := by
  cases q with
  | d d => cases e : keyOf d <;> simp [opIxX, ixDic, dicS, e, opIx]
  | _ => simp [opIxX, ixDic, opIx]
@[simp] theorem o_ixXl : opIxX [.bor (.lst xs), q] = opIx [.bor (.lst xs), q] := by
  cases q with
  | d d => cases e : keyOf d <;> simp [opIxX, ixDic, dicS, e, opIx]
  | _ => simp [opIxX, ixDic, opIx]
@[simp] theorem o_ixXD : Wo (opIxX [.bor (.dic kvs), .d x]) P ↔ Wo (keyOf x) fun k => Wo (valD kvs k) fun d => P (.d d) := by
  have : opIxX [.bor (.dic kvs), .d x] = (keyOf x).bind fun k => (valD kvs k).map .d := by
    cases x <;> rfl
  rw [this, wo_bind]
  cases keyOf x with
  | none => rfl
  | some k => exact wo_map
@[simp] theorem o_ixXF : Wo (opIxX [.bor (.frd kvs), .d x]) P ↔ Wo (keyOf x) fun k => Wo (valD kvs k) fun d => P (.d d) := by
  have : opIxX [.bor (.frd kvs), .d x] = (keyOf x).bind fun k => (valD kvs k).map .d := by
    cases x <;> rfl
  rw [this, wo_bind]
  cases keyOf x with
  | none => rfl
  | some k => exact wo_map
@[simp] theorem o_lenDic : lenD [.bor (.dic kvs)] = some (.d (.int kvs.length)) := rfl
@[simp] theorem o_getD1 : Wo (getDic [.bor (.dic kvs), .d x]) P ↔ Wo (keyOf x) fun k => P (.d ((valD kvs k).getD .none)) := by
  show Wo ((keyOf x).bind fun k => some (S.d ((valD kvs k).getD .none))) P ↔ _
  rw [wo_bind]
  rfl
@[simp] theorem o_getD2 : Wo (getDic [.bor (.dic kvs), .d x, .d y]) P ↔ Wo (keyOf x) fun k => P (.d ((valD kvs k).getD y)) := by
  show Wo ((keyOf x).bind fun k => some (S.d ((valD kvs k).getD y))) P ↔ _
  rw [wo_bind]
  rfl
@[simp] theorem o_getF2 : Wo (getDic [.bor (.frd kvs), .d x, .d y]) P ↔ Wo (keyOf x) fun k => P (.d ((valD kvs k).getD y)) := by
  show Wo ((keyOf x).bind fun k => some (S.d ((valD kvs k).getD y))) P ↔ _
  rw [wo_bind]
  rfl
@[simp] theorem o_ixDic : Wo (ixDic [.bor (.dic kvs), .d x]) P ↔ Wo (keyOf x) fun k => Wo (valD kvs k) fun d => P (.d d) := by
  have : ixDic [.bor (.dic kvs), .d x] = (keyOf x).bind fun k => (valD kvs k).map .d := by
    cases x <;> rfl
  rw [this, wo_bind]
  cases keyOf x with
  | none => rfl
  | some k => exact wo_map
@[simp] theorem m_popD {Q : D × MO → Prop} : Wo (mPopD (.dic kvs) [.d x]) Q ↔ Wo (keyOf x) fun k => Wo (valD kvs k) fun d => Q (d, .dic (dropD kvs k)) := by
  show Wo ((keyOf x).bind fun k => (valD kvs k).map fun d => (d, MO.dic (dropD kvs k))) Q ↔ _
  rw [wo_bind]
  cases keyOf x with
  | none => rfl
  | some k => exact wo_map
@[simp] theorem o_dict {q : S} : Wo (dictD [q]) P ↔ Wo (lstS q) fun xs => Wo (pairsOf xs) fun l => Wo (keysOf l) fun kvs => P (.own false (.dic (mergeD [] kvs))) := by
  show Wo ((lstS q).bind fun xs => (pairsOf xs).bind fun l => (keysOf l).map fun kvs => S.own false (.dic (mergeD [] kvs))) P ↔ _
  rw [wo_bind]
  cases lstS q with
  | none => rfl
  | some xs =>
    rw [wo_some, wo_some, wo_bind]
    cases pairsOf xs with
    | none => rfl
    | some l => exact wo_map
@[simp] theorem isDic_o {b : Bool} : isDic (some (some (.own b (.dic kvs)))) = true := rfl
@[simp] theorem isDicR_o {b : Bool} : isDicR (some (some (.own b (.dic kvs)))) = true := rfl
@[simp] theorem isDicR_b : isDicR (some (some (.bor (.dic kvs)))) = true := rfl
@[simp] theorem isDicR_k : isDicR (some (some (.lck (.frd kvs)))) = true := rfl
@[simp] theorem isDicR_bf : isDicR (some (some (.bor (.frd kvs)))) = true := rfl
@[simp] theorem keyD'_i {j : Int} : keyD' (.inl j) = .int j := rfl
@[simp] theorem keyD'_s : keyD' (.inr a) = .str a := rfl
end
section
variable {P : S → Env → Prop} {E : Exc → Env → Prop} {r : Env} {N : Env → Prop} {Q : O → Env → Prop}
@[simp] theorem wp_new : Wp dNew r P E ↔ P (.own false (.dic [])) r := Iff.rfl
@[simp] theorem wp_getV {i : Nat} {ods : List Od} : Wp (dGetV i ods) r P E ↔ isDicR r[i]? = true ∧ Wp (dApp (.sl i :: ods) getDic) r P E := by
  by_cases h : isDicR r[i]? = true
  · refine Iff.trans ?_ (and_iff_right h).symm
    unfold Wp dGetV
    rw [if_pos h]
  · refine ⟨fun z => ?_, fun z => absurd z.1 h⟩
    unfold Wp dGetV at z
    rw [if_neg h] at z
    exact z.elim
def Wdic (x : S) (P : List (Key × D) → Prop) (_u : Blk P := .mk) : Prop := match x with
  | .own false (.dic kvs) => P kvs
  | _ => False
@[simp] theorem wdic_o {kvs : List (Key × D)} {P : List (Key × D) → Prop} : Wdic (.own false (.dic kvs)) P ↔ P kvs := Iff.rfl
@[simp] theorem wp_getT {f : EF S} {ods : List Od} {op : List S → Option S} : Wp (dTmp f ods op) r P E ↔ Wp f r (fun x r1 => Wdic x fun kvs => Wp (evO ods) r1 (fun os r2 => Wo (getAll r2 os) fun ss => Wo (op (.bor (.dic kvs) :: ss)) fun z => P z r2) E) E := by
  refine wp_ebC fun x r1 => ?_
  unfold Wdic
  split
  · rename_i kvs
    refine wp_ebC fun os r2 => ?_
    unfold Wp
    dsimp only
    cases getAll r2 os with
    | none => rfl
    | some ss =>
      dsimp only
      rw [wo_some]
      cases op (.bor (.dic kvs) :: ss) <;> rfl
  · rename_i h
    unfold Wp
    split <;> rename_i e <;> (try dsimp only at e) <;> (try split at e) <;> simp_all
/-- a key, looked for -/
def Wky (o : Option S) (P : D → Prop) (_u : Blk P := .mk) : Prop := match o with
  | some (.d x) => P x
  | _ => False
@[simp] theorem wky_d {x : D} {P : D → Prop} : Wky (some (.d x)) P ↔ P x := Iff.rfl
@[simp] theorem wp_inT {neg : Bool} {o : Od} {f : EF S} : Wp (dInT neg o f) r P E ↔ Wp (ev1 o) r (fun ov r1 => Wp f r1 (fun y r2 => Wdic y fun kvs => Wky (ov.get r2) fun x => Wo (keyOf x) fun k => P (.d (.bool (if neg = true then !(valD kvs k).isSome else (valD kvs k).isSome))) r2) E) E := by
  refine wp_ebC fun ov r1 => wp_ebC fun y r2 => ?_
  unfold Wdic inTK
  split
  · rename_i kvs
    unfold Wp Wky
    dsimp only
    cases ov.get r2 with
    | none => rfl
    | some x =>
      cases x with
      | d x =>
        dsimp only
        cases keyOf x <;> rfl
      | _ => rfl
  · rename_i h
    unfold Wp
    cases y with
    | own b m =>
      cases b with
      | true => rfl
      | false =>
        cases m with
        | dic kvs => exact absurd rfl (h kvs)
        | _ => rfl
    | _ => rfl
@[simp] theorem m_popAt {xs : List D} {i : Int} {Q : D × MO → Prop} : Wo (mPopAt (.lst xs) [.d (.int i)]) Q ↔ Wo (ixN xs.length i) fun k => Wo xs[k]? fun x => Q (x, .lst (xs.eraseIdx k)) := by
  show Wo ((ixN xs.length i).bind fun k => (xs[k]?).map fun x => (x, MO.lst (xs.eraseIdx k))) Q ↔ _
  rw [wo_bind]
  cases ixN xs.length i with
  | none => rfl
  | some k => exact wo_map
@[simp] theorem wp_evP0 {P : List (D × D) → Env → Prop} : Wp (evP []) r P E ↔ P [] r := Iff.rfl
@[simp] theorem wp_evPS {k v : EF D} {t : List (EF D × EF D)} {P : List (D × D) → Env → Prop} : Wp (evP ((k, v) :: t)) r P E ↔ Wp k r (fun x r1 => Wp v r1 (fun y r2 => Wp (evP t) r2 (fun ps r3 => P ((x, y) :: ps) r3) E) E) E := by
  show Wp (eb k fun x => eb v fun y => eb (evP t) fun ps => er ((x, y) :: ps)) r P E ↔ _
  exact wp_ebC fun x r1 => wp_ebC fun y r2 => wp_ebC fun ps r3 => Iff.rfl
@[simp] theorem wp_disp {ps : List (EF D × EF D)} : Wp (dDisp ps) r P E ↔ Wp (evP ps) r (fun l r1 => Wo (keysOf l) fun kvs => kvs.length ≤ 15 ∧ P (.own false (.dic (mergeD [] kvs))) r1) E := by
  refine wp_ebC fun l r1 => ?_
  unfold Wp
  dsimp only
  cases keysOf l with
  | none => rfl
  | some kvs => by_cases h : kvs.length ≤ 15 <;> simp [h]
@[simp] theorem keysOf_0 : keysOf [] = some [] := rfl
@[simp] theorem keysOf_S {x y : D} {t : List (D × D)} {P : List (Key × D) → Prop} : Wo (keysOf ((x, y) :: t)) P ↔ Wo (keyOf x) fun k => Wo (keysOf t) fun ps => P ((k, y) :: ps) := by
  show Wo ((keyOf x).bind fun k => (keysOf t).map fun ps => (k, y) :: ps) P ↔ _
  rw [wo_bind]
  cases keyOf x with
  | none => rfl
  | some k => exact wo_map
@[simp] theorem wp_mthD {i : Nat} {ods : List Od} {op : MO → List S → Option (D × MO)} : Wp (dMthD i ods op) r P E ↔ isDic r[i]? = true ∧ Wp (evO ods) r (fun os r1 => Wo (getAll r1 os) fun ss => Wmt r1[i]? r1 i (fun m => op m ss) P) E := by
  have k : Wp (eb (evO ods) (fun os r => match getAll r os with
    | some ss => (match r[i]? with
      | some (some (.own b m)) => (match op m ss with
        | some (d, m') => some (R.ok (S.d d), r.set i (some (.own b m')))
        | none => none)
      | _ => none)
    | none => none)) r P E ↔ Wp (evO ods) r (fun os r1 => Wo (getAll r1 os) fun ss => Wmt r1[i]? r1 i (fun m => op m ss) P) E := by
    refine wp_ebC fun os r1 => ?_
    unfold Wp
    dsimp only
    cases getAll r1 os with
    | none => rfl
    | some ss =>
      dsimp only
      rw [wo_some]
      cases r1[i]? with
      | none => rfl
      | some z =>
        cases z with
        | none => rfl
        | some z =>
          cases z with
          | d x => rfl
          | bor m => rfl
          | lck m => rfl
          | own b m =>
            dsimp only
            rw [wmt_o]
            cases op m ss with
            | none => rfl
            | some z => rfl
  rw [← k]
  by_cases h : isDic r[i]? = true
  · refine Iff.trans ?_ (and_iff_right h).symm
    unfold Wp dMthD
    rw [if_pos h] <;> exact Iff.rfl
  · refine ⟨fun z => ?_, fun z => absurd z.1 h⟩
    unfold Wp dMthD at z
    rw [if_neg h] at z
    exact z.elim
/-- xs[k] = v, d[k] = v -/
def WsetX (o : Option (Option S)) (r : Env) (i : Nat) (kk d : D) (N : Env → Prop) (_u : Blk N := .mk) : Prop := match o with
  | some (some (.own b (.lst xs))) => ∃ j, kk = .int j ∧ Wo (ixN xs.length j) fun n => N (r.set i (some (.own b (.lst (xs.set n d)))))
  | some (some (.own b (.dic kvs))) => Wo (keyOf kk) fun k => kvs.length < 16777216 ∧ N (r.set i (some (.own b (.dic (putD kvs k d)))))
  | _ => False
@[simp] theorem wsetX_l {b : Bool} {xs : List D} {i : Nat} {kk d : D} : WsetX (some (some (.own b (.lst xs)))) r i kk d N ↔ ∃ j, kk = .int j ∧ Wo (ixN xs.length j) fun n => N (r.set i (some (.own b (.lst (xs.set n d))))) := Iff.rfl
@[simp] theorem wsetX_d {b : Bool} {kvs : List (Key × D)} {i : Nat} {kk d : D} : WsetX (some (some (.own b (.dic kvs)))) r i kk d N ↔ Wo (keyOf kk) fun k => kvs.length < 16777216 ∧ N (r.set i (some (.own b (.dic (putD kvs k d))))) := Iff.rfl
@[simp] theorem ws_setX {i : Nat} {k f : EF D} : Ws (sSetX i k f) r N Q ↔ Wp f r (fun d r1 => isOn r1[i]? ∧ Wp k r1 (fun kk r2 => WsetX r2[i]? r2 i kk d N) fun x r1 => Q (.ex x) r1) fun x r1 => Q (.ex x) r1 := by
  refine ws_sxC fun d r1 => ?_
  rw [ws_sx, wp_e1s]
  refine and_congr_right fun _ => ws_sxC fun kk r2 => ?_
  unfold Ws WsetX
  dsimp only
  cases r2[i]? with
  | none => rfl
  | some z =>
    cases z with
    | none => rfl
    | some z =>
      cases z with
      | d x => rfl
      | bor m => rfl
      | lck m => rfl
      | own b m =>
        cases m with
        | lst xs =>
          dsimp only
          cases kk with
          | int j =>
            have e : (∃ j', PyData.int j = PyData.int j' ∧ Wo (ixN xs.length j') fun n => N (r2.set i (some (.own b (.lst (xs.set n d)))))) ↔ Wo (ixN xs.length j) fun n => N (r2.set i (some (.own b (.lst (xs.set n d))))) := ⟨fun ⟨_, e, q⟩ => by cases e; exact q, fun q => ⟨j, rfl, q⟩⟩
            refine Iff.trans ?_ e.symm
            dsimp only
            cases hx : ixN xs.length j <;> simp [hx]
          | _ => simp
        | dic kvs =>
          dsimp only
          cases keyOf kk with
          | none => rfl
          | some k => by_cases h : kvs.length < 16777216 <;> simp [h]
        | frd _ => rfl
        | dit _ => rfl
        | exc _ => rfl
/-- extend -/
def Wex (x : S) (P : List D → Prop) (_u : Blk P := .mk) : Prop := match x with
  | .own false (.lst zs) => P zs
  | _ => False
@[simp] theorem wex_o {zs : List D} {P : List D → Prop} : Wex (.own false (.lst zs)) P ↔ P zs := Iff.rfl
def Wel (o : Option (Option S)) (P : Bool → List D → Prop) (_u : Blk P := .mk) : Prop := match o with
  | some (some (.own b (.lst xs))) => P b xs
  | _ => False
@[simp] theorem wel_o {b : Bool} {xs : List D} {P : Bool → List D → Prop} : Wel (some (some (.own b (.lst xs)))) P ↔ P b xs := Iff.rfl
@[simp] theorem wp_ext {i : Nat} {f : EF S} : Wp (dExt i f) r P E ↔ isLst r[i]? = true ∧ Wp f r (fun x r1 => Wex x fun zs => Wel r1[i]? fun b xs => xs.length + zs.length ≤ 16777216 ∧ P (.d .none) (r1.set i (some (.own b (.lst (xs ++ zs)))))) E := by
  by_cases h : isLst r[i]? = true
  · refine Iff.trans ?_ (and_iff_right h).symm
    have k : Wp (dExt i f) r P E ↔ Wp (eb f (fun x => match x with
    | .own false (.lst zs) => fun r => (match r[i]? with
      | some (some (.own b (.lst xs))) => if xs.length + zs.length ≤ 16777216 then some (.ok (.d .none), r.set i (some (.own b (.lst (xs ++ zs))))) else none
      | _ => none)
    | _ => fun _ => none)) r P E := by
      unfold Wp dExt
      rw [if_pos h] <;> exact Iff.rfl
    rw [k]
    refine wp_ebC fun x r1 => ?_
    unfold Wex
    split
    · rename_i zs
      unfold Wp Wel
      dsimp only
      cases r1[i]? with
      | none => rfl
      | some z =>
        cases z with
        | none => rfl
        | some z =>
          cases z with
          | own b m =>
            cases m with
            | lst xs => by_cases hl : xs.length + zs.length ≤ 16777216 <;> simp [hl]
            | _ => rfl
          | _ => rfl
    · rename_i hx
      unfold Wp
      split <;> rename_i e <;> (try dsimp only at e) <;> (try split at e) <;> simp_all
  · refine ⟨fun z => ?_, fun z => absurd z.1 h⟩
    unfold Wp dExt at z
    rw [if_neg h] at z
    exact z.elim
@[simp] theorem m_clr {xs : List D} {P : D × MO → Prop} : Wo (mClear (.lst xs) []) P ↔ P (.none, .lst []) := Iff.rfl
/-- over a locked dict -/
def Wul (o : Option (Option S)) (P : List (Key × D) → Prop) (_u : Blk P := .mk) : Prop := match o with
  | some (some (.lck (.frd kvs))) => P kvs
  | _ => False
@[simp] theorem wul_k {kvs : List (Key × D)} {P : List (Key × D) → Prop} : Wul (some (some (.lck (.frd kvs)))) P ↔ P kvs := Iff.rfl
def Wlk (o : Option (Option S)) (P : Bool → List (Key × D) → Prop) (_u : Blk P := .mk) : Prop := match o with
  | some (some (.own b (.dic kvs))) => P b kvs
  | _ => False
@[simp] theorem wlk_o {b : Bool} {kvs : List (Key × D)} {P : Bool → List (Key × D) → Prop} : Wlk (some (some (.own b (.dic kvs)))) P ↔ P b kvs := Iff.rfl
@[simp] theorem wp_lk {i : Nat} {f : EF S} : Wp (lkE i f) r P E ↔ Wlk r[i]? fun b kvs => Wp f (r.set i (some (.lck (.frd kvs)))) (fun x r' => Wul r'[i]? fun kvs' => P x (r'.set i (some (.own b (.dic kvs'))))) fun _ _ => False := by
  unfold Wlk
  split
  · rename_i b kvs h
    unfold Wp lkE
    rw [h]
    dsimp only
    cases f (r.set i (some (.lck (.frd kvs)))) with
    | none => rfl
    | some z =>
      obtain ⟨o, r'⟩ := z
      cases o with
      | ex x => rfl
      | ok x =>
        dsimp only
        unfold Wul
        split <;> rename_i hq
        · split at hq <;> simp_all
        · split at hq <;> simp_all
        · split at hq <;> simp_all
  · rename_i h
    unfold Wp lkE
    split
    · rename_i e
      split at e
      · rename_i b kvs hq
        exact absurd hq (h b kvs)
      · cases e
    · rename_i e
      split at e
      · rename_i b kvs hq
        exact absurd hq (h b kvs)
      · cases e
    · rfl
@[simp] theorem ws_lk {i : Nat} {g : SM} : Ws (lkS i g) r N Q ↔ Wlk r[i]? fun b kvs => Ws g (r.set i (some (.lck (.frd kvs)))) (fun r' => Wul r'[i]? fun kvs' => N (r'.set i (some (.own b (.dic kvs'))))) fun o r' => (∀ x, o ≠ .ex x) ∧ Wul r'[i]? fun kvs' => Q o (r'.set i (some (.own b (.dic kvs')))) := by
  unfold Wlk
  split
  · rename_i b kvs h
    unfold Ws lkS
    rw [h]
    dsimp only
    cases hg : g (r.set i (some (.lck (.frd kvs)))) with
    | none => rfl
    | some z =>
      obtain ⟨o, r'⟩ := z
      cases o with
      | ex x => simp
      | nx =>
        dsimp only
        unfold Wul
        cases hq : r'[i]? with
        | none => simp
        | some z =>
          cases z with
          | none => simp
          | some z =>
            cases z with
            | lck m => cases m <;> simp
            | _ => simp
      | bk =>
        dsimp only
        unfold Wul
        cases hq : r'[i]? with
        | none => simp
        | some z =>
          cases z with
          | none => simp
          | some z =>
            cases z with
            | lck m => cases m <;> simp
            | _ => simp
      | ct =>
        dsimp only
        unfold Wul
        cases hq : r'[i]? with
        | none => simp
        | some z =>
          cases z with
          | none => simp
          | some z =>
            cases z with
            | lck m => cases m <;> simp
            | _ => simp
      | rt y =>
        dsimp only
        unfold Wul
        cases hq : r'[i]? with
        | none => simp
        | some z =>
          cases z with
          | none => simp
          | some z =>
            cases z with
            | lck m => cases m <;> simp
            | _ => simp
  · rename_i h
    unfold Ws lkS
    split
    · rename_i e
      split at e
      · rename_i b kvs hq
        exact absurd hq (h b kvs)
      · cases e
    · rename_i e
      split at e
      · rename_i b kvs hq
        exact absurd hq (h b kvs)
      · cases e
    · rfl
@[simp] theorem wp_iKey {i : Nat} {P : List D → Env → Prop} : Wp (iKey i) r P E ↔ Wul r[i]? fun kvs => P (kvs.map fun kv => keyD' kv.1) r := by
  unfold Wp iKey Wul
  cases r[i]? with
  | none => rfl
  | some z =>
    cases z with
    | none => rfl
    | some z =>
      cases z with
      | lck m => cases m <;> rfl
      | _ => rfl
end
/-! ### walks over told things -/
section
variable {α : Type} {enc : α → D} {r : Env} {t : Tg}
theorem ws_pre {l : List α} {g : SM} {N : Env → Prop} {Q : O → Env → Prop} (J : List α → Env → Prop) (h0 : J [] r)
    (hs : ∀ pre a suf r, l = pre ++ a :: suf → J pre r → Wo (bindT t (enc a) r) fun r1 => Ws g r1 (J (pre ++ [a])) (turnQ N (J (pre ++ [a])) Q)) (he : ∀ r, J l r → N r) : Ws (sForL t g (l.map enc)) r N Q := by
  refine ws_idx (fun k r => J (l.take k) r) (by simpa using h0) (fun k d r hd hj => ?_) fun r hj => he r (by simpa using hj)
  rw [List.getElem?_map] at hd
  obtain ⟨a, ha, rfl⟩ := Option.map_eq_some_iff.mp hd
  have hk := (List.getElem?_eq_some_iff.mp ha).1
  have e : l.take (k + 1) = l.take k ++ [a] := by rw [List.take_add_one, ha]; rfl
  have e2 : l = l.take k ++ a :: l.drop (k + 1) := by
    have h1 : l.drop k = a :: l.drop (k + 1) := by
      rw [List.drop_eq_getElem_cons hk]
      congr 1
      rw [List.getElem?_eq_getElem hk] at ha
      exact Option.some.inj ha
    rw [← h1, List.take_append_drop]
  have := hs (l.take k) a (l.drop (k + 1)) r e2 hj
  rw [e]
  exact this
/-- a comprehension that picks and tells, the slots as they were -/
theorem wc_sel {l : List α} {c : EF Bool} {f : EF D} {vs : List Nat} {P : List D → Env → Prop} (p : α → Bool) (g : α → D)
    (h : ∀ a ∈ l, Wo (bindT t (enc a) r) fun r1 => Wp c r1 (fun k r2 => k = p a ∧ wipeE r2 vs = r ∧ (p a = true → Wp f r2 (fun y r3 => y = g a ∧ wipeE r3 vs = r) fun _ _ => False)) fun _ _ => False) (hp : P ((l.filter p).map g) r) : Wc t c f vs (l.map enc) r P := by
  refine wc_idx (fun k acc r' => r' = r ∧ acc = ((l.take k).filter p).map g) ⟨rfl, by simp⟩ (fun k d acc r' hd hj => ?_) fun acc r' hj => ?_
  · obtain ⟨rfl, rfl⟩ := hj
    rw [List.getElem?_map] at hd
    obtain ⟨a, ha, rfl⟩ := Option.map_eq_some_iff.mp hd
    have e : l.take (k + 1) = l.take k ++ [a] := by rw [List.take_add_one, ha]; rfl
    have := h a (List.mem_of_getElem? ha)
    rw [wo_iff] at this ⊢
    obtain ⟨r1, e1, this⟩ := this
    refine ⟨r1, e1, this.mono (fun k2 r2 ⟨hk, h1, h2⟩ => ?_) fun _ _ q => q⟩
    subst hk
    cases hpa : p a with
    | true => exact (h2 hpa).mono (fun y r3 ⟨e2, e3⟩ => ⟨e3, by rw [e, e2, List.filter_append, List.map_append]; simp [hpa]⟩) fun _ _ q => q
    | false => exact ⟨h1, by rw [e, List.filter_append, List.map_append]; simp [hpa]⟩
  · obtain ⟨rfl, rfl⟩ := hj
    simpa using hp
theorem wc_tell {l : List α} {c : EF Bool} {f : EF D} {vs : List Nat} {P : List D → Env → Prop} (g : α → D)
    (h : ∀ a ∈ l, Wo (bindT t (enc a) r) fun r1 => Wp c r1 (fun k r2 => k = true ∧ Wp f r2 (fun y r3 => y = g a ∧ wipeE r3 vs = r) fun _ _ => False) fun _ _ => False) (hp : P (l.map g) r) : Wc t c f vs (l.map enc) r P := by
  refine wc_idx (fun k acc r' => r' = r ∧ acc = (l.take k).map g) ⟨rfl, by simp⟩ (fun k d acc r' hd hj => ?_) fun acc r' hj => ?_
  · obtain ⟨rfl, rfl⟩ := hj
    rw [List.getElem?_map] at hd
    obtain ⟨a, ha, rfl⟩ := Option.map_eq_some_iff.mp hd
    have e : l.take (k + 1) = l.take k ++ [a] := by rw [List.take_add_one, ha]; rfl
    have := h a (List.mem_of_getElem? ha)
    rw [wo_iff] at this ⊢
    obtain ⟨r1, e1, this⟩ := this
    refine ⟨r1, e1, this.mono (fun k2 r2 ⟨hk, h2⟩ => ?_) fun _ _ q => q⟩
    subst hk
    exact h2.mono (fun y r3 ⟨e2, e3⟩ => ⟨e3, by rw [e, e2, List.map_append]; rfl⟩) fun _ _ q => q
  · obtain ⟨rfl, rfl⟩ := hj
    simpa using hp
end
section
variable {P : S → Env → Prop} {E : Exc → Env → Prop} {r : Env} {N : Env → Prop} {Q : O → Env → Prop} {xs ys : List D}
@[simp] theorem ws_none : Ws sNone r N Q ↔ False := Iff.rfl
@[simp] theorem wp_rv {o : Od} {f : EF D} : Wp (dRv o f) r P E ↔ Wp (ev1 o) r (fun ov r1 => Wp (evI (some f)) r1 (fun l r2 => Wo (ov.get r2) fun p => Wo (rvD p l) fun x => P x r2) E) E := by
  refine wp_ebC fun ov r1 => wp_ebC fun l r2 => ?_
  unfold Wp
  dsimp only
  cases ov.get r2 with
  | none => rfl
  | some p => dsimp only; rw [wo_some]; cases rvD p l <;> rfl
@[simp] theorem rv_l : rvD (.d (.list xs)) (some (-1)) = some (.own false (.lst xs.reverse)) := rfl
@[simp] theorem rv_b : rvD (.bor (.lst xs)) (some (-1)) = some (.own false (.lst xs.reverse)) := rfl
@[simp] theorem rv_t : rvD (.d (.tuple xs)) (some (-1)) = some (.d (.tuple xs.reverse)) := rfl
@[simp] theorem en_l : enumI [.d (.list xs)] = some (xs.mapIdx fun i x => .tuple [.int (i : Int), x]) := rfl
@[simp] theorem en_t : enumI [.d (.tuple xs)] = some (xs.mapIdx fun i x => .tuple [.int (i : Int), x]) := rfl
@[simp] theorem zi_ll : zipI [.d (.list xs), .d (.list ys)] = some ((xs.zip ys).map fun p => .tuple [p.1, p.2]) := rfl
@[simp] theorem zi_lt : zipI [.d (.list xs), .d (.tuple ys)] = some ((xs.zip ys).map fun p => .tuple [p.1, p.2]) := rfl
@[simp] theorem zi_tl : zipI [.d (.tuple xs), .d (.list ys)] = some ((xs.zip ys).map fun p => .tuple [p.1, p.2]) := rfl
@[simp] theorem zi_tt : zipI [.d (.tuple xs), .d (.tuple ys)] = some ((xs.zip ys).map fun p => .tuple [p.1, p.2]) := rfl
@[simp] theorem rvI_l : revI [.d (.list xs)] = some xs.reverse := rfl
@[simp] theorem rvI_t : revI [.d (.tuple xs)] = some xs.reverse := rfl
end
end DL
/-! DLu3: truths as numbers, as texts. -/
namespace DL
open PySem PySem.Spec PyProof.Rows L2
def b01 (b : Bool) : Int := if b = true then 1 else 0
def bAdd : List S → Option S
  | [.d (.bool a), .d (.int j)] => some (.d (.int (b01 a + j)))
  | _ => none
def bSub : List S → Option S
  | [.d (.bool a), .d (.int j)] => some (.d (.int (b01 a - j)))
  | [.d (.int j), .d (.bool a)] => some (.d (.int (j - b01 a)))
  | _ => none
def strB : List S → Option S
  | [.d (.bool b)] => some (.d (.str (if b then "True" else "False")))
  | _ => none
section
variable {X : Cx}
theorem ok_bAdd : OpD X (binaryOp .Add) bAdd := by
  intro pins s σ H x y v u Q I rx ry h
  obtain ⟨I', ss, z, g, p, e, q⟩ := h
  unfold bAdd at e
  split at e
  · rename_i b j
    cases e
    obtain ⟨p1, p2, e2, a1, a2⟩ := aall2 p
    cases e2
    have a1 : Dp X.K I' x (.bool b) := a1
    have a2 : Dp X.K I' y (.int j) := a2
    cases a1
    cases a2
    cases rx
    obtain ⟨t, rfl⟩ := ry
    exact PySem.IntBool.add_bool_int ⟨.int (b01 b + j), H, I.tok _, ⟨_, rfl⟩, q (.int (b01 b + j)) I' H (Grow.refl g) (.int _)⟩
  · cases e
theorem ok_bSub : OpD X (binaryOp .Sub) bSub := by
  intro pins s σ H x y v u Q I rx ry h
  obtain ⟨I', ss, z, g, p, e, q⟩ := h
  unfold bSub at e
  split at e
  · rename_i b j
    cases e
    obtain ⟨p1, p2, e2, a1, a2⟩ := aall2 p
    cases e2
    have a1 : Dp X.K I' x (.bool b) := a1
    have a2 : Dp X.K I' y (.int j) := a2
    cases a1
    cases a2
    cases rx
    obtain ⟨t, rfl⟩ := ry
    exact PySem.IntBool.sub_bool_int ⟨.int (b01 b - j), H, I.tok _, ⟨_, rfl⟩, q (.int (b01 b - j)) I' H (Grow.refl g) (.int _)⟩
  · rename_i j b
    cases e
    obtain ⟨p1, p2, e2, a1, a2⟩ := aall2 p
    cases e2
    have a1 : Dp X.K I' x (.int j) := a1
    have a2 : Dp X.K I' y (.bool b) := a2
    cases a1
    cases a2
    obtain ⟨t, rfl⟩ := rx
    cases ry
    exact PySem.IntBool.sub_int_bool ⟨.int (j - b01 b), H, I.tok _, ⟨_, rfl⟩, q (.int (j - b01 b)) I' H (Grow.refl g) (.int _)⟩
  · cases e
theorem ok_strB : CallD X (.type "str") strB := by
  intro pins s σ H xs us Q I r h
  obtain ⟨I', ss, z, g, p, e, q⟩ := h
  unfold strB at e
  split at e
  · rename_i b
    cases e
    cases p with
    | cons a1 a2 =>
      cases a2
      have a1 : Dp X.K I' _ (.bool b) := a1
      cases a1
      cases r with
      | cons r rr =>
        cases rr
        cases r
        exact PySem.P.str_of_bool ⟨.str (if b then "True" else "False"), H, I.tok _, ⟨_, rfl⟩, q (.str (if b then "True" else "False")) I' H (Grow.refl g) (.str _)⟩
  · cases e
def opAddB (ss : List S) : Option S := (opAdd ss).or (bAdd ss)
def iSubB (ss : List S) : Option S := (iSub ss).or (bSub ss)
def strDB (ss : List S) : Option S := (strD ss).or (strB ss)
theorem ok_addB : OpD X (binaryOp .Add) opAddB := ok_add.or ok_bAdd
theorem ok_subB : OpD X (binaryOp .Sub) iSubB := ok_iSub.or ok_bSub
theorem ok_strDB : CallD X (.type "str") strDB := ok_str.or ok_strB
end
section
variable {P : S → Prop} {i j : Int} {a b : Bool} {x y : Str} {xs ys : List D} {p q : S}
@[simp] theorem ob_add : opAddB [.d (.int i), .d (.int j)] = some (.d (.int (i + j))) := rfl
@[simp] theorem ob_addB : opAddB [.d (.bool a), .d (.int j)] = some (.d (.int (b01 a + j))) := rfl
@[simp] theorem ob_addT : opAddB [.d (.tuple xs), q] = opAdd [.d (.tuple xs), q] := by simp [opAddB, bAdd]
@[simp] theorem ob_addL : opAddB [.d (.list xs), q] = opAdd [.d (.list xs), q] := by simp [opAddB, bAdd]
@[simp] theorem ob_addM {m : MO} : opAddB [.bor m, q] = opAdd [.bor m, q] := by simp [opAddB, bAdd]
@[simp] theorem ob_addS : opAddB [.d (.str x), q] = opAdd [.d (.str x), q] := by simp [opAddB, bAdd]
@[simp] theorem ob_sub : iSubB [.d (.int i), .d (.int j)] = some (.d (.int (i - j))) := rfl
@[simp] theorem ob_subB : iSubB [.d (.bool a), .d (.int j)] = some (.d (.int (b01 a - j))) := rfl
@[simp] theorem ob_subI : iSubB [.d (.int j), .d (.bool a)] = some (.d (.int (j - b01 a))) := rfl
@[simp] theorem ob_strB : strDB [.d (.bool b)] = some (.d (.str (if b then "True" else "False"))) := rfl
@[simp] theorem ob_strI : strDB [.d (.int i)] = strD [.d (.int i)] := by simp [strDB, strB]
@[simp] theorem ob_strS : strDB [.d (.str x)] = some (.d (.str x)) := rfl
end
end DL
namespace DL
open PySem L2
open PyProof.Rows (envOfC)
/-! ### an exception class over one of the program's own, its __init__ -/
section
variable {X : Cx} {e : Expr} {es : List Expr} {ta : TA} {p1 p2 pos : Pos}
/-- what T.__init__ wants of T -/
structure InitOf (K : KF) (mg : MG) (tn : Str) (T : Addr) : Prop where
  g : mg tn = some (.ref T)
  ga : PySem.W.specialIn K (.ref T) "__getattribute__" = some (some (.builtin "type.__getattribute__"))
  ty : PySem.W.typeIn K (.ref T) = some (.type "type")
  rd : PySem.W.readsIn K T (.type "type") = true
  fi : PySem.W.findCls K (.ref T) (.type "type") "__init__" = some (.val (.builtin "ValueError.__init__"))
theorem pe_cinit {pl : Sem Bool} {tn : Str} {T : Addr} (B : InitOf X.K X.mg tn T) (hg : Gl X tn) (ha : PA X (e :: es) ta) (hdb : (tn == ("__debug__" : Str)) = false := by decide)
    (hc : eval (.Call (.Attribute (.Name tn p1) "__init__" p2) (e :: es) [] pos) X.env = (do
      let ov ← eval (.Name tn p1) X.env
      standAt p2.atName
      let (f, first) ← holding [ov] (getMethod ov "__init__" pl)
      callWith pos f first (backTo pos (starEach (e :: es) X.env)) (backToKw pos (keywordEach [] X.env))) := by rfl)
    (he : starEach (e :: es) X.env = (false, eval e X.env) :: starEach es X.env := by rfl) (hpl : (backTo pos (starEach es X.env)).any (·.1) = false := by rfl) :
    PE X (.Call (.Attribute (.Name tn p1) "__init__" p2) (e :: es) [] pos) (tVeI X.K ta) := by
  refine ⟨fun pins s σ H Q I h => ?_⟩
  refine PySem.W.methodCall_KW (ld_glob I hg B.g ?_ hdb) hc
  obtain ⟨m, fr⟩ := I.fr
  refine PySem.W.method_of_cls fr I.ok.mod.kin B.ga (PySem.W.cls_val fr I.ok.mod.kin B.ty B.rd B.fi (by decide +kernel) ?_)
  show wpAny _ _ (callWith pos (Value.builtin "ValueError.__init__") [] (backTo pos (starEach (e :: es) X.env)) []) _ _ _
  refine PyProof.Rows.callWith_method1 (thn (ha.run pos pins _ σ H _ (I.tok _) h) fun us s1 ⟨vs, H1, I1, r1, a, C, ws, ev, hl, T, ea, q⟩ => ?_) he hpl
  subst ev
  cases r1 with
  | @cons _ u0 _ ur ra rw' =>
    obtain rfl : u0 = Value.ref a := ra
    have hlen : ur.length ≤ sizeLine := by
      rw [← Paired.length rw', PySem.sizeLine_eq]
      omega
    exact oinit_ok T I1 ea hlen fun s' J => ⟨.non, H1, J, rfl, q⟩
end
/-- what __init__(self, x, y) promises: the fields f1, f2 -/
def spInit (C : Addr) (f1 f2 : Str) : Sp := fun vs H Q E => ∃ a x y, vs = [.ref a, x, y] ∧ H a = some (exo a C none) ∧
  ∀ d, H d = none → d ≠ a → Q .non (upd (upd (upd H d (exd d [(f1, x)])) a (exo a C (some d))) d (exd d [(f2, y), (f1, x)]))
theorem spInit_len {C : Addr} {f1 f2 s a b : Str} : ∀ vs H Q E, spInit C f1 f2 vs H Q E → vs.length = [s, a, b].length := fun vs H Q E ⟨_, _, _, e, _⟩ => by rw [e]; rfl
/-- the facts of a class that is raised with two values -/
def MkX (P : Program) (w : World) (K : KF) (mg : MG) (base : Heap) (n f1 f2 : Str) : Prop := ∃ (C fI : Addr) (fd : FuncData) (ps : List Str), mg n = some (.ref C) ∧ OexC K C ∧ PySem.W.findIn K (.ref C) "__init__" = some (some (.ref fI)) ∧
  PySem.W.typeIn K (.ref fI) = some (.type "function") ∧ FnOk P w K mg base CX0 1 fI fd ps (spInit C f1 f2) ∧ Binds K fd ps []
/-- the facts of a class without own __init__ -/
def MkP1 (K : KF) (mg : MG) (n : Str) : Prop := ∃ C : Addr, mg n = some (.ref C) ∧ PySem.W.excIn K C [.type "ValueError", .type "Exception", .type "BaseException", .type "object"] "ValueError.__new__" = true ∧ PySem.W.keepIn K (.ref C) = true ∧
  PySem.W.subIn K (.ref C) (.type "BaseException") = some true ∧ PySem.W.typeIn K (.ref C) = some (.type "type")
/-! ### raise -/
/-- raise n(a, b) -/
def sRaise2 (n f1 f2 : Str) (ods : List Od) : SM := sx (evO ods) fun os r => match (getAll r os).bind datas with
  | some [x, y] => some (.ex ⟨n, [(f2, y), (f1, x)]⟩, r)
  | _ => none
/-- raise n(a): nothing of it is read -/
def sRaise1 (n : Str) (od : Od) : SM := sx (ev1 od) fun _ r => some (.ex ⟨n, []⟩, r)
section
variable {X : Cx} {W : WX} {a b : Expr} {oa ob : Od} {n f1 f2 : Str} {p pos pos2 : Pos}
theorem ds_raise2 (hc : X.calm = true) (hr : Room 2 X.A) (tk : Takes X W) (M : MkX X.prog X.w X.K X.mg X.base n f1 f2) (hg : Gl X n) (ha : DA X W [a, b] [oa, ob]) (hdb : (n == ("__debug__" : Str)) = false := by decide)
    (he : starEach [a, b] X.env = (false, eval a X.env) :: starEach [b] X.env := by rfl) (hpl : (backTo pos (starEach [b] X.env)).any (·.1) = false := by rfl) :
    DS X W (.Raise (some (.Call (.Name n p) [a, b] [] pos)) none pos2) (sRaise2 n f1 f2 [oa, ob]) := by
  obtain ⟨C, fI, fd, ps, gC, T, iC, tI, F, hb⟩ := M
  refine ps_of (ps_raise hc tk (pmk_oex (ds := []) (dvs := []) T iC tI F hr hb .nil pass0 hg gC ha hdb he hpl)) fun D s H h => ?_
  obtain ⟨Cn, I, r, o, r', R, e, q⟩ := h
  rcases sx_inv e with ⟨os, r1, ho, e⟩ | ⟨x, ho, rfl⟩
  · refine evO_ok [oa, ob] R ho fun vs I1 H1 R1 g aa => ?_
    split at e
    · rename_i x y hd
      cases e
      obtain ⟨ss, h1, h2⟩ := Option.bind_eq_some_iff.mp hd
      have dp := datas_ok (getAll_ok R1 aa h1) h2
      cases dp with
      | @cons vx _ _ _ px dp =>
        cases dp with
        | @cons vy _ _ _ py dp =>
          cases dp
          refine ⟨by simp, fun a0 ha0 => ⟨a0, vx, vy, rfl, upd_same, fun d hd hda => ?_⟩⟩
          have hd1 : H1 d = none := by rwa [upd_ne hda] at hd
          refine ⟨rfl, d, _, ?_, upd_same, hd1, ?_⟩
          · rw [upd_ne (Ne.symm hda), upd_same]
          · have eH : upd (del (upd (upd (upd (upd H1 a0 (exo a0 C none)) d (exd d [(f1, vx)])) a0 (exo a0 C (some d))) d (exd d [(f2, vy), (f1, vx)])) a0) d (.xd [(f2, vy), (f1, vx)]) = upd H1 d (.xd [(f2, vy), (f1, vx)]) := by
              funext z
              by_cases hz : z = d
              · rw [hz, upd_same, upd_same]
              · rw [upd_ne hz, upd_ne hz]
                by_cases hza : z = a0
                · rw [hza, del_same, ha0]
                · rw [del_ne hza, upd_ne hz, upd_ne hza, upd_ne hz, upd_ne hza]
            rw [eH]
            refine q (.ref C) (some d) s I1 _ (R1.grow (grow_own R1.sub hd1)) g ⟨gC, .inr ⟨d, _, rfl, R1.dom d hd1, upd_same, .cons ⟨rfl, py⟩ (.cons ⟨rfl, px⟩ .nil)⟩⟩
    · cases e
  · exact evO_ok [oa, ob] R ho fun c dx I' H' R' g t => q c dx s I' H' R' g t
theorem ds_raise1 (hc : X.calm = true) (tk : Takes X W) (M : MkP1 X.K X.mg n) (hg : Gl X n) (ha : DO X W a oa) (hdb : (n == ("__debug__" : Str)) = false := by decide)
    (he : starEach [a] X.env = (false, eval a X.env) :: starEach [] X.env := by rfl) :
    DS X W (.Raise (some (.Call (.Name n p) [a] [] pos)) none pos2) (sRaise1 n oa) := by
  obtain ⟨C, gC, q1, kC, exC, tyC⟩ := M
  refine ps_of (ps_raise hc tk (SkE.pmk_own1 PySem.F.excBase_ValueError q1 gC kC (raises_own exC tyC) hg ha he hdb)) fun D s H h => ?_
  obtain ⟨Cn, I, r, o, r', R, e, q⟩ := h
  rcases sx_inv e with ⟨ov, r1, h1, e⟩ | ⟨x, h1, rfl⟩
  · cases e
    have h2 : eb (ev1 oa) er r = some (.ok ov, r') := by unfold eb; rw [h1]; rfl
    refine od_eb R h2 (fun x z => by cases z) fun v I' H' ov' r2 R' g _ e3 => ?_
    cases e3
    exact q (.ref C) none s I' H' R' g ⟨gC, .inl ⟨rfl, rfl⟩⟩
  · have h2 : eb (ev1 oa) er r = some (.ex x, r') := by unfold eb; rw [h1]
    refine od_eb R h2 (fun y z => ?_) fun v I' H' ov' r2 R' g _ e3 => by cases e3
    cases z
    exact fun c dx I' H' R' g t => q c dx s I' H' R' g t
end
end DL
namespace DL
open PySem L2
open PyProof.Rows (envOfC AllBare)
/-! ### try: body, except X: suite -/
/-- which classes a clause catches -/
def CatOk (K : KF) (mg : MG) (c : Value) (tbl : List (Str × Bool)) : Prop := ∀ n b, tbl.lookup n = some b → ∃ c', PySem.W.nsIn K mainGlobals n = some (some c') ∧ mg n = some c' ∧ PySem.W.exmOne K c' c = some b
theorem catOk_nil {K : KF} {mg : MG} {c : Value} : CatOk K mg c [] := fun _ _ h => by cases h
theorem catOk_cons {K : KF} {mg : MG} {c c' : Value} {m : Str} {k : Bool} {tbl : List (Str × Bool)} (h1 : PySem.W.nsIn K mainGlobals m = some (some c')) (h2 : mg m = some c') (h3 : PySem.W.exmOne K c' c = some k) (t : CatOk K mg c tbl) : CatOk K mg c ((m, k) :: tbl) := fun n b h => by
  simp only [List.lookup_cons] at h
  split at h
  · rename_i e
    cases h
    rw [beq_iff_eq.mp e]
    exact ⟨c', h1, h2, h3⟩
  · exact t n b h
/-- no exception goes on -/
def calmS (h : SM) : SM := fun r => match h r with
  | some (.ex _, _) => none
  | z => z
def sTry (tbl : List (Str × Bool)) (g h : SM) : SM := fun r => match g r with
  | some (.ex x, r1) => match tbl.lookup x.cls with
    | some true => calmS h r1
    | some false => some (.ex x, r1)
    | none => none
  | z => z
def wEnd (r : Env) (i : Nat) : O → Env
  | .rt _ => r
  | _ => r.set i none
/-- .. as n: slot i -/
def sTryAs (tbl : List (Str × Bool)) (i : Nat) (g h : SM) : SM := fun r => match g r with
  | some (.ex x, r1) => match tbl.lookup x.cls with
    | some true => match calmS h (r1.set i (some (.own false (.exc x)))) with
      | some (o, r2) => some (o, wEnd r2 i o)
      | none => none
    | some false => some (.ex x, r1)
    | none => none
  | z => z
theorem calm_inv {h : SM} {r r' : Env} {o : O} (e : calmS h r = some (o, r')) : h r = some (o, r') ∧ ∀ x, o ≠ .ex x := by
  unfold calmS at e
  split at e
  · cases e
  · rename_i z hz
    refine ⟨e, fun x q => ?_⟩
    subst q
    exact hz _ _ e
theorem spost_calm {K : KF} {mg : MG} {W W' : WX} {C : Cn} {D : Ends} {I : Hp} {o : O} {r : Env} (n : ∀ x, o ≠ .ex x) (h : SPost K mg W C D I o r) : SPost K mg W' C D I o r := by
  cases o with
  | nx => exact h
  | bk => exact h
  | ct => exact h
  | rt x => exact h
  | ex x => exact absurd rfl (n x)
section
variable {X : Cx} {W : WX} {x n : Str} {c : Value} {body suite : List Stmt} {b₀ : Stmt} {np pos pos' : Pos} {g h : SM} {tbl : List (Str × Bool)}
theorem ds_tryOnly (hs : X.stack = X.env :: X.outer) (hf : X.env.frame = some X.env.locals) (hc : Names X x c) (ct : CatOk X.K X.mg c tbl) (tk : Takes X W)
    (hb : ∀ (W' : WX) (pn : List (Addr × Obj)) (xe : Value → Shared → Prop), Takes (X.tr pn xe) W' → PassesOwn (model X.prog X.w) X.A X.env xe → DSs (X.tr pn xe) W' body g)
    (hsu : ∀ (a : Addr) (pn : List (Addr × Obj)), DSs (X.suite a pn) W0 (b₀ :: suite) h) :
    DS X W (.Try body [.ExceptHandler (some (.Name x np)) none (b₀ :: suite) pos'] [] [] pos) (sTry tbl g h) :=
  ps_of (ps_try_only (tb := fun W' => tS X.K X.mg W' g) (ts := fun _ _ _ => tS X.K X.mg W0 h) hs hf hc tk hb (fun a oe cls d pn _ _ => hsu a _)) fun D s H q => by
    obtain ⟨C, I, r, o, r', R, e, q⟩ := q
    unfold sTry at e
    split at e
    · rename_i y r1 hg
      have key : ∀ b, tbl.lookup y.cls = some b → (b = true → calmS h r1 = some (o, r')) → (b = false → o = .ex y ∧ r' = r1) → tS X.K X.mg (wOnly X.K c (fun _ _ _ => tS X.K X.mg W0 h) W D) g D s H := fun b hl h1 h2 => by
        refine ⟨C, I, r, _, _, R, hg, fun c' dx s' I' H' R' g' t => ?_⟩
        obtain ⟨c'', _, n2, n3⟩ := ct y.cls b hl
        have ec : c' = c'' := Option.some.inj (t.1.symm.trans n2)
        subst ec
        refine ⟨b, n3, fun hb a na => ?_, fun hb => ?_⟩
        · obtain ⟨e1, e2⟩ := calm_inv (h1 hb)
          exact ⟨C, I', r1, _, _, R', e1, spost_calm e2 (spost_up g' q)⟩
        · obtain ⟨e1, e2⟩ := h2 hb
          subst e1 e2
          exact q c' dx s' I' H' R' g' t
      split at e
      · rename_i hl
        exact key true hl (fun _ => e) fun z => by cases z
      · rename_i hl
        cases e
        exact key false hl (fun z => by cases z) fun _ => ⟨rfl, rfl⟩
      · cases e
    · rename_i z hz
      refine ⟨C, I, r, o, r', R, e, ?_⟩
      exact spost_calm (fun y q => by subst q; exact hz _ _ e) q
end
/-! ### try: body, except X as n: suite: the exception is held as an object -/
section
variable {X : Cx} {pins : List (Addr × Obj)} {σ : L2.St} {H : Hp} {s : Shared}
theorem _root_.L2.Inv.held {a : Addr} {oe : Obj} {vs : Array Value} (I : Inv X pins σ H s) (ha : s.heap.get? a = some oe) (hd : oe.data = .fields vs) (na : H a = none) (nL : a ≠ X.env.locals) (n0 : X.s_0.heap.get? a = none) (npin : ∀ p ∈ X.pn ++ pins, p.1 ≠ a) :
    Inv (X.suite a (X.pn ++ pins)) [] σ (upd H a (XO oe a)) s := by
  have same : ∀ b, b ≠ a → upd H a (XO oe a) b = H b := fun b h => upd_ne h
  have known : ∀ b y, H b = some y → upd H a (XO oe a) b = some y := fun b y e => (same b fun z => by rw [z, na] at e; cases e).trans e
  constructor
  case ok => exact I.ok.suite _ _
  case os => exact I.os
  case bare => exact I.bare
  case loc => exact I.loc
  case cell => exact I.cell
  case len => exact I.len
  case base => exact { I.base with
    free := fun b o e n hb => (same b fun z => by rw [z, n0] at e; cases e).trans (I.base.free b o e n hb)
    tups := fun b xs e => known b _ (I.base.tups b xs e)
    frzs := fun b o u e => known b _ (I.base.frzs b o u e)
    tbls := fun b ps e => (I.base.tbls b ps e).imp fun _ q => known b _ q }
  case free => exact (same _ (Ne.symm nL)).trans I.free
  case freeC =>
    refine fun x c e => (same c fun z => ?_).trans (I.freeC x c e)
    obtain ⟨v, o, ho, hv⟩ := I.cell x c e
    rw [z, ha] at ho
    rw [← Option.some.inj ho, hd] at hv
    cases hv
  case pin =>
    refine fun p hp => ?_
    have hp := show p ∈ X.pn ++ pins by simpa using hp
    exact (I.pin p hp).imp_right fun r => ⟨(same _ (npin p hp)).trans r.1, r.2⟩
  case hok => exact L2.HOk.laidN I.hok (fun _ _ z => z) na ⟨ha, ⟨_, ha⟩, fun h1 h2 z k => k _ z⟩
/-- what the clause 'except x as n' wishes, the exception held -/
def wAsT (K : PySem.W.Frag) (c : Value) (i : Nat) (ts : Addr → Obj → Value → Option Addr → TS) (Wout : WX) (D : Ends) : WX := fun cls d σ H =>
  ∃ b, PySem.W.exmOne K cls c = some b ∧ (b = true → ∀ a oe, H a = none → Zc cls d oe → (∃ vs, oe.data = .fields vs) → ts a oe cls d { nx := fun σ' H' => D.nx (σ'.set i none) H', rt := D.rt, bk := fun σ' H' => D.bk (σ'.set i none) H', ct := fun σ' H' => D.ct (σ'.set i none) H' } (σ.set i (some (.ref a))) (upd H a (XO oe a))) ∧
    (b = false → Wout cls d σ H)
theorem _root_.L2.Inv.unheld {a : Addr} {pn' : List (Addr × Obj)} (I : Inv (X.suite a (X.pn ++ pins)) pn' σ H s) (ok : X.Ok) : Inv X pins σ H s :=
  ⟨ok, I.os, I.bare, I.base, I.loc, I.cell, I.free, I.freeC, fun p hp => I.pin p (List.mem_append_left _ hp), I.hok, I.len⟩
/-- an exception that flies over the frames of X, and the state it left -/
structure Aloft (X : Cx) (pins : List (Addr × Obj)) (σ : L2.St) (H : Hp) (B : Heap) (sI : Shared) (cls : Value) (d : Option Addr) (a : Addr) (s : Shared) : Prop where
  left : Inv X pins σ H sI
  ground : ∀ b o, sI.heap.get? b = some o → b ∉ frs X.stack → B.get? b = some o
  slots : sI.heap.UpToSlots s.heap
  fly : HandSPX.FlyingZ B X.stack a (Zc cls d) s.heap
  out : H a = none
  os : s.os = sI.os
  bare : AllBare s.gens
variable {B : Heap} {sI : Shared} {cls : Value} {d : Option Addr} {a : Addr}
theorem Aloft.here (z : Aloft X pins σ H B sI cls d a s) : Inv X pins σ H s := z.left.landed z.ground z.fly.1 z.slots z.os z.bare
theorem Aloft.on (z : Aloft X pins σ H B sI cls d a s) {g : Heap} (f : HandSPX.FlyingZ B X.stack a (Zc cls d) g) (u : s.heap.UpToSlots g) : Aloft X pins σ H B sI cls d a { s with heap := g } :=
  { z with fly := f, slots := z.slots.trans u }
theorem Aloft.noFrame (z : Aloft X pins σ H B sI cls d a s) : a ∉ frs X.stack := fun hm => by
  obtain ⟨oe, vs, he, _, hd⟩ := z.fly.there
  obtain ⟨_, o, e, hn⟩ := z.fly.2.2.1.mem hm
  exact hn vs (by rw [← Option.some.inj (he.symm.trans e)]; exact hd)
theorem Aloft.notLeft (z : Aloft X pins σ H B sI cls d a s) : sI.heap.get? a = none :=
  Option.eq_none_iff_forall_ne_some.mpr fun o e => by
    have := z.ground a o e z.noFrame
    rw [z.fly.2.1] at this
    cases this
theorem Aloft.notBase (z : Aloft X pins σ H B sI cls d a s) (hex : X.ex = []) : X.s_0.heap.get? a = none :=
  Option.eq_none_iff_forall_ne_some.mpr fun o e => by
    obtain ⟨o', e'⟩ := z.left.base.there a o e (by rw [hex]; simp)
    rw [z.notLeft] at e'
    cases e'
theorem Aloft.notPin (z : Aloft X pins σ H B sI cls d a s) : ∀ p ∈ X.pn ++ pins, p.1 ≠ a := fun p hp e => by
  have := (z.left.pin p hp).1
  rw [e, z.notLeft] at this
  cases this
theorem Aloft.notOwn (z : Aloft X pins σ H B sI cls d a s) (hs : X.stack = X.env :: X.outer) (hf : X.env.frame = some X.env.locals) : a ≠ X.env.locals ∧ a ∉ X.fs := by
  have n := z.noFrame
  rw [hs] at n
  unfold frs at n
  rw [List.filterMap_cons, hf] at n
  exact ⟨fun e => n (by rw [e]; exact List.mem_cons_self), fun e => n (List.mem_cons_of_mem _ e)⟩
/-- no clause takes it: it goes on, noted at this frame -/
theorem Aloft.goes {W : WX} {D : Ends} (z : Aloft X pins σ H B sI cls d a s) (hf : X.env.frame = some X.env.locals) (tk : Takes X W) (w : W cls d σ H) :
    wpAny (model X.prog X.w) X.A (handleBy (.ref a) X.env []) (SP X pins D) X.xe s := by
  obtain ⟨_, _, _, oe, vs, T, _, _, he, _, hd, h1, _⟩ := id z.fly
  have notNone : ¬ ((Value.ref T == Value.none) = true) := by simp
  have out : ∀ {α : Type} {Q : α → Shared → Prop}, wpAny (model X.prog X.w) X.A (setFlight (.ref a) X.env.frame >>= fun _ => (throw (.ref a) : Sem α)) Q X.xe s := fun {α Q} => by
    rw [hf]
    refine wpAny_bind (HandSPX.setFlight_upZ z.fly fun g hg up => wpAny_throw (tk _ _ ?_))
    exact ⟨a, B, sI, pins, σ, H, cls, d, rfl, z.left, z.ground, z.slots.trans up, .inr (.inr hg), z.out, z.os, z.bare, w⟩
  refine wpAny_handleBy_nil ?_
  unfold PySem.passOn
  refine wpAny_bind (wpAny_field he hd h1 ?_)
  rw [if_neg notNone]
  exact out
end
section
variable {X : Cx} {x n : Str} {c : Value} {i : Nat} {body suite : List Stmt} {b₀ : Stmt} {np pos pos' : Pos} {tb : WX → TS} {ts : Addr → Obj → Value → Option Addr → TS} {Wout : WX}
/-- the suite's end: the name is unbound, all else as the suite left it -/
theorem suite_end {pins pn' : List (Addr × Obj)} {a : Addr} {D : Ends} {f : Flow} {s : Shared} (ok : X.Ok) (hN : X.N.Nodup) (hi : X.N[i]? = some n) (hln : X.env.kindOf n = some .local)
    (h : SP (X.suite a (X.pn ++ pins)) pn' { nx := fun σ H => D.nx (σ.set i none) H, rt := D.rt, bk := fun σ H => D.bk (σ.set i none) H, ct := fun σ H => D.ct (σ.set i none) H } f s) :
    wpAny (model X.prog X.w) X.A (do bindName X.env n .none; unbindBehindTheSuite X.env n pos') (fun _ s => SP X pins D f s) X.xe s := by
  have back : ∀ {σ : L2.St} {H : Hp} {R : Shared → Prop}, Inv (X.suite a (X.pn ++ pins)) pn' σ H s → (∀ s, Inv X pins (σ.set i none) H s → R s) → wpAny (model X.prog X.w) X.A (do bindName X.env n .none; unbindBehindTheSuite X.env n pos') (fun _ s => R s) X.xe s :=
    fun I q => gone_ok (I.unheld ok) hN hi hln q
  unfold SP at h ⊢
  split at h
  · exact h.elim fun σ h => h.elim fun H h => back h.1 fun s J => ⟨_, _, J, h.2⟩
  · exact h.elim fun σ h => h.elim fun H h => back h.1 fun s J => ⟨_, _, J, h.2⟩
  · exact h.elim fun σ h => h.elim fun H h => back h.1 fun s J => ⟨_, _, J, h.2⟩
  · exact h.elim fun v h => h.elim fun σ h => h.elim fun H h => back h.1 fun s J => ⟨_, _, _, J, h.2.1, h.2.2⟩
/-- the clause looks at what flies, and takes it or lets it go -/
theorem Aloft.met {pins : List (Addr × Obj)} {σ : L2.St} {H : Hp} {B : Heap} {sI s : Shared} {cls : Value} {d : Option Addr} {a : Addr} {D : Ends} (z : Aloft X pins σ H B sI cls d a s)
    (hs : X.stack = X.env :: X.outer) (hf : X.env.frame = some X.env.locals) (hN : X.N.Nodup) (hi : X.N[i]? = some n) (hln : X.env.kindOf n = some .local) (hex : X.ex = []) (hc : Names X x c) (tk : Takes X Wout)
    (hsu : ∀ (a : Addr) (oe : Obj) (cls : Value) (d : Option Addr) (pn : List (Addr × Obj)), PSs (X.suite a pn) (b₀ :: suite) (ts a oe cls d)) (w : wAsT X.K c i ts Wout D cls d σ H) :
    wpAny (model X.prog X.w) X.A (handleBy (.ref a) X.env [.ExceptHandler (some (.Name x np)) (some n) (b₀ :: suite) pos']) (SP X pins D) X.xe s := by
  obtain ⟨b, hb, yes, no⟩ := w
  obtain ⟨oe, vs, he, hz, hd⟩ := z.fly.there
  obtain ⟨o1, o2⟩ := z.notOwn hs hf
  have S := z.here.suite he hd z.out o1 o2
  have cl := PySem.W.exm_one (M := model X.prog X.w) z.here.kIn (show PySem.W.Looks (model X.prog X.w) s.heap (typeOf (.ref a)) cls from fun A Q E s k q => wpAny_typeOf_ref (k _ _ he) (by rw [hz.1]; exact q)) hb
  refine wpAny_handleBy_cons (codeAny_handlers_test ?_) (by intro q; cases q)
  have named : ∀ {Q : Value → Shared → Prop} {E : Value → Shared → Prop}, Q c s → wpAny (model X.prog X.w) (X.A.mark (some (.ref a))) (eval (.Name x np) X.env) Q E s := fun {Q E} q =>
    hc.2.2.elim (fun hm => ld_glob (X := X.suite a ((a, oe) :: (X.pn ++ pins))) S hc.1 hm q hc.2.1) fun hm => ld_blt (X := X.suite a ((a, oe) :: (X.pn ++ pins))) S hc.1 hm.1 hm.2.1 q hm.2.2 hc.2.1
  refine named (cl.here ?_)
  cases b with
  | false => exact z.goes hf tk (no rfl)
  | true =>
    refine codeAny_handlers_suite_as (HandSPX.lands_againZ z.fly fun g fl up => ?_)
    have y := z.on fl up
    obtain ⟨oe2, vs2, he2, hz2, hd2⟩ := y.fly.there
    refine store_ok (X := X.suite a (X.pn ++ pins)) (v := .ref a) (y.here.held he2 hd2 y.out o1 (y.notBase hex) y.notPin) hN hi (show Loc X.env.scope n from .inl hln) rfl (fun s5 S5 => ?_) (.inr hln)
    exact wpAny_mono ((hsu a oe2 cls d (X.pn ++ pins)).run [] s5 _ _ _ S5 (yes rfl a oe2 y.out hz2 ⟨_, hd2⟩)) (fun f s6 h => suite_end z.left.ok hN hi hln h) fun _ _ z => False.elim z
theorem ps_try_asT (hs : X.stack = X.env :: X.outer) (hf : X.env.frame = some X.env.locals) (hN : X.N.Nodup) (hi : X.N[i]? = some n) (hln : X.env.kindOf n = some .local) (hex : X.ex = []) (hc : Names X x c) (tk : Takes X Wout)
    (hb : ∀ (W : WX) (pn : List (Addr × Obj)) (xe : Value → Shared → Prop), Takes (X.tr pn xe) W → PassesOwn (model X.prog X.w) X.A X.env xe → PSs (X.tr pn xe) body (tb W))
    (hsu : ∀ (a : Addr) (oe : Obj) (cls : Value) (d : Option Addr) (pn : List (Addr × Obj)), PSs (X.suite a pn) (b₀ :: suite) (ts a oe cls d)) :
    PS X (.Try body [.ExceptHandler (some (.Name x np)) (some n) (b₀ :: suite) pos'] [] [] pos) (fun D σ H => tb (wAsT X.K c i ts Wout D) D σ H) := by
  refine ⟨fun pins s σ H D I h => wpAny_Try_except ?_⟩
  have hfr : X.A.frames = some (X.env :: X.outer) := by rw [I.ok.frames, hs]
  have caught : Takes (X.tr (X.pn ++ pins) fun e s₁ => wpAny (model X.prog X.w) X.A (noteFrame e X.env) (fun _ s₂ => wpAny (model X.prog X.w) X.A (setFlight e none) (fun _ s₃ =>
      wpAny (model X.prog X.w) X.A (handleBy e X.env [.ExceptHandler (some (.Name x np)) (some n) (b₀ :: suite) pos']) (SP X pins D) X.xe s₃) X.xe s₂) X.xe s₁) (wAsT X.K c i ts Wout D) := by
    rintro u s1 ⟨a, B, sI, pins1, σ1, H1, cls, d, rfl, J, nb, up, sky, na, os, ag, w⟩
    exact Sky.land Zc.steady hfr hf (show Sky B (X.env :: X.outer) a (Zc cls d) X.env.locals s1.heap by rw [← hs]; exact sky) fun g fl up2 =>
      Aloft.met (s := { s1 with heap := g }) ⟨J.ofTry I.ok, nb, up.trans up2, by rw [hs]; exact fl, na, os, ag⟩ hs hf hN hi hln hex hc tk hsu w
  refine wpAny_mono ((hb _ _ _ caught PassesOwn.looking).run [] s σ H D (I.toTry _) h) (fun f s1 hsp => ?_) fun e s1 he => he
  unfold SP at hsp
  split at hsp
  · exact hsp.elim fun σ1 h => h.elim fun H1 h => wpAny_execs_nil ⟨σ1, H1, h.1.ofTry I.ok, h.2⟩
  · exact hsp.elim fun σ1 h => h.elim fun H1 h => ⟨σ1, H1, h.1.ofTry I.ok, h.2⟩
  · exact hsp.elim fun σ1 h => h.elim fun H1 h => ⟨σ1, H1, h.1.ofTry I.ok, h.2⟩
  · exact hsp.elim fun v h => h.elim fun σ1 h => h.elim fun H1 h => ⟨v, σ1, H1, h.1.ofTry I.ok, h.2.1, h.2.2⟩
end
end DL
namespace DL
open PySem L2
open PyProof.Rows (envOfC)
section
variable {K : KF} {mg : MG} {W : WX} {C : Cn} {I H : Hp} {r r' : Env} {s : L2.St}
theorem mrel_xd {a : Addr} {m : MO} {ws : List (Str × V)} (h : MRel K I H a m) : H a ≠ some (.xd ws) := fun e => by
  cases m with
  | lst xs => obtain ⟨vs, z, _⟩ := h; rw [e] at z; cases z
  | dic xs => obtain ⟨vs, z, _⟩ := h; rw [e] at z; cases z
  | frd xs => obtain ⟨_, vs, z, _⟩ := h; rw [e] at z; cases z
  | dit xs => obtain ⟨vs, z, _⟩ := h; rw [e] at z; cases z
  | exc x =>
    obtain ⟨oe, z, _⟩ := h
    rw [e] at z
    have z := Option.some.inj z
    have z : HO.xd ws = HO.ext _ := z
    cases z
/-- an exception's dict is data -/
theorem Rel.iadd {d : Addr} {ws : List (Str × V)} (R : Rel K C I H r s) (hd : H d = some (.xd ws)) (h0 : C.H0 d = none) : ∃ I', Rel K C I' H r s ∧ Same I I' ∧ I' d = some (.xd ws) := by
  cases n : I d with
  | some o =>
    have := R.sub d o n
    rw [hd] at this
    cases this
    exact ⟨I, R, Same.refl I, n⟩
  | none =>
    have s1 : Same I (upd I d (.xd ws)) := Evl.Ex.new n
    refine ⟨upd I d (.xd ws), ⟨R.len, fun b o q => ?_, R.mono.trans s1, R.keep, R.dom, R.bo, R.iot, R.lkt, fun b z1 z2 => ?_, fun i x h => ?_, R.dist, R.tz.put trivial⟩, s1, upd_same⟩
    · by_cases h : b = d
      · subst h
        rw [upd_same] at q
        cases q
        exact hd
      · rw [upd_ne h] at q
        exact R.sub b o q
    · by_cases h : b = d
      · subst h
        exact absurd h0 z2
      · rw [upd_ne h]
        exact R.fresh b z1 z2
    · obtain ⟨w, h1, h2⟩ := R.slot i x h
      refine ⟨w, h1, srel_up s1 h2 (fun b m c ex ew nc _ => ⟨?_, rfl⟩) fun m c ex ew l nc _ => ⟨?_, rfl⟩⟩
      · have hc : c ≠ d := by
          rintro rfl
          subst ex
          obtain ⟨a1, e1, _, q1, _⟩ := own_nz h2
          rw [ew] at e1
          cases e1
          exact mrel_xd q1 hd
        rw [upd_ne hc]
        exact nc
      · have hc : c ≠ d := by
          rintro rfl
          exact (R.lkt _ _ l).1 h0
        rw [upd_ne hc]
        exact nc
end
section
variable {X : Cx} {W : WX} {x n : Str} {c : Value} {i : Nat} {body suite : List Stmt} {b₀ : Stmt} {np pos pos' : Pos} {g h : SM} {tbl : List (Str × Bool)}
theorem ds_tryAs (hs : X.stack = X.env :: X.outer) (hf : X.env.frame = some X.env.locals) (hN : X.N.Nodup) (hi : X.N[i]? = some n) (hln : X.env.kindOf n = some .local) (hex : X.ex = []) (hc : Names X x c) (ct : CatOk X.K X.mg c tbl) (tk : Takes X W)
    (hb : ∀ (W' : WX) (pn : List (Addr × Obj)) (xe : Value → Shared → Prop), Takes (X.tr pn xe) W' → PassesOwn (model X.prog X.w) X.A X.env xe → DSs (X.tr pn xe) W' body g)
    (hsu : ∀ (a : Addr) (pn : List (Addr × Obj)), DSs (X.suite a pn) W0 (b₀ :: suite) h) :
    DS X W (.Try body [.ExceptHandler (some (.Name x np)) (some n) (b₀ :: suite) pos'] [] [] pos) (sTryAs tbl i g h) :=
  ps_of (ps_try_asT (tb := fun W' => tS X.K X.mg W' g) (ts := fun _ _ _ _ => tS X.K X.mg W0 h) hs hf hN hi hln hex hc tk hb (fun a oe cls d pn => hsu a _)) fun D s H q => by
    obtain ⟨C, I, r, o, r', R, e, q⟩ := q
    unfold sTryAs at e
    split at e
    · rename_i y r1 hg
      have key : ∀ b, tbl.lookup y.cls = some b → (b = true → ∃ r2, calmS h (r1.set i (some (.own false (.exc y)))) = some (o, r2) ∧ r' = wEnd r2 i o) → (b = false → o = .ex y ∧ r' = r1) →
          tS X.K X.mg (wAsT X.K c i (fun _ _ _ _ => tS X.K X.mg W0 h) W D) g D s H := fun b hl h1 h2 => by
        refine ⟨C, I, r, _, _, R, hg, fun c' dx s' I' H' R' g' t => ?_⟩
        obtain ⟨c'', n1, n2, n3⟩ := ct y.cls b hl
        have ec : c' = c'' := Option.some.inj (t.1.symm.trans n2)
        subst ec
        refine ⟨b, n3, fun hb a oe na hz hfd => ?_, fun hb => ?_⟩
        · obtain ⟨r2, e0, er⟩ := h1 hb
          obtain ⟨e1, e2⟩ := calm_inv e0
          have : ∃ I2, Rel X.K C I2 H' r1 s' ∧ Same I' I2 ∧ XDat X.K I2 oe y := by
            rcases t.2 with ⟨t1, t2⟩ | ⟨d, ws, t1, t2, t3, t4⟩
            · exact ⟨I', R', Same.refl I', c', dx, n1, hz, hfd, .inl ⟨t1, t2⟩⟩
            · obtain ⟨I2, R2, s2, hd2⟩ := R'.iadd t3 t2
              exact ⟨I2, R2, s2, c', dx, n1, hz, hfd, .inr ⟨d, ws, t1, hd2, kvd_up s2 t4⟩⟩
          obtain ⟨I2, R2, s2, xd⟩ := this
          have gr := grow_own (o := XO oe a) R2.sub na
          have ns : NewS X.K I2 H' (.ref a) I2 (upd H' a (XO oe a)) (.own false (.exc y)) := ⟨a, rfl, na, R2.sub.free na, oe, upd_same, xd⟩
          have R4 := (R2.grow gr).put (i := i) (R2.newS gr ns)
          refine ⟨C, I2, _, o, r2, R4, e1, ?_⟩
          have g2 := g'.trans s2
          subst er
          cases o with
          | nx => exact fun s6 I6 H6 R6 g6 => q _ I6 H6 (R6.wipe [i]) (g2.trans g6)
          | bk => exact fun s6 I6 H6 R6 g6 => q _ I6 H6 (R6.wipe [i]) (g2.trans g6)
          | ct => exact fun s6 I6 H6 R6 g6 => q _ I6 H6 (R6.wipe [i]) (g2.trans g6)
          | rt z => exact fun v s6 I6 H6 R6 g6 t6 => q v s6 I6 H6 R6 (g2.trans g6) t6
          | ex z => exact absurd rfl (e2 z)
        · obtain ⟨e1, e2⟩ := h2 hb
          subst e1 e2
          exact q c' dx s' I' H' R' g' t
      split at e
      · rename_i hl
        split at e
        · rename_i o2 r2 he
          cases e
          exact key true hl (fun _ => ⟨r2, he, rfl⟩) fun z => by cases z
        · cases e
      · rename_i hl
        cases e
        exact key false hl (fun z => by cases z) fun _ => ⟨rfl, rfl⟩
      · cases e
    · rename_i z hz
      refine ⟨C, I, r, o, r', R, e, ?_⟩
      exact spost_calm (fun y q => by subst q; exact hz _ _ e) q
end
end DL
namespace DL
open PySem L2
open PyProof.Rows (envOfC)
/-! ### isinstance(e, c), e.f -/
/-- an exception held at a, of the class at D -/
def XAt (H : Hp) (a D : Addr) (dx : Option Addr) (oe : Obj) : Prop := H a = some (XO oe a) ∧ Zc (.ref D) dx oe ∧ (∃ vs, oe.data = .fields vs) ∧ (dx = none ∨ ∃ d ws, dx = some d ∧ H d = some (.xd ws))
section
variable {X : Cx} {pins : List (Addr × Obj)} {σ : L2.St} {H : Hp} {s : Shared}
theorem inst_exc (I : Inv X pins σ H s) {a D : Addr} {dx : Option Addr} {oe : Obj} (h : XAt H a D dx oe) : ∃ od, PySem.W.InstAt s.heap a oe D od := by
  obtain ⟨ea, hz, ⟨vs, hd⟩, hx⟩ := h
  obtain ⟨ha, _⟩ := (show ObjOk X.prog X.w H s.heap a (XO oe a) from I.hok a _ ea)
  have ha : s.heap.get? a = some oe := ha
  rcases hx with rfl | ⟨d, ws, rfl, ed⟩
  · exact ⟨none, ha, hz.1, by unfold PySem.W.notCls; rw [hd] <;> rfl, by rw [hz.2]; trivial⟩
  · obtain ⟨mA, hns, hr⟩ := (show ObjOk X.prog X.w H s.heap d (.xd ws) from I.hok d _ ed)
    obtain ⟨od, ho, hl⟩ := lookIn_ns hns
    exact ⟨some od, ha, hz.1, by unfold PySem.W.notCls; rw [hd] <;> rfl, by rw [hz.2]; exact ho⟩
theorem kit_exc {K : KF} {D a : Addr} {oe : Obj} {od : Option Obj} (C : ExcC K D) : PySem.W.KitX K (.ref a) (.ref D) (fun h => PySem.W.InstAt h a oe D od) :=
  PySem.W.kitx_exc (by obtain ⟨cd, hc, _⟩ := PySem.W.any_some C.hd; rw [hc]; rfl) C.hg C.hk C.hs C.ha C.hn C.ht C.hm
def rIsX (K : KF) : List V → Hp → VK → Prop := fun xs H Q => ∃ a D dx oe c u b, xs = [.ref a, c] ∧ ClsV c u ∧ XAt H a D dx oe ∧ ExcC K D ∧ PySem.W.kitOne K (.ref D) u = some b ∧ Q (.bl b) H
def rIsXT (K : KF) : List V → Hp → VK → Prop := fun xs H Q => ∃ a D dx oe tp cs us b, xs = [.ref a, .ref tp] ∧ H tp = some (.tup cs) ∧ Paired ClsV cs us ∧ XAt H a D dx oe ∧ ExcC K D ∧ PySem.W.kitAny K (.ref D) us = some b ∧ Q (.bl b) H
theorem call_isX : CallR X (.builtin "isinstance") (rIsX X.K) := by
  intro pins s σ H xs us Q I r h
  obtain ⟨a, D, dx, oe, c, u, b, rfl, k, xa, ec, e, q⟩ := h
  obtain ⟨u1, u2, rfl, r1, r2⟩ := vals2 r
  cases (show u1 = Value.ref a from r1)
  have e2 := k.eq r2
  subst e2
  obtain ⟨od, J⟩ := inst_exc I xa
  exact PySem.W.kia_one (kit_exc ec) I.kIn J e (fun z => nomatch z) fun tk => ⟨.bl b, H, I.tok tk, rfl, q⟩
theorem call_isXT : CallR X (.builtin "isinstance") (rIsXT X.K) := by
  intro pins s σ H xs us Q I r h
  obtain ⟨a, D, dx, oe, tp, cs, ws, b, rfl, hT, k, xa, ec, e, q⟩ := h
  obtain ⟨u1, u2, rfl, r1, r2⟩ := vals2 r
  cases (show u1 = Value.ref a from r1)
  cases (show u2 = Value.ref tp from r2)
  obtain ⟨od, J⟩ := inst_exc I xa
  obtain ⟨_, its, rv, o, h1, h2, n, h3⟩ := (show ObjOk X.prog X.w H s.heap tp (.tup cs) from I.hok tp _ hT)
  have e3 := ClsV.all k rv
  subst e3
  obtain ⟨oc, odd, dt, sl⟩ := o
  simp only at h2 h3
  subst h2 h3
  exact PySem.W.kia_tup (kit_exc ec) I.kIn J h1 e (fun z => nomatch z) fun tk => ⟨.bl b, H, I.tok tk, rfl, q⟩
end
def IsxOk1 (K : KF) (u : Value) (tbl : List (Str × Bool)) : Prop := ∀ n b, tbl.lookup n = some b → ∃ D, PySem.W.nsIn K mainGlobals n = some (some (.ref D)) ∧ ExcC K D ∧ PySem.W.kitOne K (.ref D) u = some b
def IsxOkT (K : KF) (us : List Value) (tbl : List (Str × Bool)) : Prop := ∀ n b, tbl.lookup n = some b → ∃ D, PySem.W.nsIn K mainGlobals n = some (some (.ref D)) ∧ ExcC K D ∧ PySem.W.kitAny K (.ref D) us = some b
theorem isx1_nil {K : KF} {u : Value} : IsxOk1 K u [] := fun _ _ h => by cases h
theorem isx1_cons {K : KF} {u : Value} {m : Str} {k : Bool} {tbl : List (Str × Bool)} {D : Addr} (h1 : PySem.W.nsIn K mainGlobals m = some (some (.ref D))) (h2 : ExcC K D) (h3 : PySem.W.kitOne K (.ref D) u = some k) (t : IsxOk1 K u tbl) : IsxOk1 K u ((m, k) :: tbl) := fun n b h => by
  simp only [List.lookup_cons] at h
  split at h
  · rename_i e
    cases h
    rw [beq_iff_eq.mp e]
    exact ⟨D, h1, h2, h3⟩
  · exact t n b h
theorem isxT_nil {K : KF} {u : List Value} : IsxOkT K u [] := fun _ _ h => by cases h
theorem isxT_cons {K : KF} {u : List Value} {m : Str} {k : Bool} {tbl : List (Str × Bool)} {D : Addr} (h1 : PySem.W.nsIn K mainGlobals m = some (some (.ref D))) (h2 : ExcC K D) (h3 : PySem.W.kitAny K (.ref D) u = some k) (t : IsxOkT K u tbl) : IsxOkT K u ((m, k) :: tbl) := fun n b h => by
  simp only [List.lookup_cons] at h
  split at h
  · rename_i e
    cases h
    rw [beq_iff_eq.mp e]
    exact ⟨D, h1, h2, h3⟩
  · exact t n b h
def opIsx (tbl : List (Str × Bool)) : List S → Option S
  | [.bor (.exc x)] => (tbl.lookup x.cls).map fun b => .d (.bool b)
  | _ => none
theorem xat_of {K : KF} {I H : Hp} (sub : Same I H) {v : V} {x : Exc} (h : ARel K I H v (.bor (.exc x))) {B : Addr} (n : PySem.W.nsIn K mainGlobals x.cls = some (some (.ref B))) :
    ∃ a dx oe, v = .ref a ∧ XAt H a B dx oe ∧ ((x.fs = [] ∧ dx = none) ∨ ∃ d ws, dx = some d ∧ H d = some (.xd ws) ∧ Paired (fun (p : Str × V) (q : Str × D) => p.1 = q.1 ∧ Dp K I p.2 q.2) ws x.fs) := by
  obtain ⟨a, e, oe, ha, c, dx, hn, hz, hf, hx⟩ := h
  rw [n] at hn
  cases hn
  rcases hx with ⟨h1, h2⟩ | ⟨d, ws, h1, h2, h3⟩
  · exact ⟨a, dx, oe, e, ⟨ha, hz, hf, .inl h2⟩, .inl ⟨h1, h2⟩⟩
  · exact ⟨a, dx, oe, e, ⟨ha, hz, hf, .inr ⟨d, ws, h1, sub _ _ h2⟩⟩, .inr ⟨d, ws, h1, sub _ _ h2, h3⟩⟩
def tCs : List V → TA
  | [] => tNil
  | v :: t => tCons (tC v) (tCs t)
theorem tCs_ok : ∀ {cs : List V} {s : L2.St} {H : Hp} {Q : List V → Hp → Prop}, Q cs H → tCs cs s H Q
  | [], _, _, _, h => h
  | _ :: t, _, _, _, h => tCs_ok (cs := t) h
section
variable {X : Cx} {W : WX} {a ec : Expr} {oa : Od} {tbl : List (Str × Bool)} {p p3 pos : Pos}
theorem de_isx1 {cv : V} {u : Value} (hg : Gl X "isinstance") (hm : X.mg "isinstance" = none) (hT : PE X ec (tC cv)) (k : ClsV cv u) (ok : IsxOk1 X.K u tbl) (ha : DO X W a oa)
    (he : starEach [a, ec] X.env = (false, eval a X.env) :: starEach [ec] X.env := by rfl) (he2 : starEach [ec] X.env = [(false, eval ec X.env)] := by rfl) (hpl : (backTo pos (starEach [ec] X.env)).any (·.1) = false := by rfl) :
    DE X W (.Call (.Name "isinstance" p) [a, ec] [] pos) (dApp [oa] (opIsx tbl)) :=
  pe_of (pe_callB call_isX hg hm (by decide +kernel) (pa_cons ha (pa_cons hT pa_nil he2) he) (by decide) (by decide) he hpl) fun s H Q q => by
    have z : tOds X.K X.mg W [oa] s H fun vs H1 => rIsX X.K (vs ++ [cv]) H1 Q := app_gen (ods := [oa]) q fun C I r vs ss x H' R aa e q => by
      unfold opIsx at e
      split at e
      · rename_i y
        obtain ⟨b, e1, e2⟩ := Option.map_eq_some_iff.mp e
        subst e2
        obtain ⟨B, n1, n2, n3⟩ := ok y.cls b e1
        cases aa with
        | cons a1 a2 =>
          cases a2
          obtain ⟨a0, dx, oe, rfl, xa, _⟩ := xat_of R.sub a1 n1
          exact ⟨a0, B, dx, oe, cv, u, b, rfl, k, xa, n2, n3, q _ I H' (Grow.refl R.sub) (.bl _)⟩
      · cases e
    exact z
theorem de_isxT {es : List Expr} {cs : List V} {us : List Value} {kk : Nat} (hg : Gl X "isinstance") (hm : X.mg "isinstance" = none) (hT : PA X es (tCs cs)) (k : Paired ClsV cs us) (hl : cs.length ≤ 100) (ok : IsxOkT X.K us tbl) (ha : DO X W a oa)
    (he : starEach [a, .Tuple es kk p3] X.env = (false, eval a X.env) :: starEach [.Tuple es kk p3] X.env := by rfl) (he2 : starEach [.Tuple es kk p3] X.env = [(false, eval (.Tuple es kk p3) X.env)] := by rfl) (hpl : (backTo pos (starEach [.Tuple es kk p3] X.env)).any (·.1) = false := by rfl) :
    DE X W (.Call (.Name "isinstance" p) [a, .Tuple es kk p3] [] pos) (dApp [oa] (opIsx tbl)) :=
  pe_of (pe_callB call_isXT hg hm (by decide +kernel) (pa_cons ha (pa_cons (pe_tup hT) pa_nil he2) he) (by decide) (by decide) he hpl) fun s H Q q => by
    have z : tOds X.K X.mg W [oa] s H fun vs H1 => tCs cs s H1 fun ws H2 => ws.length ≤ sizeLine ∧ ∀ p, H2 p = none → rIsXT X.K (vs ++ [V.ref p]) (upd H2 p (.tup ws)) Q := app_gen (ods := [oa]) q fun C I r vs ss x H' R aa e q => by
      unfold opIsx at e
      split at e
      · rename_i y
        obtain ⟨b, e1, e2⟩ := Option.map_eq_some_iff.mp e
        subst e2
        obtain ⟨B, n1, n2, n3⟩ := ok y.cls b e1
        cases aa with
        | cons a1 a2 =>
          cases a2
          refine tCs_ok ⟨by rw [sizeLine_eq]; omega, fun p hp => ?_⟩
          obtain ⟨a0, dx, oe, rfl, xa, _⟩ := xat_of R.sub a1 n1
          have gr := grow_own (o := .tup cs) R.sub hp
          obtain ⟨x1, x2, x3, x4⟩ := xa
          refine ⟨a0, B, dx, oe, p, cs, us, b, rfl, upd_same, k, ⟨gr.h _ _ x1, x2, x3, ?_⟩, n2, n3, q _ _ _ gr (.bl _)⟩
          rcases x4 with x4 | ⟨d, ws, x5, x6⟩
          · exact .inl x4
          · exact .inr ⟨d, ws, x5, gr.h _ _ x6⟩
      · cases e
    exact z
/-! ### e.f -/
def tXfT (K : KF) (f : Str) (te : TE) : TE := fun σ H Q => te σ H fun x H1 => ∃ a B oe dd fs v, x = .ref a ∧ H1 a = some (XO oe a) ∧ Zc (.ref B) (some dd) oe ∧ (∃ vs, oe.data = .fields vs) ∧ XfC K B ∧ PySem.W.findIn K (.ref B) f = some none ∧ H1 dd = some (.xd fs) ∧ fs.lookup f = some v ∧ Q v H1
theorem pe_xfT {te : TE} {f : Str} (he : PE X a te) (hb : attributeBase a f X.env (eval a X.env) = eval a X.env := by rfl) : PE X (.Attribute a f pos) (tXfT X.K f te) := by
  refine ⟨fun pins s σ H Q I h => ?_⟩
  refine attr_of hb (thn (he.run pins s σ H _ I h) fun u s1 hh => ?_)
  obtain ⟨x, H1, I1, rx, a0, B, oe, dd, fs, v, ex, ea, hz, ⟨vs, hd⟩, T, hno, ed, l, q⟩ := hh
  subst ex
  obtain rfl : u = Value.ref a0 := rx
  obtain ⟨ha, _⟩ := (show ObjOk X.prog X.w H1 s1.heap a0 (XO oe a0) from I1.hok a0 _ ea)
  have ha : s1.heap.get? a0 = some oe := ha
  have hx : ObjOk X.prog X.w H1 s1.heap dd (.xd fs) := I1.hok dd _ ed
  obtain ⟨mA, hns, hr⟩ := hx
  obtain ⟨od, ho, hl⟩ := lookIn_ns hns
  obtain ⟨u, hu, ru⟩ := RelO.some_of (v := v) (o := mA f) (by rw [← l]; exact hr f)
  have J : PySem.W.InstAt s1.heap a0 oe B (some od) := ⟨ha, hz.1, by unfold PySem.W.notCls; rw [hd] <;> rfl, by rw [hz.2]; exact ho⟩
  exact HandSPX.exc_get I1.kIn J T.ga T.gg T.exC (PySem.W.findObj_own T.hdC hno rfl (by rw [hl, hu])) (handed_of ru) ⟨v, H1, I1.tok _, ru, q⟩
def FldOk (K : KF) (cl : List Str) (f : Str) : Prop := ∀ n ∈ cl, ∃ B, PySem.W.nsIn K mainGlobals n = some (some (.ref B)) ∧ XfC K B ∧ PySem.W.findIn K (.ref B) f = some none
def opFld (cl : List Str) (f : Str) : List S → Option S
  | [.bor (.exc x)] => if x.cls ∈ cl then (x.fs.lookup f).map .d else none
  | _ => none
theorem look_pair {K : KF} {I : Hp} {f : Str} {d : D} : ∀ {ws : List (Str × V)} {fs : List (Str × D)}, Paired (fun (p : Str × V) (q : Str × D) => p.1 = q.1 ∧ Dp K I p.2 q.2) ws fs → fs.lookup f = some d → ∃ v, ws.lookup f = some v ∧ Dp K I v d
  | _, _, .nil, h => by cases h
  | (k, v) :: ws, (k', d') :: fs, .cons ⟨e, p⟩ t, h => by
    have e : k = k' := e
    subst e
    simp only [List.lookup_cons] at h ⊢
    split at h
    · cases h
      exact ⟨v, rfl, p⟩
    · exact look_pair t h
theorem de_xfld {f : Str} {cl : List Str} (ok : FldOk X.K cl f) (ha : DO X W a oa) (hb : attributeBase a f X.env (eval a X.env) = eval a X.env := by rfl) : DE X W (.Attribute a f pos) (dApp [oa] (opFld cl f)) :=
  pe_of (pe_xfT ha hb) fun s H Q q => by
    have z : tOds X.K X.mg W [oa] s H fun vs H1 => ∃ a B oe dd fs v, vs.headD .non = .ref a ∧ H1 a = some (XO oe a) ∧ Zc (.ref B) (some dd) oe ∧ (∃ vs, oe.data = .fields vs) ∧ XfC X.K B ∧ PySem.W.findIn X.K (.ref B) f = some none ∧ H1 dd = some (.xd fs) ∧ fs.lookup f = some v ∧ Q v H1 := app_gen (ods := [oa]) q fun C I r vs ss x H' R aa e q => by
      unfold opFld at e
      split at e
      · rename_i y
        split at e
        · rename_i hm
          obtain ⟨d, e1, e2⟩ := Option.map_eq_some_iff.mp e
          subst e2
          obtain ⟨B, n1, n2, n3⟩ := ok y.cls hm
          cases aa with
          | cons a1 a2 =>
            cases a2
            obtain ⟨a0, dx, oe, rfl, ⟨x1, x2, x3, _⟩, x4⟩ := xat_of R.sub a1 n1
            rcases x4 with ⟨z1, _⟩ | ⟨dd, ws, rfl, hd, pr⟩
            · rw [z1] at e1
              cases e1
            · obtain ⟨v, hv, dp⟩ := look_pair pr e1
              exact ⟨a0, B, oe, dd, ws, v, rfl, x1, x2, x3, n2, n3, hd, hv, q v I H' (Grow.refl R.sub) dp⟩
        · cases e
      · cases e
    exact z
end
end DL
namespace DL
open PySem L2
open PyProof.Rows (envOfC)
/-! ### defs that may be called while an exception is handled -/
theorem _root_.L2H.RoomH.units {k : Nat} {A : Around} (r : L2H.RoomH k A) : A.units + 64 < cLine := by have := r.un; omega
structure FnU (P : Program) (w : World) (K : KF) (mg : MG) (base : Heap) (k : Nat) (f : Addr) (fd : FuncData) (ps : List Str) (F : FD) : Prop where
  len : ∀ ss y, F ss = some y → ss.length = ps.length
  run : ∀ (A : Around) (outer : List PySem.Env) (s : Shared) (H : Hp) (args : Args) (us : List Value) (vs : List V) (Q : VK) (E : XK), L2H.RoomH k A → A.guards = some [] → Env0 P w K mg base A outer s H → BindsTo s fd args (ps.zip us) → Vals vs us → spF K mg F vs H Q E →
    codeAny (model P w) A (.call (.ref f) args) (CR (L2.CX P w) outer P w H s Q E) s
abbrev cxU (P : Program) (w : World) (K : KF) (mg : MG) (base : Heap) (N : List Str) (qual : Str) (scope : Scope) (f : Addr) (cd : Value) (A : Around) (outer : List PySem.Env) (s : Shared) (H : Hp) (E : XK) : Cx :=
  { cxOf (L2.CX P w) P w K mg base N qual scope f cd A outer s H E with calm := false }
theorem inv_startU {P : Program} {w : World} {K : KF} {mg : MG} {base : Heap} {N ps : List Str} {qual : Str} {scope : Scope} {f : Addr} {cd : Value} {A : Around} {outer : List PySem.Env} {s s1 : Shared} {H : Hp} {E : XK} {us : List Value} {vs : List V}
    (S : FnScope N ps scope) (e0 : Env0 P w K mg base A outer s H) (hl : vs.length = ps.length) (r : Vals vs us)
    (x : InCallC s s.heap.objs.size (bindL (envOfC qual scope s.heap.objs.size f cd).kindOf (ps.zip us) fun _ => none) (cellsFrom (s.heap.objs.size + 1) scope.names []) (bindC (envOfC qual scope s.heap.objs.size f cd).kindOf (ps.zip us) fun _ => none) s1) :
    Inv (cxU P w K mg base N qual scope f cd A outer s H E) [] (L2.start N vs) H s1 := by
  have e1 : Env0 P w K mg base { A with handled := none } outer s H := ⟨e0.frames, e0.mod, e0.bs, e0.bsz, e0.funs, e0.frf, e0.hok, e0.bare⟩
  have I := inv_start (CX := L2.CX P w) (E := E) S rfl e1 hl r x
  have ok := I.ok
  exact ⟨⟨ok.mod, ok.kind, ok.glob, ok.blt, ok.above, ok.inj, ok.has, ok.cab, (fun z => Bool.noConfusion (show false = true from z)), ok.frames, ok.stk, ok.exf, ok.bs, ok.bsz, ok.noex, ok.exfs, ok.funs, ok.frf⟩,
    I.os, I.bare, I.base, I.loc, I.cell, I.free, I.freeC, I.pin, I.hok, I.len⟩
theorem fnU_of {P : Program} {w : World} {K : KF} {mg : MG} {base : Heap} {k : Nat} {f : Addr} {name qual : Str} {params : Arguments} {body : List Stmt} {scope : Scope} {dV kV doc pm cdv ct oc : Value} {an od : Option Addr} {osl : Array (Option Value)} {N ps : List Str} {g : SM}
    (lk : K.lookup f = some ⟨oc, od, .func (PySem.W.fnOf name qual params body scope dV kV doc pm an cdv ct), osl⟩) (hcd : PySem.W.codeIn K cdv qual = true) (S : FnScope N ps scope)
    (hbody : ∀ (A : Around) (outer : List PySem.Env) (s : Shared) (H : Hp) (E : XK), L2H.RoomH k (A.deeper (envOfC qual scope s.heap.objs.size f cdv)) → A.guards = some [] →
      DSs (cxU P w K mg base N qual scope f cdv A outer s H E) (fun c d _ H => E c d H) body g) :
    FnU P w K mg base (k + 1) f (PySem.W.fnOf name qual params body scope dV kV doc pm an cdv ct) ps (runB ps.length N.length g) := by
  have hln : ∀ ss y, runB ps.length N.length g ss = some y → ss.length = ps.length := fun ss y e => by
    unfold runB at e
    split at e
    · assumption
    · cases e
  refine ⟨hln, fun A outer s H args us vs Q E hr hg e0 hb r hsp => ?_⟩
  obtain ⟨I, ss, o, ss', hs, pr, hF, post⟩ := hsp
  have hl : vs.length = ps.length := pr.len.trans (hln _ _ hF)
  have hpl : ps.length ≤ N.length := by
    have := congrArg List.length S.pre
    rw [List.length_take] at this
    omega
  have kept : ∀ b o, base.get? b = some o → s.heap.get? b = some o := fun b o e => (e0.bs b o e).1
  have KX := e0.mod.kin.keeps kept
  have lim := e0.mod.nolimit.keeps kept
  have hkind : ∀ y ∈ ps.zip us, scope.names.lookup y.1 = some .local ∨ (scope.names.lookup y.1 = some .cell ∧ ((cellsFrom (s.heap.objs.size + 1) scope.names []).lookup y.1).isSome = true) := fun y hy => (S.par y.1 (List.of_mem_zip (a := y.1) (b := y.2) hy).1).imp_right fun q => ⟨q, PySem.W.cellsFrom_some _ _ _ (.inl q)⟩
  refine codeAny_call_function hr.depth (KX _ _ lk) rfl S.co S.gen rfl (PySem.W.codeRec_of KX hcd) (hb _ _ _ _ ?_)
  refine wpAny_newFunctionEnv_cells S.kind hkind fun env he s1 x => ?_
  subst he
  refine ⟨lim.keeps x.toInCall.keep, codeAny_func ?_⟩
  have hr' : L2H.RoomH k (A.deeper (envOfC qual scope s.heap.objs.size f cdv)) := L2H.RoomH.deeper hr _
  have ht := hbody A outer s H E hr' hg
  have J : Inv (cxU P w K mg base N qual scope f cdv A outer s H E) [] (start N vs) H s1 := inv_startU S e0 hl r x
  have hgr : ∃ go r', g (ss.map some ++ List.replicate (N.length - ss.length) none) = some (go, r') ∧ outs ss r' = some ss' ∧
      ((∃ y, go = .rt y ∧ o = .ok y) ∨ (go = .nx ∧ o = .ok (.d .none)) ∨ ∃ y, go = .ex y ∧ o = .ex y) := by
    unfold runB at hF
    split at hF
    · split at hF
      · rename_i y r' e
        obtain ⟨o1, h1, h2⟩ := Option.map_eq_some_iff.mp hF
        cases h2
        exact ⟨_, r', e, h1, .inl ⟨y, rfl, rfl⟩⟩
      · rename_i r' e
        obtain ⟨o1, h1, h2⟩ := Option.map_eq_some_iff.mp hF
        cases h2
        exact ⟨_, r', e, h1, .inr (.inl ⟨rfl, rfl⟩)⟩
      · rename_i y r' e
        obtain ⟨o1, h1, h2⟩ := Option.map_eq_some_iff.mp hF
        cases h2
        exact ⟨_, r', e, h1, .inr (.inr ⟨y, rfl, rfl⟩)⟩
      · cases hF
    · cases hF
  obtain ⟨go, r', hg1, ho, hcase⟩ := hgr
  have hq : tS K mg (fun c d _ H => E c d H) g { nx := fun _ H' => Q .non H', rt := Q } (start N vs) H := by
    refine ⟨cnOf I H vs ss, I, _, go, r', rel_start hs pr (by rw [hln _ _ hF]; exact hpl), hg1, ?_⟩
    rcases hcase with ⟨y, rfl, rfl⟩ | ⟨rfl, rfl⟩ | ⟨y, rfl, rfl⟩
    · intro v s' I' H' R g1 t
      refine post v I' H' (after_of pr R ho) ?_
      cases y with
      | d y => exact t
      | bor m => exact t.elim
      | lck m => exact t.elim
      | own b m =>
        cases b with
        | true => exact t.elim
        | false =>
          obtain ⟨a, e, n, q, z, _⟩ := t
          exact ⟨a, e, z, n, q⟩
    · intro s' I' H' R g1
      exact post .non I' H' (after_of pr R ho) .non
    · intro c dx s' I' H' R g1 t
      exact post c dx I' H' (after_of pr R ho) t
  refine wpAny_mono (ht.run [] s1 (start N vs) H _ J hq) (fun fl s' hs => ?_) fun e s' hs => hs
  have fin : ∀ {σ' : L2.St} {H' : Hp} {v : V} {u : Value}, Inv (cxU P w K mg base N qual scope f cdv A outer s H E) [] σ' H' s' → RelV v u → Q v H' → CE outer P w H s Q u s' :=
    fun {σ' H' v u} J rv q => ⟨v, H', J.os, J.bare, J.base, J.hok, rv, q⟩
  exact match fl, hs with
  | .ret _, ⟨_, _, _, J, rv, q⟩ => fin J rv q
  | .next, ⟨_, _, J, q⟩ => fin (v := V.non) (u := Value.none) J rfl q
  | .brk, ⟨_, _, _, q⟩ => q.elim
  | .cont, ⟨_, _, _, q⟩ => q.elim
/-- a def of the text, by its body -/
theorem fun_okU {P : Program} {w : World} {K : KF} {mg : MG} {base : Heap} {x qual : Str} {st : Stmt} {f : Addr} {fd : FuncData} {N ps : List Str} {k : Nat} {g : SM} (F : Fun K x qual st f fd) (S : FnScope N ps (defScope st))
    (hbody : ∀ (cdv : Value) (A : Around) (outer : List PySem.Env) (s : Shared) (H : Hp) (E : XK), L2H.RoomH k (A.deeper (envOfC qual (defScope st) s.heap.objs.size f cdv)) → A.guards = some [] →
      DSs (cxU P w K mg base N qual (defScope st) f cdv A outer s H E) (fun c d _ H => E c d H) (defBody st) g) : FnU P w K mg base (k + 1) f fd ps (runB ps.length N.length g) := by
  obtain ⟨oc, od, kV, doc, pm, an, cdv, ct, osl, rfl, lk, hcd⟩ := F.ex
  exact fnU_of lk hcd S fun A outer s H E hr hg => hbody cdv A outer s H E hr hg
section
variable {X : Cx} {W : WX} {k : Nat} {f : Addr} {fd : FuncData} {ps : List Str} {F : FD} {x : Str} {p pos : Pos} {e : Expr} {es : List Expr} {os : List Od} {ms : List Bool}
theorem run_fnU {pins : List (Addr × Obj)} {σ : L2.St} {H : Hp} {s : Shared} {Q : VK} {us : List Value} {vs : List V} (G : FnU X.prog X.w X.K X.mg X.base k f fd ps F) (hr : L2H.RoomH k X.A) (hgd : X.A.guards = some []) (hb : Binds X.K fd ps []) (tk : Takes X W)
    (I : Inv X pins σ H s) (r : Vals vs us) (h : spF X.K X.mg F vs H Q fun c d H2 => W c d σ H2) : wpAny (model X.prog X.w) X.A (call (.ref f) us) (EP X pins σ Q) X.xe s := by
  have hl : us.length = ps.length := by
    obtain ⟨_, ss, _, _, _, pr, hF, _⟩ := id h
    rw [← r.length]
    exact pr.len.trans (G.len _ _ hF)
  have b := hb s us I.kIn (by rw [List.append_nil]; exact hl)
  rw [List.append_nil] at b
  refine wpAny_call (codeAny_mono (G.run X.A X.stack s H ⟨us, []⟩ us vs Q _ hr hgd I.env0 b r h) fun rr s' hq => ?_)
  cases rr with
  | error e => exact passAt tk σ pins H s e s' I hq
  | ok fl =>
    cases fl with
    | ret u => exact I.after hq
    | next => exact False.elim hq
    | brk => exact False.elim hq
    | cont => exact False.elim hq
theorem pe_callU {t : TA} (G : FnU X.prog X.w X.K X.mg X.base k f fd ps F) (hr : L2H.RoomH k X.A) (hgd : X.A.guards = some []) (hg : Gl X x) (hm : X.mg x = some (.ref f)) (hk : PySem.W.keepIn X.K (.ref f) = true) (hb : Binds X.K fd ps []) (tk : Takes X W)
    (ha : PA X (e :: es) t) (hdb : (x == ("__debug__" : Str)) = false := by decide) (he : starEach (e :: es) X.env = (false, eval e X.env) :: starEach es X.env := by rfl) (hpl : (backTo pos (starEach es X.env)).any (·.1) = false := by rfl) :
    PE X (.Call (.Name x p) (e :: es) [] pos) (tCallG X.K X.mg F W t) := by
  refine ⟨fun pins s σ H Q I h => ?_⟩
  refine wpAny_Call_Name_kw (ld_glob I hg hm ?_ hdb)
  refine PySem.W.callWith_K (h₀ := X.base) I.ok.mod.kin hk (thn (ha.run pos pins s σ H _ I h) fun us s1 ⟨vs, H1, I1, r, q⟩ => ⟨I1.kIn, ?_⟩) he hpl
  exact run_fnU G hr hgd hb tk I1 r q
theorem de_callU (G : FnU X.prog X.w X.K X.mg X.base k f fd ps F) (hr : L2H.RoomH k X.A) (hgd : X.A.guards = some []) (hg : Gl X x) (hm : X.mg x = some (.ref f)) (hk : PySem.W.keepIn X.K (.ref f) = true) (hb : Binds X.K fd ps []) (tk : Takes X W)
    (ha : DA X W (e :: es) os) (hdb : (x == ("__debug__" : Str)) = false := by decide) (he : starEach (e :: es) X.env = (false, eval e X.env) :: starEach es X.env := by rfl) (hpl : (backTo pos (starEach es X.env)).any (·.1) = false := by rfl) :
    DE X W (.Call (.Name x p) (e :: es) [] pos) (dCall F ms os) := pe_of (pe_callU G hr hgd hg hm hk hb tk ha hdb he hpl) fun _ _ _ q => call_ok q
def ClU (P : Program) (w : World) (K : KF) (mg : MG) (base : Heap) (k : Nat) (x : Str) (ps : List Str) (F : FD) : Prop :=
  ∃ (f : Addr) (fd : FuncData), FnU P w K mg base k f fd ps F ∧ mg x = some (.ref f) ∧ PySem.W.keepIn K (.ref f) = true ∧ Binds K fd ps []
theorem de_callCU {j : Nat} (c : ClU X.prog X.w X.K X.mg X.base j x ps F) (hr : L2H.RoomH j X.A) (hgd : X.A.guards = some []) (hg : Gl X x) (tk : Takes X W)
    (ha : DA X W (e :: es) os) (hdb : (x == ("__debug__" : Str)) = false := by decide) (he : starEach (e :: es) X.env = (false, eval e X.env) :: starEach es X.env := by rfl) (hpl : (backTo pos (starEach es X.env)).any (·.1) = false := by rfl) :
    DE X W (.Call (.Name x p) (e :: es) [] pos) (dCall F ms os) := by
  obtain ⟨f, fd, G, a, b, d⟩ := c
  exact de_callU G hr hgd hg a b d tk ha hdb he hpl
theorem takes_suite {X : Cx} {a : Addr} {pn : List (Addr × Obj)} : Takes (X.suite a pn) W0 := fun u s' ⟨_, _, _, _, _, _, _, _, _, _, _, _, _, _, _, _, w⟩ => w.elim
end
end DL
namespace DL
open PySem L2
theorem roomS {k : Nat} {A : Around} {h : Option Value} (r : Room k A) : L2H.RoomH k (A.mark h) := ⟨r.dp, r.un⟩
theorem roomU {k : Nat} {A : Around} (r : Room k A) : L2H.RoomH k A := ⟨r.dp, r.un⟩
theorem fldOk_nil {K : KF} {f : Str} : FldOk K [] f := fun _ h => by cases h
theorem fldOk_cons {K : KF} {f m : Str} {cl : List Str} {B : Addr} (h1 : PySem.W.nsIn K mainGlobals m = some (some (.ref B))) (h2 : XfC K B) (h3 : PySem.W.findIn K (.ref B) f = some none) (t : FldOk K cl f) : FldOk K (m :: cl) f := fun n h => by
  rcases List.mem_cons.mp h with rfl | h
  · exact ⟨B, h1, h2, h3⟩
  · exact t n h
end DL
namespace DL
open PySem L2
/-! ### the rules of simp: exceptions -/
section
variable {r : Env} {N : Env → Prop} {Q : O → Env → Prop}
def Wx2 (ss : List S) (P : D → D → Prop) (_u : Blk P := .mk) : Prop := match ss with
  | [.d x, .d y] => P x y
  | _ => False
@[simp] theorem wx2 {x y : D} {P : D → D → Prop} : Wx2 [.d x, .d y] P ↔ P x y := Iff.rfl
@[simp] theorem ws_raise2 {n f1 f2 : Str} {ods : List Od} : Ws (sRaise2 n f1 f2 ods) r N Q ↔ Wp (evO ods) r (fun os r1 => Wo (getAll r1 os) fun ss => Wx2 ss fun x y => Q (.ex ⟨n, [(f2, y), (f1, x)]⟩) r1) fun x r1 => Q (.ex x) r1 := by
  unfold sRaise2
  refine ws_sxC fun os r1 => ?_
  cases h : getAll r1 os with
  | none => simp [Ws, Wo, h]
  | some ss =>
    have : (some ss).bind datas = datas ss := rfl
    unfold Ws
    dsimp only
    rw [h, this]
    match ss with
    | [] => rfl
    | [.d x] => rfl
    | [.d x, .d y] => rfl
    | .d x :: .d y :: .d z :: t =>
      show (match (match datas (.d x :: .d y :: .d z :: t) with
        | some [x, y] => some (O.ex ⟨n, [(f2, y), (f1, x)]⟩, r1)
        | _ => none) with
        | some (.nx, r') => N r'
        | some (o, r') => Q o r'
        | none => False) ↔ False
      cases hd : datas t with
      | none => simp [datas, hd]
      | some ys => simp [datas, hd]
    | .bor m :: t => rfl
    | .lck m :: t => rfl
    | .own b m :: t => rfl
    | .d x :: .bor m :: t => rfl
    | .d x :: .lck m :: t => rfl
    | .d x :: .own b m :: t => rfl
    | .d x :: .d y :: .bor m :: t => rfl
    | .d x :: .d y :: .lck m :: t => rfl
    | .d x :: .d y :: .own b m :: t => rfl
@[simp] theorem ws_raise1 {n : Str} {od : Od} : Ws (sRaise1 n od) r N Q ↔ Wp (ev1 od) r (fun _ r1 => Q (.ex ⟨n, []⟩) r1) fun x r1 => Q (.ex x) r1 := by
  unfold sRaise1
  exact ws_sxC fun os r1 => Iff.rfl
def Wcat (o : Option Bool) (A B : Prop) (_u : Blk (A, B) := .mk) : Prop := match o with
  | some true => A
  | some false => B
  | none => False
@[simp] theorem wcat_t {A B : Prop} : Wcat (some true) A B ↔ A := Iff.rfl
@[simp] theorem wcat_f {A B : Prop} : Wcat (some false) A B ↔ B := Iff.rfl
def endQ (i : Nat) (Q : O → Env → Prop) : O → Env → Prop
  | .rt x, r => Q (.rt x) r
  | .ex _, _ => False
  | o, r => Q o (r.set i none)
def noQ (Q : O → Env → Prop) : O → Env → Prop
  | .ex _, _ => False
  | o, r => Q o r
@[simp] theorem endQ_rt {i : Nat} {x : S} : endQ i Q (.rt x) r ↔ Q (.rt x) r := Iff.rfl
@[simp] theorem endQ_ex {i : Nat} {x : Exc} : endQ i Q (.ex x) r ↔ False := Iff.rfl
@[simp] theorem endQ_bk {i : Nat} : endQ i Q .bk r ↔ Q .bk (r.set i none) := Iff.rfl
@[simp] theorem endQ_ct {i : Nat} : endQ i Q .ct r ↔ Q .ct (r.set i none) := Iff.rfl
@[simp] theorem noQ_rt {x : S} : noQ Q (.rt x) r ↔ Q (.rt x) r := Iff.rfl
@[simp] theorem noQ_ex {x : Exc} : noQ Q (.ex x) r ↔ False := Iff.rfl
@[simp] theorem noQ_bk : noQ Q .bk r ↔ Q .bk r := Iff.rfl
@[simp] theorem noQ_ct : noQ Q .ct r ↔ Q .ct r := Iff.rfl
def catQ (tbl : List (Str × Bool)) (i : Nat) (h : SM) (N : Env → Prop) (Q : O → Env → Prop) : O → Env → Prop
  | .ex x, r => Wcat (tbl.lookup x.cls) (Ws h (r.set i (some (.own false (.exc x)))) (fun r2 => N (r2.set i none)) (endQ i Q)) (Q (.ex x) r)
  | o, r => Q o r
def catQ0 (tbl : List (Str × Bool)) (h : SM) (N : Env → Prop) (Q : O → Env → Prop) : O → Env → Prop
  | .ex x, r => Wcat (tbl.lookup x.cls) (Ws h r N (noQ Q)) (Q (.ex x) r)
  | o, r => Q o r
section
variable {tbl : List (Str × Bool)} {i : Nat} {h g : SM} {x : Exc}
@[simp] theorem catQ_ex : catQ tbl i h N Q (.ex x) r ↔ Wcat (tbl.lookup x.cls) (Ws h (r.set i (some (.own false (.exc x)))) (fun r2 => N (r2.set i none)) (endQ i Q)) (Q (.ex x) r) := Iff.rfl
@[simp] theorem catQ_rt {y : S} : catQ tbl i h N Q (.rt y) r ↔ Q (.rt y) r := Iff.rfl
@[simp] theorem catQ_bk : catQ tbl i h N Q .bk r ↔ Q .bk r := Iff.rfl
@[simp] theorem catQ_ct : catQ tbl i h N Q .ct r ↔ Q .ct r := Iff.rfl
@[simp] theorem catQ0_ex : catQ0 tbl h N Q (.ex x) r ↔ Wcat (tbl.lookup x.cls) (Ws h r N (noQ Q)) (Q (.ex x) r) := Iff.rfl
@[simp] theorem catQ0_rt {y : S} : catQ0 tbl h N Q (.rt y) r ↔ Q (.rt y) r := Iff.rfl
@[simp] theorem catQ0_bk : catQ0 tbl h N Q .bk r ↔ Q .bk r := Iff.rfl
@[simp] theorem catQ0_ct : catQ0 tbl h N Q .ct r ↔ Q .ct r := Iff.rfl
@[simp] theorem ws_tryAs : Ws (sTryAs tbl i g h) r N Q ↔ Ws g r N (catQ tbl i h N Q) := by
  unfold Ws sTryAs
  cases e : g r with
  | none => simp
  | some z =>
    obtain ⟨o, r1⟩ := z
    cases o with
    | nx => rfl
    | bk => rfl
    | ct => rfl
    | rt y => rfl
    | ex y =>
      dsimp only [catQ]
      cases hl : tbl.lookup y.cls with
      | none => rfl
      | some b =>
        cases b with
        | false => rfl
        | true =>
          unfold calmS Ws Wcat
          dsimp only
          cases e2 : h (r1.set i (some (.own false (.exc y)))) with
          | none => rfl
          | some z =>
            obtain ⟨o2, r2⟩ := z
            cases o2 <;> rfl
@[simp] theorem ws_try : Ws (sTry tbl g h) r N Q ↔ Ws g r N (catQ0 tbl h N Q) := by
  unfold Ws sTry
  cases e : g r with
  | none => simp
  | some z =>
    obtain ⟨o, r1⟩ := z
    cases o with
    | nx => rfl
    | bk => rfl
    | ct => rfl
    | rt y => rfl
    | ex y =>
      dsimp only [catQ0]
      cases hl : tbl.lookup y.cls with
      | none => rfl
      | some b =>
        cases b with
        | false => rfl
        | true =>
          unfold calmS Ws Wcat
          dsimp only
          cases e2 : h r1 with
          | none => rfl
          | some z =>
            obtain ⟨o2, r2⟩ := z
            cases o2 <;> rfl
end
@[simp] theorem o_isx {tbl : List (Str × Bool)} {x : Exc} {P : S → Prop} : Wo (opIsx tbl [.bor (.exc x)]) P ↔ Wo (tbl.lookup x.cls) fun b => P (.d (.bool b)) := by
  have : opIsx tbl [.bor (.exc x)] = (tbl.lookup x.cls).map fun b => .d (.bool b) := rfl
  rw [this]
  cases tbl.lookup x.cls <;> rfl
@[simp] theorem o_fld {cl : List Str} {f : Str} {x : Exc} {P : S → Prop} : Wo (opFld cl f [.bor (.exc x)]) P ↔ x.cls ∈ cl ∧ Wo (x.fs.lookup f) fun d => P (.d d) := by
  have : opFld cl f [.bor (.exc x)] = if x.cls ∈ cl then (x.fs.lookup f).map .d else none := rfl
  rw [this]
  by_cases h : x.cls ∈ cl
  · rw [if_pos h]
    cases x.fs.lookup f <;> simp [Wo, h]
  · rw [if_neg h]
    exact ⟨fun z => z.elim, fun z => h z.1⟩
end
end DL
/-! ### dict(zip(t, u)) of two tuples -/
namespace DLZ
open PySem
/-- the walk of a zip of two tuples, i items drawn of each -/
structure Walk (TI i1 i2 l1 l2 : Addr) (xs ys : Array Value) (i : Nat) (h : Heap) : Prop where
  pair : IsPair h TI (.ref i1) (.ref i2)
  one : h.IsTupleIter i1 l1 i
  two : h.IsTupleIter i2 l2 i
  left : h.IsTuple l1 xs
  right : h.IsTuple l2 ys
theorem Walk.on {TI i1 i2 l1 l2 : Addr} {xs ys : Array Value} {i : Nat} {h g : Heap} (t : Walk TI i1 i2 l1 l2 xs ys i h) (k : ∀ c ∈ [TI, i1, i2, l1, l2], ∀ o, h.get? c = some o → g.get? c = some o) : Walk TI i1 i2 l1 l2 xs ys i g :=
  ⟨k TI (by simp) _ t.pair, t.one.at (k i1 (by simp)), t.two.at (k i2 (by simp)), t.left.at (k l1 (by simp)), t.right.at (k l2 (by simp))⟩
/-- all but three are as they were -/
def But3 (z i1 i2 : Addr) (h g : Heap) : Prop := ∀ c o, c ≠ z ∧ c ≠ i1 ∧ c ≠ i2 → h.get? c = some o → g.get? c = some o
section
variable {prog : Program} {w : World} {A : Around} {s : Shared} {z TI TO T i1 i2 l1 l2 : Addr} {f : Bool} {oT : Obj} {xs ys : Array Value} {i : Nat}
/-- a zip whose last pair is held tells a fresh pair of what its two iterators answer -/
theorem told {Q : Fin → Shared → Prop} {E : Value → Shared → Prop} (hz : IsZipHeld s.heap z TI TO T f) (hT : s.heap.get? T = some oT) (hTI : IsPair s.heap TI (.ref i1) (.ref i2))
    (go : ∀ g, IsZipHeld g z TI TO T true → Heap.SameBut z s.heap g → wpAny (model prog w) A (Builtin.SmallTypes.nextOf (.ref i1)) (fun x s2 => wpAny (model prog w) A (Builtin.SmallTypes.nextOf (.ref i2)) (fun y s3 =>
      Q (.done (.ret (.ref s3.heap.objs.size))) { s3 with heap := s3.heap.push { cls := .type "tuple", data := .seq #[x, y] } }) E s2) E { s with heap := g }) :
    wpAny (model prog w) A (Builtin.«zip.__next__» ⟨[.ref z], []⟩) Q E s := by
  show wpAny _ _ (field (.ref z) 2 >>= _) _ _ _
  refine wpAny_bind (wpAny_field hz rfl (x := .bool false) rfl (wpAny_bind (wpAny_field hz rfl (x := .ref TI) rfl (wpAny_bind (wpAny_seqItems hTI rfl ?_)))))
  show wpAny _ _ (Builtin.SmallTypes.ownedTupleIsFree (.ref z) >>= _) _ _ _
  refine wpAny_bind (wpAny_tupleHeld_zip hz hT fun g g1 g2 => ?_)
  have draw : ∀ {it : Addr} {s : Shared} {R : Option Value → Shared → Prop} {E : Value → Shared → Prop}, wpAny (model prog w) A (Builtin.SmallTypes.nextOf (.ref it)) (fun x => R (some x)) E s →
      wpAny (model prog w) A (Builtin.SmallTypes.nextOf (.ref it) >>= fun x => pure (some x)) R E s := fun {it s R E} h => wpAny_bind (wpAny_mono h (fun x s2 h2 => wpAny_pure h2) fun _ _ e => e)
  simp only [Bool.false_eq_true, if_false, ← Array.forIn_toList, List.forIn_cons, List.forIn_nil, bind_assoc, pure_bind]
  refine wpAny_bind (wpAny_holding (m := Builtin.SmallTypes.nextOf (.ref i1) >>= fun x => pure (some x)) (draw (wpAny_mono (go g g1 g2) (fun x s2 h2 => ?_) fun _ _ e => e)))
  simp only [pure_bind, bind_assoc]
  refine wpAny_bind (wpAny_holding (m := Builtin.SmallTypes.nextOf (.ref i2) >>= fun x => pure (some x)) (draw (wpAny_mono h2 (fun y s3 h3 => ?_) fun _ _ e => e)))
  simp only [pure_bind]
  exact wpAny_bind (wpAny_newTuple (wpAny_pure h3) (show 2 ≤ sizeLine by decide))
/-- both have one more: the next pair -/
theorem told_pair {Q : Fin → Shared → Prop} {E : Value → Shared → Prop} (D : ZipApart z TI TO i1 i2 l1 l2) (hz : IsZipHeld s.heap z TI TO T f) (hT : s.heap.get? T = some oT) (t : Walk TI i1 i2 l1 l2 xs ys i s.heap) {x y : Value} (ex : xs[i]? = some x) (ey : ys[i]? = some y)
    (q : ∀ g, IsZipHeld g z TI TO T true → Walk TI i1 i2 l1 l2 xs ys (i + 1) g → IsPair g s.heap.objs.size x y → But3 z i1 i2 s.heap g → Q (.done (.ret (.ref s.heap.objs.size))) { s with heap := g }) :
    wpAny (model prog w) A (Builtin.«zip.__next__» ⟨[.ref z], []⟩) Q E s := by
  refine told hz hT t.pair fun g g1 g2 => ?_
  have k1 : ∀ c o, c ≠ z → s.heap.get? c = some o → g.get? c = some o := fun c o h e => g2.extBut _ _ h e
  refine RZ.nextOf_tuple_item (s := { s with heap := g }) (t.one.at fun o => k1 _ o D.i1z) (t.left.at fun o => k1 _ o D.l1z) ex fun u u1 u2 => ?_
  have k2 : ∀ c o, c ≠ z ∧ c ≠ i1 → s.heap.get? c = some o → u.get? c = some o := fun c o h e => u2.extBut _ _ h.2 (k1 c o h.1 e)
  refine RZ.nextOf_tuple_item (s := { s with heap := u }) (t.two.at fun o => k2 _ o ⟨D.i2z, D.i12.symm⟩) (t.right.at fun o => k2 _ o ⟨D.l2z, D.l2i1⟩) ey fun v v1 v2 => ?_
  have k3 : But3 z i1 i2 s.heap v := fun c o h e => v2.extBut _ _ h.2.2 (k2 c o ⟨h.1, h.2.1⟩ e)
  have size : v.objs.size = s.heap.objs.size := v2.1.trans (u2.1.trans g2.1)
  have up : ∀ {c o}, v.get? c = some o → (v.push { cls := .type "tuple", data := .seq #[x, y] }).get? c = some o := fun e => Heap.get?_push_of_some _ e
  show Q (.done (.ret (.ref v.objs.size))) _
  rw [size]
  refine q _ (up (v2.extBut _ _ D.i2z.symm (u2.extBut _ _ D.i1z.symm g1))) ⟨up (k3 _ _ ⟨D.TIz, D.TIi1, D.TIi2⟩ t.pair), (u1.at fun o e => v2.extBut _ _ D.i12 e).at fun o => up, v1.at fun o => up, t.left.at fun o e => up (k3 _ o ⟨D.l1z, D.l1i1, D.l1i2⟩ e), t.right.at fun o e => up (k3 _ o ⟨D.l2z, D.l2i1, D.l2i2⟩ e)⟩ ?_ fun c o h e => up (k3 c o h e)
  rw [← size]
  exact Heap.get?_push_size _ rfl
/-- one of them is at its end: the walk ends -/
theorem told_end {Q : Fin → Shared → Prop} {E : Value → Shared → Prop} (hh : A.handled = none) (D : ZipApart z TI TO i1 i2 l1 l2) (hz : IsZipHeld s.heap z TI TO T f) (hT : s.heap.get? T = some oT) (t : Walk TI i1 i2 l1 l2 xs ys i s.heap) (last : ¬ (i < xs.size ∧ i < ys.size))
    (q : ∀ g e o, But3 z i1 i2 s.heap g → g.get? e = some o → o.cls = .type "StopIteration" → E (.ref e) { s with heap := g }) :
    wpAny (model prog w) A (Builtin.«zip.__next__» ⟨[.ref z], []⟩) Q E s := by
  refine told hz hT t.pair fun g g1 g2 => ?_
  have k1 : ∀ c o, c ≠ z → s.heap.get? c = some o → g.get? c = some o := fun c o h e => g2.extBut _ _ h e
  by_cases hx : i < xs.size
  · refine RZ.nextOf_tuple_item (s := { s with heap := g }) (t.one.at fun o => k1 _ o D.i1z) (t.left.at fun o => k1 _ o D.l1z) (Array.getElem?_eq_getElem hx) fun u u1 u2 => ?_
    have k2 : ∀ c o, c ≠ z ∧ c ≠ i1 → s.heap.get? c = some o → u.get? c = some o := fun c o h e => u2.extBut _ _ h.2 (k1 c o h.1 e)
    refine RZ.nextOf_tuple_end (s := { s with heap := u }) hh (t.two.at fun o => k2 _ o ⟨D.i2z, D.i12.symm⟩) (t.right.at fun o => k2 _ o ⟨D.l2z, D.l2i1⟩) (Array.getElem?_eq_none (Nat.le_of_not_lt fun hy => last ⟨hx, hy⟩)) fun v e v2 ⟨o, ho, hc⟩ => ?_
    exact q v e o (fun c o h x => v2 _ _ h.2.2 (k2 c o ⟨h.1, h.2.1⟩ x)) ho hc
  · refine RZ.nextOf_tuple_end (s := { s with heap := g }) hh (t.one.at fun o => k1 _ o D.i1z) (t.left.at fun o => k1 _ o D.l1z) (Array.getElem?_eq_none (Nat.le_of_not_lt hx)) fun u e u2 ⟨o, ho, hc⟩ => ?_
    exact q u e o (fun c o h x => u2 _ _ h.2.1 (k1 c o h.1 x)) ho hc
/-- what next() makes of a turn -/
theorem next_by {Q : Option Value → Shared → Prop} {E : Value → Shared → Prop} (hz : IsZipHeld s.heap z TI TO T f)
    (turn : wpAny (model prog w) A.in1 (Builtin.«zip.__next__» ⟨[.ref z], []⟩) (fun fin s' => ∃ v, fin = .done (.ret v) ∧ Q (some v) s') (fun e s' => (∃ a o, e = .ref a ∧ s'.heap.get? a = some o ∧ o.cls = .type "StopIteration") ∧ Q none s') s) :
    wpAny (model prog w) A (pyNext (.ref z)) Q E s := by
  have ty : s.TypeIs (.ref z) "zip" := ⟨_, hz, rfl⟩
  have raw := wpAny_call_entry (Q := fun v => Q (some v)) F.slot_zip_next ty F.entry_zip_next turn (F.args_zip_next_1 _)
  unfold pyNext
  refine wpAny_bind (wpAny_attempt (wpAny_mono (wpAny_callSpecial?_slot (Q := fun r s' => ∃ v, r = some v ∧ Q (some v) s') (name := Str.ofString "__next__") ty F.slot_zip_next (wpAny_mono raw (fun v s' h => ⟨v, rfl, h⟩) fun _ _ h => h)) ?_ ?_))
  · rintro r s' ⟨v, rfl, h⟩
    exact wpAny_pure h
  · rintro e s' ⟨⟨a, o, rfl, ho, hc⟩, h⟩
    exact wpAny_bind (wpAny_isInstance (T := "StopIteration") (b := true) ⟨o, ho, hc⟩ isSubtype_stop (wpAny_pure h))
end
/-- what the zip itself holds while dict() fills d: not yet a pair, or a pair that stands apart -/
def Hold (z TI TO i1 i2 d : Addr) (h : Heap) : Prop := (IsZip h z TI TO .none ∧ ∃ a b, IsPair h TO a b) ∨ ∃ T f oT, IsZipHeld h z TI TO T f ∧ h.get? T = some oT ∧ T ∉ [z, i1, i2, d]
theorem src {prog : Program} {w : World} {A : Around} {z TI TO i1 i2 l1 l2 d : Addr} (hh : A.handled = none) (D : ZipApart z TI TO i1 i2 l1 l2) (xs ys : Array Value) (hd : d ∉ [z, TI, TO, i1, i2, l1, l2]) :
    PairSrc prog w A z d [z, TO, i1, i2] (min xs.size ys.size) (fun i k v => xs[i]? = some k ∧ ys[i]? = some v) (fun i h => Walk TI i1 i2 l1 l2 xs ys i h ∧ Hold z TI TO i1 i2 d h) := by
  have ne : ∀ {c}, c ∈ [z, TI, TO, i1, i2, l1, l2] → c ≠ d := fun hc e => hd (e ▸ hc)
  constructor
  · exact fun h => hd (by simp only [List.mem_cons, List.not_mem_nil, or_false] at h ⊢; rcases h with h | h | h | h <;> simp [h])
  · rintro i h g ⟨t, hold⟩ k
    have kk : ∀ c ∈ [z, TI, TO, i1, i2, l1, l2], ∀ o, h.get? c = some o → g.get? c = some o := fun c hc o => k c o (ne hc)
    refine ⟨t.on fun c hc => kk c (List.mem_cons_of_mem _ (by simp only [List.mem_cons, List.not_mem_nil, or_false] at hc ⊢; rcases hc with h | h | h | h | h <;> simp [h])), ?_⟩
    rcases hold with ⟨hz, a, b, e⟩ | ⟨T, f, oT, hz, hT, hn⟩
    · exact .inl ⟨kk z (by simp) _ hz, a, b, kk TO (by simp) _ e⟩
    · exact .inr ⟨T, f, oT, kk z (by simp) _ hz, k T _ (fun e => hn (by simp [e])) hT, hn⟩
  · rintro i s Q E hi ⟨t, hold⟩ hds q
    obtain ⟨hx, hy⟩ := Nat.lt_min.mp hi
    have ex := Array.getElem?_eq_getElem hx
    have ey := Array.getElem?_eq_getElem hy
    have old : ∀ {c o}, s.heap.get? c = some o → s.heap.objs.size ≠ c := fun e => Nat.ne_of_gt (Heap.lt_size e)
    have o1 : s.heap.objs.size ≠ i1 := let ⟨_, e, _⟩ := t.one; old e
    have o2 : s.heap.objs.size ≠ i2 := let ⟨_, e, _⟩ := t.two; old e
    rcases hold with ⟨hz, a, b, e⟩ | ⟨T, f, oT, hz, hT, hn⟩
    · refine RZ.pyNext_zipT_item D hz t.pair e t.one t.two t.left t.right ex ey fun g z1 _ n1 n2 new _ k => ?_
      have kl : ∀ c ∈ [TI, l1, l2], ∀ o, s.heap.get? c = some o → g.get? c = some o := fun c hc o => by
        simp only [List.mem_cons, List.not_mem_nil, or_false] at hc
        rcases hc with rfl | rfl | rfl
        · exact k _ o D.TIz D.TITO D.TIi1 D.TIi2
        · exact k _ o D.l1z D.l1TO D.l1i1 D.l1i2
        · exact k _ o D.l2z D.l2TO D.l2i1 D.l2i2
      refine q _ _ _ g s.toks ⟨ex, ey⟩ (.inl ⟨_, new, rfl, _, rfl⟩) ⟨⟨kl TI (by simp) _ t.pair, n1, n2, t.left.at (kl l1 (by simp)), t.right.at (kl l2 (by simp))⟩, .inr ⟨_, false, _, z1, new, ?_⟩⟩ fun c o hc => ?_
      · simp only [List.mem_cons, List.not_mem_nil, or_false, not_or]
        exact ⟨old hz, o1, o2, Nat.ne_of_gt hds⟩
      · simp only [List.mem_cons, List.not_mem_nil, or_false, not_or] at hc
        exact k c o hc.1 hc.2.1 hc.2.2.1 hc.2.2.2
    · simp only [List.mem_cons, List.not_mem_nil, or_false, not_or] at hn
      refine next_by hz (told_pair D hz hT t ex ey fun g z1 t1 new k => ⟨_, rfl, ?_⟩)
      refine q _ _ _ g s.toks ⟨ex, ey⟩ (.inl ⟨_, new, rfl, _, rfl⟩) ⟨t1, .inr ⟨T, true, oT, z1, k T _ ⟨hn.1, hn.2.1, hn.2.2.1⟩ hT, ?_⟩⟩ fun c o hc => ?_
      · simp only [List.mem_cons, List.not_mem_nil, or_false, not_or]
        exact hn
      · simp only [List.mem_cons, List.not_mem_nil, or_false, not_or] at hc
        exact k c o ⟨hc.1, hc.2.2.1, hc.2.2.2⟩
  · rintro s Q E ⟨t, hold⟩ q
    have last : ¬ (min xs.size ys.size < xs.size ∧ min xs.size ys.size < ys.size) := by omega
    rcases hold with ⟨hz, a, b, e⟩ | ⟨T, f, oT, hz, hT, hn⟩
    · refine RZ.pyNext_zipT_end hh D hz t.pair e t.one t.two t.left t.right ?_ fun g k => q g s.toks fun c o hc => ?_
      · by_cases hx : min xs.size ys.size < xs.size
        · exact .inr (Array.getElem?_eq_none (Nat.le_of_not_lt fun hy => last ⟨hx, hy⟩))
        · exact .inl (Array.getElem?_eq_none (Nat.le_of_not_lt hx))
      · simp only [List.mem_cons, List.not_mem_nil, or_false, not_or] at hc
        exact k c o hc.1 hc.2.1 hc.2.2.1 hc.2.2.2
    · refine next_by hz (told_end hh D hz hT t last fun g e o k ho hc => ⟨⟨e, o, rfl, ho, hc⟩, q g s.toks fun c o hc => ?_⟩)
      simp only [List.mem_cons, List.not_mem_nil, or_false, not_or] at hc
      exact k c o ⟨hc.1, hc.2.2.1, hc.2.2.2⟩
/-- a fresh zip of two tuples may stand as dict()'s argument -/
theorem pairArg_zip {prog : Program} {w : World} (z TI TO i1 i2 l1 l2 : Addr) (D : ZipApart z TI TO i1 i2 l1 l2) (xs ys : Array Value) :
    PairArg prog w "zip" z [z, TI, TO, i1, i2, l1, l2] [z, TO, i1, i2] (min xs.size ys.size) (fun i k v => xs[i]? = some k ∧ ys[i]? = some v)
      (fun h => (IsZip h z TI TO .none ∧ ∃ a b, IsPair h TO a b) ∧ Walk TI i1 i2 l1 l2 xs ys 0 h) := by
  constructor
  · exact fun s h => ⟨_, h.1.1, rfl⟩
  · decide
  · exact fun h g ⟨⟨hz, a, b, e⟩, t⟩ k => ⟨⟨k _ _ hz, a, b, k _ _ e⟩, t.on fun c _ => k c⟩
  · rintro h ⟨⟨hz, a, b, e⟩, t⟩ c hc
    have : c = z ∨ c = TI ∨ c = TO ∨ c = i1 ∨ c = i2 ∨ c = l1 ∨ c = l2 := by simpa using hc
    rcases this with rfl | rfl | rfl | rfl | rfl | rfl | rfl
    · exact ⟨_, hz⟩
    · exact ⟨_, t.pair⟩
    · exact ⟨_, e⟩
    · exact t.one.imp fun _ h => h.1
    · exact t.two.imp fun _ h => h.1
    · exact t.left.imp fun _ h => h.1
    · exact t.right.imp fun _ h => h.1
  · intro c hc
    simp only [List.mem_cons, List.not_mem_nil, or_false] at hc ⊢
    rcases hc with h | h | h | h <;> simp [h]
  · exact fun A s Q E hA h q => getAttrOr_miss_zip h.1.1 rfl rfl rfl zip_no_keys (by decide +kernel) hA q
  · exact fun A s d Q E hA h _ hd q => wpAny_pyIter_zip h.1.1 (q z _ _ s.heap s.toks (src hA D xs ys hd) ⟨h.2, .inl h.1⟩ (fun _ _ e => e) fun c hc => .inl hc)
end DLZ
namespace DL
open PySem L2 PyProof.Rows
variable {X : Cx} {W : WX} {pos : Pos}
/-- dict(zip(x, y)), x and y tuples, the first one's items keys -/
def tDictZip (K : KF) (ta : TA) : TE := fun σ H Q => ta σ H fun vs H1 => ∃ (a b : Addr) (xs ys : List V) (ks : List Key), vs = [.ref a, .ref b] ∧ SqT K H1 a xs ∧ SqT K H1 b ys ∧ xs = ks.map kV ∧
  ∀ p, H1 p = none → Q (.ref p) (upd H1 p (.dK (mergeK [] (ks.zip ys))))
theorem kvs_zip {K : KF} {P : Program} {w : World} : ∀ {ks : List Key} {ys : List V} {its its2 : List Value}, Vals (ks.map kV) its → Vals ys its2 → ∃ prs : List (Key × Value), KV (ks.zip ys) prs ∧ prs.length = min its.length its2.length ∧
    ∀ (i : Nat) (k v : Value), its[i]? = some k → its2[i]? = some v → ∃ key : Key, prs[i]? = some (key, v) ∧ (mixKind P w).is key k = true
  | [], ys, its, its2, r, r2 => by
    cases r
    exact ⟨[], .nil, by simp, fun i k v e => by simp at e⟩
  | k :: ks, [], its, its2, r, r2 => by
    cases r2
    exact ⟨[], .nil, by simp, fun i k v e e2 => by simp at e2⟩
  | k :: ks, y :: ys, its, its2, r, r2 => by
    rw [List.map_cons] at r
    cases r with
    | cons h t =>
      cases r2 with
      | cons h2 t2 =>
        obtain ⟨prs, p1, p2, p3⟩ := kvs_zip (K := K) (P := P) (w := w) t t2
        refine ⟨(k, _) :: prs, .cons ⟨rfl, h2⟩ p1, by simp [p2], fun i kk v e e2 => ?_⟩
        cases i with
        | zero =>
          simp at e e2
          subst e e2
          exact ⟨k, by simp, kV_is h⟩
        | succ i => exact p3 i kk v (by simpa using e) (by simpa using e2)
theorem pe_dictZip {X : Cx} {e e2 : Expr} {ta : TA} {p p2 pos pos2 : Pos} (hc : X.calm = true) (hg : Gl X "dict") (hm : X.mg "dict" = none) (hg2 : Gl X "zip") (hm2 : X.mg "zip" = none) (ha : PA X [e, e2] ta)
    (hs : starEach [e, e2] X.env = (false, eval e X.env) :: starEach [e2] X.env := by rfl) (hpl : (backTo pos2 (starEach [e2] X.env)).any (·.1) = false := by rfl)
    (hs2 : starEach [.Call (.Name "zip" p2) [e, e2] [] pos2] X.env = (false, eval (.Call (.Name "zip" p2) [e, e2] [] pos2) X.env) :: starEach [] X.env := by rfl) :
    PE X (.Call (.Name "dict" p) [.Call (.Name "zip" p2) [e, e2] [] pos2] [] pos) (tDictZip X.K ta) := by
  refine ⟨fun pins s σ H Q I h => ?_⟩
  refine Call_ (ld_blt I hg hm boot_dict (PyProof.Rows.callWith_type1 (args_cons (Call_ (ld_blt I hg2 hm2 PyProof.Rows.boot_zip (PyProof.Rows.callWith_type1 (thn (ha.run pos2 pins s σ H _ I h) fun us s1 ⟨vs, H1, I1, r1, q1⟩ => ?_) hs hpl))) hs2) hs2 rfl))
  obtain ⟨a, b, xs, ys, ks, ex, hqx, hqy, ek, q⟩ := q1
  subst ex ek
  cases r1 with
  | cons r rr =>
    cases rr with
    | cons r' rr =>
      cases rr
      cases r
      cases r'
      obtain ⟨its, rv, p1, hz1⟩ := I1.tuple hqx
      obtain ⟨its2, rv2, p2, hz2⟩ := I1.tuple hqy
      obtain ⟨o1, ho1, _⟩ := id p1
      obtain ⟨o2, ho2, _⟩ := id p2
      refine RZ.call_zipT (show s1.heap.IsTuple a its.toArray from p1) (show s1.heap.IsTuple b its2.toArray from p2) fun h' hz hTI hTO h1 h2 hsz hk => args_nil ?_
      obtain ⟨prs, e1, e2, e3⟩ := kvs_zip (K := X.K) (P := X.prog) (w := X.w) rv rv2
      have I2 : Inv X pins σ H1 { s1 with heap := h' } := I1.kept (t' := s1.toks) hk
      have hlen : (ks.zip ys).length = min its.length its2.length := by rw [e1.length, e2]
      have l1 := rv.length
      refine call_dict_pairs (prog := X.prog) (w := X.w) (knd := mixKind X.prog X.w) (kvs := prs) (DLZ.pairArg_zip _ _ _ _ _ a b (PySem.W.ktu_apart s1.heap.objs.size a b (Heap.lt_size ho1) (Heap.lt_size ho2)) its.toArray its2.toArray) (I2.ok.hd hc)
        ⟨⟨hz, _, _, hTO⟩, hTI, h1, h2, IsTup.keeps p1 hk, IsTup.keeps p2 hk⟩ ⟨by simp [e2], fun i k v hkv => e3 i k v (by simpa using hkv.1) (by simpa using hkv.2)⟩ (by simp; omega) fun h2 tk hd' k => ?_
      have hm : (h'.objs.size == sysModules) = false := beq_eq_false_iff_ne.mpr (Nat.ne_of_gt I2.big)
      have hl2 : (mergeK [] (ks.zip ys)).length ≤ sizeLine := by
        refine Nat.le_trans (length_mergeK (ks.zip ys) []) ?_
        rw [List.length_nil, Nat.zero_add, hlen]
        omega
      have hb : ∀ c, c ∈ [s1.heap.objs.size + 4, s1.heap.objs.size + 3, s1.heap.objs.size, s1.heap.objs.size + 1] → FpOk X pins H1 c := fun c hcm => by
        have e' : c = s1.heap.objs.size + 4 ∨ c = s1.heap.objs.size + 3 ∨ c = s1.heap.objs.size ∨ c = s1.heap.objs.size + 1 := by simpa using hcm
        have hle : s1.heap.objs.size ≤ c := by omega
        exact I1.fpOk hle (I1.hok.fresh hle)
      obtain ⟨G, g1, g2⟩ := restrict h2 fun b => decide (b ≠ h'.objs.size)
      have I3 : Inv X pins σ H1 { ({ s1 with heap := h' } : Shared) with heap := G, toks := tk } := I2.turnedL (t' := tk) (ch := [s1.heap.objs.size + 4, s1.heap.objs.size + 3, s1.heap.objs.size, s1.heap.objs.size + 1]) (fun c o hc e => by
        rw [g1 c (decide_eq_true (Nat.ne_of_lt (Heap.lt_size e)))]
        exact k c o hc e) hb
      have hn : H1 h'.objs.size = none := I2.hok.fresh (Nat.le_refl _)
      exact ⟨.ref h'.objs.size, upd H1 h'.objs.size (.dK (mergeK [] (ks.zip ys))), I3.laidN (t' := tk) (fun c o e => by
        by_cases hcc : c = h'.objs.size
        · subst hcc
          rw [g2 _ (by simp)] at e
          cases e
        · rwa [g1 c (decide_eq_true hcc)] at e) (g2 _ (by simp)) hn (show ObjOk X.prog X.w _ _ _ (.dK (mergeK [] (ks.zip ys))) from ⟨hl2, hm, merged [] prs, KV.merge e1 .nil, hd'⟩), rfl, q _ hn⟩
def keyL : List D → Option (List Key)
  | [] => some []
  | d :: t => (keyOf d).bind fun k => (keyL t).map fun ks => k :: ks
theorem keyL_ok {K : KF} {I : Hp} : ∀ {vs : List V} {xs : List D} {ks : List Key}, DpAll K I vs xs → keyL xs = some ks → vs = ks.map kV
  | _, _, ks, .nil, e => by cases e; rfl
  | _, _, ks, .cons h t, e => by
    unfold keyL at e
    obtain ⟨k, e1, e⟩ := Option.bind_eq_some_iff.mp e
    obtain ⟨ks', e2, e⟩ := Option.map_eq_some_iff.mp e
    subst e
    rw [List.map_cons, ← keyL_ok t e2, keyOf_ok h e1]
theorem kvd_zip {K : KF} {I : Hp} : ∀ {ks : List Key} {vs : List V} {ys : List D}, DpAll K I vs ys → KvD K I (ks.zip vs) (ks.zip ys)
  | [], _, _, _ => .nil
  | _ :: _, _, _, .nil => .nil
  | k :: ks, _, _, .cons h t => .cons ⟨rfl, h⟩ (kvd_zip t)
def zipD : List S → Option S
  | [p, q] => (tupS p).bind fun xs => (tupS q).bind fun ys => (keyL xs).map fun ks => .own false (.dic (mergeD [] (ks.zip ys)))
  | _ => none
theorem zipD_ok {K : KF} {mg : MG} {s : L2.St} {H : Hp} {o o2 : Od} {Q : VK} (h : tE K mg W (dApp [o, o2] zipD) s H Q) : tDictZip K (tOds K mg W [o, o2]) s H Q := by
  refine app_gen (P := fun vs H1 => ∃ (a b : Addr) (xs ys : List V) (ks : List Key), vs = [.ref a, .ref b] ∧ SqT K H1 a xs ∧ SqT K H1 b ys ∧ xs = ks.map kV ∧ ∀ p, H1 p = none → Q (.ref p) (upd H1 p (.dK (mergeK [] (ks.zip ys))))) h fun C I r vs ss x H1 R aa e q => ?_
  unfold zipD at e
  split at e
  · obtain ⟨xs, e1, e⟩ := Option.bind_eq_some_iff.mp e
    obtain ⟨ys, e2, e⟩ := Option.bind_eq_some_iff.mp e
    obtain ⟨ks, e3, e⟩ := Option.map_eq_some_iff.mp e
    cases e
    obtain ⟨p1, p2, e4, a1, a2⟩ : ∃ u1 u2, vs = [u1, u2] ∧ ARel K I H1 u1 _ ∧ ARel K I H1 u2 _ := by
      cases aa with
      | cons a b =>
        cases b with
        | cons b c =>
          cases c
          exact ⟨_, _, rfl, a, b⟩
    subst e4
    obtain ⟨a, vs1, rfl, h1, da⟩ := tupS_ok R.sub a1 e1
    obtain ⟨b, vs2, rfl, h2, db⟩ := tupS_ok R.sub a2 e2
    refine ⟨a, b, vs1, vs2, ks, rfl, h1, h2, keyL_ok da e3, fun p hp => ?_⟩
    have gr := grow_own (o := .dK (mergeK [] (ks.zip vs2))) R.sub hp
    exact q _ I _ gr ⟨p, rfl, hp, R.sub.free hp, _, upd_same, kvd_merge (kvd_zip db) .nil⟩
  · cases e
theorem de_dictZip {e e2 : Expr} {o o2 : Od} {p p2 pos2 : Pos} (hc : X.calm = true) (hg : Gl X "dict") (hm : X.mg "dict" = none) (hg2 : Gl X "zip") (hm2 : X.mg "zip" = none) (ha : DA X W [e, e2] [o, o2])
    (hs : starEach [e, e2] X.env = (false, eval e X.env) :: starEach [e2] X.env := by rfl) (hpl : (backTo pos2 (starEach [e2] X.env)).any (·.1) = false := by rfl)
    (hs2 : starEach [.Call (.Name "zip" p2) [e, e2] [] pos2] X.env = (false, eval (.Call (.Name "zip" p2) [e, e2] [] pos2) X.env) :: starEach [] X.env := by rfl) :
    DE X W (.Call (.Name "dict" p) [.Call (.Name "zip" p2) [e, e2] [] pos2] [] pos) (dApp [o, o2] zipD) := pe_of (pe_dictZip hc hg hm hg2 hm2 ha hs hpl hs2) fun s H Q q => zipD_ok q
@[simp] theorem o_zip {p q : S} {P : S → Prop} : Wo (zipD [p, q]) P ↔ Wo (tupS p) fun xs => Wo (tupS q) fun ys => Wo (keyL xs) fun ks => P (.own false (.dic (mergeD [] (ks.zip ys)))) := by
  show Wo ((tupS p).bind fun xs => (tupS q).bind fun ys => (keyL xs).map fun ks => S.own false (.dic (mergeD [] (ks.zip ys)))) P ↔ _
  rw [wo_bind]
  cases tupS p with
  | none => rfl
  | some xs =>
    rw [wo_some, wo_some, wo_bind]
    cases tupS q with
    | none => rfl
    | some ys => exact wo_map
end DL
/-! ### E.index(x), E a list just made or handed on -/
namespace DL
open PySem L2 PyProof.Rows
variable {X : Cx} {W : WX} {pos : Pos}
def idxO (xs : List D) : List S → Option S
  | [.d d] => if d.depth ≤ 60 ∧ xs.length ≤ 16777216 then (xs.findIdx? fun y => PyData.eqv y d).map fun j => .d (.int (j : Nat)) else none
  | _ => none
def dIdx (o : Od) (ods : List Od) : EF S := eb (ev1 o) fun ov r => match ov.get r with
  | some (.d (.list xs)) => dApp ods (idxO xs) r
  | _ => none
theorem map_eqTo {h : Heap} {d : D} : ∀ {us : List Value} {xs : List D} {as : List Addr}, ReadsAll h us xs as → us.map (eqTo h d) = xs.map fun y => PyData.eqv y d
  | _, _, _, .nil => rfl
  | _, _, _, .cons r rs => by rw [List.map_cons, List.map_cons, eqTo_of r, map_eqTo rs]
theorem mt_idxD (hu : X.A.units + 64 < cLine) (xs : List D) : MtR X "list.index" fun x vs H Q => Dp X.K H x (.list xs) ∧ rApp X.K (idxO xs) vs H Q := by
  intro pins s σ H x vs v us Q I rx rv h
  obtain ⟨hx, I', ss, z, g, p, e, q⟩ := h
  unfold idxO at e
  split at e
  · rename_i d
    split at e
    · rename_i hm
      obtain ⟨j, hj, e⟩ := Option.map_eq_some_iff.mp e
      cases e
      cases p with
      | cons a1 a2 =>
        cases a2
        rename_i y
        have hy : Dp X.K H y d := dp_up g _ _ a1
        obtain ⟨u, eu, ry⟩ := vals1 rv
        subst eu
        obtain ⟨bs, rd⟩ := Dp.reads I d y u hy ry
        cases hx with
        | lst hs ha =>
          cases rx
          obtain ⟨its, r, ⟨o, n, ho, hc, hdn, hdt⟩, hlen⟩ := I.list hs
          obtain ⟨cls, dd, data, sls⟩ := o
          simp only at hc hdt
          subst hc hdt
          obtain ⟨as, ra⟩ := Dp.readsAll I xs _ its ha r
          have hr : X.A.units + 1 + d.depth < cLine := by omega
          have hi := items_eqTo (A := X.A) ra rd (dpa_nd _ _ ha) (dp_nd _ _ hy) hr
          have hmap := map_eqTo (d := d) ra
          have hl : its.length = xs.length := by simpa using congrArg List.length hmap
          obtain ⟨h1, h2, h3⟩ := List.findIdx?_eq_some_iff_getElem.mp hj
          have at_ : ∀ m (hm : m < its.length), eqTo s.heap d its[m] = PyData.eqv (xs[m]'(by omega)) d := fun m hm => by
            have := congrArg (fun l => l[m]?) hmap
            simp only [List.getElem?_map, List.getElem?_eq_getElem hm, List.getElem?_eq_getElem (show m < xs.length by omega), Option.map_some] at this
            exact Option.some.inj this
          have hsl := sizeLine_eq
          have hjs : j < its.toArray.size := by simp; omega
          refine call_meets PySem.F.slot_list_index ⟨_, ho, rfl⟩ PySem.F.entry_list_index (PySem.F.args_list_index_2 _ _)
            (SeqAt.list_indexAt _ its.toArray n dd sls u (eqTo s.heap d) j hjs (by omega) ?_ fun m hm2 hmj => ?_) ⟨ho, fun w hw => hi w (by simpa using hw), ?_⟩
          · have := at_ j (by omega)
            simp only [List.getElem_toArray]
            rw [this]
            exact h2
          · have := at_ m (by omega)
            simp only [List.getElem_toArray]
            rw [this]
            simpa using h3 m hmj
          · exact ⟨.int (j : Nat), H, I.tok _, ⟨_, rfl⟩, q _ I' H (Grow.refl g) (.int _)⟩
    · cases e
  · cases e
theorem mt_idxR (hu : X.A.units + 64 < cLine) : MtR X "list.index" fun x vs H Q => ∃ xs, Dp X.K H x (.list xs) ∧ rApp X.K (idxO xs) vs H Q := by
  intro pins s σ H x vs v us Q I rx rv h
  obtain ⟨xs, h⟩ := h
  exact mt_idxD hu xs pins s σ H x vs v us Q I rx rv h
theorem de_idx {o e : Expr} {oo oe : Od} {apos : Pos} (hu : X.A.units + 64 < cLine) (ho : DO X W o oo) (ha : DA X W [e] [oe])
    (hbase : attributeBase o "index" X.env (eval o X.env) = eval o X.env := by rfl)
    (hfew : ((backTo pos (starEach [e] X.env)).all (fun x => !x.1) && (backToKw pos (keywordEach [] X.env)).all (fun x => x.1.isSome)
      && decide ([e].length + ([] : List Keyword).length + (if ([] : List Keyword).isEmpty then 0 else 1) < 30)) = true := by rfl)
    (hline : (apos.endLine == pos.line) = true := by rfl) (hs : starEach [e] X.env = (false, eval e X.env) :: starEach [] X.env := by rfl) (hpl : (backTo pos (starEach [] X.env)).any (·.1) = false := by rfl) :
    DE X W (.Call (.Attribute o "index" apos) [e] [] pos) (dIdx oo [oe]) := by
  refine pe_of (pe_bm PySem.F.plainAttrs_list PySem.F.slot_list_index PySem.F.type_list_index (mt_idxR hu) ho ha hbase hfew hline hs hpl) fun s H Q ⟨C, I, r, o, r', R, e, q⟩ => ?_
  refine od_eb R e (fun x z => by subst z; exact q) fun v I1 H1 ov r1 R1 g1 ov1 e => ?_
  split at e
  · rename_i xs hx
    have ar := get_ok R1 ov1 hx
    have ar : Dp X.K I1 v (.list xs) := ar
    have arH : Dp X.K H1 v (.list xs) := dp_up R1.sub _ _ ar
    refine ⟨?_, ?_⟩
    · cases arH with
      | lst hs ha => exact .inl ⟨rfl, _, hs⟩
    · rcases app_inv e with ⟨os, ss, x, ho, hg, hx, rfl⟩ | ⟨x, ho, rfl⟩
      · exact evO_ok [oe] R1 ho fun vs I' H' R' g a => ⟨xs, dp_up R'.sub _ _ (dp_up g _ _ ar), I', ss, x, R'.sub, getAll_ok R' a hg, hx, fun v2 I2 H2 gr n => q v2 I2 H2 (R'.grow gr) ((g1.trans g).trans gr.i) (R'.newS gr n)⟩
      · exact evO_ok [oe] R1 ho (XPost.up g1 q)
  · cases e
@[simp] theorem o_idx {xs : List D} {d : D} {P : S → Prop} : Wo (idxO xs [.d d]) P ↔ (d.depth ≤ 60 ∧ xs.length ≤ 16777216) ∧ Wo (xs.findIdx? fun y => PyData.eqv y d) fun j => P (.d (.int (j : Nat))) := by
  show Wo (if d.depth ≤ 60 ∧ xs.length ≤ 16777216 then (xs.findIdx? fun y => PyData.eqv y d).map fun j => S.d (PyData.int (j : Nat)) else none) P ↔ _
  by_cases h : d.depth ≤ 60 ∧ xs.length ≤ 16777216
  · rw [if_pos h, wo_map]
    exact (and_iff_right h).symm
  · rw [if_neg h]
    exact ⟨fun z => z.elim, fun z => (h z.1).elim⟩
def Widx (o : Option S) (P : List D → Prop) (_u : Blk P := .mk) : Prop := match o with
  | some (.d (.list xs)) => P xs
  | _ => False
@[simp] theorem widx_l {xs : List D} {P : List D → Prop} : Widx (some (.d (.list xs))) P ↔ P xs := Iff.rfl
@[simp] theorem wp_idx {o : Od} {ods : List Od} {r : Env} {P : S → Env → Prop} {E : Exc → Env → Prop} : Wp (dIdx o ods) r P E ↔ Wp (ev1 o) r (fun ov r1 => Widx (ov.get r1) fun xs => Wp (dApp ods (idxO xs)) r1 P E) E := by
  refine wp_ebC fun ov r1 => ?_
  unfold Widx
  split
  · rename_i a h
    simp only [Wp, h]
  · rename_i h
    unfold Wp
    split
    · rename_i e; dsimp only at e; split at e <;> simp_all
    · rename_i e; dsimp only at e; split at e <;> simp_all
    · rfl
end DL
/-! ### min, max of two texts; max of a list; dict == dict; sorted(dict) -/
namespace DLM
open PySem
open PySem.Sem (wp)
def two (x y : Str) (i : Nat) : Str := if i = 0 then x else y
section
variable {prog : Program} {w : World} {A : Around} {E : Value → Shared → Prop} {s : Shared} {x y : Str} {t u : Tok}
theorem two_val : ∀ i v, (#[Value.str x t, Value.str y u] : Array Value)[i]? = some v → ∃ t', v = Value.str (two x y i) t' := fun i v h => by
  match i, h with
  | 0, h => cases h; exact ⟨t, rfl⟩
  | 1, h => cases h; exact ⟨u, rfl⟩
  | n + 2, h => simp at h
theorem cmp_lt : CmpOf prog w A .Lt (fun i v => (#[Value.str x t, Value.str y u] : Array Value)[i]? = some v) (fun i j => decide ((two x y i).cps.toList < (two x y j).cps.toList)) := fun i j vi vj s Q E hi hj h => by
  obtain ⟨t1, rfl⟩ := two_val i vi hi
  obtain ⟨u1, rfl⟩ := two_val j vj hj
  exact PyProof.Rows.lt_str h
theorem cmp_gt : CmpOf prog w A .Gt (fun i v => (#[Value.str x t, Value.str y u] : Array Value)[i]? = some v) (fun i j => decide ((two x y j).cps.toList < (two x y i).cps.toList)) := fun i j vi vj s Q E hi hj h => by
  obtain ⟨t1, rfl⟩ := two_val i vi hi
  obtain ⟨u1, rfl⟩ := two_val j vj hj
  exact richCompare_gives (op := .Gt) (typeIs_str s _ _) (typeIs_str s _ _) F.slot_str_gt F.entry_str_gt (F.args_str_gt_2 _ _) (gives_str_gt _ _ _ _) (fun e => nomatch e) h
/-- the better of two, by a comparison -/
theorem better {a b : Value} {op : CmpOp} {bt : Nat → Nat → Bool} {Q : Value → Shared → Prop} (hh : A.handled = none) (cmp : CmpOf prog w A.in1 op (fun i v => (#[a, b] : Array Value)[i]? = some v) bt)
    (q : ∀ g tk, (∀ c o, s.heap.get? c = some o → g.get? c = some o) → Q (if bt 1 0 = true then b else a) { s with heap := g, toks := tk }) :
    wpAny (model prog w) A.in1 (pyIter (.ref s.heap.objs.size)) (fun it u => ∃ I fp wr n P St bt, it = .ref I ∧ Walks prog w A.in1 I fp wr n P St ∧ St 0 u.heap ∧ (∀ b ∈ fp, b < u.heap.objs.size) ∧ 0 < n ∧ CmpOf prog w A.in1 op P bt ∧
      ∀ v h' tk, P (argBest bt (n - 1)) v → (∀ b o, b ∉ wr → u.heap.get? b = some o → h'.get? b = some o) → Q v { u with heap := h', toks := tk }) E { s with heap := s.heap.push { cls := .type "tuple", data := .seq #[a, b] } } := by
  obtain ⟨g1, e1⟩ : ∃ g1, g1 = s.heap.push { cls := .type "tuple", data := .seq #[a, b] } := ⟨_, rfl⟩
  have z1 : g1.objs.size = s.heap.objs.size + 1 := by rw [e1]; exact Heap.size_push ..
  have tup : g1.IsTuple s.heap.objs.size #[a, b] := by rw [e1]; exact ⟨_, Heap.get?_push_size _ rfl, rfl, 0, rfl⟩
  have apart : s.heap.objs.size ≠ g1.objs.size := by omega
  have pick : ∀ v, (#[a, b] : Array Value)[argBest bt 1]? = some v → v = if bt 1 0 = true then b else a := fun v e => by
    have : argBest bt 1 = if bt 1 0 = true then 1 else 0 := rfl
    rw [this] at e
    cases h : bt 1 0 <;> simp [h] at e ⊢ <;> exact e.symm
  rw [← e1]
  refine wpAny_pyIter_tuple (s := { s with heap := g1 }) tup ⟨_, _, _, _, _, _, bt, rfl, Walks.tuple (A := A.in1) hh _ _ apart #[a, b], ⟨⟨_, Heap.get?_push_size _ rfl, rfl, rfl⟩, tup.push _⟩, fun c hc => ?_, by simp, cmp, fun v g tk hv k => ?_⟩
  · have hc : c = g1.objs.size ∨ c = s.heap.objs.size := by simpa using hc
    show c < (g1.push _).objs.size
    rw [Heap.size_push]
    rcases hc with h | h
    · rw [h]
      exact Nat.lt_succ_self _
    · rw [h]
      exact Nat.lt_succ_of_lt (by rw [z1]; exact Nat.lt_succ_self _)
  · rw [pick v hv]
    refine q g tk fun c o e => k c o ?_ (Heap.get?_push_of_some _ (by rw [e1]; exact Heap.get?_push_of_some _ e))
    have := Heap.lt_size e
    rw [List.mem_singleton]
    intro z
    rw [z] at this
    exact Nat.lt_irrefl _ (Nat.lt_trans this (by show s.heap.objs.size < g1.objs.size; rw [z1]; exact Nat.lt_succ_self _))
theorem min_two_strs {Q : Value → Shared → Prop} (hh : A.handled = none)
    (h : ∀ h' tk, (∀ c o, s.heap.get? c = some o → h'.get? c = some o) → Q (if y.cps.toList < x.cps.toList then .str y u else .str x t) { s with heap := h', toks := tk }) :
    wpAny (model prog w) A (call (.builtin "min") [.str x t, .str y u]) Q E s :=
  call_min_two (better hh cmp_lt fun g tk k => by simpa [two] using h g tk k)
theorem max_two_strs {Q : Value → Shared → Prop} (hh : A.handled = none)
    (h : ∀ h' tk, (∀ c o, s.heap.get? c = some o → h'.get? c = some o) → Q (if x.cps.toList < y.cps.toList then .str y u else .str x t) { s with heap := h', toks := tk }) :
    wpAny (model prog w) A (call (.builtin "max") [.str x t, .str y u]) Q E s :=
  call_max_two (better hh cmp_gt fun g tk k => by simpa [two] using h g tk k)
end
end DLM
namespace DL
open PySem L2 PyProof.Rows
variable {X : Cx} {W : WX} {pos : Pos}
def min2S : List S → Option S
  | [.d (.str x), .d (.str y)] => some (.d (.str (if y.cps.toList < x.cps.toList then y else x)))
  | ss => min2D ss
def max2S : List S → Option S
  | [.d (.str x), .d (.str y)] => some (.d (.str (if x.cps.toList < y.cps.toList then y else x)))
  | ss => max2D ss
theorem ok_min2S (hc : X.calm = true) : CallD X (.builtin "min") min2S := by
  intro pins s σ H xs us Q I r h
  obtain ⟨I', ss, z, g, p, e, q⟩ := h
  unfold min2S at e
  split at e
  · rename_i x y
    cases e
    cases p with
    | cons a1 a2 =>
      cases a2 with
      | cons a2 a3 =>
        cases a3
        have a1 : Dp X.K I' _ (.str x) := a1
        have a2 : Dp X.K I' _ (.str y) := a2
        cases a1
        cases a2
        obtain ⟨u, w', eu, r1, r2⟩ := vals2 r
        subst eu
        obtain ⟨t, rfl⟩ := r1
        obtain ⟨t', rfl⟩ := r2
        refine DLM.min_two_strs (I.ok.hd hc) fun h' tk k => ?_
        by_cases hj : y.cps.toList < x.cps.toList
        · rw [if_pos hj] at q ⊢
          exact ⟨.str _, H, I.kept k, ⟨_, rfl⟩, q _ I' H (Grow.refl g) (.str _)⟩
        · rw [if_neg hj] at q ⊢
          exact ⟨.str _, H, I.kept k, ⟨_, rfl⟩, q _ I' H (Grow.refl g) (.str _)⟩
  · exact ok_min2 hc pins s σ H xs us Q I r ⟨I', ss, z, g, p, e, q⟩
theorem ok_max2S (hc : X.calm = true) : CallD X (.builtin "max") max2S := by
  intro pins s σ H xs us Q I r h
  obtain ⟨I', ss, z, g, p, e, q⟩ := h
  unfold max2S at e
  split at e
  · rename_i x y
    cases e
    cases p with
    | cons a1 a2 =>
      cases a2 with
      | cons a2 a3 =>
        cases a3
        have a1 : Dp X.K I' _ (.str x) := a1
        have a2 : Dp X.K I' _ (.str y) := a2
        cases a1
        cases a2
        obtain ⟨u, w', eu, r1, r2⟩ := vals2 r
        subst eu
        obtain ⟨t, rfl⟩ := r1
        obtain ⟨t', rfl⟩ := r2
        refine DLM.max_two_strs (I.ok.hd hc) fun h' tk k => ?_
        by_cases hj : x.cps.toList < y.cps.toList
        · rw [if_pos hj] at q ⊢
          exact ⟨.str _, H, I.kept k, ⟨_, rfl⟩, q _ I' H (Grow.refl g) (.str _)⟩
        · rw [if_neg hj] at q ⊢
          exact ⟨.str _, H, I.kept k, ⟨_, rfl⟩, q _ I' H (Grow.refl g) (.str _)⟩
  · exact ok_max2 hc pins s σ H xs us Q I r ⟨I', ss, z, g, p, e, q⟩
@[simp] theorem o_min2S {x y : Str} : min2S [.d (.str x), .d (.str y)] = some (.d (.str (if y.cps.toList < x.cps.toList then y else x))) := rfl
@[simp] theorem o_max2S {x y : Str} : max2S [.d (.str x), .d (.str y)] = some (.d (.str (if x.cps.toList < y.cps.toList then y else x))) := rfl
@[simp] theorem o_min2i {i j : Int} : min2S [.d (.int i), .d (.int j)] = some (.d (.int (if j < i then j else i))) := rfl
@[simp] theorem o_max2i {i j : Int} : max2S [.d (.int i), .d (.int j)] = some (.d (.int (if j > i then j else i))) := rfl
/-! ### a dict just made == a dict of ours -/
def sameI (as bs : List (Key × D)) : Bool := as.length == bs.length && as.all fun p => match p.2, valD bs p.1 with
  | .int i, some (.int j) => i == j
  | _, _ => false
def eqDK (i : Nat) : S → EF S
  | .own false (.dic as) => fun r => match r[i]? with
    | some (some (.own _ (.dic bs))) => if sameI as bs = true then some (.ok (.d (.bool true)), r) else none
    | _ => none
  | _ => fun _ => none
def dEqDV (f : EF S) (i : Nat) : EF S := eb f (eqDK i)
theorem kvd_mem {K : KF} {I : Hp} {ws : List (Key × V)} {ks : List (Key × D)} (r : KvD K I ws ks) : ∀ p ∈ ws, ∃ q ∈ ks, q.1 = p.1 ∧ Dp K I p.2 q.2 := by
  unfold KvD at r
  induction r with
  | nil => simp
  | @cons p q ps qs h t ih =>
    intro x hx
    rcases List.mem_cons.mp hx with rfl | hx
    · exact ⟨q, List.mem_cons_self, h.1.symm, h.2⟩
    · obtain ⟨y, h1, h2⟩ := ih x hx
      exact ⟨y, List.mem_cons_of_mem _ h1, h2⟩
theorem eqDV_ok {K : KF} {mg : MG} {s : L2.St} {H : Hp} {f : EF S} {i : Nat} {Q : VK} (h : tE K mg W (dEqDV f i) s H Q) : tOp (rEqV K) (tE K mg W f) (tVar i) s H Q := by
  obtain ⟨C, I, r, o, r', R, e, q⟩ := h
  rcases eb_inv e with ⟨y, r2, hf, e⟩ | ⟨y, hf, rfl⟩
  · refine ⟨C, I, r, _, _, R, hf, fun v2 I2 H2 R2 g2 t2 => ?_⟩
    unfold eqDK at e
    split at e
    · rename_i as
      split at e
      · rename_i b bs hr
        split at e
        · rename_i hs
          cases e
          obtain ⟨v, hv, z⟩ := R2.slot i _ hr
          obtain ⟨a2, ea, _, ⟨ls, h1, kv1⟩, _⟩ := own_nz z
          subst ea
          obtain ⟨a, rfl, _, ⟨ks, h2, kv2⟩, _⟩ := t2
          unfold sameI at hs
          rw [Bool.and_eq_true, beq_iff_eq, List.all_eq_true] at hs
          refine ⟨_, hv, 1, by decide, .inr ⟨a, a2, ks, ls, rfl, rfl, h2, h1, by rw [kvd_len kv2, kvd_len kv1]; exact hs.1, fun p hp => ?_⟩, q _ I2 H2 R2 g2 (.bl _)⟩
          obtain ⟨x, hx, e1, d1⟩ := kvd_mem kv2 p hp
          have h3 := hs.2 x hx
          obtain ⟨k, d⟩ := x
          simp only at e1 d1 h3
          split at h3
          · rename_i m n e3
            obtain ⟨u, e4, d2⟩ := kvd_some kv1 e3
            rw [e1] at e4
            refine ⟨u, e4, .inl ?_⟩
            obtain rfl : m = n := by simpa using h3
            generalize p.2 = pv at d1
            cases d1
            cases d2
            exact ⟨rfl, rfl⟩
          · cases h3
        · cases e
      · cases e
    · cases e
  · exact ⟨C, I, r, _, _, R, hf, q⟩
theorem de_eqDV {a : Expr} {f : EF S} {i : Nat} {x : Str} {p : Pos} (hu : X.A.units + 64 < cLine) (ha : DE X W a f) (hb : PE X (.Name x p) (tVar i)) (hm : behindInMarks .Eq (.Name x p) = false) : DE X W (.Compare a [.Eq] [.Name x p] pos) (dEqDV f i) :=
  pe_of (pe_cmpR (op_eqV hu) ha hb hm) fun s H Q q => eqDV_ok q
@[simp] theorem wp_eqDV {f : EF S} {i : Nat} {r : Env} {P : S → Env → Prop} {E : Exc → Env → Prop} : Wp (dEqDV f i) r P E ↔ Wp f r (fun x r1 => Wp (eqDK i x) r1 P E) E := by
  unfold dEqDV
  exact wp_eb
theorem wp_eqDK {i : Nat} {r : Env} {as bs : List (Key × D)} {b : Bool} {P : S → Env → Prop} {E : Exc → Env → Prop} (hr : r[i]? = some (some (.own b (.dic bs)))) (hs : sameI as bs = true) (h : P (.d (.bool true)) r) : Wp (eqDK i (.own false (.dic as))) r P E := by
  unfold eqDK
  show Wp (fun r => match r[i]? with
    | some (some (.own _ (.dic bs))) => if sameI as bs = true then some (.ok (.d (.bool true)), r) else none
    | _ => none) r P E
  unfold Wp
  simp only [hr]
  rw [if_pos hs]
  exact h
/-! ### max of a list of numbers -/
def isMax (l : List Int) (m : Int) : Bool := decide (m ∈ l) && l.all fun y => decide (y ≤ m)
def max1D : List S → Option S
  | [p] => (lstS p).bind fun xs => (intsD xs).bind fun l => match l with
    | [] => none
    | i :: t => some (.d (.int (t.foldl max i)))
  | _ => none
theorem foldl_max : ∀ (t : List Int) (i : Int), t.foldl max i ∈ i :: t ∧ ∀ y ∈ i :: t, y ≤ t.foldl max i
  | [], i => by simp
  | j :: t, i => by
    obtain ⟨h1, h2⟩ := foldl_max t (max i j)
    have hi := h2 _ List.mem_cons_self
    refine ⟨?_, fun y hy => ?_⟩
    · rw [List.foldl_cons]
      rcases List.mem_cons.mp h1 with h | h
      · rw [h]
        by_cases c : i ≤ j
        · rw [show max i j = j by omega]; simp
        · rw [show max i j = i by omega]; simp
      · simp [h]
    · rw [List.foldl_cons]
      rcases List.mem_cons.mp hy with rfl | hy
      · omega
      · rcases List.mem_cons.mp hy with rfl | hy
        · omega
        · exact h2 y (List.mem_cons_of_mem _ hy)
theorem ok_max1 (hc : X.calm = true) : CallD X (.builtin "max") max1D := by
  intro pins s σ H xs us Q I r h
  obtain ⟨I', ss, z, g, p, e, q⟩ := h
  unfold max1D at e
  split at e
  · obtain ⟨ys, e3, e1⟩ := Option.bind_eq_some_iff.mp e
    obtain ⟨bs, e4, e2⟩ := Option.bind_eq_some_iff.mp e1
    cases p with
    | cons a1 a2 =>
      cases a2
      obtain ⟨a, vs, rfl, hq, da⟩ := lstS_ok g a1 e3
      rw [intsD_ok e4 da] at hq
      split at e2
      · cases e2
      · rename_i i t
        cases e2
        obtain ⟨h1, h2⟩ := foldl_max t i
        refine cr_max hc pins s σ H _ us Q I r ⟨a, i :: t, rfl, hq, by simp, fun m m1 m2 => ?_⟩
        have e5 : m = t.foldl max i := by
          have := h2 m m1
          have := m2 _ h1
          omega
        rw [e5]
        exact q _ I' H (Grow.refl g) (.int _)
  · cases e
@[simp] theorem o_max1 {p : S} {P : S → Prop} : Wo (max1D [p]) P ↔ Wo (lstS p) fun xs => Wo (intsD xs) fun l => Wo (l.head?.map fun i => l.tail.foldl max i) fun m => P (.d (.int m)) := by
  show Wo ((lstS p).bind fun xs => (intsD xs).bind fun l => match l with
    | [] => none
    | i :: t => some (.d (.int (t.foldl max i)))) P ↔ _
  rw [wo_bind]
  cases lstS p with
  | none => rfl
  | some xs =>
    rw [wo_some, wo_some, wo_bind]
    cases intsD xs with
    | none => rfl
    | some l =>
      cases l with
      | nil => rfl
      | cons i t => rfl
end DL
/-! ### sorted(E), E a dict just made, its keys texts -/
namespace DL
open PySem L2 PyProof.Rows
variable {X : Cx} {W : WX} {pos : Pos}
theorem rise_pw : ∀ (r : List Str) (p : Str), risingS p r = true → ∀ y ∈ r, p.cps.toList ≤ y.cps.toList
  | [], _, _ => by simp
  | x :: r, p, h => by
    unfold risingS at h
    rw [Bool.and_eq_true, PyProof.Rows.ltCps_eq] at h
    have h1 : p.cps.toList ≤ x.cps.toList := by simpa using h.1
    intro y hy
    rcases List.mem_cons.mp hy with rfl | hy
    · exact h1
    · exact List.le_trans h1 (rise_pw r x h.2 y hy)
theorem sorted_pw : ∀ (l : List Str), sortedS l = true → l.Pairwise fun a b => leS a b = true
  | [], _ => .nil
  | x :: r, h => by
    refine .cons (fun y hy => by simpa [leS] using rise_pw r x h y hy) (sorted_pw r ?_)
    cases r with
    | nil => rfl
    | cons z r =>
      have h : risingS x (z :: r) = true := h
      unfold risingS at h
      rw [Bool.and_eq_true] at h
      exact h.2
theorem perm_leS : ∀ {l m : List Str}, l.Perm m → l.Pairwise (fun a b => leS a b = true) → m.Pairwise (fun a b => leS a b = true) → l = m
  | [], m, p, _, _ => List.Perm.nil_eq p
  | a :: l, [], p, _, _ => (List.Perm.nil_eq p.symm).symm
  | a :: l, b :: m, p, h1, h2 => by
    have h1' := List.pairwise_cons.mp h1
    have h2' := List.pairwise_cons.mp h2
    have e : a = b := by
      have ha : a ∈ b :: m := p.mem_iff.mp List.mem_cons_self
      have hb : b ∈ a :: l := p.mem_iff.mpr List.mem_cons_self
      rcases List.mem_cons.mp ha with q | ha
      · exact q
      · rcases List.mem_cons.mp hb with q | hb
        · exact q.symm
        · have k1 := h2'.1 a ha
          have k2 := h1'.1 b hb
          simp only [leS, decide_eq_true_eq] at k1 k2
          exact str_eq (List.le_antisymm k2 k1)
    subst e
    rw [perm_leS p.cons_inv h1'.2 h2'.2]
theorem sort_leS (l : List Str) : (l.mergeSort leS).Pairwise fun a b => leS a b = true := List.pairwise_mergeSort (fun a b c h1 h2 => by
      simp only [leS, decide_eq_true_eq] at *
      exact List.le_trans h1 h2) (fun a b => by
      simp only [leS, Bool.or_eq_true, decide_eq_true_eq]
      exact List.le_total _ _) l
def txtK : List (Key × D) → Option (List Str)
  | [] => some []
  | (.inr x, _) :: t => (txtK t).map (x :: ·)
  | _ => none
theorem txtK_ok {K : KF} {I : Hp} : ∀ {ws : List (Key × V)} {kvs : List (Key × D)} {ks : List Str}, KvD K I ws kvs → txtK kvs = some ks → ws.map (·.1) = ks.map Sum.inr
  | _, _, ks, .nil, e => by cases e; rfl
  | _, _, ks, .cons (a := p) (b := q) h t, e => by
    obtain ⟨k, d⟩ := q
    cases k with
    | inl i => cases e
    | inr x =>
      obtain ⟨ks', e1, rfl⟩ := Option.map_eq_some_iff.mp e
      rw [List.map_cons, List.map_cons, txtK_ok t e1, h.1]
theorem txtK_dS {f : Int → D} : ∀ l : List (Str × Int), txtK (l.map fun kv => ((Sum.inr kv.1 : Key), f kv.2)) = some (l.map (·.1))
  | [] => rfl
  | x :: l => by
    show (txtK _).map _ = _
    rw [txtK_dS l]
    rfl
def srtDK : S → EF S
  | .own false (.dic kvs) => fun r => match txtK kvs with
    | some ks => if ks.length < 64 then some (.ok (.own false (.lst (strL (ks.mergeSort leS)))), r) else none
    | none => none
  | _ => fun _ => none
def dSortT (f : EF S) : EF S := eb f srtDK
theorem dpa_strs {K : KF} {I : Hp} : ∀ l : List Str, DpAll K I (l.map V.str) (strL l)
  | [] => .nil
  | x :: l => .cons (.str x) (dpa_strs l)
theorem sortT_ok {K : KF} {mg : MG} {s : L2.St} {H : Hp} {f : EF S} {Q : VK} (h : tE K mg W (dSortT f) s H Q) : tCB (fun xs H Q => ∃ (a : Addr) (kvs : List (Key × V)) (ks : List Str), xs = [.ref a] ∧ Rd H a (.dK kvs) ∧ kvs.map (·.1) = ks.map Sum.inr ∧ ks.length < 64 ∧
    ∀ ys p, ys.Perm ks → sortedS ys = true → H p = none → Q (.ref p) (upd H p (.lst (ys.map V.str)))) (tCons (tE K mg W f) tNil) s H Q := by
  obtain ⟨C, I, r, o, r', R, e, q⟩ := h
  rcases eb_inv e with ⟨y, r2, hf, e⟩ | ⟨y, hf, rfl⟩
  · refine ⟨C, I, r, _, _, R, hf, fun v2 I2 H2 R2 g2 t2 => ?_⟩
    unfold srtDK at e
    split at e
    · rename_i kvs
      split at e
      · rename_i ks hk
        split at e
        · rename_i hl
          cases e
          obtain ⟨a, rfl, _, ⟨ws, h1, kv⟩, _⟩ := t2
          refine ⟨a, ws, ks, rfl, .inl h1, txtK_ok kv hk, hl, fun ys p hp hs hn => ?_⟩
          have ey : ys = ks.mergeSort leS := perm_leS (hp.trans (List.mergeSort_perm ks leS).symm) (sorted_pw ys hs) (sort_leS ks)
          subst ey
          have gr := grow_own (o := .lst ((ks.mergeSort leS).map V.str)) R2.sub hn
          exact q _ _ _ (R2.grow gr) (g2.trans gr.i) (R2.newS gr ⟨p, rfl, hn, R2.sub.free hn, _, upd_same, dpa_strs _⟩)
        · cases e
      · cases e
    · cases e
  · exact ⟨C, I, r, _, _, R, hf, q⟩
theorem de_sortT {a : Expr} {f : EF S} {p : Pos} (hc : X.calm = true) (hg : Gl X "sorted") (hm : X.mg "sorted" = none) (ha : DE X W a f)
    (hs : starEach [a] X.env = (false, eval a X.env) :: starEach [] X.env := by rfl) : DE X W (.Call (.Name "sorted" p) [a] [] pos) (dSortT f) :=
  pe_of (pe_callB (call_sortedD hc) hg hm (by decide +kernel) (pa_cons (hs := hs) ha pa_nil) (by decide) (by decide) hs rfl) fun s H Q q => sortT_ok q
@[simp] theorem wp_sortT {f : EF S} {r : Env} {P : S → Env → Prop} {E : Exc → Env → Prop} : Wp (dSortT f) r P E ↔ Wp f r (fun x r1 => Wp (srtDK x) r1 P E) E := by
  unfold dSortT
  exact wp_eb
theorem wp_srtDK {r : Env} {kvs : List (Key × D)} {ks : List Str} {P : S → Env → Prop} {E : Exc → Env → Prop} (hk : txtK kvs = some ks) (hl : ks.length < 64) (h : P (.own false (.lst (strL (ks.mergeSort leS)))) r) : Wp (srtDK (.own false (.dic kvs))) r P E := by
  unfold srtDK
  show Wp (fun r => match txtK kvs with
    | some ks => if ks.length < 64 then some (.ok (.own false (.lst (strL (ks.mergeSort leS)))), r) else none
    | none => none) r P E
  unfold Wp
  simp only [hk]
  rw [if_pos hl]
  exact h
end DL
/-! ### tuple(reversed(t)), t a tuple -/
namespace DLR
open PySem PySem.Spec PyProof.Rows RT
theorem nolen_rt : typeLookup (.type "reversed") "__len__" = pure none := by rw [typeLookup_type, builtinLookup_eq_fast]; kernel_rfl
theorem hint_rt : typeLookup (.type "reversed") "__length_hint__" = pure (some (.builtin "reversed.__length_hint__")) := by rw [typeLookup_type, builtinLookup_eq_fast]; kernel_rfl
theorem slot_rt_hint : Slot "reversed" "__length_hint__" "reversed.__length_hint__" :=
  .of (owner := "reversed") (n := "__length_hint__") (by rw [typeLookup_type, builtinLookup_eq_fast]; kernel_rfl) (by decide +kernel) (by decide +kernel) (by decide +kernel)
    (by first | exact .inl (by decide +kernel) | exact .inr (by decide +kernel)) (by rw [isSubtype_type]; kernel_rfl)
theorem entry_rt_hint : entryFor table "reversed.__length_hint__" = some Builtin.«reversed.__length_hint__» := entryFor_of_tree (by kernel_rfl)
theorem args_rt_hint (a : Value) : argsOk "reversed.__length_hint__" ⟨[a], []⟩ := by
  unfold argsOk; rw [signature?_of (id := "reversed.__length_hint__") (n := ['_', '_', 't', 'n', 'i', 'h', '_', 'h', 't', 'g', 'n', 'e', 'l', '_', '_']) (o := ['d', 'e', 's', 'r', 'e', 'v', 'e', 'r']) (by kernel_rfl) owner_rt]; kernel_rfl
section
variable {prog : Program} {w : World} {A : Around} {E : Value → Shared → Prop} {s : Shared} {it t L : Addr} {items : Array Value}
/-- a reversed tuple at its start, and the tuple it walks -/
structure Fresh (h : Heap) (it t : Addr) (items : Array Value) : Prop where
  rev : IsRt h it t ((items.size : Int) - 1)
  tup : IsTup h t items
theorem Fresh.on {h g : Heap} (x : Fresh h it t items) (k : ∀ c, c = it ∨ c = t → ∀ o, h.get? c = some o → g.get? c = some o) : Fresh g it t items :=
  ⟨x.rev.at (k it (.inl rfl)), let ⟨o, ho, r⟩ := x.tup; ⟨o, k t (.inr rfl) o ho, r⟩⟩
theorem Fresh.ty (x : Fresh s.heap it t items) : s.TypeIs (.ref it) "reversed" := x.rev.typeIs
/-- its length hint is its length -/
theorem told_hint {Q : Value → Shared → Prop} (x : Fresh s.heap it t items) (hn : items.size ≤ sizeLine) (q : ∀ u tk, Q (.int items.size u) { s with toks := tk }) :
    wpAny (model prog w) A (call (.builtin "reversed.__length_hint__") [.ref it]) Q E s := by
  obtain ⟨o, ho, _, hd⟩ := id x.rev
  have n1 : ¬ ((Value.ref t == Value.none) = true) := fun h => Bool.noConfusion (show false = true from h)
  have n2 : ¬ ((items.size : Int) < (items.size : Int) - 1 + 1) := by omega
  have e1 : (items.size : Int) - 1 + 1 = items.size := by omega
  refine wpAny_call_entry slot_rt_hint x.ty entry_rt_hint ?_ (args_rt_hint _)
  unfold Builtin.«reversed.__length_hint__»
  refine wpAny_bind (wpAny_of_eq (a := Value.ref it) rfl (wpAny_bind (wpAny_field ho hd (x := .ref t) rfl ?_)))
  rw [if_neg n1]
  refine wpAny_bind (len_tuple x.tup (by rw [sizeLine_eq] at hn; omega) (wpAny_bind (wpAny_of_eq (a := some ((items.size : Nat) : Int)) rfl ?_)))
  refine wpAny_bind (wpAny_field (s := { s with toks := s.toks + 1 + 1 }) ho hd (x := rawInt ((items.size : Int) - 1)) rfl ?_)
  show wpAny _ _ (if (items.size : Int) < ((items.size : Int) - 1) + 1 then _ else _) _ _ _
  rw [if_neg n2, e1]
  exact wpAny_bind (wpAny_mkInt (wpAny_pure ⟨_, rfl, q _ _⟩))
/-- room is made where it has an item -/
theorem told_room {Q : Bool → Shared → Prop} (x : Fresh s.heap it t items) (hn : items.size ≤ sizeLine) (q : ∀ b tk, Q b { s with toks := tk }) :
    wpAny (model prog w) A (Builtin.List.listLengthHint (.ref it)) Q E s := by
  have hn2 := hn
  rw [sizeLine_eq] at hn2
  have hT := x.ty
  unfold Builtin.List.listLengthHint
  refine wpAny_bind (wpAny_specialOf hT nolen_rt ?_)
  dsimp only
  refine wpAny_bind (wpAny_specialOf hT hint_rt ?_)
  generalize hid : ("reversed.__length_hint__" : String) = id0
  wp_delta
  have sp : splitId id0 = some ("reversed", "__length_hint__") := by subst hid; decide +kernel
  rw [sp]
  subst hid
  refine wpAny_bind (wpAny_isInstance (b := true) hT (by rw [isSubtype_type]; kernel_rfl) (wpAny_bind (wpAny_rule ?_)))
  refine wpAny_bind (wpAny_of_eq (slot_rt_hint.bind _) (wpAny_bind (wpAny_attempt (told_hint x hn fun u tk => ?_))))
  obtain ⟨k, hk⟩ : ∃ k : Int, k = items.size := ⟨_, rfl⟩
  rw [← hk]
  dsimp only
  refine wpAny_bind (m := asInt? (.int k u)) (wpAny_pure ?_)
  dsimp only
  have f1 : Builtin.List.listFitsIndex k = true := by
    unfold Builtin.List.listFitsIndex
    rw [decide_eq_true (show (-(2:Int)^63) ≤ k by omega), decide_eq_true (show k < (2:Int)^63 by omega)]
    rfl
  have f2 : Builtin.List.listTooLong k.toNat = false := by
    unfold Builtin.List.listTooLong
    rw [sizeLine_eq, decide_eq_false_iff_not]
    omega
  have f3 : ¬ k < 0 := by omega
  simp only [f1, f2, f3, if_false, Bool.not_true, Bool.false_eq_true]
  exact wpAny_pure (q _ _)
/-- an own list that is still empty -/
def Bare (L : Addr) (h : Heap) : Prop := ∃ c, h.get? L = some { cls := .type "list", dict := none, data := .seq #[] c, slots := #[] }
theorem told_touch {Q : Unit → Shared → Prop} (b : Bare L s.heap) (q : ∀ g, Bare L g → Heap.ExtBut L s.heap g → Q () { s with heap := g }) :
    wpAny (model prog w) A (Builtin.List.listTouch (.ref L)) Q E s := by
  obtain ⟨c, hL⟩ := b
  have g1 := Heap.get?_update_self (Obj.mapSeq (·.push Value.none)) hL rfl
  have g2 := Heap.get?_update_self (Obj.mapSeq (·.pop)) g1 rfl
  show wpAny _ _ (updateSeq L (·.push .none) >>= fun _ => updateSeq L (·.pop)) _ _ _
  refine wpAny_bind (wpAny_updateSeq hL rfl (wpAny_updateSeq g1 rfl (q _ ⟨_, g2⟩ fun b o hb e => ?_)))
  rw [Heap.get?_update_other _ _ (Ne.symm hb), Heap.get?_update_other _ _ (Ne.symm hb)]
  exact e
/-- the reversed tuple drawn i times -/
theorem rt_walks (hh : A.handled = none) (hne : t ≠ it) (hn : items.size ≤ sizeLine) :
    Walks prog w A it [it, t] [it] items.size (fun i v => items[items.size - 1 - i]? = some v) (fun i h => i ≤ items.size ∧ IsRt h it t ((items.size : Int) - 1 - (i : Int)) ∧ IsTup h t items) := by
  constructor
  case sub => exact fun b hb => by rw [List.mem_singleton.mp hb]; exact List.mem_cons_self
  case frame => exact fun _ _ _ ⟨x1, x2, o, ho, r⟩ hk => ⟨x1, x2.at fun o => hk it (by simp) o, o, hk t (by simp) o ho, r⟩
  case item =>
    rintro i s Q E hi ⟨_, x2, o, ho, r⟩ q
    obtain ⟨j, hj⟩ : ∃ j, j = items.size - 1 - i := ⟨_, rfl⟩
    have hx := Array.getElem?_eq_getElem (show j < items.size by omega)
    rw [show (items.size : Int) - 1 - (i : Int) = (j : Nat) by omega] at x2
    refine next_rt_item x2 ⟨o, ho, r⟩ hx hn fun g g1 g2 => q _ g _ (by rw [← hj]; exact hx) ⟨hi, ?_, o, (g2.2 t hne).trans ho, r⟩ fun b o' hb e => g2.extBut b o' (fun z => hb (by rw [z]; exact List.mem_singleton_self _)) e
    rw [show (items.size : Int) - 1 - ((i + 1 : Nat) : Int) = ((j : Nat) : Int) - 1 by omega]
    exact g1
  case done =>
    rintro s Q E ⟨_, x2, _⟩ q
    rw [show (items.size : Int) - 1 - ((items.size : Nat) : Int) = -1 by omega] at x2
    exact next_rt_end hh x2 fun g g1 => q g s.toks fun b o hb e => g1 b o (fun z => hb (by rw [z]; exact List.mem_singleton_self _)) e
  case self => exact fun _ _ _ _ x q => iter_rt x.2.1 q
theorem maybe_touch {α : Type} {p : Prop} [Decidable p] {K : Unit → Sem α} {Q : α → Shared → Prop} (b : Bare L s.heap) (q : ∀ g, Bare L g → Heap.ExtBut L s.heap g → wpAny (model prog w) A (K ()) Q E { s with heap := g }) :
    wpAny (model prog w) A (if p then (rule "list.extend.makes-room" >>= fun _ => Builtin.List.listTouch (.ref L) >>= K) else K ()) Q E s := by
  by_cases h : p
  · rw [if_pos h]
    exact wpAny_bind (wpAny_rule (wpAny_bind (told_touch b q)))
  · rw [if_neg h]
    exact q s.heap b fun _ _ _ e => e
/-- all its items, from the last one -/
abbrev Back (items : Array Value) : Nat → Value → Prop := fun i v => items[items.size - 1 - i]? = some v
theorem told_items {Q : List Value → Shared → Prop} (hh : A.handled = none) (x : Fresh s.heap it t items) (hne : t ≠ it) (hn : items.size ≤ sizeLine)
    (q : ∀ g tk acc, Heap.ExtBut it s.heap g → ItemsOf (Back items) acc items.size → Q acc.toList { s with heap := g, toks := tk }) : wpAny (model prog w) A (collect (.ref it)) Q E s := by
  have lt : it < s.heap.objs.size ∧ t < s.heap.objs.size := ⟨let ⟨_, e, _⟩ := x.rev; Heap.lt_size e, let ⟨_, e, _⟩ := x.tup; Heap.lt_size e⟩
  unfold collect
  refine wpAny_bind (wpAny_runValue (codeAny_builtin F.entry_proto_collect ?_))
  rw [Around.under_plainId F.plain_proto_collect _]
  show wpAny _ A.in1 (newList [] >>= fun l => again (.builtin "list.__iadd__" ⟨[l, .ref it], []⟩)) _ _ s
  refine wpAny_bind (wpAny_newObj_type (wpAny_pure ⟨plainId_quiet F.plain_list_iadd _, codeAny_builtin F.entry_list_iadd ?_⟩))
  rw [Around.under_plainId F.plain_list_iadd _]
  obtain ⟨L, hL⟩ : ∃ L, L = s.heap.objs.size := ⟨_, rfl⟩
  obtain ⟨g0, hg0⟩ : ∃ g0, g0 = s.heap.push { cls := .type "list", data := .seq ([] : List Value).toArray } := ⟨_, rfl⟩
  have old : ∀ c o, s.heap.get? c = some o → g0.get? c = some o := fun c o e => by rw [hg0]; exact Heap.get?_push_of_some _ e
  have bare : Bare L g0 := ⟨_, by rw [hg0, hL]; exact Heap.get?_push_size _ rfl⟩
  have off : L ∉ [it, t] := by
    have h1 := Nat.ne_of_gt lt.1
    have h2 := Nat.ne_of_gt lt.2
    rw [← hL] at h1 h2
    simp [h1, h2]
  have x0 : Fresh g0 it t items := x.on fun c _ o => old c o
  rw [← hg0, ← hL]
  show wpAny _ A.in1 (Builtin.List.listExtendWith (.ref L) (.ref it) (.ref L)) _ _ _
  unfold Builtin.List.listExtendWith
  have same : Builtin.List.listSameRef (.ref L) (.ref it) = false := by
    have : L ≠ it := fun e => off (by simp [e])
    simp [Builtin.List.listSameRef, this]
  refine wpAny_bind (wpAny_typeOf (Fresh.ty (s := { s with heap := g0 }) x0) ?_)
  rw [if_neg (by rw [same]; decide)]
  refine wpAny_bind (iter_rt (s := { s with heap := g0 }) x0.rev (wpAny_bind (wpAny_holding (told_room (s := { s with heap := g0 }) x0 hn fun b tk => ?_))))
  refine maybe_touch (s := { s with heap := g0, toks := tk }) (K := fun _ => again (.builtin "list.extend.loop" ⟨[.ref L, .ref it, .ref L], []⟩)) bare fun g b1 k1 => ?_
  obtain ⟨c1, e1⟩ := b1
  have x1 : Fresh g it t items := x0.on fun c hc o => k1 c o fun e => off (by rcases hc with h | h <;> simp [← e, h])
  refine wpAny_pure ⟨plainId_quiet F.plain_extend_loop _, codeAny_extend_loopS (rt_walks (prog := prog) (w := w) (A := A.in1) hh hne hn).toS hn L off _ items.size 0 _ _ _ rfl (Nat.zero_le _) ⟨Nat.zero_le _, ?_, x1.tup⟩ e1 (ItemsOf.nil _) fun s' acc c2 moved e2 items2 => ?_⟩
  · rw [show (items.size : Int) - 1 - ((0 : Nat) : Int) = (items.size : Int) - 1 by omega]
    exact x1.rev
  · show wpAny _ A (load L >>= _) _ _ s'
    refine wpAny_bind (wpAny_load e2 (wpAny_pure ?_))
    rw [Moved.eq_with moved]
    refine q _ _ acc (fun c o hc e => moved.heap c o ?_ (k1 c o ?_ (old c o e))) items2
    · have := Nat.ne_of_lt (Heap.lt_size e)
      rw [← hL] at this
      simp [hc, this]
    · have := Nat.ne_of_lt (Heap.lt_size e)
      rw [← hL] at this
      exact this
theorem tuple_rt {Q : Value → Shared → Prop} (hh : A.handled = none) (x : Fresh s.heap it t items) (hne : t ≠ it) (hn : items.size ≤ sizeLine)
    (q : ∀ g tk acc, Heap.ExtBut it s.heap g → ItemsOf (Back items) acc items.size → Q (.ref g.objs.size) { s with heap := g.push { cls := .type "tuple", data := .seq acc }, toks := tk }) :
    wpAny (model prog w) A (call (.type "tuple") [.ref it]) Q E s := by
  have ty := x.ty
  have hsub := sub_tuple_self
  have hinit := init_tuple_lookup
  have hmade := madeHere_tuple
  have made : codeAny (model prog w) A.in1 (.call (.builtin "tuple.__new__") ⟨[.type "tuple", .ref it], []⟩) (wants (fun obj s1 => s1.TypeIs obj "tuple" ∧ Q obj s1) E) s := by
    refine codeAny_of_tree ?_
    show wpAny _ A.in1.in1 (do checkBuiltinCall "tuple.__new__" ⟨[.type "tuple", .ref it], []⟩; again (.builtin "tuple.__new__" ⟨[.type "tuple", .ref it], []⟩)) _ _ s
    refine wpAny_bind (wpAny_of_eq (F.newCall_tuple_1 _) (wpAny_pure ⟨plainId_quiet F.plain_tuple_new _, codeAny_builtin F.entry_tuple_new ?_⟩))
    rw [Around.under_plainId F.plain_tuple_new _]
    wp_walk using wpAny_typeOf ty, told_items (A := A.in1.in1) hh x hne hn
    intro g tk acc k it2
    show wpAny _ _ (Builtin.Tuple.tupleExact acc.toList.toArray >>= fun v => ret v) _ _ _
    rw [Array.toArray_toList]
    unfold Builtin.Tuple.tupleExact
    exact wpAny_bind (wpAny_newObj_type (wpAny_pure ⟨⟨_, Heap.get?_push_size _ rfl, rfl⟩, q g tk acc k it2⟩) (by show acc.size ≤ sizeLine; rw [it2.1]; exact hn))
  exact callType_codes F.called_tuple (F.typeCall_tuple_1 _) F.entry_object_init made fun obj s1 h => ⟨h.1, F.args_object_init_2 obj _, object_init_meets F.called_tuple.init.lookup F.called_tuple.made (by decide) prog w A.in1 _ s1 ⟨h.1, rfl, h.2⟩⟩
end
end DLR
namespace DL
open PySem L2 PyProof.Rows
variable {X : Cx} {W : WX} {pos : Pos}
/-- tuple(reversed(x)), x a list or a tuple -/
def tTupRev2 (K : KF) (te : TE) : TE := fun σ H Q => te σ H fun v H1 => ∃ (a : Addr) (xs : List V), v = .ref a ∧ (SqL K H1 a xs ∨ SqT K H1 a xs) ∧ ∀ q o, H1 q = none → o.dict = none → Q (.ref q) (upd H1 q (.frz o (.tup xs.reverse)))
theorem pe_tupRev2 {e : Expr} {te : TE} {p p2 pos2 : Pos} (hc : X.calm = true) (hg : Gl X "tuple") (hm : X.mg "tuple" = none) (hg2 : Gl X "reversed") (hm2 : X.mg "reversed" = none) (he : PE X e te)
    (hs : starEach [e] X.env = (false, eval e X.env) :: starEach [] X.env := by rfl)
    (hs2 : starEach [.Call (.Name "reversed" p2) [e] [] pos2] X.env = (false, eval (.Call (.Name "reversed" p2) [e] [] pos2) X.env) :: starEach [] X.env := by rfl) :
    PE X (.Call (.Name "tuple" p) [.Call (.Name "reversed" p2) [e] [] pos2] [] pos) (tTupRev2 X.K te) := by
  refine ⟨fun pins s σ H Q I h => ?_⟩
  refine Call_ (ld_blt I hg hm boot_tuple (PyProof.Rows.callWith_type1 (args_cons (Call_ (ld_blt I hg2 hm2 PyProof.Rows.boot_reversed (PyProof.Rows.callWith_type1 (args_cons (thn (he.run pins s σ H _ I h) fun u s1 ⟨v, H1, I1, r1, q1⟩ => args_nil ?_) hs) hs rfl))) hs2) hs2 rfl))
  obtain ⟨a, xs, rfl, hq, q⟩ := q1
  cases (show u = Value.ref a from r1)
  -- the state behind the walk of a new iterator, and the tuple that is told
  have after : ∀ (o : Obj) (t0 : Nat) {g : Heap} {tk : Nat}, (∀ b o', b ≠ s1.heap.objs.size → (s1.heap.push o).get? b = some o' → g.get? b = some o') → Inv X pins σ H1 { s1 with heap := g, toks := tk } := fun o t0 {g tk} k =>
    have F := I1.fpOk (H' := H1) (b := s1.heap.objs.size) (Nat.le_refl _) (I1.hok.fresh (Nat.le_refl _))
    (I1.kept (h' := s1.heap.push o) (t' := t0) fun b o' e => Heap.get?_push_of_some _ e).turned (t' := tk) k F.1 F.2.1 F.2.2.2.1 F.2.2.2.2.1 F.2.2.2.2.2
  have told : ∀ {its : List Value} {g : Heap} {tk : Nat} {acc : Array Value}, Vals xs its → xs.length ≤ sizeLine → Inv X pins σ H1 { s1 with heap := g, toks := tk } → ItemsOf (DLR.Back its.toArray) acc its.toArray.size →
      EP X pins σ Q (.ref g.objs.size) { s1 with heap := g.push { cls := .type "tuple", data := .seq acc }, toks := tk } := fun {its g tk acc} rv hz J hi =>
    ⟨.ref g.objs.size, _, J.laid (t' := tk) (o := .frz _ (.tup xs.reverse)) (fun c o e => Heap.get?_push_of_some _ e) (Nat.le_refl _) ⟨Heap.get?_push_size _ rfl, by rw [List.length_reverse]; exact hz, acc.toList, RT.vals_rev rv hi, by rw [Array.toArray_toList]; exact IsTup.new _ _⟩, rfl, q _ { cls := .type "tuple", data := .seq acc } (J.hok.fresh (Nat.le_refl _)) rfl⟩
  have few : ∀ {its : List Value}, Vals xs its → xs.length ≤ sizeLine → its.toArray.size ≤ sizeLine := fun rv hz => by rw [List.size_toArray, ← rv.length]; exact hz
  rcases hq with hq | hq
  · obtain ⟨its, rv, p', hz⟩ := I1.list hq
    have isl := p'.isList
    have ne : a ≠ s1.heap.objs.size := let ⟨_, e, _⟩ := isl; Nat.ne_of_lt (Heap.lt_size e)
    exact call_reversed_list isl (args_nil (RT.call_tuple_rev (s := { s1 with heap := s1.heap.push (revObj a ((its.toArray.size : Int) - 1)) }) (I1.ok.hd hc) ⟨_, Heap.get?_push_size _ rfl, rfl, rfl⟩ (isl.push _) ne (few rv hz) fun g tk acc k hi => told rv hz (after _ s1.toks k) hi))
  · obtain ⟨its, rv, p', hz⟩ := I1.tuple hq
    have ne : a ≠ s1.heap.objs.size := let ⟨_, e, _⟩ := p'; Nat.ne_of_lt (Heap.lt_size e)
    have small : its.toArray.size < 4611686018427387904 := by have := few rv hz; rw [sizeLine_eq] at this; omega
    exact RT.call_reversed_tup p' (fun A E Q k => len_tuple p' (by have := small; omega) k) (args_nil (DLR.tuple_rt (s := { s1 with heap := s1.heap.push (RT.rtObj a ((its.toArray.size : Int) - 1)), toks := s1.toks + 1 + 1 }) (I1.ok.hd hc)
      ⟨⟨_, Heap.get?_push_size _ rfl, rfl, rfl⟩, p'.keeps fun b o e => Heap.get?_push_of_some _ e⟩ ne (few rv hz) fun g tk acc k hi => told rv hz (after _ (s1.toks + 1 + 1) k) hi))
def revT2 : List S → Option S
  | [p] => (seqS p).map fun xs => .d (.tuple xs.reverse)
  | _ => none
theorem revT2_ok {K : KF} {mg : MG} {s : L2.St} {H : Hp} {o : Od} {Q : VK} (h : tE K mg W (dApp [o] revT2) s H Q) : tTupRev2 K (tOd K mg W o) s H Q := by
  have h2 := app_gen (P := fun vs H1 => ∀ v, vs = [v] → ∃ (a : Addr) (xs : List V), v = .ref a ∧ (SqL K H1 a xs ∨ SqT K H1 a xs) ∧ ∀ q o, H1 q = none → o.dict = none → Q (.ref q) (upd H1 q (.frz o (.tup xs.reverse)))) h fun C I r vs ss x H1 R aa e q v hv => by
    subst hv
    unfold revT2 at e
    split at e
    · obtain ⟨xs, e1, e⟩ := Option.map_eq_some_iff.mp e
      cases e
      cases aa with
      | cons a1 a2 =>
        obtain ⟨a, vs, rfl, hq, da⟩ := seqS_ok R.sub a1 e1
        refine ⟨a, vs, rfl, hq, fun p o hp ho => ?_⟩
        have gr := grow_tup (o := .frz o (.tup vs.reverse)) R.sub hp ho
        exact q _ _ _ gr (.tup rd_frz (dpa_up gr.i _ _ (dpa_rev da)))
    · cases e
  exact tOd_mono h2 fun v H1 h => h v rfl
theorem de_tupRev2 {e : Expr} {o : Od} {p p2 pos2 : Pos} (hc : X.calm = true) (hg : Gl X "tuple") (hm : X.mg "tuple" = none) (hg2 : Gl X "reversed") (hm2 : X.mg "reversed" = none) (he : DO X W e o)
    (hs : starEach [e] X.env = (false, eval e X.env) :: starEach [] X.env := by rfl)
    (hs2 : starEach [.Call (.Name "reversed" p2) [e] [] pos2] X.env = (false, eval (.Call (.Name "reversed" p2) [e] [] pos2) X.env) :: starEach [] X.env := by rfl) :
    DE X W (.Call (.Name "tuple" p) [.Call (.Name "reversed" p2) [e] [] pos2] [] pos) (dApp [o] revT2) := pe_of (pe_tupRev2 hc hg hm hg2 hm2 he hs hs2) fun s H Q q => revT2_ok q
@[simp] theorem o_revT2 {q : S} {P : S → Prop} : Wo (revT2 [q]) P ↔ Wo (seqS q) fun xs => P (.d (.tuple xs.reverse)) := wo_map
end DL
/-! DLg1: dicts whose keys are tuples of texts and ints. -/
namespace DL
open PySem L2 PySem.Spec
def keysL : List D → Option (List Key)
  | [] => some []
  | x :: t => (keyOf x).bind fun k => (keysL t).map (k :: ·)
theorem keysL_ok {K : KF} {I : Hp} : ∀ {vs : List V} {ds : List D} {ks : List Key}, DpAll K I vs ds → keysL ds = some ks → vs = ks.map kV
  | _, _, _, .nil, e => by cases e; rfl
  | _, _, _, .cons a t, e => by
    obtain ⟨k, h1, e⟩ := Option.bind_eq_some_iff.mp e
    obtain ⟨r, h2, rfl⟩ := Option.map_eq_some_iff.mp e
    rw [keyOf_ok a h1, keysL_ok t h2]
    rfl
def ditS : S → Option (List (List Key × D))
  | .bor (.dit kvs) => some kvs
  | _ => none
theorem ditS_ok {K : KF} {I H : Hp} {v : V} {x : S} {kvs : List (List Key × D)} (h : ARel K I H v x) (e : ditS x = some kvs) : ∃ a ws, v = .ref a ∧ Rd H a (.dT ws) ∧ KvD K I ws kvs := by
  cases x with
  | bor m =>
    cases m with
    | dit k =>
      cases e
      obtain ⟨a, ea, ws, h1, h2⟩ := h
      exact ⟨a, ws, ea, .inl h1, h2⟩
    | _ => cases e
  | _ => cases e
def keyT : S → Option (List Key)
  | .d (.tuple xs) => keysL xs
  | _ => none
theorem keyT_ok {K : KF} {I H : Hp} {v : V} {x : S} {ks : List Key} (g : Same I H) (h : ARel K I H v x) (e : keyT x = some ks) : ∃ b, v = .ref b ∧ SqT K H b (ks.map kV) := by
  cases x with
  | d d =>
    cases d with
    | tuple xs =>
      obtain ⟨a, vs, h1, h2, h3⟩ := tupS_ok g h (show tupS (.d (.tuple xs)) = some xs from rfl)
      rw [keysL_ok h3 e] at h2
      exact ⟨a, h1, h2⟩
    | _ => cases e
  | _ => cases e
section
variable {X : Cx} {W : WX} {pos : Pos} {pins : List (Addr × Obj)} {σ : L2.St} {H : Hp} {s : Shared} {A : Around} {E : Value → Shared → Prop}
theorem key_ofT {b : Addr} {ks : List Key} (I : Inv X pins σ H s) (hq : SqT X.K H b (ks.map kV)) : (tupleKind (mixKind X.prog X.w)).is s.heap ks b := by
  obtain ⟨its, r, p, _⟩ := I.tuple hq
  obtain ⟨o, h1, h2, n, h3⟩ := p
  exact ⟨o, its.toArray, n, h1, h2, h3, by simpa using items_are r⟩
theorem d_getItemT {a b : Addr} {kvs : List (List Key × V)} {k : List Key} {v : V} {Q : Value → Shared → Prop} (hu : A.units + 1 < cLine) (I : Inv X pins σ H s) (e : Rd H a (.dT kvs)) (hq : SqT X.K H b (k.map kV)) (l : valV kvs k = some v) (h : ∀ w' s', Inv X pins σ H s' → RelV v w' → Q w' s') :
    wpAny (model X.prog X.w) A (getItem (.ref a) (.ref b)) Q E s := by
  obtain ⟨z, hd, xs, rel, dd⟩ := dt_rd I.hok e
  obtain ⟨w', hw, rw'⟩ := RelO.some_of (v := v) (o := (atKey xs k).map (·.2)) (by rw [← l]; exact rel.val k)
  obtain ⟨p, hp, hp2⟩ := Option.map_eq_some_iff.mp hw
  refine wpAny_getItem_heap (tupleKind_room_in1 hu) (key_ofT I hq) dd hp ?_
  rw [hp2]
  exact h w' _ (I.tok _) rw'
theorem d_inTt {a b : Addr} {kvs : List (List Key × V)} {k : List Key} {Q : Value → Shared → Prop} (hu : A.units + 1 < cLine) (I : Inv X pins σ H s) (e : Rd H a (.dT kvs)) (hq : SqT X.K H b (k.map kV)) (h : ∀ s', Inv X pins σ H s' → Q (.bool (valV kvs k).isSome) s') :
    wpAny (model X.prog X.w) A (compareOp .In (.ref b) (.ref a)) Q E s := by
  obtain ⟨z, hd, xs, rel, dd⟩ := dt_rd I.hok e
  refine wpAny_in_heap (tupleKind_room_in1 hu) (key_ofT I hq) hd dd ?_
  have q := (rel.val k).isSome_eq
  rw [Option.isSome_map] at q
  rw [← q]
  exact h _ (I.tok _)
theorem d_notInTt {a b : Addr} {kvs : List (List Key × V)} {k : List Key} {Q : Value → Shared → Prop} (hu : A.units + 1 < cLine) (I : Inv X pins σ H s) (e : Rd H a (.dT kvs)) (hq : SqT X.K H b (k.map kV)) (h : ∀ s', Inv X pins σ H s' → Q (.bool (!(valV kvs k).isSome)) s') :
    wpAny (model X.prog X.w) A (compareOp .NotIn (.ref b) (.ref a)) Q E s := by
  obtain ⟨z, hd, xs, rel, dd⟩ := dt_rd I.hok e
  refine PyProof.Rows.wpAny_notIn_heap (tupleKind_room_in1 hu) (key_ofT I hq) hd dd ?_
  have q := (rel.val k).isSome_eq
  rw [Option.isSome_map] at q
  rw [← q]
  exact h _ (I.tok _)
theorem dit_typeIs {a : Addr} {kvs : List (List Key × V)} (I : Inv X pins σ H s) (e : Rd H a (.dT kvs)) : s.TypeIs (.ref a) "dict" := by
  obtain ⟨_, _, _, _, o, es, ep, ho, hx, _⟩ := (show ObjOk X.prog X.w H s.heap a (.dT kvs) from rd_of I.hok e)
  exact ⟨o, ho, hx.1⟩
/-! ### (a, b) in d, d[k] -/
def inDit (neg : Bool) : List S → Option S
  | [x, q] => (keyT x).bind fun k => (ditS q).map fun kvs => .d (.bool (if neg = true then !(valD kvs k).isSome else (valD kvs k).isSome))
  | _ => none
theorem inDit_inv {neg : Bool} {ss : List S} {z : S} (e : inDit neg ss = some z) : ∃ x q k kvs, ss = [x, q] ∧ keyT x = some k ∧ ditS q = some kvs ∧ z = .d (.bool (if neg = true then !(valD kvs k).isSome else (valD kvs k).isSome)) := by
  unfold inDit at e
  split at e
  · rename_i x q
    obtain ⟨k, h1, e⟩ := Option.bind_eq_some_iff.mp e
    obtain ⟨kvs, h2, e⟩ := Option.map_eq_some_iff.mp e
    exact ⟨x, q, k, kvs, rfl, h1, h2, e.symm⟩
  · cases e
theorem ok_inDit (hu : X.A.units + 64 < cLine) : OpD X (compareOp .In) (inDit false) := by
  intro pins s σ H x y v u Q I rx ry h1
  obtain ⟨I', ss, z, g, p, e, q⟩ := h1
  obtain ⟨x1, q1, k, kvs, rfl, e1, e2, rfl⟩ := inDit_inv e
  obtain ⟨p1, p2, e3, a1, a2⟩ := aall2 p
  cases e3
  obtain ⟨a, ws, rfl, hr, kv⟩ := ditS_ok a2 e2
  obtain ⟨b, rfl, hq⟩ := keyT_ok g a1 e1
  cases ry
  cases rx
  refine d_inTt (by omega) I hr hq fun s' I2 => ⟨.bl _, H, I2, rfl, ?_⟩
  rw [kvd_isSome kv]
  exact q _ I' H (Grow.refl g) (.bl _)
theorem ok_notInDit (hu : X.A.units + 64 < cLine) : OpD X (compareOp .NotIn) (inDit true) := by
  intro pins s σ H x y v u Q I rx ry h1
  obtain ⟨I', ss, z, g, p, e, q⟩ := h1
  obtain ⟨x1, q1, k, kvs, rfl, e1, e2, rfl⟩ := inDit_inv e
  obtain ⟨p1, p2, e3, a1, a2⟩ := aall2 p
  cases e3
  obtain ⟨a, ws, rfl, hr, kv⟩ := ditS_ok a2 e2
  obtain ⟨b, rfl, hq⟩ := keyT_ok g a1 e1
  cases ry
  cases rx
  refine d_notInTt (by omega) I hr hq fun s' I2 => ⟨.bl _, H, I2, rfl, ?_⟩
  rw [kvd_isSome kv]
  exact q _ I' H (Grow.refl g) (.bl _)
theorem de_inDit {a b : Expr} {oa ob : Od} (hu : X.A.units + 64 < cLine) (ha : DO X W a oa) (hb : DO X W b ob) (hm : behindInMarks .In b = false) : DE X W (.Compare a [.In] [b] pos) (dApp [oa, ob] (inDit false)) := de_cmp (ok_inDit hu) ha hb hm
theorem de_notinDit {a b : Expr} {oa ob : Od} (hu : X.A.units + 64 < cLine) (ha : DO X W a oa) (hb : DO X W b ob) (hm : behindInMarks .NotIn b = false) : DE X W (.Compare a [.NotIn] [b] pos) (dApp [oa, ob] (inDit true)) := de_cmp (ok_notInDit hu) ha hb hm
theorem dt_inDit {a b : Expr} {oa ob : Od} (hu : X.A.units + 64 < cLine) (ha : DO X W a oa) (hb : DO X W b ob) (hm : behindInMarks .In b = false) : DT X W (.Compare a [.In] [b] pos) (cTst (dApp [oa, ob] (inDit false))) := dt_cmp (ok_inDit hu) ha hb hm
theorem dt_notinDit {a b : Expr} {oa ob : Od} (hu : X.A.units + 64 < cLine) (ha : DO X W a oa) (hb : DO X W b ob) (hm : behindInMarks .NotIn b = false) : DT X W (.Compare a [.NotIn] [b] pos) (cTst (dApp [oa, ob] (inDit true))) := dt_cmp (ok_notInDit hu) ha hb hm
def ixDit : List S → Option S
  | [q, x] => (keyT x).bind fun k => (ditS q).bind fun kvs => (valD kvs k).map .d
  | _ => none
theorem ixDit_inv {ss : List S} {z : S} (e : ixDit ss = some z) : ∃ x q k kvs d, ss = [q, x] ∧ keyT x = some k ∧ ditS q = some kvs ∧ valD kvs k = some d ∧ z = .d d := by
  unfold ixDit at e
  split at e
  · rename_i q x
    obtain ⟨k, h1, e⟩ := Option.bind_eq_some_iff.mp e
    obtain ⟨kvs, h2, e⟩ := Option.bind_eq_some_iff.mp e
    obtain ⟨d, h3, e⟩ := Option.map_eq_some_iff.mp e
    exact ⟨x, q, k, kvs, d, rfl, h1, h2, h3, e.symm⟩
  · cases e
theorem ok_ixDit (hu : X.A.units + 64 < cLine) : IxR X fun x y H Q => rApp X.K ixDit [x, y] H Q := by
  intro value slice pins s σ H x y v u Q I rx ry h1 hs
  obtain ⟨I', ss, z, g, p, e, q⟩ := h1
  obtain ⟨x1, q1, k, kvs, d, rfl, e1, e2, e3, rfl⟩ := ixDit_inv e
  obtain ⟨p1, p2, e4, a1, a2⟩ := aall2 p
  cases e4
  obtain ⟨a, ws, rfl, hr, kv⟩ := ditS_ok a1 e2
  obtain ⟨b, rfl, hq⟩ := keyT_ok g a2 e1
  cases rx
  cases ry
  obtain ⟨w, hw, pw⟩ := kvd_some kv e3
  exact PyProof.Rows.tail_any (dit_typeIs I hr) PySem.F.slot_dict_getitem.lookup (d_getItemT (by omega) I hr hq hw fun w' s' I2 rw' => ⟨w, H, I2, rw', q w I' H (Grow.refl g) pw⟩) hs
theorem de_itemDit {a b : Expr} {oa ob : Od} (hu : X.A.units + 64 < cLine) (ha : DO X W a oa) (hb : DO X W b ob) (hs : PlainIx b) : DE X W (.Subscript a b pos) (dApp [oa, ob] ixDit) := de_ix (ok_ixDit hu) ha hb hs
/-! ### {} -/
def dNewT : EF S := fun r => some (.ok (.own false (.dit [])), r)
theorem newT_ok {K : KF} {mg : MG} {s : L2.St} {H : Hp} {Q : VK} (h : tE K mg W dNewT s H Q) : tDNewT s H Q := fun p hp => by
  obtain ⟨C, I, r, o, r', R, e, q⟩ := h
  cases e
  have gr := grow_own (o := .dT []) R.sub hp
  exact q _ I _ (R.grow gr) (Same.refl I) (R.newS gr ⟨p, rfl, hp, R.sub.free hp, [], upd_same, .nil⟩)
theorem de_newT : DE X W (.Dict [] [] pos) dNewT := pe_of pe_dnewT fun s H Q q => newT_ok q
/-! ### d[a, b] = v -/
def sSetT (i : Nat) (os : List Od) (f : EF D) : SM := sx f fun d => sx (ev1 (.sl i)) fun _ => sx (evO os) fun ovs => fun r => match getAll r ovs with
  | some ss => (match datas ss with
    | some xs => (match keysL xs, r[i]? with
      | some k, some (some (.own b (.dit kvs))) => if kvs.length < 16777216 ∧ k.length ≤ 16777216 then some (.nx, r.set i (some (.own b (.dit (putD kvs k d))))) else none
      | _, _ => none)
    | none => none)
  | none => none
theorem ds_setT {i : Nat} {x : Str} {p1 p2 p3 : Pos} {k0 : Nat} {es : List Expr} {os : List Od} {ev : Expr} {f : EF D} (hu : X.A.units + 64 < cLine) (ho : PE X (.Name x p1) (tVar i)) (hi : DA X W es os) (hv : DD X W ev f)
    (hs : swapsWithSole [.Subscript (.Name x p1) (.Tuple es k0 p3) p2] ev pos.line X.env = pure false := by rfl) (hw : swappedStores [.Subscript (.Name x p1) (.Tuple es k0 p3) p2] ev X.env = pure none := by rfl)
    (h1 : (assignEach [.Subscript (.Name x p1) (.Tuple es k0 p3) p2] X.env).map (·.2) = [assign (.Subscript (.Name x p1) (.Tuple es k0 p3) p2) X.env] := by rfl)
    (ha : ∀ v, assign (.Subscript (.Name x p1) (.Tuple es k0 p3) p2) X.env v = (do
      let ov ← holding [v] (eval (.Name x p1) X.env)
      let iv ← holding [v, ov] (eval (.Tuple es k0 p3) X.env)
      standAt p2
      holding [v, ov, iv] (setItem ov iv v)
      release [v, ov, iv] []) := by intro _; rfl) : DS X W (.Assign [.Subscript (.Name x p1) (.Tuple es k0 p3) p2] ev pos) (sSetT i os f) :=
  ps_of (ps_asg hv (pg_sub ho (pe_tup hi) (set_both hu) ha) hs hw h1) fun D s H q => tD_sx q fun C I H' r r' o d v R t e q => by
    rcases sx_inv e with ⟨ov, r0, h0, e⟩ | ⟨x, h0, rfl⟩
    · have h0 : (match r[i]? with
        | some (some _) => some (DL.R.ok (Ov.sl i), r)
        | _ => none) = some (.ok ov, r0) := h0
      split at h0
      · rename_i y hr0
        cases h0
        obtain ⟨v0, hv0, _⟩ := R.slot i y hr0
        refine ⟨v0, hv0, ?_⟩
        rcases sx_inv e with ⟨ovs, r1, hk, e⟩ | ⟨x, hk, rfl⟩
        · refine evO_ok os R hk fun vs I2 H2 R2 g2 aa => ?_
          split at e
          · rename_i ss hss
            split at e
            · rename_i xs hxs
              split at e
              · rename_i k b kvs hk3 hr
                split at e
                · rename_i hl
                  cases e
                  have hvs := keysL_ok (datas_ok (getAll_ok R2 aa hss) hxs) hk3
                  subst hvs
                  refine ⟨by rw [List.length_map, sizeLine_eq]; exact hl.2, fun p hp => ?_⟩
                  have gr := grow_own (o := .tup (k.map kV)) R2.sub hp
                  have R3 := R2.grow gr
                  obtain ⟨v2, hv2, z2⟩ := R3.slot i _ hr
                  rw [hv0] at hv2
                  cases hv2
                  obtain ⟨a2, ea2, na, ⟨ws, h1, h2⟩, _⟩ := own_nz z2
                  subst ea2
                  refine .inr ⟨a2, _, rfl, DPut.t h1 upd_same (by rw [kvd_len h2, sizeLine_eq]; exact hl.1), ?_⟩
                  exact q s _ _ (R3.mut hr hv0 ⟨_, upd_same, kvd_put h2 (dp_up (g2.trans gr.i) _ _ t)⟩) (g2.trans gr.i)
                · cases e
              · cases e
            · cases e
          · cases e
        · exact evO_ok os R hk fun c dx I' H' R' g t => q c dx s I' H' R' g t
      · cases h0
    · have h0 : (match r[i]? with
        | some (some _) => some (DL.R.ok (Ov.sl i), r)
        | _ => none) = some (.ex x, r') := h0
      split at h0 <;> cases h0
/-! ### simp -/
section
variable {r : Env} {N : Env → Prop} {Q : O → Env → Prop}
def WsetT : Option (Option S) → Env → Nat → List Key → D → (Env → Prop) → Prop
  | some (some (.own b (.dit kvs))), r, i, k, d, N => kvs.length < 16777216 ∧ k.length ≤ 16777216 ∧ N (r.set i (some (.own b (.dit (putD kvs k d)))))
  | _, _, _, _, _, _ => False
@[simp] theorem wsetT_d {b : Bool} {kvs : List (List Key × D)} {i : Nat} {k : List Key} {d : D} : WsetT (some (some (.own b (.dit kvs)))) r i k d N ↔ kvs.length < 16777216 ∧ k.length ≤ 16777216 ∧ N (r.set i (some (.own b (.dit (putD kvs k d))))) := Iff.rfl
@[simp] theorem ws_setT {i : Nat} {os : List Od} {f : EF D} : Ws (sSetT i os f) r N Q ↔ Wp f r (fun d r1 => isOn r1[i]? ∧ Wp (evO os) r1 (fun ovs r2 => Wo (getAll r2 ovs) fun ss => Wo (datas ss) fun xs => Wo (keysL xs) fun k => WsetT r2[i]? r2 i k d N) fun x r1 => Q (.ex x) r1) fun x r1 => Q (.ex x) r1 := by
  refine ws_sxC fun d r1 => ?_
  rw [ws_sx, wp_e1s]
  refine and_congr_right fun _ => ws_sxC fun ovs r2 => ?_
  unfold Ws
  dsimp only
  cases getAll r2 ovs with
  | none => rfl
  | some ss =>
    dsimp only [Wo]
    cases datas ss with
    | none => rfl
    | some xs =>
      dsimp only [Wo]
      cases keysL xs with
      | none => rfl
      | some k =>
        dsimp only [Wo]
        unfold WsetT
        cases r2[i]? with
        | none => rfl
        | some z =>
          cases z with
          | none => rfl
          | some z =>
            cases z with
            | d x => rfl
            | bor m => rfl
            | lck m => rfl
            | own b m =>
              cases m with
              | dit kvs =>
                dsimp only
                by_cases h : kvs.length < 16777216 ∧ k.length ≤ 16777216
                · rw [if_pos h]
                  exact ⟨fun q => ⟨h.1, h.2, q⟩, fun q => q.2.2⟩
                · rw [if_neg h]
                  exact ⟨fun q => q.elim, fun q => h ⟨q.1, q.2.1⟩⟩
              | _ => rfl
end
section
variable {P : S → Prop} {r : Env} {Pe : S → Env → Prop} {E : Exc → Env → Prop}
@[simp] theorem wp_newT : Wp dNewT r Pe E ↔ Pe (.own false (.dit [])) r := Iff.rfl
@[simp] theorem keyT_2 {a b : Str} : keyT (.d (.tuple [.str a, .str b])) = some [.inr a, .inr b] := rfl
@[simp] theorem keysL_2 {a b : Str} : keysL [.str a, .str b] = some [.inr a, .inr b] := rfl
@[simp] theorem ditS_b {kvs : List (List Key × D)} : ditS (.bor (.dit kvs)) = some kvs := rfl
@[simp] theorem o_inDit {neg : Bool} {a b : Str} {kvs : List (List Key × D)} : inDit neg [.d (.tuple [.str a, .str b]), .bor (.dit kvs)] = some (.d (.bool (if neg = true then !(valD kvs [.inr a, .inr b]).isSome else (valD kvs [.inr a, .inr b]).isSome))) := rfl
@[simp] theorem o_ixDit {a b : Str} {kvs : List (List Key × D)} : ixDit [.bor (.dit kvs), .d (.tuple [.str a, .str b])] = (valD kvs [.inr a, .inr b]).map .d := rfl
end
end
end DL
/-! DLg2: a, b, .. = a list. -/
namespace DL
open PySem L2 PySem.Spec
section
variable {X : Cx} {W : WX} {pos tpos : Pos}
theorem bindTs_len : ∀ (ts : List Tg) (xs : List D) (r r' : Env), bindTs ts xs r = some r' → xs.length = ts.length := by
  intro ts
  induction ts with
  | nil => intro xs r r' e; cases xs with
    | nil => rfl
    | cons _ _ => simp [bindTs] at e
  | cons t ts ih => intro xs r r' e; cases xs with
    | nil => simp [bindTs] at e
    | cons d xs =>
      unfold bindTs at e
      split at e
      · simp [ih _ _ _ e]
      · cases e
def sUnpL (ts : List Tg) (f : EF D) : SM := sx f fun d => fun r => match d with
  | .list xs => (match bindTs ts xs r with
    | some r' => some (.nx, r')
    | none => none)
  | _ => none
theorem ds_unpL {es : List Expr} {k : Nat} {e : Expr} {ts : List Tg} {f : EF D} (hc : X.calm = true) (hv : DD X W e f) (hg : DGs X es ts) (hl : es.length = ts.length := by rfl) (hst : (assignEach es X.env).findIdx? (·.1) = none := by rfl) (hn : (assignEach es X.env).length = es.length := by rfl)
    (hs : swapsWithSole [.Tuple es k tpos] e pos.line X.env = pure false := by rfl) (hw : swappedStores [.Tuple es k tpos] e X.env = pure none := by rfl)
    (h1 : (assignEach [.Tuple es k tpos] X.env).map (·.2) = [assign (.Tuple es k tpos) X.env] := by rfl) : DS X W (.Assign [.Tuple es k tpos] e pos) (sUnpL ts f) :=
  ps_of (ps_asg hv (pg_unl hc hg (n := ts.length) (hn.trans hl) hst) hs hw h1) fun D s H q => tD_sx q fun C I H' r r' o d v R p e q => by
    split at e
    · rename_i xs
      split at e
      · rename_i r1 hb
        cases e
        obtain ⟨a, vs, rfl, hs, ha⟩ := lstS_ok R.sub (show ARel X.K I H' v (.d (.list xs)) from p) (show lstS (.d (.list xs)) = some xs from rfl)
        refine ⟨a, vs, rfl, hs, (dpa_len ha).trans (bindTs_len _ _ _ _ hb), C, I, r, xs, _, R, ha, hb, fun s' R' _ => q s' I H' R' (Same.refl I)⟩
      · cases e
    · cases e
section
variable {r : Env} {N : Env → Prop} {Q : O → Env → Prop}
def WunpL (ts : List Tg) (r : Env) (N : Env → Prop) : D → Prop
  | .list xs => Wo (bindTs ts xs r) N
  | _ => False
@[simp] theorem wunpL_l {ts : List Tg} {xs : List D} : WunpL ts r N (.list xs) ↔ Wo (bindTs ts xs r) N := Iff.rfl
@[simp] theorem ws_unpL {ts : List Tg} {f : EF D} : Ws (sUnpL ts f) r N Q ↔ Wp f r (fun d r1 => WunpL ts r1 N d) fun x r1 => Q (.ex x) r1 := by
  refine ws_sxC fun d r1 => ?_
  unfold Ws
  cases d with
  | list xs =>
    dsimp only
    show _ ↔ Wo (bindTs ts xs r1) N
    cases bindTs ts xs r1 <;> rfl
  | _ => rfl
end
end
end DL
/-! ### E.index(x), E a list or a tuple of data -/
namespace DL
open PySem L2 PyProof.Rows
variable {X : Cx} {W : WX} {pos : Pos}
/-- no known tuple has a dict of its own -/
def KTz (K : KF) : Prop := ∀ a o, K.lookup a = some o → o.cls = .type "tuple" → o.dict = none
def ktzB (K : KF) : Bool := K.all fun p => (match p.2.cls with | .type s => s != "tuple" | _ => true) || p.2.dict.isNone
theorem ktz_of {K : KF} (h : ktzB K = true) : KTz K := fun a o e c => by
  have hm : (a, o) ∈ K := by
    clear h c
    induction K with
    | nil => cases e
    | cons p t ih =>
      obtain ⟨b, u⟩ := p
      rw [List.lookup_cons] at e
      split at e
      · rename_i hb
        cases e
        have := eq_of_beq hb
        subst this
        exact List.mem_cons_self
      · exact List.mem_cons_of_mem _ (ih e)
  have := List.all_eq_true.mp h _ hm
  rw [c] at this
  simpa using this
/-- a known tuple without a dict of its own -/
def NdT (K : KF) (H : Hp) (a : Addr) (xs : List V) : Prop := SqT K H a xs ∧ ((∃ o u, H a = some (.frz o u) ∧ o.dict = none) ∨ ∃ o, K.lookup a = some o ∧ o.dict = none)
theorem ndT_of {K : KF} {I H : Hp} {a : Addr} {vs : List V} (kz : KTz K) (z : Tz I) (g : Same I H) (h : SqT K I a vs) : NdT K H a vs := by
  refine ⟨Evl.ex_t g h, ?_⟩
  rcases h with (h | ⟨o, h⟩) | ⟨o, its, n, hk, hc, _⟩
  · exact (z a _ h).elim
  · exact .inl ⟨o, _, g _ _ h, z a _ h⟩
  · exact .inr ⟨o, hk, kz a o hk hc⟩
def tBMT (K : KF) (r : V → List V → Hp → VK → Prop) (to : TE) (t : TA) : TE := fun σ H Q => to σ H fun x H1 => (∃ a xs, x = .ref a ∧ NdT K H1 a xs) ∧ t σ H1 fun xs H2 => r x xs H2 Q
theorem ndT_is {pins : List (Addr × Obj)} {σ : L2.St} {H : Hp} {s : Shared} {a : Addr} {xs : List V} (I : Inv X pins σ H s) (n : NdT X.K H a xs) :
    s.TypeIs (.ref a) "tuple" ∧ ∀ b, Value.ref a = .ref b → ∃ ob, s.heap.get? b = some ob ∧ ob.dict = none := by
  obtain ⟨hq, z⟩ := n
  obtain ⟨its, _, pl, _⟩ := I.tuple hq
  refine ⟨pl.typeIs, fun b e => ?_⟩
  cases e
  rcases z with ⟨o, u, e, hd⟩ | ⟨o, hk, hd⟩
  · exact ⟨o, (I.hok a _ e).1, hd⟩
  · exact ⟨o, I.kIn _ o hk, hd⟩
theorem pe_bmT {o e : Expr} {es : List Expr} {to : TE} {t : TA} {name : Str} {apos cpos : Pos} {id : String} {r : V → List V → Hp → VK → Prop} (slot : Slot "tuple" name id) (hty : typeOf (.builtin id) = pure (.type "method_descriptor")) (hm : MtR X id r) (ho : PE X o to) (ha : PA X (e :: es) t)
    (hbase : attributeBase o name X.env (eval o X.env) = eval o X.env := by rfl)
    (hfew : ((backTo cpos (starEach (e :: es) X.env)).all (fun x => !x.1) && (backToKw cpos (keywordEach [] X.env)).all (fun x => x.1.isSome)
      && decide ((e :: es).length + ([] : List Keyword).length + (if ([] : List Keyword).isEmpty then 0 else 1) < 30)) = true := by rfl)
    (hline : (apos.endLine == cpos.line) = true := by rfl) (hs : starEach (e :: es) X.env = (false, eval e X.env) :: starEach es X.env := by rfl) (hplain : (backTo cpos (starEach es X.env)).any (·.1) = false := by rfl) :
    PE X (.Call (.Attribute o name apos) (e :: es) [] cpos) (tBMT X.K r to t) := by
  refine ⟨fun pins s σ H Q I h => ?_⟩
  refine wpAny_Call_method_late hbase hfew hline rfl (thn (ho.run pins s σ H _ I h) fun v s1 ⟨x, H1, I1, r1, ty, q1⟩ => ?_)
  obtain ⟨a, xs, rfl, nd⟩ := ty
  have rr := r1
  cases r1
  obtain ⟨h1, h2⟩ := ndT_is I1 nd
  refine ⟨"tuple", id, PySem.F.plainAttrs_tuple, slot, hty, h1, h2, ?_⟩
  have hA := ha.run cpos pins s1 σ H1 _ I1 q1
  rw [hs] at hA ⊢
  refine Calls.callWith_builtin (by show (false || (backTo cpos (starEach es X.env)).any (·.1)) = false; rw [hplain] <;> rfl) (Calls.evalArgs_plain ?_)
  exact thn hA fun us s2 ⟨vs, H2, I2, r2, q2⟩ => hm pins s2 σ H2 _ vs _ us Q I2 rr r2 q2
theorem mt_idxTD (hu : X.A.units + 64 < cLine) (xs : List D) : MtR X "tuple.index" fun x vs H Q => Dp X.K H x (.tuple xs) ∧ rApp X.K (idxO xs) vs H Q := by
  intro pins s σ H x vs v us Q I rx rv h
  obtain ⟨hx, I', ss, z, g, p, e, q⟩ := h
  unfold idxO at e
  split at e
  · rename_i d
    split at e
    · rename_i hm
      obtain ⟨j, hj, e⟩ := Option.map_eq_some_iff.mp e
      cases e
      cases p with
      | cons a1 a2 =>
        cases a2
        rename_i y
        have hy : Dp X.K H y d := dp_up g _ _ a1
        obtain ⟨u, eu, ry⟩ := vals1 rv
        subst eu
        obtain ⟨bs, rd⟩ := Dp.reads I d y u hy ry
        cases hx with
        | tup hs ha =>
          cases rx
          obtain ⟨its, r, ⟨o, ho, hc, n, hdt⟩, hlen⟩ := I.tuple hs
          obtain ⟨cls, dd, data, sls⟩ := o
          simp only at hc hdt
          subst hc hdt
          obtain ⟨as, ra⟩ := Dp.readsAll I xs _ its ha r
          have hr : X.A.units + 1 + d.depth < cLine := by omega
          have hi := items_eqTo (A := X.A) ra rd (dpa_nd _ _ ha) (dp_nd _ _ hy) hr
          have hmap := map_eqTo (d := d) ra
          have hl : its.length = xs.length := by simpa using congrArg List.length hmap
          obtain ⟨h1, h2, h3⟩ := List.findIdx?_eq_some_iff_getElem.mp hj
          have at_ : ∀ m (hm : m < its.length), eqTo s.heap d its[m] = PyData.eqv (xs[m]'(by omega)) d := fun m hm => by
            have := congrArg (fun l => l[m]?) hmap
            simp only [List.getElem?_map, List.getElem?_eq_getElem hm, List.getElem?_eq_getElem (show m < xs.length by omega), Option.map_some] at this
            exact Option.some.inj this
          refine call_meets PySem.F.slot_tuple_index ⟨_, ho, rfl⟩ PySem.F.entry_tuple_index (PySem.F.args_tuple_index_2 _ _)
            (SeqAt.tuple_index2_found _ its.toArray n dd sls u (fun m => if h : m < its.length then eqTo s.heap d its[m] else false) j (by simp; omega) (Nat.zero_le _) (by simp; omega) ?_ fun m hm2 _ hmj => ?_) ⟨ho, fun m hm2 => ?_, ?_⟩
          · have := at_ j (by omega)
            simp only [show j < its.length by omega, dite_true]
            rw [this]
            exact h2
          · have hm3 : m < its.length := by omega
            have := at_ m hm3
            simp only [hm3, dite_true]
            rw [this]
            simpa using h3 m hmj
          · have hm3 : m < its.length := by simpa using hm2
            simp only [hm3, dite_true, List.getElem_toArray]
            exact hi _ (List.getElem_mem hm3)
          · exact ⟨.int (j : Nat), H, I.tok _, ⟨_, rfl⟩, q _ I' H (Grow.refl g) (.int _)⟩
    · cases e
  · cases e
theorem mt_idxTR (hu : X.A.units + 64 < cLine) : MtR X "tuple.index" fun x vs H Q => ∃ xs, Dp X.K H x (.tuple xs) ∧ rApp X.K (idxO xs) vs H Q := by
  intro pins s σ H x vs v us Q I rx rv h
  obtain ⟨xs, h⟩ := h
  exact mt_idxTD hu xs pins s σ H x vs v us Q I rx rv h
def dIdxT (o : Od) (ods : List Od) : EF S := eb (ev1 o) fun ov r => match ov.get r with
  | some (.d (.tuple xs)) => dApp ods (idxO xs) r
  | _ => none
theorem de_idxT {o e : Expr} {oo oe : Od} {apos : Pos} (hu : X.A.units + 64 < cLine) (kz : KTz X.K) (ho : DO X W o oo) (ha : DA X W [e] [oe])
    (hbase : attributeBase o "index" X.env (eval o X.env) = eval o X.env := by rfl)
    (hfew : ((backTo pos (starEach [e] X.env)).all (fun x => !x.1) && (backToKw pos (keywordEach [] X.env)).all (fun x => x.1.isSome)
      && decide ([e].length + ([] : List Keyword).length + (if ([] : List Keyword).isEmpty then 0 else 1) < 30)) = true := by rfl)
    (hline : (apos.endLine == pos.line) = true := by rfl) (hs : starEach [e] X.env = (false, eval e X.env) :: starEach [] X.env := by rfl) (hpl : (backTo pos (starEach [] X.env)).any (·.1) = false := by rfl) :
    DE X W (.Call (.Attribute o "index" apos) [e] [] pos) (dIdxT oo [oe]) := by
  refine pe_of (pe_bmT PySem.F.slot_tuple_index PySem.F.type_tuple_index (mt_idxTR hu) ho ha hbase hfew hline hs hpl) fun s H Q ⟨C, I, r, o, r', R, e, q⟩ => ?_
  refine od_eb R e (fun x z => by subst z; exact q) fun v I1 H1 ov r1 R1 g1 ov1 e => ?_
  split at e
  · rename_i xs hx
    have ar := get_ok R1 ov1 hx
    have ar : Dp X.K I1 v (.tuple xs) := ar
    have arH : Dp X.K H1 v (.tuple xs) := dp_up R1.sub _ _ ar
    refine ⟨?_, ?_⟩
    · cases ar with
      | tup hs ha => exact ⟨_, _, rfl, ndT_of kz R1.tz R1.sub hs⟩
    · rcases app_inv e with ⟨os, ss, x, ho, hg, hx, rfl⟩ | ⟨x, ho, rfl⟩
      · exact evO_ok [oe] R1 ho fun vs I' H' R' g a => ⟨xs, dp_up R'.sub _ _ (dp_up g _ _ ar), I', ss, x, R'.sub, getAll_ok R' a hg, hx, fun v2 I2 H2 gr n => q v2 I2 H2 (R'.grow gr) ((g1.trans g).trans gr.i) (R'.newS gr n)⟩
      · exact evO_ok [oe] R1 ho (XPost.up g1 q)
  · cases e
/-- of a list or a tuple -/
def dIdx2 (o : Od) (ods : List Od) : EF S := eb (ev1 o) fun ov r => match ov.get r with
  | some (.d (.list xs)) => dApp ods (idxO xs) r
  | some (.d (.tuple xs)) => dApp ods (idxO xs) r
  | _ => none
theorem de_either {e : Expr} {f g h : EF S} (hf : DE X W e f) (hg : DE X W e g) (w : ∀ r x, h r = some x → f r = some x ∨ g r = some x) : DE X W e h :=
  ⟨fun pins s σ H Q I ⟨C, J, r, o, r', R, e, q⟩ => by
    rcases w r _ e with e | e
    · exact hf.run pins s σ H Q I ⟨C, J, r, o, r', R, e, q⟩
    · exact hg.run pins s σ H Q I ⟨C, J, r, o, r', R, e, q⟩⟩
theorem de_idx2 {o e : Expr} {oo oe : Od} {apos : Pos} (hu : X.A.units + 64 < cLine) (kz : KTz X.K) (ho : DO X W o oo) (ha : DA X W [e] [oe])
    (hbase : attributeBase o "index" X.env (eval o X.env) = eval o X.env := by rfl)
    (hfew : ((backTo pos (starEach [e] X.env)).all (fun x => !x.1) && (backToKw pos (keywordEach [] X.env)).all (fun x => x.1.isSome)
      && decide ([e].length + ([] : List Keyword).length + (if ([] : List Keyword).isEmpty then 0 else 1) < 30)) = true := by rfl)
    (hline : (apos.endLine == pos.line) = true := by rfl) (hs : starEach [e] X.env = (false, eval e X.env) :: starEach [] X.env := by rfl) (hpl : (backTo pos (starEach [] X.env)).any (·.1) = false := by rfl) :
    DE X W (.Call (.Attribute o "index" apos) [e] [] pos) (dIdx2 oo [oe]) :=
  de_either (de_idx hu ho ha hbase hfew hline hs hpl) (de_idxT hu kz ho ha hbase hfew hline hs hpl) fun r x e => by
    obtain ⟨xo, xr⟩ := x
    unfold dIdx2 at e
    unfold dIdx dIdxT
    rcases eb_inv e with ⟨os, r1, ho, e⟩ | ⟨x, ho, rfl⟩
    · unfold eb
      rw [ho]
      dsimp only
      split at e
      · rename_i h
        exact .inl (by rw [h]; exact e)
      · rename_i h
        exact .inr (by rw [h]; exact e)
      · cases e
    · exact .inl (by unfold eb; rw [ho])
def Widx2 (o : Option S) (P : List D → Prop) (_u : Blk P := .mk) : Prop := match o with
  | some (.d (.list xs)) => P xs
  | some (.d (.tuple xs)) => P xs
  | _ => False
@[simp] theorem widx2_l {xs : List D} {P : List D → Prop} : Widx2 (some (.d (.list xs))) P ↔ P xs := Iff.rfl
@[simp] theorem widx2_t {xs : List D} {P : List D → Prop} : Widx2 (some (.d (.tuple xs))) P ↔ P xs := Iff.rfl
@[simp] theorem wp_idx2 {o : Od} {ods : List Od} {r : Env} {P : S → Env → Prop} {E : Exc → Env → Prop} : Wp (dIdx2 o ods) r P E ↔ Wp (ev1 o) r (fun ov r1 => Widx2 (ov.get r1) fun xs => Wp (dApp ods (idxO xs)) r1 P E) E := by
  refine wp_ebC fun ov r1 => ?_
  unfold Widx2
  split
  · rename_i a h
    simp only [Wp, h]
  · rename_i a h
    simp only [Wp, h]
  · rename_i h
    unfold Wp
    split
    · rename_i e; dsimp only at e; split at e <;> simp_all
    · rename_i e; dsimp only at e; split at e <;> simp_all
    · rfl
end DL
/-! ### a call whose callee reads some lists of one's own as data -/
namespace DL
open PySem L2
open PyProof.Rows (envOfC)
mutual
def noLst : D → Bool
  | .tuple xs => noLsts xs
  | .list _ => false
  | .dict _ => false
  | .none => true
  | .bool _ => true
  | .int _ => true
  | .str _ => true
def noLsts : List D → Bool
  | [] => true
  | x :: xs => noLst x && noLsts xs
end
/-- borrowed lists are read as data -/
def frzS : List Bool → List S → List S
  | true :: zs, .bor (.lst xs) :: ss => .d (.list xs) :: frzS zs ss
  | _ :: zs, s :: ss => s :: frzS zs ss
  | _, ss => ss
def okZ : R S → Bool
  | .ok (.d x) => noLst x
  | .ok (.own false (.lst xs)) => noLsts xs
  | .ex x => x.fs.all fun p => noLst p.2
  | _ => false
def dCallZ (F : FD) (zs : List Bool) (ods : List Od) : EF S := eb (evO ods) fun ov r => match getAll r ov with
  | some ss => match F (frzS zs ss) with
    | some (o, _) => if okZ o = true then some (o, r) else none
    | none => none
  | none => none
section
variable {K : KF} {I J : Hp}
/-- tuples stay data where lists go -/
def Cut (I J : Hp) : Prop := ∀ b u, I b = some u → (∀ ws, u ≠ .lst ws) → J b = some u
mutual
theorem dp_cut (c : Cut I J) : ∀ (d : D) (v : V), noLst d = true → Dp K I v d → Dp K J v d
  | .none, _, _, h => by cases h; exact .non
  | .bool b, _, _, h => by cases h; exact .bl b
  | .int i, _, _, h => by cases h; exact .int i
  | .str x, _, _, h => by cases h; exact .str x
  | .list ds, _, n, h => by unfold noLst at n; cases n
  | .tuple ds, _, n, h => by
    cases h with
    | tup hs ha =>
      refine .tup ?_ (dpa_cut c ds _ (by unfold noLst at n; exact n) ha)
      rcases hs with (hs | ⟨o, hs⟩) | hs
      · exact .inl (.inl (c _ _ hs fun ws z => by cases z))
      · exact .inl (.inr ⟨o, c _ _ hs fun ws z => by cases z⟩)
      · exact .inr hs
  | .dict _, _, _, h => by cases h
theorem dpa_cut (c : Cut I J) : ∀ (ds : List D) (vs : List V), noLsts ds = true → DpAll K I vs ds → DpAll K J vs ds
  | [], _, _, h => by cases h; exact .nil
  | d :: ds, _, n, h => by
    unfold noLsts at n
    rw [Bool.and_eq_true] at n
    cases h with
    | cons h1 h2 => exact .cons (dp_cut c d _ n.1 h1) (dpa_cut c ds _ n.2 h2)
end
theorem paired_cut (c : Cut I J) : ∀ {ws : List (Str × V)} {fs : List (Str × D)}, (fs.all fun p => noLst p.2) = true → Paired (fun (p : Str × V) (q : Str × D) => p.1 = q.1 ∧ Dp K I p.2 q.2) ws fs → Paired (fun (p : Str × V) (q : Str × D) => p.1 = q.1 ∧ Dp K J p.2 q.2) ws fs
  | _, _, _, .nil => .nil
  | _, _, n, .cons a b => by
    rw [List.all_cons, Bool.and_eq_true] at n
    exact .cons ⟨a.1, dp_cut c _ _ n.1 a.2⟩ (paired_cut c n.2 b)
open Classical in
/-- all lists are data -/
noncomputable def allL (I H : Hp) : Hp := fun b => match I b with
  | some u => some u
  | none => if ∃ ws, H b = some (.lst ws) then H b else none
open Classical in
/-- no more -/
noncomputable def lessL (I H I' : Hp) : Hp := fun b => if (∃ ws, H b = some (.lst ws)) ∧ I b = none then none else I' b
variable {H : Hp}
theorem allL_i : Same I (allL I H) := fun b u e => by unfold allL; rw [e]
theorem allL_sub (s : Same I H) : Same (allL I H) H := fun b u e => by
  unfold allL at e
  split at e
  · rename_i w hw
    cases e
    exact s _ _ hw
  · split at e
    · exact e
    · cases e
theorem allL_at (s : Same I H) {a : Addr} {ws : List V} (h : H a = some (.lst ws)) : allL I H a = some (.lst ws) := by
  unfold allL
  cases e : I a with
  | some u =>
    rw [s a u e] at h
    exact h
  | none =>
    dsimp only
    rw [if_pos ⟨ws, h⟩, h]
theorem allL_tz (z : Tz I) : Tz (allL I H) := fun b u e => by
  unfold allL at e
  split at e
  · rename_i w hw
    cases e
    exact z _ _ hw
  · split at e
    · rename_i h
      obtain ⟨ws, h⟩ := h
      rw [h] at e
      cases e
      exact trivial
    · cases e
theorem aall_at : ∀ {vs : List V} {ss : List S}, AAll K I H vs ss → ∀ {i : Nat} {x : S}, ss[i]? = some x → ∃ v, vs[i]? = some v ∧ ARel K I H v x
  | _, _, .nil, i, x, h => by simp at h
  | _, _, .cons a b, 0, x, h => by simp at h; subst h; exact ⟨_, rfl, a⟩
  | _, _, .cons a b, i + 1, x, h => by simpa using aall_at b (i := i) (by simpa using h)
theorem aall_len : ∀ {vs : List V} {ss : List S}, AAll K I H vs ss → vs.length = ss.length
  | _, _, .nil => rfl
  | _, _, .cons a b => by simp [aall_len b]
theorem frzS_len : ∀ (zs : List Bool) (ss : List S), (frzS zs ss).length = ss.length
  | [], ss => by cases ss <;> rfl
  | _ :: _, [] => by simp [frzS]
  | z :: zs, s :: ss => by
    by_cases hz : ∃ xs, z = true ∧ s = .bor (.lst xs)
    · obtain ⟨xs, rfl, rfl⟩ := hz
      show (S.d (.list xs) :: frzS zs ss).length = _
      simp [frzS_len]
    · have e : frzS (z :: zs) (s :: ss) = s :: frzS zs ss := by
        rw [frzS]
        intro xs e1 e2
        exact hz ⟨xs, e1, e2⟩
      rw [e]
      simp [frzS_len]
theorem frzS_at : ∀ (zs : List Bool) (ss : List S) {i : Nat} {x : S}, (frzS zs ss)[i]? = some x → ss[i]? = some x ∨ ∃ xs, ss[i]? = some (.bor (.lst xs)) ∧ x = .d (.list xs)
  | [], ss, i, x, h => .inl (by cases ss <;> exact h)
  | _ :: _, [], i, x, h => .inl (by simpa [frzS] using h)
  | z :: zs, s :: ss, i, x, h => by
    have gen : ∀ (y : S), (y :: frzS zs ss)[i]? = some x → (y = s ∨ ∃ xs, s = .bor (.lst xs) ∧ y = .d (.list xs)) → (s :: ss)[i]? = some x ∨ ∃ xs, (s :: ss)[i]? = some (.bor (.lst xs)) ∧ x = .d (.list xs) := fun y h q => by
      cases i with
      | zero =>
        simp at h
        subst h
        rcases q with rfl | ⟨xs, rfl, rfl⟩
        · exact .inl rfl
        · exact .inr ⟨xs, rfl, rfl⟩
      | succ i =>
        have := frzS_at zs ss (i := i) (x := x) (by simpa using h)
        simpa using this
    by_cases hz : ∃ xs, z = true ∧ s = .bor (.lst xs)
    · obtain ⟨xs, rfl, rfl⟩ := hz
      exact gen (.d (.list xs)) h (.inr ⟨xs, rfl, rfl⟩)
    · have e : frzS (z :: zs) (s :: ss) = s :: frzS zs ss := by
        rw [frzS]
        intro xs e1 e2
        exact hz ⟨xs, e1, e2⟩
      rw [e] at h
      exact gen s h (.inl rfl)
theorem prel_frz {vs : List V} {ss : List S} {zs : List Bool} (g : Same I H) (z : Tz I) (aa : AAll K I H vs ss) : PRel K (allL I H) H vs (frzS zs ss) where
  tz := allL_tz z
  len := by rw [frzS_len]; exact aall_len aa
  each := fun i x h0 => by
    rcases frzS_at zs ss h0 with h | ⟨xs, h, ex⟩
    · obtain ⟨v, hv, q⟩ := aall_at aa h
      refine ⟨v, hv, ?_⟩
      cases x with
      | d x => exact dp_up allL_i _ _ q
      | bor m =>
        obtain ⟨a, e, q⟩ := q
        exact ⟨a, e, mrel_up allL_i rfl q⟩
      | lck m => exact q.elim
      | own b m => exact q.elim
    · subst ex
      obtain ⟨v, hv, a, e, vs', h1, h2⟩ := aall_at aa h
      exact ⟨v, hv, by subst e; exact .lst (Or.inl (Or.inl (allL_at g h1))) (dpa_up allL_i _ _ h2)⟩
  apart := fun i j m y a ne h1 => by
    rcases frzS_at zs ss h1 with h | ⟨xs, h, e⟩
    · obtain ⟨v, hv, q⟩ := aall_at aa h
      exact q.elim
    · cases e
end
section
variable {X : Cx} {W : WX} {k : Nat} {f : Addr} {fd : FuncData} {ps : List Str} {F : FD} {x : Str} {p pos : Pos} {e : Expr} {es : List Expr} {os : List Od} {zs : List Bool}
theorem callZ_ok {K : KF} {mg : MG} {s : L2.St} {H : Hp} {Q : VK} (h : tE K mg W (dCallZ F zs os) s H Q) : tCallG K mg F W (tOds K mg W os) s H Q := by
  obtain ⟨C, I, r, o, r', R, e, q⟩ := h
  rcases eb_inv e with ⟨ov, r1, ho, e⟩ | ⟨x, ho, rfl⟩
  · refine evO_ok os R ho fun vs I1 H1 R1 g a => ?_
    split at e
    · rename_i ss hc
      split at e
      · rename_i o2 ss' hF
        split at e
        · rename_i hz
          cases e
          have aa := getAll_ok R1 a hc
          have noio : ∀ (j : Nat) m, (frzS zs ss)[j]? = some (.own true m) → False := fun j m h => by
            rcases frzS_at zs ss h with h | ⟨xs, h, e⟩
            · obtain ⟨v, hv, q⟩ := aall_at aa h
              exact q.elim
            · cases e
          have gro : ∀ {I' H' : Hp}, After K (allL I1 H1) H1 vs (frzS zs ss) ss' I' H' → Grow I1 H1 (lessL I1 H1 I') H' ∧ Cut I' (lessL I1 H1 I') := fun {I' H'} A => by
            refine ⟨⟨fun b u eb => ?_, fun b u eb => A.keep b u eb fun j m h => (noio j m h).elim, fun b u eb => ?_, fun b u e1 e2 => ?_, fun _ b u eb => ?_⟩, fun b u eb hn => ?_⟩
            · unfold lessL
              rw [if_neg (fun z => by rw [z.2] at eb; cases eb)]
              exact A.i _ _ (allL_i _ _ eb)
            · unfold lessL at eb
              split at eb
              · cases eb
              · exact A.sub _ _ eb
            · unfold lessL
              split
              · rfl
              · rename_i hq
                refine A.new b u e1 ?_
                unfold allL
                rw [e2]
                dsimp only
                rw [if_neg fun z => hq ⟨z, e2⟩]
            · unfold lessL at eb
              split at eb
              · cases eb
              · exact A.tz _ _ eb
            · unfold lessL
              rw [if_neg]
              · exact eb
              · rintro ⟨⟨ws, hw⟩, _⟩
                have := A.i _ _ (allL_at R1.sub hw)
                rw [eb] at this
                cases this
                exact hn ws rfl
          refine ⟨allL I1 H1, frzS zs ss, o, ss', allL_sub R1.sub, prel_frz R1.sub R1.tz aa, hF, ?_⟩
          cases o with
          | ok x =>
            intro v I' H' A n
            obtain ⟨gr, ct⟩ := gro A
            refine q v _ H' (R1.grow gr) (g.trans gr.i) (R1.newS gr ?_)
            cases x with
            | d x => exact dp_cut ct _ _ hz n
            | bor m => exact n.elim
            | lck m => exact n.elim
            | own b m =>
              cases b with
              | true => exact n.elim
              | false =>
                cases m with
                | lst xs =>
                  obtain ⟨a', e1, e2, e3, ws, e4, e5⟩ := n
                  refine ⟨a', e1, e2, ?_, ws, e4, dpa_cut ct _ _ hz e5⟩
                  unfold lessL
                  split
                  · rfl
                  · exact e3
                | _ => cases hz
          | ex x =>
            intro c dx I' H' A n
            obtain ⟨gr, ct⟩ := gro A
            refine q c dx _ H' (R1.grow gr) (g.trans gr.i) (XRel.down ?_ R1.dom)
            obtain ⟨n1, n2 | ⟨d, ws, e1, e2, e3, e4⟩⟩ := n
            · exact ⟨n1, .inl n2⟩
            · exact ⟨n1, .inr ⟨d, ws, e1, e2, e3, paired_cut ct hz e4⟩⟩
        · cases e
      · cases e
    · cases e
  · exact evO_ok os R ho q
theorem de_callZ (G : FnG X.prog X.w X.K X.mg X.base k f fd ps F) (hr : Room k X.A) (hgd : X.A.guards = some []) (hg : Gl X x) (hm : X.mg x = some (.ref f)) (hk : PySem.W.keepIn X.K (.ref f) = true) (hb : Binds X.K fd ps []) (tk : Takes X W)
    (ha : DA X W (e :: es) os) (hdb : (x == ("__debug__" : Str)) = false := by decide) (he : starEach (e :: es) X.env = (false, eval e X.env) :: starEach es X.env := by rfl) (hpl : (backTo pos (starEach es X.env)).any (·.1) = false := by rfl) :
    DE X W (.Call (.Name x p) (e :: es) [] pos) (dCallZ F zs os) := pe_of (pe_callG G hr hgd hg hm hk hb tk ha hdb he hpl) fun _ _ _ q => callZ_ok q
theorem de_callCZ (c : Cl X.prog X.w X.K X.mg X.base k x ps F) (hr : Room k X.A) (hgd : X.A.guards = some []) (hg : Gl X x) (tk : Takes X W)
    (ha : DA X W (e :: es) os) (hdb : (x == ("__debug__" : Str)) = false := by decide) (he : starEach (e :: es) X.env = (false, eval e X.env) :: starEach es X.env := by rfl) (hpl : (backTo pos (starEach es X.env)).any (·.1) = false := by rfl) :
    DE X W (.Call (.Name x p) (e :: es) [] pos) (dCallZ F zs os) := by
  obtain ⟨f, fd, G, a, b, d⟩ := c
  exact de_callZ G hr hgd hg a b d tk ha hdb he hpl
end
@[simp] theorem frzS_t {zs : List Bool} {xs : List D} {ss : List S} : frzS (true :: zs) (.bor (.lst xs) :: ss) = .d (.list xs) :: frzS zs ss := rfl
@[simp] theorem frzS_td {zs : List Bool} {x : D} {ss : List S} : frzS (true :: zs) (.d x :: ss) = .d x :: frzS zs ss := rfl
@[simp] theorem frzS_f {zs : List Bool} {s : S} {ss : List S} : frzS (false :: zs) (s :: ss) = s :: frzS zs ss := rfl
@[simp] theorem frzS_n {ss : List S} : frzS [] ss = ss := by cases ss <;> rfl
@[simp] theorem noLst_i {i : Int} : noLst (.int i) = true := rfl
@[simp] theorem noLst_s {i : Str} : noLst (.str i) = true := rfl
@[simp] theorem noLst_b {i : Bool} : noLst (.bool i) = true := rfl
@[simp] theorem noLst_n : noLst .none = true := rfl
@[simp] theorem noLst_t {xs : List D} : noLst (.tuple xs) = noLsts xs := by rw [noLst]
@[simp] theorem noLsts_n : noLsts [] = true := rfl
@[simp] theorem noLsts_c {x : D} {xs : List D} : noLsts (x :: xs) = (noLst x && noLsts xs) := by rw [noLsts]
@[simp] theorem noLsts_a {xs ys : List D} : noLsts (xs ++ ys) = (noLsts xs && noLsts ys) := by
  induction xs with
  | nil => simp
  | cons x xs ih => simp [ih, Bool.and_assoc]
@[simp] theorem noLsts_ms {ys : List Str} : noLsts (ys.map PyData.str) = true := by
  induction ys with
  | nil => rfl
  | cons y ys ih => simp [ih]
@[simp] theorem noLsts_mi {ys : List Int} : noLsts (ys.map PyData.int) = true := by
  induction ys with
  | nil => rfl
  | cons y ys ih => simp [ih]
@[simp] theorem okZ_d {x : D} : okZ (.ok (.d x)) = noLst x := rfl
@[simp] theorem okZ_l {xs : List D} : okZ (.ok (.own false (.lst xs))) = noLsts xs := rfl
@[simp] theorem okZ_x {x : Exc} : okZ (.ex x) = x.fs.all fun p => noLst p.2 := rfl
@[simp] theorem wp_callZ {F : FD} {zs : List Bool} {ods : List Od} {r : Env} {P : S → Env → Prop} {E : Exc → Env → Prop} :
    Wp (dCallZ F zs ods) r P E ↔ Wp (evO ods) r (fun os r1 => Wo (getAll r1 os) fun ss => Wf F (frzS zs ss) (fun x _ => okZ (.ok x) = true ∧ P x r1) fun x _ => okZ (.ex x) = true ∧ E x r1) E := by
  unfold dCallZ
  refine wp_ebC fun os r1 => ?_
  unfold Wp Wo Wf
  dsimp only
  cases getAll r1 os with
  | none => rfl
  | some ss =>
    dsimp only
    cases F (frzS zs ss) with
    | none => rfl
    | some z =>
      obtain ⟨o, t⟩ := z
      dsimp only
      by_cases h : okZ o = true
      · rw [if_pos h]
        cases o with
        | ok x => exact (and_iff_right h).symm
        | ex x => exact (and_iff_right h).symm
      · rw [if_neg h]
        cases o with
        | ok x => exact ⟨fun z => z.elim, fun z => (h z.1).elim⟩
        | ex x => exact ⟨fun z => z.elim, fun z => (h z.1).elim⟩
end DL
/-! ### a, b = e, f -/
namespace DL
open PySem L2
open PyProof.Rows (envOfC)
def sPar (i j : Nat) (f g : EF D) : SM := sx (evO [.ex f, .ex g]) fun os r => match os with
  | [.d x, .d y] => some (.nx, (r.set i (some (.d x))).set j (some (.d y)))
  | _ => none
theorem ds_par {X : Cx} {W : WX} {pos : Pos} {i j : Nat} {x y : Str} {a b : Expr} {f g : EF D} {px py pt : Pos} {kt k2 pt2} (hc : X.calm = true) (hN : X.N.Nodup) (hi : X.N[i]? = some x) (hj : X.N[j]? = some y) (hij : i ≠ j)
    (hx : X.env.scope.names.lookup x = some .local) (hy : X.env.scope.names.lookup y = some .local) (ha : DA X W [a, b] [.ex f, .ex g])
    (hw : swappedStores [.Tuple [.Name x px, .Name y py] kt pt] (.Tuple [a, b] k2 pt2) X.env = pure (some [x, y]) := by rfl)
    (hs : swapsWithSole [.Tuple [.Name x px, .Name y py] kt pt] (.Tuple [a, b] k2 pt2) pos.line X.env = pure false := by rfl) :
    DS X W (.Assign [.Tuple [.Name x px, .Name y py] kt pt] (.Tuple [a, b] k2 pt2) pos) (sPar i j f g) :=
  ps_of (ps_par hc hN hi hj hij hx hy ha hw hs) fun D s H ⟨C, I, r, o, r', R, e, q⟩ => by
    rcases sx_inv e with ⟨os, r1, hf, e⟩ | ⟨z, hf, rfl⟩
    · refine evO_ok [.ex f, .ex g] R hf fun vs I1 H1 R1 g a => ?_
      split at e
      · rename_i u w
        cases e
        cases a with
        | cons a1 a2 =>
          cases a2 with
          | cons a2 a3 =>
            cases a3
            refine ⟨_, _, rfl, q _ I1 H1 ((R1.put (x := .d u) a1).put (x := .d w) a2) g⟩
      · cases e
    · exact evO_ok [.ex f, .ex g] R hf fun c dx I' H' R' g t => q c dx s I' H' R' g t
@[simp] theorem ws_par {i j : Nat} {f g : EF D} {r : Env} {N : Env → Prop} {Q : O → Env → Prop} : Ws (sPar i j f g) r N Q ↔ Wp f r (fun x r1 => Wp g r1 (fun y r2 => N ((r2.set i (some (.d x))).set j (some (.d y)))) fun x r2 => Q (.ex x) r2) fun x r1 => Q (.ex x) r1 := by
  unfold sPar
  rw [ws_sx, wp_eve]
  refine wp_congr fun d r1 => ?_
  rw [wp_eve]
  exact wp_congr fun y r2 => Iff.rfl
end DL
/-! ### a tuple times a number -/
namespace L2
open PySem PySem.Spec PyProof.Rows
theorem tuple_mul1 (l : Addr) (items : Array Value) (n : Nat) (dd : Option Addr) (sl : Array (Option Value)) (u : Tok) :
    Meets (Builtin.«tuple.__mul__» ⟨[.ref l, .int 1 u], []⟩) (fun _ R s => s.heap.get? l = some { cls := .type "tuple", dict := dd, data := .seq items n, slots := sl } ∧ R (.ok (.ret (Value.ref l))) s) :=
  .of_wp fun prog w A R s h => by
    obtain ⟨hp, g, d, tk, os⟩ := s
    obtain ⟨hl, h⟩ := h
    have f1 := AutoSeq1.idx_int
    wp_walk using wpAny_loadPart' hl
    repeat (first
      | (refine wpAny_ite_false (decide_eq_false (by decide)) ?_; wp_walk using wpAny_loadPart' hl)
      | (refine wpAny_ite_true (decide_eq_true (by simp)) ?_; wp_walk using wpAny_loadPart' hl))
    exact ⟨_, rfl, h⟩
theorem tuple_mul0 (l : Addr) (items : Array Value) (n : Nat) (dd : Option Addr) (sl : Array (Option Value)) (u : Tok) (hne : items.isEmpty = false) :
    Meets (Builtin.«tuple.__mul__» ⟨[.ref l, .int 0 u], []⟩) (fun _ R s => s.heap.get? l = some { cls := .type "tuple", dict := dd, data := .seq items n, slots := sl } ∧
      R (.ok (.ret (Value.ref s.heap.objs.size))) { s with heap := s.heap.push { cls := Value.type "tuple", data := Data.seq #[] }, toks := s.toks }) :=
  .of_wp fun prog w A R s h => by
    obtain ⟨hp, g, d, tk, os⟩ := s
    obtain ⟨hl, h⟩ := h
    have f1 := AutoSeq1.idx_int
    wp_walk using wpAny_loadPart' hl
    repeat (first
      | (refine wpAny_ite_false (decide_eq_false (by decide)) ?_; wp_walk using wpAny_loadPart' hl)
      | (refine wpAny_ite_false (decide_eq_false (by rw [hne]; decide)) ?_; wp_walk using wpAny_loadPart' hl)
      | (refine wpAny_ite_true (decide_eq_true (by simp)) ?_; wp_walk using wpAny_loadPart' hl))
    exact ⟨_, rfl, h⟩
def rRepZ (K : PySem.W.Frag) : R2 := fun x y H Q => ∃ l k xs, x = .ref l ∧ y = .int k ∧ SqT K H l xs ∧ xs ≠ [] ∧ 0 ≤ k ∧ k ≤ 1000 ∧ xs.length ≤ 1000 ∧ (k = 1 → Q (.ref l) H) ∧ (k ≠ 1 → ∀ p o, H p = none → o.dict = none → Q (.ref p) (upd H p (.frz o (.tup (List.replicate k.toNat xs).flatten))))
/-- the road of t * k down to the tuple's own method -/
theorem mul_road {prog : Program} {w : World} {A : Around} {E : Value → Shared → Prop} {s : Shared} {Q : Value → Shared → Prop} {l : Addr} {its : Array Value} {n : Nat} {dd : Option Addr} {sl : Array (Option Value)} {k : Int} {t : Tok}
    (at_ : s.heap.get? l = some { cls := .type "tuple", dict := dd, data := .seq its n, slots := sl }) (c : wpAny (model prog w) A (call (.builtin "tuple.__mul__") [.ref l, .int k t]) Q E s) :
    wpAny (model prog w) A (binaryOp .Mult (.ref l) (.int k t)) Q E s :=
  have no := int_rmul_tuple k t l its n dd sl
  wpAny_binaryOp_repeat_ref (T := "tuple") (U := "int") (by decide) ⟨_, at_, rfl⟩ (typeIs_int · k t) noFill_tuple_mul F.fills_int_mul F.slot_int_rmul repeat_tuple F.slot_int_index.lookup
    (call_meets F.slot_int_rmul (typeIs_int s k t) F.entry_int_rmul (F.args_int_rmul_2 _ _) no ⟨at_, rfl, ⟨_, at_, rfl⟩, c⟩)
theorem rep_few {α : Type} (xs : List α) {k m c : Nat} (hk : k ≤ m) (hx : xs.length ≤ c) : (List.replicate k xs).flatten.length ≤ m * c := by
  have e : (List.replicate k xs).flatten.length = k * xs.length := by simp
  rw [e]
  exact Nat.mul_le_mul hk hx
theorem op_repZ {X : Cx} : OpR X (binaryOp .Mult) (rRepZ X.K) := by
  rintro pins s σ H _ _ v u Q I rv ru ⟨l, k, xs, rfl, rfl, tup, some_, k0, kM, few, same, fresh⟩
  obtain ⟨t, rfl⟩ := ru
  cases rv
  obtain ⟨us, vals, ⟨ob, at_, hc, n, hd⟩, _⟩ := I.tuple tup
  obtain ⟨_, dd, _, sl⟩ := ob
  dsimp only at hc hd
  cases hc
  cases hd
  have len := vals.length
  have ne : us ≠ [] := by
    rintro rfl
    exact some_ (by simpa using len)
  have full : us.toArray.isEmpty = false := by simpa using ne
  refine mul_road at_ ?_
  -- what is laid, where a new tuple comes
  have lay : ∀ ws : List Value, Vals (List.replicate k.toNat xs).flatten ws → k ≠ 1 → EP X pins σ Q (.ref s.heap.objs.size) { s with heap := s.heap.push { cls := .type "tuple", data := .seq ws.toArray } } := fun ws r k1 =>
    ⟨.ref s.heap.objs.size, _, I.laid (t' := s.toks) (o := .frz _ (.tup (List.replicate k.toNat xs).flatten)) (fun b ob q => Heap.get?_push_of_some _ q) (Nat.le_refl _)
      ⟨Heap.get?_push_size _ rfl, by have := rep_few xs (k := k.toNat) (m := 1000) (by omega) few; rw [sizeLine_eq]; omega, ws, r, IsTup.new _ _⟩, rfl, fresh k1 _ _ (I.hok.fresh (Nat.le_refl _)) rfl⟩
  rcases (show k = 0 ∨ k = 1 ∨ 2 ≤ k by omega) with rfl | rfl | k2
  · exact call_meets F.slot_tuple_mul ⟨_, at_, rfl⟩ F.entry_tuple_mul (F.args_tuple_mul_2 _ _) (tuple_mul0 l us.toArray n dd sl t full) ⟨at_, lay [] .nil (by decide)⟩
  · exact call_meets F.slot_tuple_mul ⟨_, at_, rfl⟩ F.entry_tuple_mul (F.args_tuple_mul_2 _ _) (tuple_mul1 l us.toArray n dd sl t) ⟨at_, .ref l, H, I, rfl, same rfl⟩
  · have size : us.toArray.size = xs.length := by simpa using len.symm
    have prod : (us.toArray.size : Int) * k ≤ 1000 * 1000 := Int.mul_le_mul (by omega) kM k0 (by decide)
    have all := rep_few us (k := k.toNat) (m := 1000) (c := 1000) (by omega) (by omega)
    refine call_meets F.slot_tuple_mul ⟨_, at_, rfl⟩ F.entry_tuple_mul (F.args_tuple_mul_2 _ _)
      (tuple_mulW l us.toArray n dd sl k t (by simp; omega) (by simp [ne]; omega) (by simp [ne]; omega) (by omega) (by simp only [Builtin.Tuple.tupleTooMany, sizeLine_eq]; exact decide_eq_false (by omega)) (by rw [size_rep, sizeLine_eq]; simpa using Nat.le_trans all (by decide))) ⟨at_, ?_⟩
    rw [size_rep]
    exact lay _ (vals.rep k.toNat) (by omega)
end L2
namespace DL
open PySem L2
theorem dpa_rep {K : KF} {I : Hp} {vs : List V} {ds : List D} (h : DpAll K I vs ds) : ∀ k : Nat, DpAll K I (List.replicate k vs).flatten (List.replicate k ds).flatten
  | 0 => .nil
  | k + 1 => by
    rw [List.replicate_succ, List.replicate_succ, List.flatten_cons, List.flatten_cons]
    exact dpa_app h (dpa_rep h k)
def tMul : List S → Option S
  | [.d (.tuple xs), .d (.int k)] => if xs ≠ [] ∧ 0 ≤ k ∧ k ≤ 1000 ∧ xs.length ≤ 1000 then some (.d (.tuple (List.replicate k.toNat xs).flatten)) else none
  | _ => none
theorem ok_tMul {X : Cx} : OpD X (binaryOp .Mult) tMul := by
  intro pins s σ H x y v u Q I rx ry h1
  obtain ⟨I', ss, z, g, p, e, q⟩ := h1
  unfold tMul at e
  split at e
  · rename_i xs k
    split at e
    · rename_i hl
      cases e
      obtain ⟨p1, p2, e2, a1, a2⟩ := aall2 p
      cases e2
      have a1 : Dp X.K I' x (.tuple xs) := a1
      have a2 : Dp X.K I' y (.int k) := a2
      cases a2
      cases a1 with
      | @tup l vs _ hs ha =>
        have hlen := dpa_len ha
        refine op_repZ pins s σ H _ _ v u Q I rx ry ⟨l, k, vs, rfl, rfl, Evl.ex_t g hs, ?_, hl.2.1, hl.2.2.1, by rw [hlen]; exact hl.2.2.2, fun k1 => ?_, fun _ c o hc ho => ?_⟩
        · intro e
          subst e
          exact hl.1 (List.eq_nil_of_length_eq_zero hlen.symm)
        · subst k1
          refine q _ I' H (Grow.refl g) (.tup hs ?_)
          simpa using ha
        · have gr := grow_tup (o := .frz o (.tup (List.replicate k.toNat vs).flatten)) g hc ho
          exact q _ _ _ gr (.tup rd_frz (dpa_up gr.i _ _ (dpa_rep ha _)))
    · cases e
  · cases e
@[simp] theorem o_tMul {xs : List D} {k : Int} {P : S → Prop} : Wo (tMul [.d (.tuple xs), .d (.int k)]) P ↔ (xs ≠ [] ∧ 0 ≤ k ∧ k ≤ 1000 ∧ xs.length ≤ 1000) ∧ P (.d (.tuple (List.replicate k.toNat xs).flatten)) := by
  show Wo (if xs ≠ [] ∧ 0 ≤ k ∧ k ≤ 1000 ∧ xs.length ≤ 1000 then some (S.d (.tuple (List.replicate k.toNat xs).flatten)) else none) P ↔ _
  by_cases h : xs ≠ [] ∧ 0 ≤ k ∧ k ≤ 1000 ∧ xs.length ≤ 1000
  · rw [if_pos h]
    exact (and_iff_right h).symm
  · rw [if_neg h]
    exact ⟨fun z => z.elim, fun z => (h z.1).elim⟩
end DL
/-! ### sorted(d), d a name of one's own dict -/
namespace DL
open PySem L2
def sortV : List S → Option S
  | [.bor (.dic kvs)] => (txtK kvs).bind fun ks => if ks.length < 64 then some (.own false (.lst (strL (ks.mergeSort leS)))) else none
  | _ => none
theorem ok_sortV {X : Cx} (hc : X.calm = true) : CallD X (.builtin "sorted") sortV := by
  rintro pins s σ H xs us Q I r ⟨I', ss, z, g, p, e, q⟩
  unfold sortV at e
  split at e
  · rename_i kvs
    obtain ⟨ks, hk, e⟩ := Option.bind_eq_some_iff.mp e
    split at e
    · rename_i few
      cases e
      obtain ⟨_, _, rfl, ⟨a, rfl, ws, at_, kv⟩, rest⟩ : ∃ x xs', xs = x :: xs' ∧ ARel X.K I' H x (.bor (.dic kvs)) ∧ xs' = [] := by
        cases p with
        | cons a1 a2 =>
          cases a2
          exact ⟨_, _, rfl, a1, rfl⟩
      subst rest
      refine call_sortedD hc pins s σ H _ us Q I r ⟨a, ws, ks, rfl, .inl at_, txtK_ok kv hk, few, fun ys l perm up free => ?_⟩
      obtain rfl := perm_leS (perm.trans (List.mergeSort_perm ks leS).symm) (sorted_pw ys up) (sort_leS ks)
      exact q _ _ _ (grow_own (o := .lst ((ks.mergeSort leS).map V.str)) g free) ⟨l, rfl, free, g.free free, _, upd_same, dpa_strs _⟩
    · cases e
  · cases e
@[simp] theorem o_sortV {kvs : List (Key × D)} {P : S → Prop} : Wo (sortV [.bor (.dic kvs)]) P ↔ Wo (txtK kvs) fun ks => ks.length < 64 ∧ P (.own false (.lst (strL (ks.mergeSort leS)))) := by
  show Wo ((txtK kvs).bind fun ks => if ks.length < 64 then some (S.own false (.lst (strL (ks.mergeSort leS)))) else none) P ↔ _
  cases txtK kvs with
  | none => exact Iff.rfl
  | some ks =>
    by_cases few : ks.length < 64
    · show Wo (if ks.length < 64 then _ else _) P ↔ (ks.length < 64 ∧ P _)
      rw [if_pos few]
      exact (and_iff_right few).symm
    · show Wo (if ks.length < 64 then _ else _) P ↔ (ks.length < 64 ∧ P _)
      rw [if_neg few]
      exact ⟨False.elim, fun h => few h.1⟩
end DL
/-! ### len(set(E)), E a tuple of texts -/
namespace DL
open PySem L2
/-- every text once, as it is first met -/
def onceG : List Str → List Str → List Str
  | a, [] => a
  | a, x :: l => if x ∈ a then onceG a l else onceG (a ++ [x]) l
def once (l : List Str) : List Str := onceG [] l
theorem onceG_app : ∀ (l a : List Str) (x : Str), onceG a (l ++ [x]) = if x ∈ onceG a l then onceG a l else onceG a l ++ [x]
  | [], a, x => rfl
  | y :: l, a, x => by
    rw [List.cons_append, onceG, onceG]
    by_cases h : y ∈ a
    · rw [if_pos h, if_pos h]; exact onceG_app l a x
    · rw [if_neg h, if_neg h]; exact onceG_app l _ x
theorem once_app (l : List Str) (x : Str) : once (l ++ [x]) = if x ∈ once l then once l else once l ++ [x] := onceG_app l [] x
theorem onceG_len : ∀ (l a : List Str), (onceG a l).length ≤ a.length + l.length
  | [], a => by rw [onceG]; simp
  | y :: l, a => by
    rw [onceG]
    split
    · have := onceG_len l a
      rw [List.length_cons]
      omega
    · have := onceG_len l (a ++ [y])
      rw [List.length_append, List.length_singleton] at this
      rw [List.length_cons]
      omega
theorem once_len (l : List Str) : (once l).length ≤ l.length := by have := onceG_len l []; simpa [once] using this
theorem onceG_all : ∀ (l a : List Str), (onceG a l).length = a.length + l.length → l.Nodup ∧ ∀ x ∈ l, x ∉ a
  | [], a, _ => by simp
  | y :: l, a, h => by
    rw [onceG] at h
    split at h
    · have := onceG_len l a
      rw [List.length_cons] at h
      omega
    · rename_i hy
      obtain ⟨h1, h2⟩ := onceG_all l (a ++ [y]) (by rw [h]; simp; omega)
      refine ⟨List.nodup_cons.mpr ⟨fun hm => h2 y hm (by simp), h1⟩, fun x hx => ?_⟩
      rcases List.mem_cons.mp hx with rfl | hx
      · exact hy
      · exact fun hm => h2 x hx (List.mem_append_left _ hm)
theorem onceG_nodup : ∀ (l a : List Str), l.Nodup → (∀ x ∈ l, x ∉ a) → onceG a l = a ++ l
  | [], a, _, _ => by rw [onceG, List.append_nil]
  | y :: l, a, h, g => by
    obtain ⟨h1, h2⟩ := List.nodup_cons.mp h
    rw [onceG, if_neg (g y List.mem_cons_self), onceG_nodup l _ h2 fun x hx hm => ?_, List.append_assoc, List.singleton_append]
    rcases List.mem_append.mp hm with hm | hm
    · exact g x (List.mem_cons_of_mem _ hx) hm
    · rw [List.mem_singleton.mp hm] at hx
      exact h1 hx
theorem once_iff {l : List Str} : (once l).length = l.length ↔ l.Nodup := by
  constructor
  · intro h
    exact (onceG_all l [] (by rw [List.length_nil, Nat.zero_add]; exact h)).1
  · intro h
    unfold once
    rw [onceG_nodup l [] h (by simp), List.nil_append]
end DL
namespace L2
open PySem PySem.Spec PyProof.Rows DL
/-- what has been met of the texts is the set at a -/
def MetAt (P : Program) (w : World) (h : Heap) (a : Addr) (l : List Str) : Prop := h.SetOf (mixKind P w) a (fun k => (l.map Sum.inr).any fun j => decide (k = j)) l.length
theorem MetAt.keep {P : Program} {w : World} {h h' : Heap} {a : Addr} {l : List Str} (m : MetAt P w h a l) (k : ∀ o, h.get? a = some o → h'.get? a = some o) : MetAt P w h' a l := setOf_at m k
theorem met_as {P : Program} {w : World} {h : Heap} {a : Addr} {S : Key → Bool} {n : Nat} {l : List Str} (m : h.SetOf (mixKind P w) a S n) (e : ∀ k, S k = (l.map Sum.inr).any fun j => decide (k = j)) (c : n = l.length) : MetAt P w h a l := by
  unfold MetAt
  rw [← funext e, ← c]
  exact m
theorem met_in {l : List Str} {x : Str} : ((l.map Sum.inr).any fun j => decide ((Sum.inr x : Key) = j)) = decide (x ∈ l) := by
  rw [Bool.eq_iff_iff]
  simp
section
variable {prog : Program} {w : World} {A : Around} {R : Result → Shared → Prop} {I a : Addr} {fp wr : List Addr} {G : Array GenState → Array GenState → Prop} {n : Nat} {Pv : Nat → Value → Prop} {St : Nat → Shared → Prop}
/-- set.update's loop over the rest of the texts -/
theorem fill_texts (W : WalksS prog w A.in1 I fp wr G n Pv St) (apart : a ∉ fp) {xs : List Str} (len : xs.length = n) (few : n + 1 < scanBound) (txt : ∀ i v, Pv i v → ∃ t, v = .str (xs.getD i Str.empty) t) : ∀ (rest met : List Str) (s : Shared), xs = met ++ rest → St met.length s → MetAt prog w s.heap a (once met) →
    (∀ s', Moved (a :: wr) G s s' → MetAt prog w s'.heap a (once xs) → R (.ok (.ret .none)) s') → codeAny (model prog w) A (.builtin "set.update.loop" ⟨[.ref a, .ref I], []⟩) R s
  | rest, met, s, e, st, ms, fin => by
    have own : a ∉ wr := fun h => apart (W.sub _ h)
    have wide : ∀ b ∈ wr, b ∈ a :: wr := fun b h => List.mem_cons_of_mem _ h
    refine codeAny_builtin F.entry_set_update_loop ?_
    rw [Around.under_plainId F.plain_set_update_loop _]
    show wpAny _ A.in1 (pyNext (.ref I) >>= _) _ _ s
    match rest, e with
    | [], e =>
      rw [List.append_nil] at e
      subst e
      rw [len] at st
      exact wpAny_bind (W.done s _ _ st fun s' mv => wpAny_pure (fin s' (mv.mono wide) (ms.keep fun o => mv.heap a o own)))
    | x :: rest, e =>
      have lt : met.length < n := by rw [← len, e, List.length_append, List.length_cons]; omega
      refine wpAny_bind (W.item met.length s _ _ lt st fun v s' pv st' mv => ?_)
      obtain ⟨t, rfl⟩ := txt _ v pv
      have ex : xs.getD met.length Str.empty = x := by rw [e]; simp
      rw [ex]
      show wpAny _ A.in1 (holding [Value.str x t] (setAdd a (.str x t)) >>= _) _ _ s'
      unfold setAdd
      refine wpAny_bind (wpAny_holding (wpAny_holding (wpAny_bind ((mixKind prog w).pyHash (k := .inr x) (kV_is (k := .inr x) ⟨t, rfl⟩) ?_))))
      have ml := once_len met
      refine wpAny_setAddHashed_of (knd := mixKind prog w) (s := { s' with toks := s'.toks + 1 }) (kV_is (k := .inr x) ⟨t, rfl⟩) rfl (ms.keep fun o => mv.heap a o own) (by omega) fun h' but ms2 => ?_
      have ms3 : MetAt prog w h' a (once (met ++ [x])) := by
        rw [once_app]
        by_cases hx : x ∈ once met
        · rw [if_pos hx]
          refine met_as ms2 (fun k => ?_) (by rw [met_in, decide_eq_true hx]; rfl)
          by_cases hk : k = .inr x
          · subst hk
            rw [met_in, decide_eq_true hx]
            rfl
          · rw [decide_eq_false hk, Bool.or_false]
        · rw [if_neg hx]
          refine met_as ms2 (fun k => ?_) (by rw [met_in, decide_eq_false hx, List.length_append]; rfl)
          simp
      refine wpAny_pure ⟨plainId_quiet F.plain_set_update_loop _, fill_texts W apart len few txt rest (met ++ [x]) _ (by rw [e, List.append_assoc]; rfl) ?_ ms3 fun s2 mv2 ms4 => fin s2 (Moved.trans W.gtrans ((mv.mono wide).then_heap (Nat.le_succ _) fun b o hb eb => ?_) mv2) ms4⟩
      · rw [List.length_append, List.length_singleton]
        exact W.frame _ s' _ _ st' (Nat.le_succ _) fun b hb o eb => by rw [but.2 b (fun z => apart (z ▸ hb))]; exact eb
      · rw [but.2 b (fun z => hb (z ▸ List.mem_cons_self))]
        exact eb
  termination_by rest => rest.length
end
section
variable {prog : Program} {w : World} {A : Around} {E : Value → Shared → Prop} {s : Shared} {a l : Addr}
/-- an empty set -/
abbrev noneIn (led : Bool) : Obj := { cls := .type "set", dict := none, data := .set #[] 0 (.fresh 0 0 led) }
/-- a heap as another one was, but for what lies at a or is new -/
def But (a : Addr) (h h' : Heap) : Prop := ∀ b o, b ≠ a → h.get? b = some o → h'.get? b = some o
/-- set.__init__ of an empty set, from a tuple of texts -/
theorem init_texts {led : Bool} {its : Array Value} {xs : List Str} {Q : Fin → Shared → Prop} (hh : A.handled = none) (new : s.heap.get? a = some (noneIn led)) (tup : s.heap.IsTuple l its) (ne : l ≠ a) (txt : StrsAre its.toList xs) (few : xs.length + 1 < scanBound)
    (fin : ∀ h' tk, MetAt prog w h' a (once xs) → But a s.heap h' → Q (.done (.ret .none)) { s with heap := h', toks := tk }) : wpAny (model prog w) A (Builtin.«set.__init__» ⟨[.ref a, .ref l], []⟩) Q E s := by
  obtain ⟨⟨_, od, _, os⟩, at_, hc, k, hd⟩ := id tup
  dsimp only at hc hd
  subst hc hd
  have f1 := F.sub_tuple_set
  have f2 := F.sub_tuple_frozenset
  have f3 : (Value.type "tuple" == Value.type "dict") = false := by decide
  unfold Builtin.«set.__init__» noKeywords Builtin.Frozenset.updateFrom
  generalize hp : pyIter = walkOf
  wp_walk
  subst hp
  have it_new : l ≠ s.heap.objs.size := Nat.ne_of_lt (Heap.lt_size at_)
  have a_old : a < s.heap.objs.size := Heap.lt_size new
  have size : xs.length = its.size := by rw [← StrsAre.len_eq txt, Array.length_toList]
  refine wpAny_pyIter_tuple tup (wpAny_bind (wpAny_runValue ?_))
  refine fill_texts ((Walks.tuple (by simp [hh]) _ l it_new its).toS) (a := a) ?_ size (by omega) (fun i v e => SS.strs_at txt i v (by rw [Array.getElem?_toList]; exact e)) xs [] _ rfl ⟨⟨_, Heap.get?_push_size _ rfl, rfl, rfl⟩, tup.push _⟩ ?_ fun s' mv met => ?_
  · simp only [List.mem_cons, List.not_mem_nil, or_false, not_or]
    exact ⟨Nat.ne_of_lt a_old, Ne.symm ne⟩
  · exact ⟨_, #[], 0, _, Heap.get?_push_of_some _ new, ⟨rfl, rfl, rfl⟩, rfl, (fun e he => by simp at he), (fun k => by simp [once, onceG]), by decide, by cases led <;> rfl, rfl⟩
  · obtain ⟨h', g', d', tk, os'⟩ := s'
    obtain rfl : g' = s.gens := mv.gens
    obtain rfl : d' = s.drawn := mv.drawn
    obtain rfl : os' = s.os := mv.os
    exact wpAny_pure (wpAny_pure (fin h' tk met fun b o hb e => mv.heap b o (by
      have := Heap.lt_size e
      simp only [List.mem_cons, List.not_mem_nil, or_false, not_or]
      exact ⟨hb, Nat.ne_of_lt this⟩) (Heap.get?_push_of_some _ e)))
/-- set(t), t a tuple of texts -/
theorem set_texts {its : Array Value} {xs : List Str} {Q : Value → Shared → Prop} (hh : A.handled = none) (tup : s.heap.IsTuple l its) (txt : StrsAre its.toList xs) (few : xs.length + 1 < scanBound)
    (fin : ∀ h' tk, MetAt prog w h' s.heap.objs.size (once xs) → (∀ b o, s.heap.get? b = some o → h'.get? b = some o) → Q (.ref s.heap.objs.size) { s with heap := h', toks := tk }) : wpAny (model prog w) A (call (.type "set") [.ref l]) Q E s := by
  obtain ⟨o, at_, _⟩ := id tup
  have l_old := Heap.lt_size at_
  obtain ⟨_, _, g1⟩ := F.called_set.mro
  have g2 := F.called_set.made
  have g3 := F.called_set.sub
  have g4 := F.called_set.notType
  have g5 := F.called_set.canCreate
  have g6 := F.typeCall_set_1 (.ref l)
  refine wpAny_call (codeAny_of_tree ?_)
  show wpAny _ _ (callAny (.type "set") _) _ _ _
  refine wpAny_pure ⟨Code.quiet_builtin _ (by decide +kernel), codeAny_builtin F.entry_type_call ?_⟩
  rw [Around.under_plain (weight_type_call_type "set" [.ref l] []) rfl]
  repeat (any_goals (first | assumption | wp_step))
  -- the set is laid
  refine codeAny_mono (code_set_new_1 (.ref l) (E := E) (Q₁ := fun v s1 => ∃ led, v = .ref s.heap.objs.size ∧ s1 = { s with heap := s.heap.push (noneIn led) }) fun led => ⟨led, rfl, rfl⟩) fun r s1 h1 => ?_
  rcases r with e | (_ | _ | _ | v)
  case ok.ret =>
    obtain ⟨led, rfl, rfl⟩ := h1
    have new : (s.heap.push (noneIn led)).get? s.heap.objs.size = some (noneIn led) := Heap.get?_push_size _ rfl
    have ty : Shared.TypeIs { s with heap := s.heap.push (noneIn led) } (.ref s.heap.objs.size) "set" := ⟨_, new, rfl⟩
    have g7 := F.called_set.init.lookup
    have g8 := F.called_set.init.bind (.ref s.heap.objs.size)
    repeat (any_goals (first | assumption | wp_step))
    -- and filled
    refine codeAny_mono (codeAny_call_builtin (R := wants (fun v s2 => v = .none ∧ ∃ h' tk, s2 = { s with heap := h', toks := tk } ∧ MetAt prog w h' s.heap.objs.size (once xs) ∧ ∀ b o, s.heap.get? b = some o → h'.get? b = some o) E) F.called_set.init.plain F.entry_set_init (check_set_init_1 ty ?_)) fun r2 s2 h2 => ?_
    · refine init_texts (s := { s with heap := s.heap.push (noneIn led) }) (by simp [hh]) new (tup.push _) (Nat.ne_of_lt l_old) txt few fun h' tk met but => ?_
      exact ⟨rfl, h', tk, rfl, met, fun b o e => but b o (Nat.ne_of_lt (Heap.lt_size e)) (Heap.get?_push_of_some _ e)⟩
    · rcases r2 with e | (_ | _ | _ | v)
      case ok.ret =>
        obtain ⟨rfl, h', tk, rfl, met, old⟩ := h2
        repeat (any_goals (first | assumption | wp_step))
        exact fin h' tk met old
      all_goals first | exact h2 | exact h2.elim
  all_goals first | exact h1 | exact h1.elim
end
end L2
namespace L2
open PySem PySem.Spec PyProof.Rows DL
section
variable {X : Cx}
theorem strs_vals : ∀ {xs : List Str} {us : List Value}, Vals (xs.map V.str) us → StrsAre us xs
  | _, _, r => strsAre_of r
/-- set(t): t a tuple of texts; behind it the set alone is new -/
def rSetTx (X : Cx) : List V → Hp → VK → Prop := fun vs H Q => ∃ l xs, vs = [.ref l] ∧ SqT X.K H l (xs.map V.str) ∧ xs.length + 1 < scanBound ∧ ∀ p S, H p = none → Q (.ref p) (upd H p (SetK X.prog X.w p S (once xs).length))
theorem cr_setTx (hc : X.calm = true) : CallR X (.type "set") (rSetTx X) := by
  rintro pins s σ H _ us Q I r ⟨l, xs, rfl, at_, few, q⟩
  obtain rfl := Vals.ref1 r
  obtain ⟨its, vals, tup, _⟩ := I.tuple at_
  refine set_texts (I.ok.hd hc) tup (by simpa using strs_vals vals) few fun h' tk met old => ?_
  exact ⟨.ref _, _, I.laid (t' := tk) old (Nat.le_refl _) (setK_new met), rfl, q _ _ (I.hok.fresh (Nat.le_refl _))⟩
/-- len(s), s a set of keys -/
def rLenK (X : Cx) : List V → Hp → VK → Prop := fun vs H Q => ∃ a S n, vs = [.ref a] ∧ H a = some (SetK X.prog X.w a S n) ∧ Q (.int n) H
theorem cr_lenK : CallR X (.builtin "len") (rLenK X) := by
  rintro pins s σ H _ us Q I r ⟨a, S, n, rfl, at_, q⟩
  obtain rfl := Vals.ref1 r
  obtain ⟨o, es, ep, t, ho, ex, hd, _, _, few, fit, rfl⟩ := setK_get I at_
  exact call_len_set ho ex hd fit (by unfold scanBound at few; omega) ⟨.int es.size, H, I.tok _, ⟨_, rfl⟩, q⟩
end
end L2
namespace DL
open PySem L2
variable {X : Cx} {W : WX} {pos : Pos}
def lenSet : List S → Option S
  | [.d (.tuple ds)] => (strsD ds).bind fun xs => if xs.length + 1 < 4096 then some (.d (.int (once xs).length)) else none
  | _ => none
theorem lenSet_ok {K : KF} {mg : MG} {o : Od} {s : L2.St} {H : Hp} {Q : VK} (h : tE K mg W (dApp [o] lenSet) s H Q) (hK : K = X.K) : tOds K mg W [o] s H fun vs H1 => rSetTx X vs H1 fun v H2 => rLenK X [v] H2 Q := by
  subst hK
  refine app_gen h fun C I r vs ss x H' R a e q => ?_
  unfold lenSet at e
  split at e
  · rename_i ds
    obtain ⟨xs, hx, e⟩ := Option.bind_eq_some_iff.mp e
    split at e
    · rename_i few
      cases e
      cases a with
      | cons a1 a2 =>
        cases a2
        obtain ⟨l, ws, rfl, hq, da⟩ := tupS_ok R.sub a1 rfl
        rw [strsD_ok hx da] at hq
        exact ⟨l, xs, rfl, hq, few, fun p S free => ⟨p, S, _, rfl, upd_same, q _ I _ (grow_own R.sub free) (.int _)⟩⟩
    · cases e
  · cases e
theorem de_setLen {a : Expr} {o : Od} {p1 p2 p3 : Pos} (hc : X.calm = true) (hl : Gl X "len") (hml : X.mg "len" = none) (hs : Gl X "set") (hms : X.mg "set" = none) (ha : DA X W [a] [o])
    (st : starEach [a] X.env = (false, eval a X.env) :: starEach [] X.env := by rfl) : DE X W (.Call (.Name "len" p1) [.Call (.Name "set" p2) [a] [] p3] [] pos) (dApp [o] lenSet) :=
  pe_of (pe_callB cr_lenK hl hml (by decide +kernel) (pa_cons (pe_callTy (cr_setTx hc) hs hms (by decide +kernel) ha (by decide) (by decide) st rfl) pa_nil (by rfl)) (by decide) (by decide) (by rfl) rfl) fun s H Q q => lenSet_ok q rfl
@[simp] theorem o_lenSet {ds : List D} {P : S → Prop} : Wo (lenSet [.d (.tuple ds)]) P ↔ Wo (strsD ds) fun xs => xs.length + 1 < 4096 ∧ P (.d (.int (once xs).length)) := by
  show Wo ((strsD ds).bind fun xs => if xs.length + 1 < 4096 then some (S.d (.int (once xs).length)) else none) P ↔ _
  cases strsD ds with
  | none => exact Iff.rfl
  | some xs =>
    by_cases few : xs.length + 1 < 4096
    · show Wo (if xs.length + 1 < 4096 then _ else _) P ↔ (xs.length + 1 < 4096 ∧ P _)
      rw [if_pos few]
      exact (and_iff_right few).symm
    · show Wo (if xs.length + 1 < 4096 then _ else _) P ↔ (xs.length + 1 < 4096 ∧ P _)
      rw [if_neg few]
      exact ⟨False.elim, fun h => few h.1⟩
end DL
/-! DLg9: a list of one's own, held for the time of one comprehension: it is one's own again behind it. -/
namespace DL
open PySem L2
section
variable {K : KF} {mg : MG} {W : WX} {C : Cn} {I H : Hp} {r : Env} {s : L2.St} {i : Nat}
theorem lck_at {a : Addr} {u : HO} {m : MO} (R : Rel K (C.lock i a u) I H r s) (h : r[i]? = some (some (.lck m))) : s[i]? = some (some (.ref a)) := by
  obtain ⟨v, hv, a2, e2, l2, _⟩ := R.slot i _ h
  have l2 : (if i = i then some a else C.lk i) = some a2 := l2
  rw [if_pos rfl] at l2
  rw [hv, e2, Option.some.inj l2]
/-- an expression while the list in a slot is held -/
def lkL (i : Nat) (f : EF S) : EF S := fun r => match r[i]? with
  | some (some (.own b (.lst xs))) => (match f (r.set i (some (.lck (.lst xs)))) with
    | some (o, r') => (match r'[i]? with
      | some (some (.lck m)) => some (o, r'.set i (some (.own b m)))
      | _ => none)
    | none => none)
  | _ => f r
theorem lkL_ok {f : EF S} {Q : VK} (h : tE K mg W (lkL i f) s H Q) : tE K mg W f s H Q := by
  obtain ⟨C, I, r, o, r', R, e, q⟩ := h
  unfold lkL at e
  split at e
  · rename_i b xs hr
    split at e
    · rename_i o1 r1 hf
      split at e
      · rename_i m hm
        cases e
        obtain ⟨a, vs, _, _, _, na, w, RL⟩ := R.lock hr
        refine ⟨C.lock i a (.lst vs), I, _, o, r1, RL, hf, ?_⟩
        cases o with
        | ok x => exact fun v J G R' g t => q v J G (R.unlock na w R' hm) g (trel_unlock (lck_at R' hm) t)
        | ex x => exact fun c dx J G R' g t => q c dx J G (R.unlock na w R' hm) g (t.down fun _ => upd_none)
      · cases e
    · cases e
  · exact ⟨C, I, r, o, r', R, e, q⟩
/-- a statement, likewise -/
def lkSL (i : Nat) (g : SM) : SM := fun r => match r[i]? with
  | some (some (.own b (.lst xs))) => (match g (r.set i (some (.lck (.lst xs)))) with
    | some (o, r') => (match r'[i]? with
      | some (some (.lck m)) => some (o, r'.set i (some (.own b m)))
      | _ => none)
    | none => none)
  | _ => g r
theorem lkSL_ok {g : SM} {D0 : Ends} (h : tS K mg W (lkSL i g) D0 s H) : tS K mg W g D0 s H := by
  obtain ⟨C, I, r, o, r', R, e, q⟩ := h
  unfold lkSL at e
  split at e
  · rename_i b xs hr
    split at e
    · rename_i o1 r1 hf
      split at e
      · rename_i m hm
        cases e
        obtain ⟨a, vs, _, _, _, na, w, RL⟩ := R.lock hr
        have back : ∀ {J G : Hp} {σ : L2.St}, Rel K (C.lock i a (.lst vs)) J G r1 σ → Rel K C J G (r1.set i (some (.own b m))) σ := fun R' => R.unlock na w R' hm
        refine ⟨C.lock i a (.lst vs), I, _, o, r1, RL, hf, ?_⟩
        cases o with
        | rt y => exact fun v σ J G R' g' t => q v σ J G (back R') g' (trel_unlock (lck_at R' hm) t)
        | ex y => exact fun c dx σ J G R' g' t => q c dx σ J G (back R') g' (t.down fun _ => upd_none)
        | nx => exact fun σ J G R' g' => q σ J G (back R') g'
        | bk => exact fun σ J G R' g' => q σ J G (back R') g'
        | ct => exact fun σ J G R' g' => q σ J G (back R') g'
      · cases e
    · cases e
  · exact ⟨C, I, r, o, r', R, e, q⟩
/-- what is walked, where it may be held -/
def iHold (i : Nat) : EF (List D) := fun r => match r[i]? with
  | some (some (.lck (.lst xs))) => some (.ok xs, r)
  | _ => iVar i r
end
section
variable {X : Cx} {W : WX} {pos : Pos}
theorem di_hold {tg : Expr} {i : Nat} {x : Str} (h : PE X (.Name x pos) (tVar i)) : DI X W tg (.Name x pos) (iHold i) := by
  refine pi_or (pi_list h) (di_var (W := W) h) fun s H P ⟨C, I, r, o, r', R, e, q⟩ => ?_
  unfold iHold at e
  split at e
  · rename_i xs hr
    cases e
    obtain ⟨v, hv, a, ea, l, _, vs, ha, p⟩ := R.slot i _ hr
    obtain ⟨l1, l2⟩ := R.lkt _ _ l
    obtain ⟨u, hu⟩ := Option.ne_none_iff_exists'.mp l1
    have eu : u = .lst vs := Option.some.inj ((R.keep a u hu l2).symm.trans ha)
    rw [eu] at hu
    rw [ea] at hv
    exact .inl ⟨_, hv, a, rfl, ⟨vs, SqL.of ha⟩, q _ I H R (Same.refl I) (jd_lck hu l2 p)⟩
  · exact .inr ⟨C, I, r, o, r', R, e, q⟩
theorem de_lockL {e : Expr} {f : EF S} (i : Nat) (h : DE X W e f) : DE X W e (lkL i f) := pe_of h fun _ _ _ q => lkL_ok q
theorem ds_lockL {st : Stmt} {g : SM} (i : Nat) (h : DS X W st g) : DS X W st (lkSL i g) := ps_of h fun _ _ _ q => lkSL_ok q
end
/-! as simp goes -/
section
variable {P : S → Env → Prop} {E : Exc → Env → Prop} {r : Env} {N : Env → Prop} {Q : O → Env → Prop} {i : Nat} {xs : List D} {b : Bool} {m : MO} {x : D}
/-- behind the hold -/
def Wun (o : Option (Option S)) (P : MO → Prop) (_u : Blk P := .mk) : Prop := match o with
  | some (some (.lck m)) => P m
  | _ => False
@[simp] theorem wun_k {P : MO → Prop} : Wun (some (some (.lck m))) P ↔ P m := Iff.rfl
def WhE (o : Option (Option S)) (r : Env) (i : Nat) (f : EF S) (P : S → Env → Prop) (E : Exc → Env → Prop) (_u : Blk (f, P, E) := .mk) : Prop := match o with
  | some (some (.own b (.lst xs))) => Wp f (r.set i (some (.lck (.lst xs)))) (fun x r' => Wun r'[i]? fun m => P x (r'.set i (some (.own b m)))) fun x r' => Wun r'[i]? fun m => E x (r'.set i (some (.own b m)))
  | _ => Wp f r P E
@[simp] theorem whE_o {f : EF S} : WhE (some (some (.own b (.lst xs)))) r i f P E ↔ Wp f (r.set i (some (.lck (.lst xs)))) (fun x r' => Wun r'[i]? fun m => P x (r'.set i (some (.own b m)))) fun x r' => Wun r'[i]? fun m => E x (r'.set i (some (.own b m))) := Iff.rfl
@[simp] theorem whE_d {f : EF S} : WhE (some (some (.d x))) r i f P E ↔ Wp f r P E := Iff.rfl
@[simp] theorem whE_b {f : EF S} : WhE (some (some (.bor m))) r i f P E ↔ Wp f r P E := Iff.rfl
@[simp] theorem wp_lkL {f : EF S} : Wp (lkL i f) r P E ↔ WhE r[i]? r i f P E := by
  unfold WhE
  split
  · rename_i b xs h
    unfold Wp lkL
    rw [h]
    dsimp only
    cases f (r.set i (some (.lck (.lst xs)))) with
    | none => exact Iff.rfl
    | some z =>
      obtain ⟨o, t⟩ := z
      unfold Wun
      dsimp only
      cases o <;> dsimp only <;> (rcases t[i]? with _ | _ | z <;> first | exact Iff.rfl | (cases z <;> exact Iff.rfl))
  · rename_i h
    have e : lkL i f r = f r := by
      unfold lkL
      split
      · rename_i b xs k
        exact (h b xs k).elim
      · rfl
    unfold Wp
    rw [e]
def WhS (o : Option (Option S)) (r : Env) (i : Nat) (g : SM) (N : Env → Prop) (Q : O → Env → Prop) (_u : Blk (g, N, Q) := .mk) : Prop := match o with
  | some (some (.own b (.lst xs))) => Ws g (r.set i (some (.lck (.lst xs)))) (fun r' => Wun r'[i]? fun m => N (r'.set i (some (.own b m)))) fun o r' => Wun r'[i]? fun m => Q o (r'.set i (some (.own b m)))
  | _ => Ws g r N Q
@[simp] theorem whS_o {g : SM} : WhS (some (some (.own b (.lst xs)))) r i g N Q ↔ Ws g (r.set i (some (.lck (.lst xs)))) (fun r' => Wun r'[i]? fun m => N (r'.set i (some (.own b m)))) fun o r' => Wun r'[i]? fun m => Q o (r'.set i (some (.own b m))) := Iff.rfl
@[simp] theorem whS_d {g : SM} : WhS (some (some (.d x))) r i g N Q ↔ Ws g r N Q := Iff.rfl
@[simp] theorem whS_b {g : SM} : WhS (some (some (.bor m))) r i g N Q ↔ Ws g r N Q := Iff.rfl
@[simp] theorem ws_lkSL {g : SM} : Ws (lkSL i g) r N Q ↔ WhS r[i]? r i g N Q := by
  unfold WhS
  split
  · rename_i b xs h
    unfold Ws lkSL
    rw [h]
    dsimp only
    cases g (r.set i (some (.lck (.lst xs)))) with
    | none => exact Iff.rfl
    | some z =>
      obtain ⟨o, t⟩ := z
      unfold Wun
      dsimp only
      cases o <;> dsimp only <;> (rcases t[i]? with _ | _ | z <;> first | exact Iff.rfl | (cases z <;> exact Iff.rfl))
  · rename_i h
    have e : lkSL i g r = g r := by
      unfold lkSL
      split
      · rename_i b xs k
        exact (h b xs k).elim
      · rfl
    unfold Ws
    rw [e]
def Wih (o : Option (Option S)) (r : Env) (i : Nat) (P : List D → Env → Prop) (_u : Blk P := .mk) : Prop := match o with
  | some (some (.lck (.lst xs))) => P xs r
  | o => Wi o r i P
@[simp] theorem wih_k {P : List D → Env → Prop} : Wih (some (some (.lck (.lst xs)))) r i P ↔ P xs r := Iff.rfl
@[simp] theorem wih_b {P : List D → Env → Prop} : Wih (some (some (.bor (.lst xs)))) r i P ↔ P xs r := Iff.rfl
@[simp] theorem wih_d {P : List D → Env → Prop} : Wih (some (some (.d x))) r i P ↔ Wo (itemsD x) fun xs => P xs r := Iff.rfl
@[simp] theorem wp_iHold {P : List D → Env → Prop} : Wp (iHold i) r P E ↔ Wih r[i]? r i P := by
  unfold Wih
  split
  · rename_i xs h
    unfold Wp iHold
    rw [h]
  · rename_i h
    have e : iHold i r = iVar i r := by
      unfold iHold
      split
      · rename_i xs k
        exact (h xs k).elim
      · rfl
    rw [← wp_iVar (E := E)]
    unfold Wp
    rw [e]
end
end DL
/-! DLh1: x = [own, e, f][k]: another name for one's own list, for the time of one suite. -/
namespace DL
open PySem L2
/-- held, and to be borrowed -/
def Cn.hold (C : Cn) (i : Nat) (a : Addr) (o : HO) (I : Hp) : Cn := { C.lock i a o with I0 := I, bo := fun c => c = a ∨ (C.lock i a o).bo c }
def unB : Option S → Option S
  | some (.bor _) => none
  | x => x
@[simp] theorem unB_n : unB none = none := rfl
@[simp] theorem unB_d {x : D} : unB (some (.d x)) = some (.d x) := rfl
@[simp] theorem unB_o {b : Bool} {m : MO} : unB (some (.own b m)) = some (.own b m) := rfl
@[simp] theorem unB_k {m : MO} : unB (some (.lck m)) = some (.lck m) := rfl
@[simp] theorem unB_b {m : MO} : unB (some (.bor m)) = none := rfl
theorem unB_some {x : Option S} {y : S} (h : unB x = some y) : x = some y ∧ ∀ m, y ≠ .bor m := by
  cases x with
  | none => cases h
  | some x =>
    cases x with
    | bor m => cases h
    | _ => cases h; exact ⟨rfl, fun m e => by cases e⟩
section
variable {K : KF} {mg : MG} {W : WX} {C : Cn} {I H : Hp} {r : Env} {s : L2.St} {i : Nat}
theorem Rel.toHold {a : Addr} {u : HO} (R : Rel K (C.lock i a u) I H r s) (hu : (C.lock i a u).H0 a ≠ none) : Rel K (C.hold i a u I) I H r s where
  len := R.len
  sub := R.sub
  mono := Same.refl I
  keep := R.keep
  dom := R.dom
  bo := fun c h => by
    rcases h with rfl | h
    · exact hu
    · exact R.bo c h
  iot := R.iot
  lkt := R.lkt
  fresh := fun _ h _ => h
  slot := fun k x h => by
    obtain ⟨v, hv, q⟩ := R.slot k x h
    refine ⟨v, hv, ?_⟩
    cases x with
    | d x => exact q
    | lck m => exact q
    | own b m => cases b <;> exact q
    | bor m =>
      obtain ⟨c, e, bo, n, mm⟩ := q
      exact ⟨c, e, .inr bo, n, mrel_up R.mono rfl mm⟩
  dist := R.dist
  tz := R.tz
theorem Rel.ofHold {a : Addr} {u : HO} {I' H' : Hp} {r' : Env} {s' : L2.St} (R0 : Rel K (C.lock i a u) I H r s) (R : Rel K (C.hold i a u I) I' H' r' s') : Rel K (C.lock i a u) I' H' (r'.map unB) s' := by
  have back : ∀ {k : Nat} {x : S}, (r'.map unB)[k]? = some (some x) → r'[k]? = some (some x) ∧ ∀ m, x ≠ .bor m := fun {k x} h => by
    rw [List.getElem?_map] at h
    obtain ⟨y, h1, h2⟩ := Option.map_eq_some_iff.mp h
    obtain ⟨h3, h4⟩ := unB_some h2
    exact ⟨by rw [h1, h3], h4⟩
  refine ⟨by rw [List.length_map]; exact R.len, R.sub, R0.mono.trans R.mono, R.keep, R.dom, R0.bo, R.iot, R.lkt, fun c e1 e2 => R.fresh c (R0.fresh c e1 e2) e2, fun k x h => ?_, fun k j b c m n z ne q1 q2 => R.dist k j b c m n z ne (back q1).1 (back q2).1, R.tz⟩
  obtain ⟨h1, h2⟩ := back h
  obtain ⟨v, hv, q⟩ := R.slot k x h1
  refine ⟨v, hv, ?_⟩
  cases x with
  | d x => exact q
  | lck m => exact q
  | own b m => cases b <;> exact q
  | bor m => exact (h2 m rfl).elim
/-- a suite while the list in a slot is held; what was borrowed meanwhile is forgotten -/
def lkA (i : Nat) (g : SM) : SM := fun r => match r[i]? with
  | some (some (.own b (.lst xs))) => (match g (r.set i (some (.lck (.lst xs)))) with
    | some (.nx, r') => (match r'[i]? with
      | some (some (.lck m)) => some (.nx, (r'.map unB).set i (some (.own b m)))
      | _ => none)
    | some (.ct, r') => (match r'[i]? with
      | some (some (.lck m)) => some (.ct, (r'.map unB).set i (some (.own b m)))
      | _ => none)
    | _ => none)
  | _ => none
theorem lkA_ok {g : SM} {D0 : Ends} (h : tS K mg W (lkA i g) D0 s H) : ∃ C I r o r', Rel K C I H r s ∧ g r = some (o, r') ∧ SPost K mg W C D0 I o r' ∧ C.I0 = I ∧ ∀ a, C.lk i = some a → C.bo a := by
  obtain ⟨C, I, r, o, r', R, e, q⟩ := h
  unfold lkA at e
  split at e
  · rename_i b xs hr
    obtain ⟨a, vs, _, _, _, na, w, RL⟩ := R.lock hr
    have h0 : (C.lock i a (.lst vs)).H0 a ≠ none := by
      show upd C.H0 a (.lst vs) a ≠ none
      rw [upd_same]
      exact fun z => by cases z
    have back : ∀ {J G : Hp} {r1 : Env} {σ : L2.St} {m : MO}, r1[i]? = some (some (.lck m)) → Rel K (C.hold i a (.lst vs) I) J G r1 σ → Rel K C J G ((r1.map unB).set i (some (.own b m))) σ := fun hm R' =>
      R.unlock na w (RL.ofHold R') (by rw [List.getElem?_map, hm]; rfl)
    have hb : ∀ c, (C.hold i a (.lst vs) I).lk i = some c → (C.hold i a (.lst vs) I).bo c := fun c hc => by
      have hc : (if i = i then some a else C.lk i) = some c := hc
      rw [if_pos rfl] at hc
      exact .inl (Option.some.inj hc).symm
    split at e
    · rename_i r1 hf
      split at e
      · rename_i m hm
        cases e
        exact ⟨C.hold i a (.lst vs) I, I, _, _, r1, RL.toHold h0, hf, fun σ J G R' g' => q σ J G (back hm R') g', rfl, hb⟩
      · cases e
    · rename_i r1 hf
      split at e
      · rename_i m hm
        cases e
        exact ⟨C.hold i a (.lst vs) I, I, _, _, r1, RL.toHold h0, hf, fun σ J G R' g' => q σ J G (back hm R') g', rfl, hb⟩
      · cases e
    · cases e
  · cases e
end
/-- x = [own, e, f][k] -/
def kPick (j i k : Nat) (xs : List D) (os : List Ov) : SM := fun r => match os, r[k]? with
  | [.sl n, .d x, .d y], some (some (.d (.int w))) => if w = 0 ∧ n = i then some (.nx, r.set j (some (.bor (.lst xs)))) else if w = 1 then some (.nx, r.set j (some (.d x))) else if w = 2 then some (.nx, r.set j (some (.d y))) else none
  | _, _ => none
def sPick (j i k : Nat) (f g : EF D) : SM := fun r => match r[i]? with
  | some (some (.lck (.lst xs))) => sx (evO [.sl i, .ex f, .ex g]) (kPick j i k xs) r
  | _ => none
theorem Rel.putBor {K : KF} {C : Cn} {I H : Hp} {r : Env} {s : L2.St} {j : Nat} {a : Addr} {xs : List D} (R : Rel K C I H r s) (hb : C.bo a) (n : ∀ k, C.io k ≠ some a) (m : MRel K C.I0 C.H0 a (.lst xs)) : Rel K C I H (r.set j (some (.bor (.lst xs)))) (s.set j (some (.ref a))) := by
  have back : ∀ {k : Nat} {y : S}, (r.set j (some (.bor (.lst xs))))[k]? = some (some y) → (k = j ∧ j < r.length ∧ y = .bor (.lst xs)) ∨ (k ≠ j ∧ r[k]? = some (some y)) := fun {k y} q => by
    rw [List.getElem?_set] at q
    split at q
    · rename_i e
      split at q
      · rename_i l
        cases q
        exact .inl ⟨e.symm, l, rfl⟩
      · cases q
    · rename_i e
      exact .inr ⟨Ne.symm e, q⟩
  refine ⟨by simpa using R.len, R.sub, R.mono, R.keep, R.dom, R.bo, R.iot, R.lkt, R.fresh, fun k y q => ?_, fun k l b c m1 n1 z ne q1 q2 e1 e2 => ?_, R.tz⟩
  · rcases back q with ⟨rfl, l, rfl⟩ | ⟨ne, q⟩
    · exact ⟨.ref a, by rw [List.getElem?_set_self (by rw [R.len]; exact l)], a, rfl, hb, n, m⟩
    · obtain ⟨v, hv, z⟩ := R.slot k y q
      exact ⟨v, by rw [List.getElem?_set_ne (Ne.symm ne)]; exact hv, z⟩
  · rcases back q1 with ⟨_, _, z⟩ | ⟨n2, q1⟩
    · cases z
    · rcases back q2 with ⟨_, _, z⟩ | ⟨n3, q2⟩
      · cases z
      · rw [List.getElem?_set_ne (Ne.symm n2)] at e1
        rw [List.getElem?_set_ne (Ne.symm n3)] at e2
        exact R.dist k l b c m1 n1 z ne q1 q2 e1 e2
section
variable {X : Cx} {W : WX} {pos : Pos}
theorem pick_ok {K : KF} {mg : MG} {C : Cn} {I H : Hp} {r r' : Env} {s : L2.St} {i j k : Nat} {f g : EF D} {o : O} {D : Ends} (R : Rel K C I H r s) (hb : ∀ a, C.lk i = some a → C.bo a) (same : C.I0 = I) (e : sPick j i k f g r = some (o, r')) (q : SPost K mg W C D I o r') :
    tOds K mg W [.sl i, .ex f, .ex g] s H fun xs H1 => xs.length ≤ sizeLine ∧ ∀ p, H1 p = none → ∃ v, s[k]? = some (some v) ∧ rIxL K (.ref p) v (upd H1 p (.lst xs)) fun u H2 => D.nx (s.set j (some u)) H2 := by
  unfold sPick at e
  split at e
  · rename_i xs hi
    obtain ⟨v, hv, c, ec, hl, nI, vs', hc, pa⟩ := R.slot i _ hi
    subst ec
    obtain ⟨l1, l2⟩ := R.lkt _ _ hl
    obtain ⟨t, ht⟩ := Option.ne_none_iff_exists'.mp l1
    have et : t = .lst vs' := Option.some.inj ((R.keep c t ht l2).symm.trans hc)
    subst et
    have mm : MRel K C.I0 C.H0 c (.lst xs) := ⟨vs', ht, by rw [same]; exact pa⟩
    rcases sx_inv e with ⟨os, r1, hf, e'⟩ | ⟨z, hf, rfl⟩
    · refine evO_ok [.sl i, .ex f, .ex g] R hf fun vs I1 H1 R1 g1 a => ?_
      clear e
      have e := e'
      clear e'
      unfold kPick at e
      split at e
      · rename_i n u1 u2 w hk
        obtain ⟨v0, v1, v2, rfl, a0, a1, a2⟩ : ∃ v0 v1 v2, vs = [v0, v1, v2] ∧ OvRel K I1 s v0 (.sl n) ∧ OvRel K I1 s v1 (.d u1) ∧ OvRel K I1 s v2 (.d u2) := by
          cases a with
          | cons a0 a =>
            cases a with
            | cons a1 a =>
              cases a with
              | cons a2 a =>
                cases a
                exact ⟨_, _, _, rfl, a0, a1, a2⟩
        obtain ⟨vw, hvw, qw⟩ := R1.slot k _ hk
        have qw : Dp K I1 vw (.int w) := qw
        cases qw
        refine ⟨Nat.le_trans (show _ ≤ 3 from Nat.le_refl _) (by rw [sizeLine_eq]; decide), fun p hp => ⟨_, hvw, ?_⟩⟩
        have gr := grow_own (o := .lst [v0, v1, v2]) R1.sub hp
        have R2 := R1.grow gr
        have fin : ∀ u : V, atI [v0, v1, v2] w = some u → D.nx (s.set j (some u)) _ → rIxL K (.ref p) (.int w) (upd H1 p (.lst [v0, v1, v2])) fun u H2 => D.nx (s.set j (some u)) H2 := fun u h1 h2 => ⟨p, _, w, u, rfl, rfl, SqL.of upd_same, h1, h2⟩
        split at e
        · rename_i hw
          obtain ⟨rfl, rfl⟩ := hw
          cases e
          have ev : s[n]? = some (some _) := a0
          rw [hv] at ev
          cases ev
          exact fin _ rfl (q _ I1 _ (R2.putBor (hb c hl) l2 mm) g1)
        · split at e
          · rename_i hw
            subst hw
            cases e
            exact fin _ rfl (q _ I1 _ (R2.put (x := .d u1) a1) g1)
          · split at e
            · rename_i hw
              subst hw
              cases e
              exact fin _ rfl (q _ I1 _ (R2.put (x := .d u2) a2) g1)
            · cases e
      · cases e
    · exact evO_ok [.sl i, .ex f, .ex g] R hf fun c dx I' H' R' g t => q c dx s I' H' R' g t
  · cases e
theorem dss_alias {i j k : Nat} {x w : Str} {n e1 e2 : Expr} {f g : EF D} {p p1 p2 p3 : Pos} {rest : List Stmt} {body : SM} (hN : X.N.Nodup) (hj : X.N[j]? = some x) (hx : Loc X.env.scope x) (ha : DA X W [n, e1, e2] [.sl i, .ex f, .ex g]) (hw : PE X (.Name w p3) (tVar k))
    (hr : DSs X W rest body) (hs : PlainIx (.Name w p3) := by intro _ _; rfl) (hsw : swapsWith (.Subscript (.List [n, e1, e2] p1) (.Name w p3) p2) (some (.Name x p)) pos.line X.env = pure false := by rfl) (hf : X.fn x = true ∨ X.env.scope.names.lookup x = some .local := by first | exact .inl rfl | exact .inr rfl) :
    DSs X W (.Assign [.Name x p] (.Subscript (.List [n, e1, e2] p1) (.Name w p3) p2) pos :: rest) (lkA i (sb (sPick j i k f g) body)) :=
  pss_of (pss_cons (ps_set hN hj hx (pe_ix ix_list (pe_lst ha) hw hs) hsw hf) hr) fun D s H h => by
    obtain ⟨C, I, r, o, r', R, e, q, same, hb⟩ := lkA_ok h
    rcases sb_inv e with ⟨r1, h1, h2⟩ | ⟨h1, ne⟩
    · exact pick_ok R hb same h1 (D := { D with nx := _ }) fun σ J G R' g' => ⟨C, J, r1, o, r', R', h2, spost_up g' q⟩
    · refine pick_ok R hb same h1 (D := { D with nx := _ }) ?_
      cases o with
      | nx => exact absurd rfl ne
      | bk => exact q
      | ct => exact q
      | rt x => exact q
      | ex x => exact q
end
/-! as simp goes -/
section
variable {P : S → Env → Prop} {E : Exc → Env → Prop} {r : Env} {N : Env → Prop} {Q : O → Env → Prop} {i j k : Nat} {xs : List D} {b : Bool}
def WhA (o : Option (Option S)) (r : Env) (i : Nat) (g : SM) (N : Env → Prop) (Q : O → Env → Prop) (_u : Blk (g, N, Q) := .mk) : Prop := match o with
  | some (some (.own b (.lst xs))) => Ws g (r.set i (some (.lck (.lst xs)))) (fun r' => Wun r'[i]? fun m => N ((r'.map unB).set i (some (.own b m)))) fun o r' => o = .ct ∧ Wun r'[i]? fun m => Q .ct ((r'.map unB).set i (some (.own b m)))
  | _ => False
@[simp] theorem whA_o {g : SM} : WhA (some (some (.own b (.lst xs)))) r i g N Q ↔ Ws g (r.set i (some (.lck (.lst xs)))) (fun r' => Wun r'[i]? fun m => N ((r'.map unB).set i (some (.own b m)))) fun o r' => o = .ct ∧ Wun r'[i]? fun m => Q .ct ((r'.map unB).set i (some (.own b m))) := Iff.rfl
@[simp] theorem ws_lkA {g : SM} : Ws (lkA i g) r N Q ↔ WhA r[i]? r i g N Q := by
  unfold WhA
  split
  · rename_i b xs h
    unfold Ws lkA
    rw [h]
    dsimp only
    cases g (r.set i (some (.lck (.lst xs)))) with
    | none => exact Iff.rfl
    | some z =>
      obtain ⟨o, t⟩ := z
      unfold Wun
      cases o <;> dsimp only <;> (rcases t[i]? with _ | _ | z <;> first | (simp; done) | (cases z <;> simp; done))
  · rename_i h
    have e : lkA i g r = none := by
      unfold lkA
      split
      · rename_i b xs k
        exact (h b xs k).elim
      · rfl
    unfold Ws
    rw [e]
def Wlx (o : Option (Option S)) (P : List D → Prop) (_u : Blk P := .mk) : Prop := match o with
  | some (some (.lck (.lst xs))) => P xs
  | _ => False
@[simp] theorem wlx_k {P : List D → Prop} : Wlx (some (some (.lck (.lst xs)))) P ↔ P xs := Iff.rfl
def Wnt (o : Option (Option S)) (P : Int → Prop) (_u : Blk P := .mk) : Prop := match o with
  | some (some (.d (.int w))) => P w
  | _ => False
@[simp] theorem wnt_i {w : Int} {P : Int → Prop} : Wnt (some (some (.d (.int w)))) P ↔ P w := Iff.rfl
def Wpk (w : Int) (A B C : Prop) (_u : Blk (A, B, C) := .mk) : Prop := if w = 0 then A else if w = 1 then B else if w = 2 then C else False
@[simp] theorem wpk_0 {A B C : Prop} : Wpk 0 A B C ↔ A := Iff.rfl
@[simp] theorem wpk_1 {A B C : Prop} : Wpk 1 A B C ↔ B := Iff.rfl
@[simp] theorem wpk_2 {A B C : Prop} : Wpk 2 A B C ↔ C := Iff.rfl
@[simp] theorem ws_pick {f g : EF D} : Ws (sPick j i k f g) r N Q ↔ Wlx r[i]? fun xs => Wp (evO [.sl i, .ex f, .ex g]) r (fun os r1 => Ws (kPick j i k xs os) r1 N Q) fun x r1 => Q (.ex x) r1 := by
  unfold Wlx
  split
  · rename_i xs h
    refine Iff.trans ?_ ws_sx
    unfold Ws sPick
    rw [h]
  · rename_i h
    have e : sPick j i k f g r = none := by
      unfold sPick
      split
      · rename_i xs k
        exact (h xs k).elim
      · rfl
    unfold Ws
    rw [e]
@[simp] theorem ws_kPick {x y : D} : Ws (kPick j i k xs [.sl i, .d x, .d y]) r N Q ↔ Wnt r[k]? fun w => Wpk w (N (r.set j (some (.bor (.lst xs))))) (N (r.set j (some (.d x)))) (N (r.set j (some (.d y)))) := by
  unfold Ws kPick Wnt
  rcases r[k]? with _ | _ | z
  · exact Iff.rfl
  · exact Iff.rfl
  · cases z with
    | d d =>
      cases d with
      | int w =>
        dsimp only
        unfold Wpk
        by_cases h0 : w = 0
        · simp [h0]
        · by_cases h1 : w = 1
          · simp [h1]
          · by_cases h2 : w = 2
            · simp [h2]
            · simp [h0, h1, h2]
      | _ => exact Iff.rfl
    | _ => exact Iff.rfl
end
end DL
/-! DLh2: set(t), t a tuple of at most four tuples of ints and texts. -/
namespace L2
open PySem PySem.Spec PyProof.Rows DL
/-! ### values without an inside -/
def Leaf (v : Value) : Prop := (∃ i t, v = .int i t) ∨ ∃ x t, v = .str x t
theorem Leaf.plain {v : Value} (l : Leaf v) (n : Nat) : ofAClassStatement n v = pure false ∧ ∃ b, hashByValue n v = pure b := by
  rcases l with ⟨i, t, rfl⟩ | ⟨x, t, rfl⟩ <;> exact ⟨by cases n <;> rfl, _, by cases n <;> rfl⟩
theorem leaf_of {P : Program} {w : World} {k : Key} {v : Value} (h : (mixKind P w).is k v = true) : Leaf v := by
  cases k with
  | inl i => obtain ⟨t, e⟩ := Value.isInt_shape h; exact .inl ⟨i, t, e⟩
  | inr x =>
    cases v with
    | str z t => exact .inr ⟨z, t, rfl⟩
    | _ => cases h
theorem leaves {P : Program} {w : World} {k : List Key} {vs : List Value} (h : ItemsAre (mixKind P w) k vs) : ∀ v ∈ vs, Leaf v := by
  induction h with
  | nil => exact fun v hv => (by cases hv)
  | cons h1 _ ih => exact fun v hv => (List.mem_cons.mp hv).elim (fun e => by rw [e]; exact leaf_of h1) (ih v)
section
variable {P : Program} {w : World} {A : Around} {E : Value → Shared → Prop} {s : Shared}
/-- the tuple at a holds the keys -/
abbrev KeyAt (P : Program) (w : World) (h : Heap) (k : List Key) (a : Addr) : Prop := IsTupleKey (mixKind P w) h k a
abbrev kHash (P : Program) (w : World) (k : List Key) : Int := tupleKeyHash (mixKind P w) k
theorem keyAt_on {h h' : Heap} {k : List Key} {b : Addr} (x : KeyAt P w h k b) (keep : ∀ o, h.get? b = some o → h'.get? b = some o) : KeyAt P w h' k b :=
  let ⟨o, items, n, e, r⟩ := x; ⟨o, items, n, keep o e, r⟩
/-- a walk over leaves that tells nothing -/
theorem leaf_loop {β : Type} {its : Array Value} {f : Value → (Option β × PUnit) → Sem (ForInStep (Option β × PUnit))} {Q : (Option β × PUnit) → Shared → Prop} (hl : ∀ v ∈ its.toList, Leaf v)
    (hf : ∀ v u, Leaf v → f v (none, u) = pure (.yield (none, PUnit.unit))) (hQ : Q (none, PUnit.unit) s) : wpAny (model P w) A (forIn its (none, PUnit.unit) f) Q E s := by
  rw [← Array.forIn_toList]
  generalize its.toList = vs at *
  induction vs with
  | nil => exact wpAny_pure hQ
  | cons v vs ih =>
    rw [List.forIn_cons, hf v _ (hl v List.mem_cons_self)]
    exact wpAny_bind (wpAny_pure (ih fun u hu => hl u (List.mem_cons_of_mem _ hu)))
theorem noClass {k : List Key} {b : Addr} {Q : Bool → Shared → Prop} (hk : KeyAt P w s.heap k b) (h : Q false s) : wpAny (model P w) A (ofAClassStatement 8 (.ref b)) Q E s := by
  have ty := hk.typeIs
  obtain ⟨o, its, n, ho, _, hd, hi⟩ := hk
  unfold ofAClassStatement
  refine wpAny_bind (wpAny_typeOf ty ?_)
  dsimp only
  rw [show (("tuple" : String) == "tuple") = true from by decide]
  simp only [if_true, Bool.not_true, Bool.false_eq_true, if_false]
  try refine wpAny_bind (wpAny_pure ?_)
  show wpAny _ _ (seqItems? (.ref b) >>= _) _ _ s
  refine wpAny_bind (wpAny_seqItems ho hd ?_)
  dsimp only
  refine wpAny_bind (leaf_loop (leaves hi) (fun v u l => ?_) (wpAny_pure h))
  rw [(l.plain _).1]
  rfl
theorem byVal {k : List Key} {b : Addr} {Q : Bool → Shared → Prop} (hk : KeyAt P w s.heap k b) (h : ∀ v, Q v s) : wpAny (model P w) A (hashByValue 8 (.ref b)) Q E s := by
  have ty := hk.typeIs
  obtain ⟨o, its, n, ho, _, hd, hi⟩ := hk
  unfold hashByValue
  refine wpAny_bind (wpAny_specialOf ty PySem.F.slot_tuple_hash.lookup ?_)
  show wpAny _ _ (seqItems? (.ref b) >>= _) _ _ s
  refine wpAny_bind (wpAny_seqItems ho hd ?_)
  refine wpAny_bind ?_
  show wpAny _ _ (forIn its _ _) _ _ s
  rw [← Array.forIn_toList]
  have lf := leaves hi
  generalize its.toList = vs at lf
  induction vs with
  | nil => exact wpAny_pure (wpAny_pure (h _))
  | cons v vs ih =>
    obtain ⟨b, e⟩ := ((lf v List.mem_cons_self).plain 7).2
    rw [List.forIn_cons, e]
    cases b with
    | true => exact wpAny_bind (wpAny_bind (wpAny_pure (wpAny_pure (ih fun u hu => lf u (List.mem_cons_of_mem _ hu)))))
    | false => exact wpAny_bind (wpAny_bind (wpAny_pure (wpAny_pure (wpAny_pure (wpAny_pure (h _))))))
/-- that such tuples are searched shows nothing -/
theorem unseen {k : List Key} {b : Addr} {Q : Bool → Shared → Prop} (hk : KeyAt P w s.heap k b) : ∀ {ys : List Value}, (∀ y ∈ ys, ∃ k' c, y = Value.ref c ∧ KeyAt P w s.heap k' c) → Q false s → wpAny (model P w) A (searchCouldBeSeen (.ref b) ys) Q E s := by
  intro ys hy h
  unfold searchCouldBeSeen
  refine wpAny_bind ?_
  refine wpAny_mono (Q := fun r s' => r = (none, PUnit.unit) ∧ s' = s) ?_ (fun r s' e => by obtain ⟨rfl, rfl⟩ := e; exact wpAny_pure h) fun _ _ e => e
  induction ys with
  | nil => exact wpAny_pure ⟨rfl, rfl⟩
  | cons y ys ih =>
    obtain ⟨k', c, rfl, hc⟩ := hy y List.mem_cons_self
    have ih := ih fun u hu => hy u (List.mem_cons_of_mem _ hu)
    rw [List.forIn_cons]
    refine wpAny_bind ?_
    dsimp only
    by_cases same : (b == c || (carriedByValue (.ref b) && carriedByValue (.ref c))) = true
    · exact wp_if_pos same (wpAny_pure ih)
    · refine wp_if_neg same (wpAny_bind (wpAny_eqIsQuiet_tuple hk ?_))
      simp only [Bool.not_true, Bool.false_eq_true, if_false]
      refine wpAny_bind (wpAny_eqIsQuiet_tuple hc ?_)
      simp only [Bool.not_true, Bool.false_eq_true, if_false]
      refine wpAny_bind (noClass hk ?_)
      simp only [Bool.false_eq_true, if_false]
      refine wpAny_bind (noClass hc ?_)
      simp only [Bool.false_eq_true, if_false]
      exact wpAny_pure ih
/-! ### the table -/
/-- the steps of a search -/
abbrev stp (t : SetTable) (h : Int) (c : Nat) : SetTable.Probe := nth t.mask (runAt t.mask (SetTable.bits h % (t.mask + 1)) (SetTable.bits h)) c
theorem stp_on {t : SetTable} {h : Int} (c q : Nat) : nth t.mask (stp t h c) q = stp t h (c + q) := (nth_add t.mask c _ q).symm
theorem nth_dummy (m : Nat) : ∀ (n : Nat) (p : SetTable.Probe), p.dummy = none → (nth m p n).dummy = none
  | 0, _, h => h
  | n + 1, p, h => nth_dummy m n (adv m p) (by unfold adv; split <;> exact h)
/-- what a search meets from its c-th step on -/
theorem meets {t : SetTable} {hs : List Int} (T : TabOk t hs) (f : Nat → Int) (h : Int) {c K : Nat} (hc : c ≤ K) (few : K - c < 10 * SetTable.turns t.mask) (free : way t.mask h K ∉ t.place.toList) (busy : ∀ k, k < K → way t.mask h k ∈ t.place.toList) :
    (∃ q i, c ≤ q ∧ q < K ∧ t.place.toList[i]? = some (way t.mask h q) ∧ f i = h ∧ (∀ q' i', c ≤ q' → q' < q → t.place.toList[i']? = some (way t.mask h q') → f i' ≠ h) ∧ t.probe f h (stp t h c) = some (.candidate (way t.mask h q) i (stp t h (q + 1)))) ∨
    ((∀ q' i', c ≤ q' → q' < K → t.place.toList[i']? = some (way t.mask h q') → f i' ≠ h) ∧ t.probe f h (stp t h c) = some (.empty (way t.mask h K) none)) := by
  have e : ∀ q, (nth t.mask (stp t h c) q).j = way t.mask h (c + q) := fun q => congrArg SetTable.Probe.j (stp_on c q)
  have g := go_spec t T.ris T.dm f h (10 * SetTable.turns t.mask) (K - c) (stp t h c) (nth_dummy _ _ _ rfl) few (fun q hq => by rw [e]; exact busy _ (by omega)) (by rw [e, Nat.add_sub_cancel' hc]; exact free)
  have back : ∀ {B : Nat}, (∀ q' i', q' < B → t.place.toList[i']? = some (nth t.mask (stp t h c) q').j → f i' ≠ h) → ∀ q' i', c ≤ q' → q' < c + B → t.place.toList[i']? = some (way t.mask h q') → f i' ≠ h := fun {B} w q' i' h1 h2 h3 =>
    w (q' - c) i' (by omega) (by rw [e, Nat.add_sub_cancel' h1]; exact h3)
  rcases g with ⟨q, i, h1, h2, h3, h4, h5⟩ | ⟨h4, h5⟩
  · rw [e] at h2 h5
    rw [stp_on] at h5
    exact .inl ⟨c + q, i, by omega, by omega, h2, h3, back h4, h5⟩
  · rw [e, Nat.add_sub_cancel' hc] at h5
    exact .inr ⟨fun q' i' h1 h2 => back h4 q' i' h1 (by omega), h5⟩
/-- what stands in the table -/
structure KTab (P : Program) (w : World) (L : List (Addr × List Key)) (es : Array (Int × Value)) (t : SetTable) : Prop where
  rows : es.toList = L.map fun p => (kHash P w p.2, Value.ref p.1)
  tab : TabOk t (L.map fun p => kHash P w p.2)
  nd : (L.map (·.2)).Nodup
  m7 : t.mask = 7
  few : L.length ≤ 4
structure KSet (P : Program) (w : World) (h : Heap) (a : Addr) (L : List (Addr × List Key)) : Prop where
  at' : ∃ o es ep t, h.get? a = some o ∧ o.ExactSet ∧ o.data = .set es ep t ∧ KTab P w L es t
  tup : ∀ p ∈ L, KeyAt P w h p.2 p.1
variable {L : List (Addr × List Key)} {es : Array (Int × Value)} {t : SetTable}
theorem KTab.size (T : KTab P w L es t) : es.size = L.length := by
  have := congrArg List.length T.rows
  simpa using this
theorem KTab.places (T : KTab P w L es t) : t.place.size = L.length := by
  have := T.tab.sz
  simpa using this
theorem KTab.fits (T : KTab P w L es t) : t.fits es.size = true := by
  have h1 := T.places
  have h2 := T.size
  have h3 := T.few
  unfold SetTable.fits SetTable.fill
  rw [T.tab.dm, T.m7]
  simp
  omega
theorem KTab.row (T : KTab P w L es t) {i : Nat} {p : Addr × List Key} (h : L[i]? = some p) : es[i]? = some (kHash P w p.2, Value.ref p.1) := by
  rw [← Array.getElem?_toList, T.rows, List.getElem?_map, h]
  rfl
theorem KTab.stays (T : KTab P w L es t) : ¬ t.gaveWay = true := by
  unfold SetTable.gaveWay
  rw [T.m7]
  decide
variable {a x : Addr} {o : Obj} {ep : Nat} {k : List Key}
theorem seek {Q : SetFound → Shared → Prop} {K : Nat} (T : KTab P w L es t) (tup : ∀ p ∈ L, KeyAt P w s.heap p.2 p.1) (ho : s.heap.get? a = some o) (hd : o.data = .set es ep t) (hx : KeyAt P w s.heap k x) (hu : A.units < cLine)
    (few : K < 10 * SetTable.turns t.mask) (free : way t.mask (kHash P w k) K ∉ t.place.toList) (busy : ∀ c, c < K → way t.mask (kHash P w k) c ∈ t.place.toList)
    (yes : k ∈ L.map (·.2) → Q (.there none) s) (no : k ∉ L.map (·.2) → Q (.free (way t.mask (kHash P w k) K) false) s) : ∀ (f c : Nat) (st : Option SetTable.Probe), st.getD (t.probeStart (kHash P w k)) = stp t (kHash P w k) c → c ≤ K → K - c < f →
      (∀ (i : Nat) p, L[i]? = some p → p.2 = k → ∃ q, c ≤ q ∧ q < K ∧ t.place.toList[i]? = some (way t.mask (kHash P w k) q)) → wpAny (model P w) A (setSearchFrom a (.ref x) (kHash P w k) true f st) Q E s
  | 0, c, st, _, _, hf, _ => absurd hf (Nat.not_lt_zero _)
  | f + 1, c, st, est, hc, hf, lies => by
    rw [setSearchFrom_succ]
    refine wpAny_bind (wpAny_setState_of ho hd T.fits ?_)
    dsimp only
    refine wp_if_neg T.stays ?_
    try refine wpAny_bind (wpAny_pure ?_)
    rw [est]
    have hash : ∀ (i : Nat) p, L[i]? = some p → (es[i]?.map (·.1)).getD 0 = kHash P w p.2 := fun i p e => by rw [T.row e]; rfl
    rcases meets T.tab (fun i => (es[i]?.map (·.1)).getD 0) (kHash P w k) hc (by omega) free busy with ⟨q, i, h1, h2, h3, h4, h5, h6⟩ | ⟨h5, h6⟩
    · rw [h6]
      dsimp only
      have li : i < L.length := by
        have := (List.getElem?_eq_some_iff.mp h3).1
        rw [Array.length_toList, T.places] at this
        exact this
      obtain ⟨p, ep⟩ : ∃ p, L[i]? = some p := ⟨_, List.getElem?_eq_getElem li⟩
      have pm := List.mem_of_getElem? ep
      have live : t.slot (way t.mask (kHash P w k) q) = .live i := slot_live T.tab.ris h3
      have rest : wpAny (model P w) A (searchRest a (.ref x) (kHash P w k) true f es t (way t.mask (kHash P w k) q) i (stp t (kHash P w k) (q + 1))) Q E s := by
        unfold searchRest
        rw [T.row ep]
        dsimp only
        refine wpAny_bind (wpAny_holding (wpAny_eqBool_tuple hu (tup p pm) hx ?_))
        refine wpAny_bind (wpAny_setState_of ho hd T.fits ?_)
        dsimp only
        by_cases same : p.2 = k
        · exact wp_if_pos (by simp [same]) (wpAny_pure (yes (List.mem_map.mpr ⟨p, pm, same⟩)))
        · refine wp_if_neg (by simp [same]) ?_
          try refine wpAny_bind (wpAny_pure ?_)
          rw [sameMem]
          dsimp only
          simp only [if_true, live, T.row ep]
          refine wpAny_bind (wpAny_isSame_ref_self (wpAny_bind (wpAny_pure ?_)))
          simp only [if_true]
          refine wp_if_neg (by simp [same]) ?_
          refine seek T tup ho hd hx hu few free busy yes no f (q + 1) _ rfl (by omega) (by omega) fun j r ej er => ?_
          obtain ⟨q', a1, a2, a3⟩ := lies j r ej er
          refine ⟨q', ?_, a2, a3⟩
          refine Classical.byContradiction fun lt => ?_
          rcases Nat.lt_or_ge q' q with z | z
          · exact h5 q' j a1 z a3 (by rw [hash j r ej, er])
          · have eq : q' = q := by omega
            rw [eq] at a3
            have l2 := slot_live T.tab.ris a3
            rw [live] at l2
            injection l2 with l2
            rw [← l2, ep] at ej
            exact same (by rw [Option.some.inj ej]; exact er)
      by_cases led : t.led = true
      · refine wp_if_neg (by simp [led]) ?_
        try refine wpAny_bind (wpAny_pure ?_)
        exact rest
      · refine wp_if_pos (by simp [led]) ?_
        refine wpAny_bind (unseen hx (fun y hy => ?_) ?_)
        · obtain ⟨e, he, rfl⟩ := List.mem_map.mp hy
          have he : e ∈ es.toList := by
            have : e ∈ es ∧ e.1 = kHash P w k := by simpa using he
            simpa using this.1
          rw [T.rows] at he
          obtain ⟨r, hr, rfl⟩ := List.mem_map.mp he
          exact ⟨r.2, r.1, rfl, tup r hr⟩
        · refine wp_if_neg (by decide) ?_
          try refine wpAny_bind (wpAny_pure ?_)
          exact rest
    · rw [h6]
      dsimp only
      refine wpAny_pure (no fun hm => ?_)
      obtain ⟨r, hr, er⟩ := List.mem_map.mp hm
      obtain ⟨j, hj, ej⟩ := List.getElem_of_mem hr
      have ej : L[j]? = some r := by rw [List.getElem?_eq_getElem hj, ej]
      obtain ⟨q', a1, a2, a3⟩ := lies j r ej er
      exact h5 q' j a1 a2 a3 (by rw [hash j r ej, er])
theorem sameBut_key {h h' : Heap} {b : Addr} (hb : KeyAt P w h k b) (ho : h.get? a = some o) (hd : o.data = .set es ep t) (sb : Heap.SameBut a h h') : KeyAt P w h' k b :=
  keyAt_on hb fun u e => by
    have ne : b ≠ a := by
      rintro rfl
      obtain ⟨o2, its, n, e2, _, d2, _⟩ := hb
      rw [ho] at e2
      cases e2
      rw [hd] at d2
      cases d2
    exact (sb.2 b ne).trans e
/-- one more tuple -/
theorem addK {Q : Bool → Shared → Prop} (T : KSet P w s.heap a L) (hx : KeyAt P w s.heap k x) (hu : A.units < cLine) (few : L.length < 4)
    (fin : ∀ b h' L', Heap.SameBut a s.heap h' → KSet P w h' a L' → (k ∈ L.map (·.2) → L'.Perm L) → (k ∉ L.map (·.2) → L'.Perm ((x, k) :: L)) → Q b { s with heap := h' }) : wpAny (model P w) A (setAddHashed a (.ref x) (kHash P w k)) Q E s := by
  obtain ⟨⟨o, es, ep, t, ho, hex, hd, T⟩, tup⟩ := T
  obtain ⟨K, kf, free, busy⟩ := T.tab.first (by rw [List.length_map, T.m7]; omega) (kHash P w k)
  have hk : K < 100000 := by
    have : 10 * SetTable.turns t.mask ≤ 1420 := by
      unfold SetTable.turns
      rw [T.m7]
      decide
    omega
  unfold setAddHashed
  refine wpAny_holding ?_
  rw [show (100000 : Nat) = 99999 + 1 from rfl, setAddHashedIn_succ]
  refine wpAny_bind (wpAny_setState_of ho hd T.fits ?_)
  dsimp only
  refine wp_if_neg (by simp [byScan, Value.scannable]) ?_
  try refine wpAny_bind (wpAny_pure ?_)
  unfold setSearch
  refine wpAny_bind (seek T tup ho hd hx hu kf free busy (fun hm => ?_) (fun hm => ?_) (99999 + 1) 0 none rfl (Nat.zero_le _) (by omega) fun i p ei e2 => ?_)
  · dsimp only
    exact wpAny_pure (fin false s.heap L (Heap.SameBut.refl a s.heap) ⟨⟨o, es, ep, t, ho, hex, hd, T⟩, tup⟩ (fun _ => List.Perm.refl _) fun z => absurd hm z)
  · dsimp only
    refine wpAny_bind (wpAny_setState_of ho hd T.fits ?_)
    dsimp only
    obtain ⟨q1, q2, q3, q4, q5, q6, q7, q8, q9⟩ := T.tab.put free busy
    generalize t.put (way t.mask (kHash P w k) K) = pt at q1 q3 q4 q5 q6 q7 q8 q9 ⊢
    obtain ⟨t1, p⟩ := pt
    dsimp only at q1 q3 q4 q5 q6 q7 q8 q9 ⊢
    subst q1
    obtain ⟨p, ep'⟩ : ∃ p, p = SetTable.below t.place (way t.mask (kHash P w k) K) := ⟨_, rfl⟩
    rw [← ep'] at q2 q3 ⊢
    have pm : (L.take p ++ (x, k) :: L.drop p).Perm ((x, k) :: L) := by
      refine List.perm_middle.trans ?_
      rw [List.take_append_drop]
    have rows : (SetTable.insertAt es p (kHash P w k, Value.ref x)).toList = (L.take p ++ (x, k) :: L.drop p).map fun p => (kHash P w p.2, Value.ref p.1) := by
      rw [SetTable.toList_insertAt, T.rows]
      simp
    have eh : (L.map fun p => kHash P w p.2).take p ++ kHash P w k :: (L.map fun p => kHash P w p.2).drop p = (L.take p ++ (x, k) :: L.drop p).map fun p => kHash P w p.2 := by simp
    rw [eh] at q3
    have nd : ((L.take p ++ (x, k) :: L.drop p).map (·.2)).Nodup := by
      refine (pm.map (·.2)).nodup_iff.mpr ?_
      rw [List.map_cons]
      exact List.nodup_cons.mpr ⟨hm, T.nd⟩
    have ln : (L.take p ++ (x, k) :: L.drop p).length = L.length + 1 := pm.length_eq
    generalize L.take p ++ (x, k) :: L.drop p = L1 at *
    have sz : (SetTable.insertAt es p (kHash P w k, Value.ref x)).size = L.length + 1 := by
      have := congrArg List.length rows
      rw [List.length_map, ln] at this
      simpa using this
    generalize SetTable.insertAt es p (kHash P w k, Value.ref x) = es1 at *
    have main : ∀ v : Bool, ∀ t2 : SetTable, t2 = (if v = true then t1 else { t1 with plain := false }) → wpAny (model P w) A (do
        storeSet a es1 t2
        if (!false && t2.tooFull) = true then setRelay a (SetTable.grown (es.size + 1))
        return true) Q E s := fun v t2 e2 => by
      have same : t2.place = t1.place ∧ t2.dummies = t1.dummies ∧ t2.mask = t1.mask := by
        cases v <;> (rw [e2]; exact ⟨rfl, rfl, rfl⟩)
      obtain ⟨s1, s2, s3⟩ := same
      have tab2 : TabOk t2 (L1.map fun p => kHash P w p.2) := by
        obtain ⟨b1, b2, b3, b4, b5, b6⟩ := q3
        rw [← s1] at b1 b3 b5 b6
        rw [← s2] at b2
        rw [← s3] at b4 b5 b6
        exact ⟨b1, b2, b3, b4, b5, b6⟩
      have full : t2.tooFull = false := by
        have h1 := tab2.sz
        rw [List.length_map, ln] at h1
        unfold SetTable.tooFull SetTable.fill
        rw [tab2.dm, s3, q4, T.m7]
        simp
        omega
      refine wpAny_bind (wpAny_storeSet_of ho hd ?_ (by rw [sz, sizeLine_eq]; omega))
      rw [full]
      refine wp_if_neg (by decide) ?_
      try refine wpAny_bind (wpAny_pure ?_)
      have sb : Heap.SameBut a s.heap (s.heap.update a (Obj.putSet es1 t2)) := Heap.SameBut.update ..
      have ho1 := store_at (es' := es1) (t' := t2) ho hd
      refine wpAny_pure (fin true _ L1 sb ⟨⟨_, es1, _, t2, ho1, ⟨hex.1, hex.2.1, hex.2.2⟩, rfl, rows, tab2, nd, by rw [s3, q4]; exact T.m7, by omega⟩, fun r hr => ?_⟩ (fun z => absurd z hm) fun _ => pm)
      rcases List.mem_cons.mp (pm.mem_iff.mp hr) with e | hr
      · rw [e]
        exact sameBut_key hx ho hd sb
      · exact sameBut_key (tup r hr) ho hd sb
    by_cases hp : t1.plain = true
    · first
        | exact wp_if_pos hp (wpAny_bind (byVal hx fun v => main v _ rfl))
        | exact wpAny_bind (wp_if_pos hp (byVal hx fun v => main v _ rfl))
    · first
        | exact wp_if_neg hp (wpAny_bind (wpAny_pure (main true _ rfl)))
        | exact wpAny_bind (wp_if_neg hp (wpAny_pure (main true _ rfl)))
  · have hi : (L.map fun p => kHash P w p.2)[i]? = some (kHash P w k) := by rw [List.getElem?_map, ei, ← e2]; rfl
    have il : i < t.place.toList.length := by
      rw [Array.length_toList, T.places]
      exact (List.getElem?_eq_some_iff.mp ei).1
    have ej := List.getElem?_eq_getElem il
    obtain ⟨c, hc, e⟩ := T.tab.before free hi ej
    exact ⟨c, Nat.zero_le _, hc, by rw [ej, e]⟩
end
end L2
namespace DL
/-- each once, the last of its kind -/
def uniq {α : Type} [DecidableEq α] : List α → List α
  | [] => []
  | x :: l => if x ∈ l then uniq l else x :: uniq l
section
variable {α : Type} [DecidableEq α]
theorem uniq_mem : ∀ {l : List α} {x : α}, x ∈ uniq l ↔ x ∈ l
  | [], x => Iff.rfl
  | y :: l, x => by
    unfold uniq
    split
    · rename_i h
      rw [uniq_mem, List.mem_cons]
      exact ⟨.inr, fun z => z.elim (fun e => by rw [e]; exact h) id⟩
    · rw [List.mem_cons, List.mem_cons, uniq_mem]
theorem uniq_nodup : ∀ l : List α, (uniq l).Nodup
  | [] => List.nodup_nil
  | y :: l => by
    unfold uniq
    split
    · exact uniq_nodup l
    · rename_i h
      exact List.nodup_cons.mpr ⟨fun z => h (uniq_mem.mp z), uniq_nodup l⟩
theorem uniq_le : ∀ l : List α, (uniq l).length ≤ l.length
  | [] => Nat.le_refl _
  | y :: l => by
    have := uniq_le l
    unfold uniq
    split <;> simp <;> omega
theorem uniq_all : ∀ {l : List α}, (uniq l).length = l.length ↔ l.Nodup
  | [] => by simp [uniq]
  | y :: l => by
    have := uniq_le l
    unfold uniq
    split
    · rename_i h
      simp only [List.length_cons, List.nodup_cons]
      exact ⟨fun z => by omega, fun z => absurd h z.1⟩
    · rename_i h
      simp only [List.length_cons, List.nodup_cons, Nat.add_right_cancel_iff, uniq_all]
      exact ⟨fun z => ⟨h, z⟩, fun z => z.2⟩
theorem uniq_count {l m : List α} (hn : m.Nodup) (h : ∀ x, x ∈ m ↔ x ∈ l) : m.length = (uniq l).length :=
  ((List.perm_ext_iff_of_nodup hn (uniq_nodup l)).mpr fun x => by rw [h, uniq_mem]).length_eq
end
end DL
namespace L2
open PySem PySem.Spec PyProof.Rows DL
section
variable {prog : Program} {w : World} {A : Around} {R : Result → Shared → Prop} {I a : Addr} {fp wr : List Addr} {G : Array GenState → Array GenState → Prop} {n : Nat} {Pv : Nat → Value → Prop} {St : Nat → Shared → Prop}
theorem KSet.on {h h' : Heap} {L : List (Addr × List Key)} (T : KSet prog w h a L) (keep : ∀ b o, (b = a ∨ ∃ p ∈ L, b = p.1) → h.get? b = some o → h'.get? b = some o) : KSet prog w h' a L := by
  obtain ⟨⟨o, es, ep, t, ho, r⟩, tup⟩ := T
  exact ⟨⟨o, es, ep, t, keep a o (.inl rfl) ho, r⟩, fun p hp => keyAt_on (tup p hp) fun o e => keep p.1 o (.inr ⟨p, hp, rfl⟩) e⟩
/-- what of the tuples has been met -/
structure Met (met L : List (Addr × List Key)) : Prop where
  same : ∀ k, k ∈ L.map (·.2) ↔ k ∈ met.map (·.2)
  sub : ∀ p ∈ L, p ∈ met
  few : L.length ≤ met.length
theorem fill_keys (W : WalksS prog w A.in1 I fp wr G n Pv St) (apart : a ∉ fp) {ks : List (Addr × List Key)} (len : ks.length = n) (few : n ≤ 4) (val : ∀ i v, Pv i v → ∃ p, ks[i]? = some p ∧ v = .ref p.1) (hu : A.in1.units < cLine) (off : ∀ p ∈ ks, p.1 ∉ a :: wr) :
    ∀ (rest met : List (Addr × List Key)) (s : Shared), ks = met ++ rest → St met.length s → (∀ p ∈ ks, KeyAt prog w s.heap p.2 p.1) → (∃ L, KSet prog w s.heap a L ∧ Met met L) →
    (∀ s' L, Moved (a :: wr) G s s' → KSet prog w s'.heap a L → Met ks L → R (.ok (.ret .none)) s') → codeAny (model prog w) A (.builtin "set.update.loop" ⟨[.ref a, .ref I], []⟩) R s := fun rest met s e st ka ms fin => by
  have own : a ∉ wr := fun h => apart (W.sub _ h)
  have wide : ∀ b ∈ wr, b ∈ a :: wr := fun b h => List.mem_cons_of_mem _ h
  refine codeAny_builtin F.entry_set_update_loop ?_
  rw [Around.under_plainId F.plain_set_update_loop _]
  show wpAny _ A.in1 (pyNext (.ref I) >>= _) _ _ s
  obtain ⟨L, T, ml⟩ := ms
  have kept : ∀ {s' : Shared}, Moved wr G s s' → KSet prog w s'.heap a L := fun mv => T.on fun b o hb eb => mv.heap b o (by
    rcases hb with rfl | ⟨p, hp, rfl⟩
    · exact own
    · exact fun z => off p (by rw [e]; exact List.mem_append_left _ (ml.sub p hp)) (wide _ z)) eb
  match rest, e with
  | [], e =>
    rw [List.append_nil] at e
    subst e
    rw [len] at st
    exact wpAny_bind (W.done s _ _ st fun s' mv => wpAny_pure (fin s' L (mv.mono wide) (kept mv) ml))
  | x :: rest, e =>
    have lt : met.length < n := by rw [← len, e, List.length_append, List.length_cons]; omega
    refine wpAny_bind (W.item met.length s _ _ lt st fun v s' pv st' mv => ?_)
    obtain ⟨p, ep, rfl⟩ := val _ v pv
    have ex : p = x := by
      rw [e] at ep
      simpa using ep.symm
    subst ex
    have pm : p ∈ ks := by rw [e]; simp
    have kp : KeyAt prog w s'.heap p.2 p.1 := keyAt_on (ka p pm) fun o eb => mv.heap p.1 o (fun z => off p pm (wide _ z)) eb
    show wpAny _ A.in1 (holding [Value.ref p.1] (setAdd a (.ref p.1)) >>= _) _ _ s'
    unfold setAdd
    refine wpAny_bind (wpAny_holding (wpAny_holding (wpAny_bind (wpAny_pyHash_tuple hu kp ?_))))
    refine addK (s := { s' with toks := s'.toks + (p.2.length + 1) }) (show KSet prog w s'.heap a L from kept mv) kp hu (by have := ml.few; omega) fun b h' L' but T' same new => ?_
    have hb : ∀ c o, c ≠ a → s'.heap.get? c = some o → h'.get? c = some o := fun c o hc eb => by rw [but.2 c hc]; exact eb
    have mv2 : Moved (a :: wr) G s ({ s' with heap := h', toks := s'.toks + (p.2.length + 1) } : Shared) := (mv.mono wide).then_heap (show s'.toks ≤ s'.toks + (p.2.length + 1) by omega) fun c o hc eb => hb c o (fun z => hc (by rw [z]; exact List.mem_cons_self)) eb
    refine wpAny_pure ⟨plainId_quiet F.plain_set_update_loop _, fill_keys W apart len few val hu off rest (met ++ [p]) _ (by rw [e, List.append_assoc]; rfl) ?_ (fun q hq => keyAt_on (ka q hq) fun o eb => mv2.heap q.1 o (off q hq) eb) ⟨L', T', ?_⟩ fun s2 L2 m2 T2 g2 => fin s2 L2 (Moved.trans W.gtrans mv2 m2) T2 g2⟩
    · rw [List.length_append, List.length_singleton]
      exact W.frame _ s' _ _ st' (show s'.toks ≤ s'.toks + (p.2.length + 1) by omega) fun c hc o eb => hb c o (fun z => apart (z ▸ hc)) eb
    · by_cases hm : p.2 ∈ L.map (·.2)
      · have pr := same hm
        refine ⟨fun k => ?_, fun q hq => List.mem_append_left _ (ml.sub q (pr.mem_iff.mp hq)), by rw [pr.length_eq, List.length_append]; have := ml.few; omega⟩
        rw [(pr.map (·.2)).mem_iff, ml.same, List.map_append, List.mem_append]
        refine ⟨.inl, fun z => z.elim id fun z => ?_⟩
        simp at z
        rw [z]
        exact (ml.same _).mp hm
      · have pr := new hm
        refine ⟨fun k => ?_, fun q hq => ?_, by rw [pr.length_eq, List.length_append]; have := ml.few; simp; omega⟩
        · rw [(pr.map (·.2)).mem_iff, List.map_cons, List.mem_cons, ml.same, List.map_append, List.mem_append]
          simp [or_comm]
        · rcases List.mem_cons.mp (pr.mem_iff.mp hq) with rfl | hq
          · simp
          · exact List.mem_append_left _ (ml.sub q hq)
  termination_by rest => rest.length
end
section
variable {prog : Program} {w : World} {A : Around} {E : Value → Shared → Prop} {s : Shared} {a l : Addr}
theorem init_keys {led : Bool} {its : Array Value} {ks : List (Addr × List Key)} {Q : Fin → Shared → Prop} (hh : A.handled = none) (new : s.heap.get? a = some (noneIn led)) (tup : s.heap.IsTuple l its) (ne : l ≠ a) (val : its.toList = ks.map fun p => Value.ref p.1) (few : ks.length ≤ 4) (ka : ∀ p ∈ ks, KeyAt prog w s.heap p.2 p.1) (hu : A.units + 40 < cLine)
    (off : ∀ p ∈ ks, p.1 ≠ a) (fin : ∀ h' tk L, KSet prog w h' a L → Met ks L → But a s.heap h' → Q (.done (.ret .none)) { s with heap := h', toks := tk }) : wpAny (model prog w) A (Builtin.«set.__init__» ⟨[.ref a, .ref l], []⟩) Q E s := by
  obtain ⟨⟨_, od, _, os⟩, at_, hc, k, hd⟩ := id tup
  dsimp only at hc hd
  subst hc hd
  have f1 := F.sub_tuple_set
  have f2 := F.sub_tuple_frozenset
  have f3 : (Value.type "tuple" == Value.type "dict") = false := by decide
  unfold Builtin.«set.__init__» noKeywords Builtin.Frozenset.updateFrom
  generalize hp : pyIter = walkOf
  wp_walk
  subst hp
  have it_new : l ≠ s.heap.objs.size := Nat.ne_of_lt (Heap.lt_size at_)
  have a_old : a < s.heap.objs.size := Heap.lt_size new
  have size : ks.length = its.size := by rw [← Array.length_toList, val, List.length_map]
  refine wpAny_pyIter_tuple tup (wpAny_bind (wpAny_runValue ?_))
  have nth : ∀ i v, its[i]? = some v → ∃ p : Addr × List Key, ks[i]? = some p ∧ v = Value.ref p.1 := fun i v e => by
    rw [← Array.getElem?_toList, val, List.getElem?_map] at e
    obtain ⟨p, e1, e2⟩ := Option.map_eq_some_iff.mp e
    exact ⟨p, e1, e2.symm⟩
  have old : ∀ p ∈ ks, p.1 ≠ s.heap.objs.size := fun p hp => by
    obtain ⟨o, _, _, e, _⟩ := ka p hp
    exact Nat.ne_of_lt (Heap.lt_size e)
  refine fill_keys ((Walks.tuple (by simp [hh]) _ l it_new its).toS) (a := a) ?_ size (by omega) nth (by simp; omega) (fun p hp => ?_) ks [] _ rfl ⟨⟨_, Heap.get?_push_size _ rfl, rfl, rfl⟩, tup.push _⟩ (fun p hp => keyAt_on (ka p hp) fun o e => Heap.get?_push_of_some _ e) ⟨[], ⟨⟨_, #[], 0, _, Heap.get?_push_of_some _ new, ⟨rfl, rfl, rfl⟩, rfl, ⟨rfl, ⟨List.Pairwise.nil, rfl, rfl, .inl rfl, fun x hx => (by cases hx), fun i h j hi => (by simp at hi)⟩, List.nodup_nil, rfl, Nat.zero_le _⟩⟩, fun p hp => (by cases hp)⟩, ⟨fun k => Iff.rfl, fun p hp => (by cases hp), Nat.le_refl _⟩⟩ fun s' L mv set met => ?_
  · simp only [List.mem_cons, List.not_mem_nil, or_false, not_or]
    exact ⟨Nat.ne_of_lt a_old, Ne.symm ne⟩
  · simp only [List.mem_cons, List.not_mem_nil, or_false, not_or]
    exact ⟨off p hp, old p hp⟩
  · obtain ⟨h', g', d', tk, os'⟩ := s'
    obtain rfl : g' = s.gens := mv.gens
    obtain rfl : d' = s.drawn := mv.drawn
    obtain rfl : os' = s.os := mv.os
    exact wpAny_pure (wpAny_pure (fin h' tk L set met fun b o hb e => mv.heap b o (by
      have := Heap.lt_size e
      simp only [List.mem_cons, List.not_mem_nil, or_false, not_or]
      exact ⟨hb, Nat.ne_of_lt this⟩) (Heap.get?_push_of_some _ e)))
theorem set_keys {its : Array Value} {ks : List (Addr × List Key)} {Q : Value → Shared → Prop} (hh : A.handled = none) (tup : s.heap.IsTuple l its) (val : its.toList = ks.map fun p => Value.ref p.1) (few : ks.length ≤ 4) (ka : ∀ p ∈ ks, KeyAt prog w s.heap p.2 p.1) (hu : A.units + 64 < cLine)
    (fin : ∀ h' tk L, KSet prog w h' s.heap.objs.size L → Met ks L → (∀ b o, s.heap.get? b = some o → h'.get? b = some o) → Q (.ref s.heap.objs.size) { s with heap := h', toks := tk }) : wpAny (model prog w) A (call (.type "set") [.ref l]) Q E s := by
  obtain ⟨o, at_, _⟩ := id tup
  have l_old := Heap.lt_size at_
  obtain ⟨_, _, g1⟩ := F.called_set.mro
  have g2 := F.called_set.made
  have g3 := F.called_set.sub
  have g4 := F.called_set.notType
  have g5 := F.called_set.canCreate
  have g6 := F.typeCall_set_1 (.ref l)
  refine wpAny_call (codeAny_of_tree ?_)
  show wpAny _ _ (callAny (.type "set") _) _ _ _
  refine wpAny_pure ⟨Code.quiet_builtin _ (by decide +kernel), codeAny_builtin F.entry_type_call ?_⟩
  rw [Around.under_plain (weight_type_call_type "set" [.ref l] []) rfl]
  repeat (any_goals (first | assumption | wp_step))
  -- the set is laid
  refine codeAny_mono (code_set_new_1 (.ref l) (E := E) (Q₁ := fun v s1 => ∃ led, v = .ref s.heap.objs.size ∧ s1 = { s with heap := s.heap.push (noneIn led) }) fun led => ⟨led, rfl, rfl⟩) fun r s1 h1 => ?_
  rcases r with e | (_ | _ | _ | v)
  case ok.ret =>
    obtain ⟨led, rfl, rfl⟩ := h1
    have new : (s.heap.push (noneIn led)).get? s.heap.objs.size = some (noneIn led) := Heap.get?_push_size _ rfl
    have ty : Shared.TypeIs { s with heap := s.heap.push (noneIn led) } (.ref s.heap.objs.size) "set" := ⟨_, new, rfl⟩
    have g7 := F.called_set.init.lookup
    have g8 := F.called_set.init.bind (.ref s.heap.objs.size)
    repeat (any_goals (first | assumption | wp_step))
    -- and filled
    refine codeAny_mono (codeAny_call_builtin (R := wants (fun v s2 => v = .none ∧ ∃ h' tk L, s2 = { s with heap := h', toks := tk } ∧ KSet prog w h' s.heap.objs.size L ∧ Met ks L ∧ ∀ b o, s.heap.get? b = some o → h'.get? b = some o) E) F.called_set.init.plain F.entry_set_init (check_set_init_1 ty ?_)) fun r2 s2 h2 => ?_
    · refine init_keys (s := { s with heap := s.heap.push (noneIn led) }) (by simp [hh]) new (tup.push _) (Nat.ne_of_lt l_old) val few (fun p hp => keyAt_on (ka p hp) fun o e => Heap.get?_push_of_some _ e) (by simp; omega) (fun p hp => by obtain ⟨o, _, _, e, _⟩ := ka p hp; exact Nat.ne_of_lt (Heap.lt_size e)) fun h' tk L set met but => ?_
      exact ⟨rfl, h', tk, L, rfl, set, met, fun b o e => but b o (Nat.ne_of_lt (Heap.lt_size e)) (Heap.get?_push_of_some _ e)⟩
    · rcases r2 with e | (_ | _ | _ | v)
      case ok.ret =>
        obtain ⟨rfl, h', tk, L, rfl, set, met, old⟩ := h2
        repeat (any_goals (first | assumption | wp_step))
        exact fin h' tk L set met old
      all_goals first | exact h2 | exact h2.elim
  all_goals first | exact h1 | exact h1.elim
end
end L2
namespace L2
open PySem PySem.Spec PyProof.Rows DL
section
variable {X : Cx}
/-- a set of n things -/
def SetN (a : Addr) (n : Nat) : HO := .ext fun h => ∃ o es ep t, h.get? a = some o ∧ o.ExactSet ∧ o.data = .set es ep t ∧ t.fits es.size = true ∧ es.size = n ∧ n ≤ 4
theorem setN_new {w : World} {P : Program} {H : Hp} {h : Heap} {a : Addr} {L : List (Addr × List Key)} (T : KSet P w h a L) : ObjOk P w H h a (SetN a L.length) := by
  obtain ⟨⟨o, es, ep, t, ho, hex, hd, T⟩, _⟩ := T
  exact ⟨⟨o, es, ep, t, ho, hex, hd, T.fits, T.size, T.few⟩, ⟨o, ho⟩, fun h1 h2 ⟨o, es, ep, t, ho, r⟩ k => ⟨o, es, ep, t, k o ho, r⟩⟩
theorem keys_items {P : Program} {w : World} : ∀ {k : List Key} {us : List Value}, Vals (k.map kV) us → ItemsAre (mixKind P w) k us
  | [], _, h => by cases h; exact .nil
  | x :: k, _, h => by
    rw [List.map_cons] at h
    cases h with
    | cons a b => exact .cons (kV_is a) (keys_items b)
theorem tup_refs : ∀ {ps : List (Addr × List Key)} {us : List Value}, Vals (ps.map fun p => V.ref p.1) us → us = ps.map fun p => Value.ref p.1
  | [], _, h => by cases h; rfl
  | p :: ps, _, h => by
    rw [List.map_cons] at h
    cases h with
    | cons a b =>
      rw [List.map_cons, ← tup_refs b]
      cases a
      rfl
theorem key_at {pins : List (Addr × Obj)} {σ : St} {H : Hp} {s : Shared} {b : Addr} {k : List Key} (I : Inv X pins σ H s) (h : SqT X.K H b (k.map kV)) : KeyAt X.prog X.w s.heap k b := by
  obtain ⟨its, r, ⟨o, ho, hc, n, hd⟩, _⟩ := I.tuple h
  exact ⟨o, _, n, ho, hc, hd, by simpa using keys_items r⟩
def rSetKs (X : Cx) : List V → Hp → VK → Prop := fun vs H Q => ∃ (l : Addr) (ps : List (Addr × List Key)), vs = [.ref l] ∧ SqT X.K H l (ps.map fun p => V.ref p.1) ∧ (∀ p ∈ ps, SqT X.K H p.1 (p.2.map kV)) ∧ ps.length ≤ 4 ∧ ∀ q, H q = none → Q (.ref q) (upd H q (SetN q (uniq (ps.map (·.2))).length))
theorem cr_setKs (hc : X.calm = true) (hu : X.A.units + 64 < cLine) : CallR X (.type "set") (rSetKs X) := by
  rintro pins s σ H _ us Q I r ⟨l, ps, rfl, at_, each, few, q⟩
  obtain rfl := Vals.ref1 r
  obtain ⟨its, vals, tup, _⟩ := I.tuple at_
  refine set_keys (I.ok.hd hc) tup (by simpa using tup_refs vals) few (fun p hp => key_at I (each p hp)) hu fun h' tk L set met old => ?_
  have n : L.length = (uniq (ps.map (·.2))).length := by
    have := uniq_count (l := ps.map (·.2)) (m := L.map (·.2)) (by obtain ⟨⟨_, _, _, _, _, _, _, T⟩, _⟩ := set; exact T.nd) met.same
    rwa [List.length_map] at this
  have ok := setN_new (H := upd H s.heap.objs.size (SetN s.heap.objs.size L.length)) set
  rw [n] at ok
  exact ⟨.ref _, _, I.laid (t' := tk) old (Nat.le_refl _) ok, rfl, q _ (I.hok.fresh (Nat.le_refl _))⟩
def rLenN : List V → Hp → VK → Prop := fun vs H Q => ∃ a n, vs = [.ref a] ∧ H a = some (SetN a n) ∧ Q (.int (n : Nat)) H
theorem cr_lenN : CallR X (.builtin "len") rLenN := by
  rintro pins s σ H _ us Q I r ⟨a, n, rfl, at_, q⟩
  obtain rfl := Vals.ref1 r
  obtain ⟨o, es, ep, t, ho, ex, hd, fit, rfl, few⟩ := (I.hok a _ at_).1
  exact call_len_set ho ex hd fit (by omega) ⟨.int es.size, H, I.tok _, ⟨_, rfl⟩, q⟩
end
end L2
namespace DL
open PySem L2
variable {X : Cx} {W : WX} {pos : Pos}
def tupsK : List D → Option (List (List Key))
  | [] => some []
  | .tuple xs :: t => (keysL xs).bind fun k => (tupsK t).map fun ks => k :: ks
  | _ => none
theorem tupsK_ok {K : KF} {I : Hp} : ∀ {ws : List V} {ds : List D} {ks : List (List Key)}, DpAll K I ws ds → tupsK ds = some ks → ∃ ps : List (Addr × List Key), ws = (ps.map fun p => V.ref p.1) ∧ ps.map (·.2) = ks ∧ ∀ p ∈ ps, SqT K I p.1 (p.2.map kV)
  | _, [], ks, .nil, e => by
    cases e
    exact ⟨[], rfl, rfl, fun p hp => (by cases hp)⟩
  | _, d :: ds, ks, .cons a b, e => by
    cases d with
    | tuple xs =>
      unfold tupsK at e
      obtain ⟨k, e1, e⟩ := Option.bind_eq_some_iff.mp e
      obtain ⟨ks', e2, e⟩ := Option.map_eq_some_iff.mp e
      subst e
      obtain ⟨ps, rfl, rfl, h⟩ := tupsK_ok b e2
      cases a with
      | @tup c vs _ hs ha =>
        have ek := keysL_ok ha e1
        subst ek
        refine ⟨(c, k) :: ps, rfl, rfl, fun p hp => ?_⟩
        rcases List.mem_cons.mp hp with rfl | hp
        · exact hs
        · exact h p hp
    | _ => cases e
def lenKs : List S → Option S
  | [.d (.tuple ds)] => (tupsK ds).bind fun ks => if ks.length ≤ 4 then some (.d (.int (uniq ks).length)) else none
  | _ => none
theorem lenKs_ok {K : KF} {mg : MG} {o : Od} {s : L2.St} {H : Hp} {Q : VK} (h : tE K mg W (dApp [o] lenKs) s H Q) (hK : K = X.K) : tOds K mg W [o] s H fun vs H1 => rSetKs X vs H1 fun v H2 => rLenN [v] H2 Q := by
  subst hK
  refine app_gen h fun C I r vs ss x H' R a e q => ?_
  unfold lenKs at e
  split at e
  · rename_i ds
    obtain ⟨ks, hx, e⟩ := Option.bind_eq_some_iff.mp e
    split at e
    · rename_i few
      cases e
      cases a with
      | cons a1 a2 =>
        cases a2
        obtain ⟨l, ws, rfl, hq, da⟩ := tupS_ok R.sub a1 rfl
        obtain ⟨ps, rfl, rfl, each⟩ := tupsK_ok da hx
        rw [List.length_map] at few
        exact ⟨l, ps, rfl, hq, fun p hp => Evl.ex_t R.sub (each p hp), few, fun p free => ⟨p, _, rfl, upd_same, q _ I _ (grow_own R.sub free) (.int _)⟩⟩
    · cases e
  · cases e
theorem de_setLenK {a : Expr} {o : Od} {p1 p2 p3 : Pos} (hu : X.A.units + 64 < cLine) (hc : X.calm = true) (hl : Gl X "len") (hml : X.mg "len" = none) (hs : Gl X "set") (hms : X.mg "set" = none) (ha : DA X W [a] [o])
    (st : starEach [a] X.env = (false, eval a X.env) :: starEach [] X.env := by rfl) : DE X W (.Call (.Name "len" p1) [.Call (.Name "set" p2) [a] [] p3] [] pos) (dApp [o] lenKs) :=
  pe_of (pe_callB cr_lenN hl hml (by decide +kernel) (pa_cons (pe_callTy (cr_setKs hc hu) hs hms (by decide +kernel) ha (by decide) (by decide) st rfl) pa_nil (by rfl)) (by decide) (by decide) (by rfl) rfl) fun s H Q q => lenKs_ok q rfl
@[simp] theorem o_lenKs {ds : List D} {P : S → Prop} : Wo (lenKs [.d (.tuple ds)]) P ↔ Wo (tupsK ds) fun ks => ks.length ≤ 4 ∧ P (.d (.int (uniq ks).length)) := by
  show Wo ((tupsK ds).bind fun ks => if ks.length ≤ 4 then some (S.d (.int (uniq ks).length)) else none) P ↔ _
  cases tupsK ds with
  | none => exact Iff.rfl
  | some ks =>
    by_cases few : ks.length ≤ 4
    · show Wo (if ks.length ≤ 4 then _ else _) P ↔ (ks.length ≤ 4 ∧ P _)
      rw [if_pos few]
      exact (and_iff_right few).symm
    · show Wo (if ks.length ≤ 4 then _ else _) P ↔ (ks.length ≤ 4 ∧ P _)
      rw [if_neg few]
      exact ⟨False.elim, fun h => few h.1⟩
end DL
/-! DLh3: () * 0, beside t * k. -/
namespace L2
open PySem PySem.Spec PyProof.Rows
theorem void_mul0 (l : Addr) (n : Nat) (dd : Option Addr) (sl : Array (Option Value)) (u : Tok) :
    Meets (Builtin.«tuple.__mul__» ⟨[.ref l, .int 0 u], []⟩) (fun _ R s => s.heap.get? l = some { cls := .type "tuple", dict := dd, data := .seq #[] n, slots := sl } ∧ R (.ok (.ret (Value.ref l))) s) :=
  .of_wp fun prog w A R s h => by
    obtain ⟨hp, g, d, tk, os⟩ := s
    obtain ⟨hl, h⟩ := h
    have f1 := AutoSeq1.idx_int
    wp_walk using wpAny_loadPart' hl
    repeat (first
      | (refine wpAny_ite_false (decide_eq_false (by decide)) ?_; wp_walk using wpAny_loadPart' hl)
      | (refine wpAny_ite_true (decide_eq_true (by simp)) ?_; wp_walk using wpAny_loadPart' hl))
    exact ⟨_, rfl, h⟩
def rVoid (K : PySem.W.Frag) : R2 := fun x y H Q => ∃ l, x = .ref l ∧ y = .int 0 ∧ SqT K H l [] ∧ Q (.ref l) H
theorem op_void {X : Cx} : OpR X (binaryOp .Mult) (rVoid X.K) := by
  rintro pins s σ H _ _ v u Q I rv ru ⟨l, rfl, rfl, tup, q⟩
  obtain ⟨t, rfl⟩ := ru
  cases rv
  obtain ⟨us, vals, ⟨ob, at_, hc, n, hd⟩, _⟩ := I.tuple tup
  obtain ⟨_, dd, _, sl⟩ := ob
  dsimp only at hc hd
  cases hc
  cases hd
  cases vals
  exact mul_road at_ (call_meets F.slot_tuple_mul ⟨_, at_, rfl⟩ F.entry_tuple_mul (F.args_tuple_mul_2 _ _) (void_mul0 l n dd sl t) ⟨at_, .ref l, H, I, rfl, q⟩)
end L2
namespace DL
open PySem L2
def tMul0 : List S → Option S
  | [.d (.tuple []), .d (.int 0)] => some (.d (.tuple []))
  | _ => none
theorem ok_tMul0 {X : Cx} : OpD X (binaryOp .Mult) tMul0 := by
  intro pins s σ H x y v u Q I rx ry h1
  obtain ⟨I', ss, z, g, p, e, q⟩ := h1
  unfold tMul0 at e
  split at e
  · cases e
    obtain ⟨p1, p2, e2, a1, a2⟩ := aall2 p
    cases e2
    have a1 : Dp X.K I' x (.tuple []) := a1
    have a2 : Dp X.K I' y (.int 0) := a2
    cases a2
    cases a1 with
    | @tup l vs _ hs ha =>
      cases ha
      exact op_void pins s σ H _ _ v u Q I rx ry ⟨l, rfl, rfl, Evl.ex_t g hs, q _ I' H (Grow.refl g) (.tup hs .nil)⟩
  · cases e
def tMulE (ss : List S) : Option S := (tMul ss).or (tMul0 ss)
theorem ok_tMulE {X : Cx} : OpD X (binaryOp .Mult) tMulE := ok_tMul.or ok_tMul0
@[simp] theorem o_tMulE {xs : List D} {k : Int} {P : S → Prop} : Wo (tMulE [.d (.tuple xs), .d (.int k)]) P ↔ ((xs ≠ [] ∨ k = 0) ∧ 0 ≤ k ∧ k ≤ 1000 ∧ xs.length ≤ 1000) ∧ P (.d (.tuple (List.replicate k.toNat xs).flatten)) := by
  have e : tMul [.d (.tuple xs), .d (.int k)] = if xs ≠ [] ∧ 0 ≤ k ∧ k ≤ 1000 ∧ xs.length ≤ 1000 then some (.d (.tuple (List.replicate k.toNat xs).flatten)) else none := rfl
  unfold tMulE
  rw [e]
  by_cases h : xs = []
  · subst h
    rw [if_neg (by simp)]
    by_cases hk : k = 0
    · subst hk
      show P _ ↔ _
      simp
    · have e0 : tMul0 [.d (.tuple []), .d (.int k)] = none := by
        unfold tMul0
        split
        · rename_i z
          simp at z
          exact absurd z hk
        · rfl
      rw [e0]
      show False ↔ _
      simp [hk]
  · have e0 : tMul0 [.d (.tuple xs), .d (.int k)] = none := by
      unfold tMul0
      split
      · rename_i z
        simp at z
        exact absurd z.1 h
      · rfl
    rw [e0, Option.or_none]
    by_cases hk : 0 ≤ k ∧ k ≤ 1000 ∧ xs.length ≤ 1000
    · rw [if_pos ⟨h, hk⟩]
      show P _ ↔ _
      simp [h, hk]
    · rw [if_neg fun z => hk z.2]
      show False ↔ _
      exact ⟨False.elim, fun z => hk z.1.2⟩
end DL
/-! ### x.split(y) of two texts: a new list of texts -/
namespace DL
open PySem L2
variable {X : Cx} {W : WX} {pos : Pos}
def splitO (a : Str) : List S → Option S
  | [.d (.str b)] => if (b.length == 0) = false ∧ a.length + 2 ≤ 16777216 then some (.own false (.lst (strL (Txt.split a b)))) else none
  | _ => none
theorem mt_splitD : MtS X "str.split" splitO := by
  intro pins s σ H x xs v us Q I rx rs h
  obtain ⟨a, rfl, I', ss, z, g, p, e, q⟩ := h
  unfold splitO at e
  split at e
  · rename_i b
    split at e
    · rename_i hb
      cases e
      cases p with
      | cons a1 a2 =>
        cases a2
        have a1 : Dp X.K I' _ (.str b) := a1
        cases a1
        refine mt_split pins s σ H _ _ v us Q I rx rs ⟨a, b, rfl, rfl, hb.1, by rw [sizeLine_eq]; exact hb.2, fun l hl => ?_⟩
        exact q _ _ _ (grow_own (o := .lst ((Txt.split a b).map V.str)) g hl) ⟨l, rfl, hl, g.free hl, _, upd_same, dpa_strs _⟩
    · cases e
  · cases e
theorem de_split {o e : Expr} {oo oe : Od} {apos : Pos} (ho : DO X W o oo) (he : DO X W e oe) (hs : starEach [e] X.env = [(false, eval e X.env)] := by rfl) (hbase : attributeBase o "split" X.env (eval o X.env) = eval o X.env := by rfl) (hline : (apos.endLine == pos.line) = true := by rfl) :
    DE X W (.Call (.Attribute o "split" apos) [e] [] pos) (dStr oo [oe] splitO) := de_str1 F.slot_str_split F.type_str_split mt_splitD ho he hs hbase hline
@[simp] theorem o_split {a b : Str} {P : S → Prop} : Wo (splitO a [.d (.str b)]) P ↔ ((b.length == 0) = false ∧ a.length + 2 ≤ 16777216) ∧ P (.own false (.lst (strL (Txt.split a b)))) := by
  show Wo (if (b.length == 0) = false ∧ a.length + 2 ≤ 16777216 then some (S.own false (.lst (strL (Txt.split a b)))) else none) P ↔ _
  by_cases h : (b.length == 0) = false ∧ a.length + 2 ≤ 16777216
  · rw [if_pos h]
    exact ⟨fun q => ⟨h, q⟩, fun q => q.2⟩
  · rw [if_neg h]
    exact ⟨fun q => q.elim, fun q => absurd q.1 h⟩
end DL
namespace G
open PySem L2 DL
def top (i : Nat) : Stmt := PySem.Challenge.pw_thinnet_k01_names_and_times.main.body.getD i (.Pass ⟨0, 0, 0, 0⟩)
/-! ### is_whole -/
abbrev st_is_whole : Stmt := top 4
abbrev N_is_whole : List Str := ["thing", "least", "most"]
abbrev ps_is_whole : List Str := ["thing", "least", "most"]
theorem sc_is_whole : FnScope N_is_whole ps_is_whole (defScope st_is_whole) := ⟨rfl, rfl, rfl, by decide +kernel, rfl, by decide +kernel, by decide +kernel⟩
noncomputable def g_is_whole : SM := (sRet (ds (vAnd (dd (dApp [(.sl 0)] (isiD .int))) (vAnd (vB (cNot (cTru (dd (dApp [(.sl 0)] (isiD .bool)))))) (dd (dChain opLe opLe (.sl 1) (.sl 0) (.sl 2)))))))
noncomputable def d_is_whole : FD := runB 3 3 g_is_whole
theorem ok_is_whole {P : Program} {w : World} {K : KF} {mg : MG} {base : Heap} {fa : Addr} {fd : FuncData} (B : Blt mg) (F : Fun K "is_whole" "is_whole" st_is_whole fa fd) : FnG P w K mg base 1 fa fd ps_is_whole d_is_whole :=
  fun_ok F sc_is_whole fun cdv A outer s H E hr hgd =>
    (dss_one (ds_ret (de_d (dd_and (dd_e (de_isi (t := .int) rfl B.isinstance rfl B.int (by decide +kernel) (do_var (pv 0)))) (dd_and (dd_not (dd_e (de_isi (t := .bool) rfl B.isinstance rfl B.bool (by decide +kernel) (do_var (pv 0))))) (dd_one (dd_e (de_chain ok_le ok_le (do_var (pv 1)) (do_var (pv 0)) (do_var (pv 2))))))))))
/-! ### is_name -/
abbrev st_is_name : Stmt := top 5
abbrev N_is_name : List Str := ["thing", "sign"]
abbrev ps_is_name : List Str := ["thing"]
theorem sc_is_name : FnScope N_is_name ps_is_name (defScope st_is_name) := ⟨rfl, rfl, rfl, by decide +kernel, rfl, by decide +kernel, by decide +kernel⟩
noncomputable def g_is_name : SM := (sb (sIf (cOr (cNot (cTru (dd (dApp [(.sl 0)] (isiD .str))))) (cNot (cTst (dChain opLe opLe (.ex (dC (.int 1))) (.ex (dd (dApp [(.sl 0)] lenD))) (.ex (dC (.int (8)))))))) (sRet (ds (dC (.bool false)))) sPass)
    (sRet (dApp [(.ex (dd (dComp (iVar 0) (.nm 1) (er true) (dd (dApp [(.sl 1), (.ex (dC (.str "abcdefghijklmnopqrstuvwxyz")))] opInX)) [1])))] allD)))
noncomputable def d_is_name : FD := runB 1 2 g_is_name
theorem ok_is_name {P : Program} {w : World} {K : KF} {mg : MG} {base : Heap} {fa : Addr} {fd : FuncData} (B : Blt mg) (F : Fun K "is_name" "is_name" st_is_name fa fd) (c_LETTERS : ∃ t, mg "LETTERS" = some (.str "abcdefghijklmnopqrstuvwxyz" t)) (c_LONGEST_NAME : ∃ t, mg "LONGEST_NAME" = some (.int (8) t)) : FnG P w K mg base 1 fa fd ps_is_name d_is_name :=
  fun_ok F sc_is_name fun cdv A outer s H E hr hgd =>
    (dss_cons (ds_if (dt_bool (dw_or (dt_not (dt_tru (dd_e (de_isi (t := .str) rfl B.isinstance rfl B.str (by decide +kernel) (do_var (pv 0)))))) (dw_or1 (dt_not (dt_chain ok_le ok_le (do_d dd_int) (do_d (dd_e (de_callB ok_len (by rfl) B.len (by decide +kernel) (da_cons (do_var (pv 0)) da_nil)))) (do_d (dd_gint' rfl c_LONGEST_NAME))))))) (dss_one (ds_ret (de_d dd_bl))) dss_nil)
    (dss_one (ds_ret (de_callB (ok_all rfl) (by rfl) B.all (by decide +kernel) (da_cons (do_d (dd_e (de_comp (own := [("sign", 1)]) rfl sc_is_name.nd (di_var (pv 0)) (blkOk_by (own := [("sign", 1)]) (N := N_is_name) (sc := defScope st_is_name) (by decide +kernel)) (fun _ _ _ _ _ => (dg_name (i := 1) sc_is_name.nd rfl (by first | exact Or.inl rfl | exact Or.inr rfl))) (fun _ _ _ _ _ => dts_nil) (fun _ _ _ _ _ => (dd_e (de_inX hr.units (do_var (pv 1)) (do_d (dd_gstr' rfl c_LETTERS)) rfl))) (by simp [Tg.sub, Tg.subs])))) da_nil)))))
/-! ### is_times -/
abbrev st_is_times : Stmt := top 6
abbrev N_is_times : List Str := ["thing", "part"]
abbrev ps_is_times : List Str := ["thing"]
theorem sc_is_times : FnScope N_is_times ps_is_times (defScope st_is_times) := ⟨rfl, rfl, rfl, by decide +kernel, rfl, by decide +kernel, by decide +kernel⟩
noncomputable def g_is_times : SM := (sb (sIf (cOr (cNot (cTru (dd (dApp [(.sl 0)] (isiD .tuple))))) (cTst (dApp [(.ex (dd (dApp [(.sl 0)] lenD))), (.ex (dC (.int 2)))] (eqD true)))) (sRet (ds (dC (.bool false)))) sPass)
    (sRet (ds (vAnd (dd (dApp [(.ex (dd (dComp (iVar 0) (.nm 1) (er true) (dd (dCall d_is_whole [false, false, false] [(.sl 1), (.ex (dC (.int 1))), (.ex (dC (.int (1000000))))])) [1])))] allD)) (dd (dApp [(.ex (dd (dApp [(.sl 0), (.ex (dC (.int 0)))] opIxX))), (.ex (dd (dApp [(.sl 0), (.ex (dC (.int 1)))] opIxX)))] opGe))))))
noncomputable def d_is_times : FD := runB 1 2 g_is_times
theorem ok_is_times {P : Program} {w : World} {K : KF} {mg : MG} {base : Heap} {fa : Addr} {fd : FuncData} (B : Blt mg) (F : Fun K "is_times" "is_times" st_is_times fa fd) (C_is_whole : Cl P w K mg base 1 "is_whole" ps_is_whole d_is_whole) (c_GREATEST : ∃ t, mg "GREATEST" = some (.int (1000000) t)) : FnG P w K mg base 2 fa fd ps_is_times d_is_times :=
  fun_ok F sc_is_times fun cdv A outer s H E hr hgd =>
    (dss_cons (ds_if (dt_bool (dw_or (dt_not (dt_tru (dd_e (de_isi (t := .tuple) rfl B.isinstance rfl B.tuple (by decide +kernel) (do_var (pv 0)))))) (dw_or1 (dt_cmp (ok_ne hr.units) (do_d (dd_e (de_callB ok_len (by rfl) B.len (by decide +kernel) (da_cons (do_var (pv 0)) da_nil)))) (do_d dd_int) (nomark _))))) (dss_one (ds_ret (de_d dd_bl))) dss_nil)
    (dss_one (ds_ret (de_d (dd_and (dd_e (de_callB (ok_all rfl) (by rfl) B.all (by decide +kernel) (da_cons (do_d (dd_e (de_comp (own := [("part", 1)]) rfl sc_is_times.nd (di_var (pv 0)) (blkOk_by (own := [("part", 1)]) (N := N_is_times) (sc := defScope st_is_times) (by decide +kernel)) (fun _ _ _ _ _ => (dg_name (i := 1) sc_is_times.nd rfl (by first | exact Or.inl rfl | exact Or.inr rfl))) (fun _ _ _ _ _ => dts_nil) (fun _ _ _ _ _ => (dd_e (de_callC (F := d_is_whole) (ms := [false, false, false]) (C_is_whole.mono (by decide)) hr hgd rfl takesW0 (da_cons (do_var (pv 1)) (da_cons (do_d dd_int) (da_cons (do_d (dd_gint' rfl c_GREATEST)) da_nil)))))) (by simp [Tg.sub, Tg.subs])))) da_nil))) (dd_one (dd_e (de_cmp ok_ge (do_d (dd_e (de_itemX hr.units (do_var (pv 0)) (do_d dd_int) (fun _ _ => rfl) (fun _ _ => rfl)))) (do_d (dd_e (de_itemX hr.units (do_var (pv 0)) (do_d dd_int) (fun _ _ => rfl) (fun _ _ => rfl)))) (nomark _)))))))))
/-! ### law feed -/
abbrev st_l_feed : Stmt := top 8
abbrev N_l_feed : List Str := ["_law_script"]
abbrev ps_l_feed : List Str := ["_law_script"]
theorem sc_l_feed : FnScope N_l_feed ps_l_feed (defScope st_l_feed) := ⟨rfl, rfl, rfl, by decide +kernel, rfl, by decide +kernel, by decide +kernel⟩
noncomputable def g_l_feed : SM := (sRet (dApp [(.ex (dd (dApp [(.ex (dd (dSl (.sl 0) none (some (dC (.int 63))))))] lstD))), (.ex (dC (.int 0))), (.ex (dC (.int 0)))] opLst))
noncomputable def d_l_feed : FD := runB 1 1 g_l_feed
theorem ok_l_feed {P : Program} {w : World} {K : KF} {mg : MG} {base : Heap} {fa : Addr} {fd : FuncData} (B : Blt mg) (F : Fun K "_law_feed" "_law_feed" st_l_feed fa fd) : FnG P w K mg base 1 fa fd ps_l_feed d_l_feed :=
  fun_ok F sc_l_feed fun cdv A outer s H E hr hgd =>
    (dss_one (ds_ret (de_lst (da_cons (do_d (dd_e (de_callT ok_list (by rfl) B.list (by decide +kernel) (da_cons (do_d (dd_e (de_sl_b (do_var (pv 0)) dd_int))) da_nil)))) (da_cons (do_d dd_int) (da_cons (do_d dd_int) da_nil))))))
/-! ### law next -/
abbrev st_l_next : Stmt := top 9
abbrev N_l_next : List Str := ["_law_feed_here", "_law_many", "_law_at", "_law_cell", "_law_first", "_law_digit"]
abbrev ps_l_next : List Str := ["_law_feed_here", "_law_many"]
theorem sc_l_next : FnScope N_l_next ps_l_next (defScope st_l_next) := ⟨rfl, rfl, rfl, by decide +kernel, rfl, by decide +kernel, by decide +kernel⟩
noncomputable def g_l_next : SM := (sb (sIf (cTst (dApp [(.ex (dd (dApp [(.sl 0), (.ex (dC (.int 2)))] opIxX))), (.ex (dC (.int 0)))] opGt)) (sb (sAsg 5 (dApp [(.ex (dd (dApp [(.sl 0), (.ex (dC (.int 2)))] opIxX))), (.sl 1)] iMod))
    (sb (sSetX 0 (dC (.int 2)) (dd (dApp [(.ex (dd (dApp [(.sl 0), (.ex (dC (.int 2)))] opIxX))), (.sl 1)] iDiv)))
    (sRet (dMove 5)))) sPass)
    (sb (sAsg 2 (dApp [(.sl 0), (.ex (dC (.int 1)))] opIxX))
    (sb (sSetX 0 (dC (.int 1)) (dd (dApp [(.sl 2), (.ex (dC (.int 1)))] opAdd)))
    (sb (sAsg 3 (vIf (cTst (dApp [(.ex (dd (dApp [(.sl 0), (.ex (dC (.int 0)))] opIxX))), (.ex (dd (dApp [] opLst)))] (eqD true))) (dApp [(.ex (dd (dApp [(.sl 0), (.ex (dC (.int 0)))] opIxX))), (.ex (dd (dApp [(.sl 2), (.ex (dd (dApp [(.ex (dd (dApp [(.sl 0), (.ex (dC (.int 0)))] opIxX)))] lenD)))] iMod)))] opIxX) (ds (dC (.int 0)))))
    (sb (sIf (cAnd (cTst (dApp [(.sl 3), (.ex (dd (dApp [(.ex (dC (.int 10))), (.ex (dC (.int 18)))] iPow)))] opGe)) (cTst (dApp [(.sl 2), (.ex (dd (dApp [(.ex (dd (dApp [(.sl 0), (.ex (dC (.int 0)))] opIxX)))] lenD)))] opLt))) (sb (sSetX 0 (dC (.int 2)) (dd (dApp [(.sl 3), (.sl 1)] iDiv)))
    (sRet (dApp [(.sl 3), (.sl 1)] iMod))) sPass)
    (sb (sAsg 4 (dApp [(.ex (dd (dApp [(.ex (dd (dApp [(.ex (dd (dApp [(.ex (dd (dApp [(.ex (dd (dApp [(.sl 3), (.ex (dC (.int 1000003)))] iMod))), (.ex (dd (dApp [(.ex (dd (dApp [(.ex (dC (.int 41))), (.sl 2)] opMul))), (.sl 2)] opMul)))] opAdd))), (.ex (dd (dApp [(.ex (dC (.int 17))), (.sl 2)] opMul)))] opAdd))), (.ex (dC (.int 3)))] opAdd))), (.ex (dC (.int 51749)))] opMul))), (.ex (dC (.int 999917)))] iMod))
    (sRet (dApp [(.ex (dd (dApp [(.ex (dd (dApp [(.ex (dd (dApp [(.ex (dd (dApp [(.sl 4), (.ex (dd (dApp [(.ex (dC (.int 8111))), (.sl 2)] opMul)))] opAdd))), (.ex (dC (.int 39373)))] opMul))), (.ex (dC (.int 2097143)))] iMod))), (.ex (dC (.int 3)))] iDiv))), (.sl 1)] iMod))))))))
noncomputable def d_l_next : FD := runB 2 6 g_l_next
theorem ok_l_next {P : Program} {w : World} {K : KF} {mg : MG} {base : Heap} {fa : Addr} {fd : FuncData} (B : Blt mg) (F : Fun K "_law_next" "_law_next" st_l_next fa fd) : FnG P w K mg base 1 fa fd ps_l_next d_l_next :=
  fun_ok F sc_l_next fun cdv A outer s H E hr hgd =>
    (dss_cons (ds_if (dt_cmp ok_gt (do_d (dd_e (de_itemX hr.units (do_var (pv 0)) (do_d dd_int) (fun _ _ => rfl) (fun _ _ => rfl)))) (do_d dd_int) (nomark _)) (dss_cons (ds_asg (i := 5) (de_op ok_iMod (do_d (dd_e (de_itemX hr.units (do_var (pv 0)) (do_d dd_int) (fun _ _ => rfl) (fun _ _ => rfl)))) (do_var (pv 1))) sc_l_next.nd rfl (by first | exact Or.inl rfl | exact Or.inr rfl))
    (dss_cons (ds_setX hr.units (pv 0) dd_int (dd_e (de_op ok_iDiv (do_d (dd_e (de_itemX hr.units (do_var (pv 0)) (do_d dd_int) (fun _ _ => rfl) (fun _ _ => rfl)))) (do_var (pv 1)))))
    (dss_one (ds_ret (de_move (pv 5)))))) dss_nil)
    (dss_cons (ds_asg (i := 2) (de_itemX hr.units (do_var (pv 0)) (do_d dd_int) (fun _ _ => rfl) (fun _ _ => rfl)) sc_l_next.nd rfl (by first | exact Or.inl rfl | exact Or.inr rfl))
    (dss_cons (ds_setX hr.units (pv 0) dd_int (dd_e (de_op ok_add (do_var (pv 2)) (do_d dd_int))))
    (dss_cons (ds_asg (i := 3) (de_if (dt_cmp (ok_ne hr.units) (do_d (dd_e (de_itemX hr.units (do_var (pv 0)) (do_d dd_int) (fun _ _ => rfl) (fun _ _ => rfl)))) (do_d (dd_e (de_lst da_nil))) (nomark _)) (de_itemX hr.units (do_d (dd_e (de_itemX hr.units (do_var (pv 0)) (do_d dd_int) (fun _ _ => rfl) (fun _ _ => rfl)))) (do_d (dd_e (de_op ok_iMod (do_var (pv 2)) (do_d (dd_e (de_callB ok_len (by rfl) B.len (by decide +kernel) (da_cons (do_d (dd_e (de_itemX hr.units (do_var (pv 0)) (do_d dd_int) (fun _ _ => rfl) (fun _ _ => rfl)))) da_nil))))))) (fun _ _ => rfl) (fun _ _ => rfl)) (de_d dd_int)) sc_l_next.nd rfl (by first | exact Or.inl rfl | exact Or.inr rfl))
    (dss_cons (ds_if (dt_bool (dw_and (dt_cmp ok_ge (do_var (pv 3)) (do_d (dd_e (de_op ok_iPow (do_d dd_int) (do_d dd_int)))) (nomark _)) (dw_and1 (dt_cmp (ok_lt hr.units) (do_var (pv 2)) (do_d (dd_e (de_callB ok_len (by rfl) B.len (by decide +kernel) (da_cons (do_d (dd_e (de_itemX hr.units (do_var (pv 0)) (do_d dd_int) (fun _ _ => rfl) (fun _ _ => rfl)))) da_nil)))) (nomark _))))) (dss_cons (ds_setX hr.units (pv 0) dd_int (dd_e (de_op ok_iDiv (do_var (pv 3)) (do_var (pv 1)))))
    (dss_one (ds_ret (de_op ok_iMod (do_var (pv 3)) (do_var (pv 1)))))) dss_nil)
    (dss_cons (ds_asg (i := 4) (de_op ok_iMod (do_d (dd_e (de_op ok_mul (do_d (dd_e (de_op ok_add (do_d (dd_e (de_op ok_add (do_d (dd_e (de_op ok_add (do_d (dd_e (de_op ok_iMod (do_var (pv 3)) (do_d dd_int)))) (do_d (dd_e (de_op ok_mul (do_d (dd_e (de_op ok_mul (do_d dd_int) (do_var (pv 2))))) (do_var (pv 2)))))))) (do_d (dd_e (de_op ok_mul (do_d dd_int) (do_var (pv 2)))))))) (do_d dd_int)))) (do_d dd_int)))) (do_d dd_int)) sc_l_next.nd rfl (by first | exact Or.inl rfl | exact Or.inr rfl))
    (dss_one (ds_ret (de_op ok_iMod (do_d (dd_e (de_op ok_iDiv (do_d (dd_e (de_op ok_iMod (do_d (dd_e (de_op ok_mul (do_d (dd_e (de_op ok_add (do_var (pv 4)) (do_d (dd_e (de_op ok_mul (do_d dd_int) (do_var (pv 2)))))))) (do_d dd_int)))) (do_d dd_int)))) (do_d dd_int)))) (do_var (pv 1)))))))))))
/-! ### law whole -/
abbrev st_l_whole : Stmt := top 10
abbrev N_l_whole : List Str := ["_law_thing", "_law_least", "_law_most"]
abbrev ps_l_whole : List Str := ["_law_thing", "_law_least", "_law_most"]
theorem sc_l_whole : FnScope N_l_whole ps_l_whole (defScope st_l_whole) := ⟨rfl, rfl, rfl, by decide +kernel, rfl, by decide +kernel, by decide +kernel⟩
noncomputable def g_l_whole : SM := (sRet (ds (vAnd (dd (dApp [(.sl 0)] (isiD .int))) (vAnd (vB (cNot (cTru (dd (dApp [(.sl 0)] (isiD .bool)))))) (dd (dChain opLe opLe (.sl 1) (.sl 0) (.sl 2)))))))
noncomputable def d_l_whole : FD := runB 3 3 g_l_whole
theorem ok_l_whole {P : Program} {w : World} {K : KF} {mg : MG} {base : Heap} {fa : Addr} {fd : FuncData} (B : Blt mg) (F : Fun K "_law_whole" "_law_whole" st_l_whole fa fd) : FnG P w K mg base 1 fa fd ps_l_whole d_l_whole :=
  fun_ok F sc_l_whole fun cdv A outer s H E hr hgd =>
    (dss_one (ds_ret (de_d (dd_and (dd_e (de_isi (t := .int) rfl B.isinstance rfl B.int (by decide +kernel) (do_var (pv 0)))) (dd_and (dd_not (dd_e (de_isi (t := .bool) rfl B.isinstance rfl B.bool (by decide +kernel) (do_var (pv 0))))) (dd_one (dd_e (de_chain ok_le ok_le (do_var (pv 1)) (do_var (pv 0)) (do_var (pv 2))))))))))
/-! ### law text -/
abbrev st_l_text : Stmt := top 11
abbrev N_l_text : List Str := ["_law_feed_here", "_law_letters", "_law_size", "_law_word", "_law_at", "_law_k"]
abbrev ps_l_text : List Str := ["_law_feed_here"]
theorem sc_l_text : FnScope N_l_text ps_l_text (defScope st_l_text) := ⟨rfl, rfl, rfl, by decide +kernel, rfl, by decide +kernel, by decide +kernel⟩
noncomputable def g_l_text : SM := (sb (sAsg 1 (ds (dC (.str "abcdefghijklmnopqrstuvwxyz"))))
    (sb (sAsg 2 (dApp [(.ex (dd (dApp [(.ex (dd (dCall d_l_next [true, false] [(.sl 0), (.ex (dC (.int 11)))]))), (.ex (dd (dApp [(.ex (dC (.int 7))), (.ex (dd (dCall d_l_next [true, false] [(.sl 0), (.ex (dC (.int 3)))])))] opAdd))), (.ex (dC (.int 1)))] opLst))), (.ex (dd (dCall d_l_next [true, false] [(.sl 0), (.ex (dC (.int 3)))])))] opIxX))
    (sb (sAsg 3 (dStr (.ex (dC (.str ""))) [(.ex (dd (dComp (iApp [(.sl 2)] rng1) (.nm 5) (er true) (dd (dApp [(.sl 1), (.ex (dd (dCall d_l_next [true, false] [(.sl 0), (.ex (dC (.int 26)))])))] opIxX)) [5])))] joinO))
    (sb (sIf (cTst (dApp [(.ex (dd (dCall d_l_next [true, false] [(.sl 0), (.ex (dC (.int 3)))]))), (.ex (dC (.int 0)))] (eqD false))) (sb (sAsg 4 (dCall d_l_next [true, false] [(.sl 0), (.ex (dd (dApp [(.sl 2), (.ex (dC (.int 1)))] opAdd)))]))
    (sAsg 3 (dApp [(.ex (dd (dApp [(.ex (dd (dSl (.sl 3) none (some (dVar 4))))), (.ex (dd (dApp [(.ex (dd (dApp [(.ex (dC (.str "A"))), (.ex (dC (.str "0"))), (.ex (dC (.str " "))), (.ex (dC (.str "~"))), (.ex (dC (.str "Z"))), (.ex (dC (.str "-"))), (.ex (dC (.str "9")))] opLst))), (.ex (dd (dCall d_l_next [true, false] [(.sl 0), (.ex (dC (.int 7)))])))] opIxX)))] opAdd))), (.ex (dd (dSl (.sl 3) (some (dVar 4)) none)))] opAdd))) sPass)
    (sRet (dMove 3))))))
noncomputable def d_l_text : FD := runB 1 6 g_l_text
theorem ok_l_text {P : Program} {w : World} {K : KF} {mg : MG} {base : Heap} {fa : Addr} {fd : FuncData} (B : Blt mg) (F : Fun K "_law_text" "_law_text" st_l_text fa fd) (C_l_next : Cl P w K mg base 1 "_law_next" ps_l_next d_l_next) : FnG P w K mg base 2 fa fd ps_l_text d_l_text :=
  fun_ok F sc_l_text fun cdv A outer s H E hr hgd =>
    (dss_cons (ds_asg (i := 1) (de_d dd_str) sc_l_text.nd rfl (by first | exact Or.inl rfl | exact Or.inr rfl))
    (dss_cons (ds_asg (i := 2) (de_itemX hr.units (do_d (dd_e (de_lst (da_cons (do_d (dd_e (de_callC (F := d_l_next) (ms := [true, false]) (C_l_next.mono (by decide)) hr hgd rfl (takes_of rfl rfl rfl rfl) (da_cons (do_var (pv 0)) (da_cons (do_d dd_int) da_nil))))) (da_cons (do_d (dd_e (de_op ok_add (do_d dd_int) (do_d (dd_e (de_callC (F := d_l_next) (ms := [true, false]) (C_l_next.mono (by decide)) hr hgd rfl (takes_of rfl rfl rfl rfl) (da_cons (do_var (pv 0)) (da_cons (do_d dd_int) da_nil)))))))) (da_cons (do_d dd_int) da_nil)))))) (do_d (dd_e (de_callC (F := d_l_next) (ms := [true, false]) (C_l_next.mono (by decide)) hr hgd rfl (takes_of rfl rfl rfl rfl) (da_cons (do_var (pv 0)) (da_cons (do_d dd_int) da_nil))))) (fun _ _ => rfl) (fun _ _ => rfl)) sc_l_text.nd rfl (by first | exact Or.inl rfl | exact Or.inr rfl))
    (dss_cons (ds_asg (i := 3) (de_join (do_d dd_str) (do_d (dd_e (de_comp (own := [("_law_k", 5)]) rfl sc_l_text.nd (di_rng1 rfl B.range (da_cons (do_var (pv 2)) da_nil)) (blkOk_by (own := [("_law_k", 5)]) (N := N_l_text) (sc := defScope st_l_text) (by decide +kernel)) (fun _ _ _ _ _ => (dg_name (i := 5) sc_l_text.nd rfl (by first | exact Or.inl rfl | exact Or.inr rfl))) (fun _ _ _ _ _ => dts_nil) (fun _ _ _ _ _ => (dd_e (de_itemX hr.units (do_var (pv 1)) (do_d (dd_e (de_callC (F := d_l_next) (ms := [true, false]) (C_l_next.mono (by decide)) hr hgd rfl takesW0 (da_cons (do_var (pv 0)) (da_cons (do_d dd_int) da_nil))))) (fun _ _ => rfl) (fun _ _ => rfl)))) (by simp [Tg.sub, Tg.subs]))))) sc_l_text.nd rfl (by first | exact Or.inl rfl | exact Or.inr rfl))
    (dss_cons (ds_if (dt_cmp (ok_eq hr.units) (do_d (dd_e (de_callC (F := d_l_next) (ms := [true, false]) (C_l_next.mono (by decide)) hr hgd rfl (takes_of rfl rfl rfl rfl) (da_cons (do_var (pv 0)) (da_cons (do_d dd_int) da_nil))))) (do_d dd_int) (nomark _)) (dss_cons (ds_asg (i := 4) (de_callC (F := d_l_next) (ms := [true, false]) (C_l_next.mono (by decide)) hr hgd rfl (takes_of rfl rfl rfl rfl) (da_cons (do_var (pv 0)) (da_cons (do_d (dd_e (de_op ok_add (do_var (pv 2)) (do_d dd_int)))) da_nil))) sc_l_text.nd rfl (by first | exact Or.inl rfl | exact Or.inr rfl))
    (dss_one (ds_asg (i := 3) (de_op ok_add (do_d (dd_e (de_op ok_add (do_d (dd_e (de_sl_b (do_var (pv 3)) (dd_var (pv 4))))) (do_d (dd_e (de_itemX hr.units (do_d (dd_e (de_lst (da_cons (do_d dd_str) (da_cons (do_d dd_str) (da_cons (do_d dd_str) (da_cons (do_d dd_str) (da_cons (do_d dd_str) (da_cons (do_d dd_str) (da_cons (do_d dd_str) da_nil)))))))))) (do_d (dd_e (de_callC (F := d_l_next) (ms := [true, false]) (C_l_next.mono (by decide)) hr hgd rfl (takes_of rfl rfl rfl rfl) (da_cons (do_var (pv 0)) (da_cons (do_d dd_int) da_nil))))) (fun _ _ => rfl) (fun _ _ => rfl))))))) (do_d (dd_e (de_sl_a (do_var (pv 3)) (dd_var (pv 4)))))) sc_l_text.nd rfl (by first | exact Or.inl rfl | exact Or.inr rfl)))) dss_nil)
    (dss_one (ds_ret (de_move (pv 3))))))))
/-! ### law number -/
abbrev st_l_number : Stmt := top 12
abbrev N_l_number : List Str := ["_law_feed_here", "_law_most", "_law_near"]
abbrev ps_l_number : List Str := ["_law_feed_here"]
theorem sc_l_number : FnScope N_l_number ps_l_number (defScope st_l_number) := ⟨rfl, rfl, rfl, by decide +kernel, rfl, by decide +kernel, by decide +kernel⟩
noncomputable def g_l_number : SM := (sb (sAsg 1 (dApp [(.ex (dC (.int 10))), (.ex (dC (.int 6)))] iPow))
    (sb (sAsg 2 (dApp [(.ex (dd (dApp [(.ex (dC (.int 0))), (.ex (dC (.int 1))), (.ex (dC (.int 2))), (.ex (dd (dApp [(.sl 1), (.ex (dC (.int 1)))] iSub))), (.sl 1), (.ex (dd (dApp [(.sl 1), (.ex (dC (.int 1)))] opAdd))), (.ex (dd (dApp [(.ex (dC (.int 1)))] iNeg))), (.ex (dd (dApp [(.sl 1)] iNeg)))] opLst))), (.ex (dd (dCall d_l_next [true, false] [(.sl 0), (.ex (dC (.int 8)))])))] opIxX))
    (sRet (dApp [(.ex (dd (dApp [(.sl 2), (.sl 2), (.ex (dd (dCall d_l_next [true, false] [(.sl 0), (.ex (dd (dApp [(.sl 1), (.ex (dC (.int 2)))] opAdd)))])))] opLst))), (.ex (dd (dCall d_l_next [true, false] [(.sl 0), (.ex (dC (.int 3)))])))] opIxX))))
noncomputable def d_l_number : FD := runB 1 3 g_l_number
theorem ok_l_number {P : Program} {w : World} {K : KF} {mg : MG} {base : Heap} {fa : Addr} {fd : FuncData} (B : Blt mg) (F : Fun K "_law_number" "_law_number" st_l_number fa fd) (C_l_next : Cl P w K mg base 1 "_law_next" ps_l_next d_l_next) : FnG P w K mg base 2 fa fd ps_l_number d_l_number :=
  fun_ok F sc_l_number fun cdv A outer s H E hr hgd =>
    (dss_cons (ds_asg (i := 1) (de_op ok_iPow (do_d dd_int) (do_d dd_int)) sc_l_number.nd rfl (by first | exact Or.inl rfl | exact Or.inr rfl))
    (dss_cons (ds_asg (i := 2) (de_itemX hr.units (do_d (dd_e (de_lst (da_cons (do_d dd_int) (da_cons (do_d dd_int) (da_cons (do_d dd_int) (da_cons (do_d (dd_e (de_op ok_iSub (do_var (pv 1)) (do_d dd_int)))) (da_cons (do_var (pv 1)) (da_cons (do_d (dd_e (de_op ok_add (do_var (pv 1)) (do_d dd_int)))) (da_cons (do_d (dd_e (de_un ok_iNeg (do_d dd_int)))) (da_cons (do_d (dd_e (de_un ok_iNeg (do_var (pv 1))))) da_nil))))))))))) (do_d (dd_e (de_callC (F := d_l_next) (ms := [true, false]) (C_l_next.mono (by decide)) hr hgd rfl (takes_of rfl rfl rfl rfl) (da_cons (do_var (pv 0)) (da_cons (do_d dd_int) da_nil))))) (fun _ _ => rfl) (fun _ _ => rfl)) sc_l_number.nd rfl (by first | exact Or.inl rfl | exact Or.inr rfl))
    (dss_one (ds_ret (de_itemX hr.units (do_d (dd_e (de_lst (da_cons (do_var (pv 2)) (da_cons (do_var (pv 2)) (da_cons (do_d (dd_e (de_callC (F := d_l_next) (ms := [true, false]) (C_l_next.mono (by decide)) hr hgd rfl (takes_of rfl rfl rfl rfl) (da_cons (do_var (pv 0)) (da_cons (do_d (dd_e (de_op ok_add (do_var (pv 1)) (do_d dd_int)))) da_nil))))) da_nil)))))) (do_d (dd_e (de_callC (F := d_l_next) (ms := [true, false]) (C_l_next.mono (by decide)) hr hgd rfl (takes_of rfl rfl rfl rfl) (da_cons (do_var (pv 0)) (da_cons (do_d dd_int) da_nil))))) (fun _ _ => rfl) (fun _ _ => rfl))))))
/-! ### law told -/
abbrev st_l_told : Stmt := top 13
abbrev N_l_told : List Str := ["_law_found", "_law_due"]
abbrev ps_l_told : List Str := ["_law_found", "_law_due"]
theorem sc_l_told : FnScope N_l_told ps_l_told (defScope st_l_told) := ⟨rfl, rfl, rfl, by decide +kernel, rfl, by decide +kernel, by decide +kernel⟩
noncomputable def g_l_told : SM := (sRet (ds (vAnd (dd (dApp [(.sl 0)] (isiD .bool))) (dd (dApp [(.sl 0), (.sl 1)] (eqD false))))))
noncomputable def d_l_told : FD := runB 2 2 g_l_told
theorem ok_l_told {P : Program} {w : World} {K : KF} {mg : MG} {base : Heap} {fa : Addr} {fd : FuncData} (B : Blt mg) (F : Fun K "_law_told" "_law_told" st_l_told fa fd) : FnG P w K mg base 1 fa fd ps_l_told d_l_told :=
  fun_ok F sc_l_told fun cdv A outer s H E hr hgd =>
    (dss_one (ds_ret (de_d (dd_and (dd_e (de_isi (t := .bool) rfl B.isinstance rfl B.bool (by decide +kernel) (do_var (pv 0)))) (dd_one (dd_e (de_cmp (ok_eq hr.units) (do_var (pv 0)) (do_var (pv 1)) (nomark _))))))))
/-! ### law name_due -/
abbrev st_l_name_due : Stmt := top 14
abbrev N_l_name_due : List Str := ["_law_thing", "_law_sign"]
abbrev ps_l_name_due : List Str := ["_law_thing"]
theorem sc_l_name_due : FnScope N_l_name_due ps_l_name_due (defScope st_l_name_due) := ⟨rfl, rfl, rfl, by decide +kernel, rfl, by decide +kernel, by decide +kernel⟩
noncomputable def g_l_name_due : SM := (sb (sIf (cOr (cNot (cTru (dd (dApp [(.sl 0)] (isiD .str))))) (cNot (cTst (dChain opLt opLt (.ex (dC (.int 0))) (.ex (dd (dApp [(.sl 0)] lenD))) (.ex (dC (.int 9))))))) (sRet (ds (dC (.bool false)))) sPass)
    (sRet (dApp [(.ex (dd (dComp (iVar 0) (.nm 1) (er true) (dd (dApp [(.sl 1), (.ex (dC (.str "abcdefghijklmnopqrstuvwxyz")))] opInX)) [1])))] allD)))
noncomputable def d_l_name_due : FD := runB 1 2 g_l_name_due
theorem ok_l_name_due {P : Program} {w : World} {K : KF} {mg : MG} {base : Heap} {fa : Addr} {fd : FuncData} (B : Blt mg) (F : Fun K "_law_name_due" "_law_name_due" st_l_name_due fa fd) : FnG P w K mg base 1 fa fd ps_l_name_due d_l_name_due :=
  fun_ok F sc_l_name_due fun cdv A outer s H E hr hgd =>
    (dss_cons (ds_if (dt_bool (dw_or (dt_not (dt_tru (dd_e (de_isi (t := .str) rfl B.isinstance rfl B.str (by decide +kernel) (do_var (pv 0)))))) (dw_or1 (dt_not (dt_chain (ok_lt hr.units) (ok_lt hr.units) (do_d dd_int) (do_d (dd_e (de_callB ok_len (by rfl) B.len (by decide +kernel) (da_cons (do_var (pv 0)) da_nil)))) (do_d dd_int)))))) (dss_one (ds_ret (de_d dd_bl))) dss_nil)
    (dss_one (ds_ret (de_callB (ok_all rfl) (by rfl) B.all (by decide +kernel) (da_cons (do_d (dd_e (de_comp (own := [("_law_sign", 1)]) rfl sc_l_name_due.nd (di_var (pv 0)) (blkOk_by (own := [("_law_sign", 1)]) (N := N_l_name_due) (sc := defScope st_l_name_due) (by decide +kernel)) (fun _ _ _ _ _ => (dg_name (i := 1) sc_l_name_due.nd rfl (by first | exact Or.inl rfl | exact Or.inr rfl))) (fun _ _ _ _ _ => dts_nil) (fun _ _ _ _ _ => (dd_e (de_inX hr.units (do_var (pv 1)) (do_d dd_str) rfl))) (by simp [Tg.sub, Tg.subs])))) da_nil)))))
/-! ### law times_due -/
abbrev st_l_times_due : Stmt := top 15
abbrev N_l_times_due : List Str := ["_law_thing", "_law_one"]
abbrev ps_l_times_due : List Str := ["_law_thing"]
theorem sc_l_times_due : FnScope N_l_times_due ps_l_times_due (defScope st_l_times_due) := ⟨rfl, rfl, rfl, by decide +kernel, rfl, by decide +kernel, by decide +kernel⟩
noncomputable def g_l_times_due : SM := (sb (sIf (cOr (cNot (cTru (dd (dApp [(.sl 0)] (isiD .tuple))))) (cTst (dApp [(.ex (dd (dApp [(.sl 0)] lenD))), (.ex (dC (.int 2)))] (eqD true)))) (sRet (ds (dC (.bool false)))) sPass)
    (sRet (ds (vAnd (dd (dApp [(.ex (dd (dComp (iVar 0) (.nm 1) (er true) (dd (dCall d_l_whole [false, false, false] [(.sl 1), (.ex (dC (.int 1))), (.ex (dd (dApp [(.ex (dC (.int 10))), (.ex (dC (.int 6)))] iPow)))])) [1])))] allD)) (dd (dApp [(.ex (dd (dApp [(.sl 0), (.ex (dC (.int 0)))] opIxX))), (.ex (dd (dApp [(.sl 0), (.ex (dC (.int 1)))] opIxX)))] opGe))))))
noncomputable def d_l_times_due : FD := runB 1 2 g_l_times_due
theorem ok_l_times_due {P : Program} {w : World} {K : KF} {mg : MG} {base : Heap} {fa : Addr} {fd : FuncData} (B : Blt mg) (F : Fun K "_law_times_due" "_law_times_due" st_l_times_due fa fd) (C_l_whole : Cl P w K mg base 1 "_law_whole" ps_l_whole d_l_whole) : FnG P w K mg base 2 fa fd ps_l_times_due d_l_times_due :=
  fun_ok F sc_l_times_due fun cdv A outer s H E hr hgd =>
    (dss_cons (ds_if (dt_bool (dw_or (dt_not (dt_tru (dd_e (de_isi (t := .tuple) rfl B.isinstance rfl B.tuple (by decide +kernel) (do_var (pv 0)))))) (dw_or1 (dt_cmp (ok_ne hr.units) (do_d (dd_e (de_callB ok_len (by rfl) B.len (by decide +kernel) (da_cons (do_var (pv 0)) da_nil)))) (do_d dd_int) (nomark _))))) (dss_one (ds_ret (de_d dd_bl))) dss_nil)
    (dss_one (ds_ret (de_d (dd_and (dd_e (de_callB (ok_all rfl) (by rfl) B.all (by decide +kernel) (da_cons (do_d (dd_e (de_comp (own := [("_law_one", 1)]) rfl sc_l_times_due.nd (di_var (pv 0)) (blkOk_by (own := [("_law_one", 1)]) (N := N_l_times_due) (sc := defScope st_l_times_due) (by decide +kernel)) (fun _ _ _ _ _ => (dg_name (i := 1) sc_l_times_due.nd rfl (by first | exact Or.inl rfl | exact Or.inr rfl))) (fun _ _ _ _ _ => dts_nil) (fun _ _ _ _ _ => (dd_e (de_callC (F := d_l_whole) (ms := [false, false, false]) (C_l_whole.mono (by decide)) hr hgd rfl takesW0 (da_cons (do_var (pv 1)) (da_cons (do_d dd_int) (da_cons (do_d (dd_e (de_op ok_iPow (do_d dd_int) (do_d dd_int)))) da_nil)))))) (by simp [Tg.sub, Tg.subs])))) da_nil))) (dd_one (dd_e (de_cmp ok_ge (do_d (dd_e (de_itemX hr.units (do_var (pv 0)) (do_d dd_int) (fun _ _ => rfl) (fun _ _ => rfl)))) (do_d (dd_e (de_itemX hr.units (do_var (pv 0)) (do_d dd_int) (fun _ _ => rfl) (fun _ _ => rfl)))) (nomark _)))))))))
/-! ### law -/
abbrev st_law : Stmt := top 16
abbrev N_law : List Str := ["_law_script", "_law_feed_here", "_law_odd", "_law_k", "_law_word", "_law_one", "_law_pair", "_law_strange", "_law_thing"]
abbrev ps_law : List Str := ["_law_script"]
theorem sc_law : FnScope N_law ps_law (defScope st_law) := ⟨rfl, rfl, rfl, by decide +kernel, rfl, by decide +kernel, by decide +kernel⟩
noncomputable def g_law : SM := (sb (sAsg 1 (dCall d_l_feed [false] [(.sl 0)]))
    (sb (sAsg 2 (dApp [(.ex (dC .none)), (.ex (dC (.bool true))), (.ex (dC (.bool false))), (.ex (dC (.int 0))), (.ex (dC (.int 1))), (.ex (dd (dApp [] opTup))), (.ex (dd (dApp [] opLst))), (.ex (dd (dApp [(.ex (dC (.str "a")))] opTup))), (.ex (dd (dApp [(.ex (dC (.str "a")))] opLst))), (.ex (dC (.str ""))), (.ex (dd (dApp [(.ex (dC (.int 1)))] opTup))), (.ex (dd (dApp [(.ex (dC (.int 1))), (.ex (dC (.int 1))), (.ex (dC (.int 1)))] opTup))), (.ex (dd (dApp [(.ex (dC (.int 1))), (.ex (dC (.int 1)))] opLst))), (.ex (dd (dApp [(.ex (dC (.str "a"))), (.ex (dC (.int 1)))] opTup))), (.ex (dd (dApp [(.ex (dC (.int 1))), (.ex (dC .none))] opTup))), (.ex (dd (dApp [(.ex (dC (.bool true))), (.ex (dC (.int 1)))] opTup)))] opLst))
    (sb (sAsg 2 (dApp [(.sl 2), (.ex (dd (dApp [(.ex (dd (dApp [(.ex (dC (.int 2))), (.ex (dC (.bool true)))] opTup))), (.ex (dd (dApp [(.ex (dd (dApp [(.ex (dC (.int 1)))] opTup))), (.ex (dC (.int 1)))] opTup))), (.ex (dd (dApp [(.ex (dC (.int 1))), (.ex (dd (dApp [(.ex (dC (.int 1)))] opTup)))] opTup))), (.ex (dC (.str "ab"))), (.ex (dd (dApp [(.ex (dC (.int 1))), (.ex (dC (.str "1")))] opTup))), (.ex (dd (dApp [(.ex (dC (.int 10))), (.ex (dC (.int 39)))] iPow)))] opLst)))] opAdd))
    (sb (sFor (iApp [(.ex (dC (.int 12)))] rng1) (.nm 3) (sb (sAsg 4 (dCall d_l_text [true] [(.sl 1)]))
    (sb (sAsg 5 (dCall d_l_number [true] [(.sl 1)]))
    (sb (sAsg 6 (dApp [(.sl 5), (.ex (dd (dApp [(.ex (dd (dApp [(.sl 5), (.ex (dd (dCall d_l_number [true] [(.sl 1)])))] opLst))), (.ex (dd (dApp [(.ex (dd (dApp [(.ex (dd (dCall d_l_next [true, false] [(.sl 1), (.ex (dC (.int 4)))]))), (.ex (dC (.int 0)))] opGt)))] intD)))] opIxX)))] opTup))
    (sb (sAsg 7 (dApp [(.sl 2), (.ex (dd (dCall d_l_next [true, false] [(.sl 1), (.ex (dd (dApp [(.sl 2)] lenD)))])))] opIxX))
    (sFor (iD (dd (dApp [(.sl 4), (.sl 6), (.ex (dd (dApp [(.sl 6)] lstD))), (.ex (dd (dApp [(.ex (dd (dApp [(.sl 6), (.ex (dC (.int 1)))] opIxX))), (.ex (dd (dApp [(.sl 6), (.ex (dC (.int 0)))] opIxX)))] opTup))), (.ex (dd (dApp [(.sl 6), (.ex (dd (dApp [(.ex (dC (.int 1)))] opTup)))] opAdd))), (.sl 7), (.ex (dd (dApp [(.sl 7), (.sl 5)] opTup))), (.ex (dd (dApp [(.sl 5), (.sl 7)] opTup)))] opLst))) (.nm 8) (sb (sIf (cNot (cTru (dd (dCall d_l_told [false, false] [(.ex (dd (dCall d_is_name [false] [(.sl 8)]))), (.ex (dd (dCall d_l_name_due [false] [(.sl 8)])))])))) (sRet (ds (dC (.bool false)))) sPass)
    (sIf (cNot (cTru (dd (dCall d_l_told [false, false] [(.ex (dd (dCall d_is_times [false] [(.sl 8)]))), (.ex (dd (dCall d_l_times_due [false] [(.sl 8)])))])))) (sRet (ds (dC (.bool false)))) sPass))))))))
    (sRet (ds (vAnd (dd (dCall d_l_told [false, false] [(.ex (dd (dCall d_is_name [false] [(.ex (dC (.str "abcdefgh")))]))), (.ex (dC (.bool true)))])) (dd (dCall d_l_told [false, false] [(.ex (dd (dCall d_is_times [false] [(.ex (dd (dApp [(.ex (dd (dApp [(.ex (dC (.int 10))), (.ex (dC (.int 6)))] iPow))), (.ex (dC (.int 1)))] opTup)))]))), (.ex (dC (.bool true)))])))))))))
noncomputable def d_law : FD := runB 1 9 g_law
theorem ok_law {P : Program} {w : World} {K : KF} {mg : MG} {base : Heap} {fa : Addr} {fd : FuncData} (B : Blt mg) (F : Fun K "law" "law" st_law fa fd) (C_l_told : Cl P w K mg base 1 "_law_told" ps_l_told d_l_told) (C_is_name : Cl P w K mg base 1 "is_name" ps_is_name d_is_name) (C_is_times : Cl P w K mg base 2 "is_times" ps_is_times d_is_times) (C_l_times_due : Cl P w K mg base 2 "_law_times_due" ps_l_times_due d_l_times_due) (C_l_name_due : Cl P w K mg base 1 "_law_name_due" ps_l_name_due d_l_name_due) (C_l_next : Cl P w K mg base 1 "_law_next" ps_l_next d_l_next) (C_l_number : Cl P w K mg base 2 "_law_number" ps_l_number d_l_number) (C_l_text : Cl P w K mg base 2 "_law_text" ps_l_text d_l_text) (C_l_feed : Cl P w K mg base 1 "_law_feed" ps_l_feed d_l_feed) : FnG P w K mg base 3 fa fd ps_law d_law :=
  fun_ok F sc_law fun cdv A outer s H E hr hgd =>
    (dss_cons (ds_asg (i := 1) (de_callC (F := d_l_feed) (ms := [false]) (C_l_feed.mono (by decide)) hr hgd rfl (takes_of rfl rfl rfl rfl) (da_cons (do_var (pv 0)) da_nil)) sc_law.nd rfl (by first | exact Or.inl rfl | exact Or.inr rfl))
    (dss_cons (ds_asg (i := 2) (de_lst (da_cons (do_d dd_non) (da_cons (do_d dd_bl) (da_cons (do_d dd_bl) (da_cons (do_d dd_int) (da_cons (do_d dd_int) (da_cons (do_d (dd_e (de_tup da_nil))) (da_cons (do_d (dd_e (de_lst da_nil))) (da_cons (do_d (dd_e (de_tup (da_cons (do_d dd_str) da_nil)))) (da_cons (do_d (dd_e (de_lst (da_cons (do_d dd_str) da_nil)))) (da_cons (do_d dd_str) (da_cons (do_d (dd_e (de_tup (da_cons (do_d dd_int) da_nil)))) (da_cons (do_d (dd_e (de_tup (da_cons (do_d dd_int) (da_cons (do_d dd_int) (da_cons (do_d dd_int) da_nil)))))) (da_cons (do_d (dd_e (de_lst (da_cons (do_d dd_int) (da_cons (do_d dd_int) da_nil))))) (da_cons (do_d (dd_e (de_tup (da_cons (do_d dd_str) (da_cons (do_d dd_int) da_nil))))) (da_cons (do_d (dd_e (de_tup (da_cons (do_d dd_int) (da_cons (do_d dd_non) da_nil))))) (da_cons (do_d (dd_e (de_tup (da_cons (do_d dd_bl) (da_cons (do_d dd_int) da_nil))))) da_nil))))))))))))))))) sc_law.nd rfl (by first | exact Or.inl rfl | exact Or.inr rfl))
    (dss_cons (ds_asg (i := 2) (de_op ok_add (do_var (pv 2)) (do_d (dd_e (de_lst (da_cons (do_d (dd_e (de_tup (da_cons (do_d dd_int) (da_cons (do_d dd_bl) da_nil))))) (da_cons (do_d (dd_e (de_tup (da_cons (do_d (dd_e (de_tup (da_cons (do_d dd_int) da_nil)))) (da_cons (do_d dd_int) da_nil))))) (da_cons (do_d (dd_e (de_tup (da_cons (do_d dd_int) (da_cons (do_d (dd_e (de_tup (da_cons (do_d dd_int) da_nil)))) da_nil))))) (da_cons (do_d dd_str) (da_cons (do_d (dd_e (de_tup (da_cons (do_d dd_int) (da_cons (do_d dd_str) da_nil))))) (da_cons (do_d (dd_e (de_op ok_iPow (do_d dd_int) (do_d dd_int)))) da_nil)))))))))) sc_law.nd rfl (by first | exact Or.inl rfl | exact Or.inr rfl))
    (dss_cons (ds_for (passes_of rfl) rfl (di_rng1 rfl B.range (da_cons (do_d dd_int) da_nil)) (dg_name (i := 3) sc_law.nd rfl (by first | exact Or.inl rfl | exact Or.inr rfl)) (dss_cons (ds_asg (i := 4) (de_callC (F := d_l_text) (ms := [true]) (C_l_text.mono (by decide)) hr hgd rfl (takes_of rfl rfl rfl rfl) (da_cons (do_var (pv 1)) da_nil)) sc_law.nd rfl (by first | exact Or.inl rfl | exact Or.inr rfl))
    (dss_cons (ds_asg (i := 5) (de_callC (F := d_l_number) (ms := [true]) (C_l_number.mono (by decide)) hr hgd rfl (takes_of rfl rfl rfl rfl) (da_cons (do_var (pv 1)) da_nil)) sc_law.nd rfl (by first | exact Or.inl rfl | exact Or.inr rfl))
    (dss_cons (ds_asg (i := 6) (de_tup (da_cons (do_var (pv 5)) (da_cons (do_d (dd_e (de_itemX hr.units (do_d (dd_e (de_lst (da_cons (do_var (pv 5)) (da_cons (do_d (dd_e (de_callC (F := d_l_number) (ms := [true]) (C_l_number.mono (by decide)) hr hgd rfl (takes_of rfl rfl rfl rfl) (da_cons (do_var (pv 1)) da_nil)))) da_nil))))) (do_d (dd_e (de_callT ok_int (by rfl) B.int (by decide +kernel) (da_cons (do_d (dd_e (de_cmp ok_gt (do_d (dd_e (de_callC (F := d_l_next) (ms := [true, false]) (C_l_next.mono (by decide)) hr hgd rfl (takes_of rfl rfl rfl rfl) (da_cons (do_var (pv 1)) (da_cons (do_d dd_int) da_nil))))) (do_d dd_int) (nomark _)))) da_nil)))) (fun _ _ => rfl) (fun _ _ => rfl)))) da_nil))) sc_law.nd rfl (by first | exact Or.inl rfl | exact Or.inr rfl))
    (dss_cons (ds_asg (i := 7) (de_itemX hr.units (do_var (pv 2)) (do_d (dd_e (de_callC (F := d_l_next) (ms := [true, false]) (C_l_next.mono (by decide)) hr hgd rfl (takes_of rfl rfl rfl rfl) (da_cons (do_var (pv 1)) (da_cons (do_d (dd_e (de_callB ok_len (by rfl) B.len (by decide +kernel) (da_cons (do_var (pv 2)) da_nil)))) da_nil))))) (fun _ _ => rfl) (fun _ _ => rfl)) sc_law.nd rfl (by first | exact Or.inl rfl | exact Or.inr rfl))
    (dss_one (ds_for (passes_of rfl) rfl (di_d (dd_e (de_lst (da_cons (do_var (pv 4)) (da_cons (do_var (pv 6)) (da_cons (do_d (dd_e (de_callT ok_list (by rfl) B.list (by decide +kernel) (da_cons (do_var (pv 6)) da_nil)))) (da_cons (do_d (dd_e (de_tup (da_cons (do_d (dd_e (de_itemX hr.units (do_var (pv 6)) (do_d dd_int) (fun _ _ => rfl) (fun _ _ => rfl)))) (da_cons (do_d (dd_e (de_itemX hr.units (do_var (pv 6)) (do_d dd_int) (fun _ _ => rfl) (fun _ _ => rfl)))) da_nil))))) (da_cons (do_d (dd_e (de_op ok_add (do_var (pv 6)) (do_d (dd_e (de_tup (da_cons (do_d dd_int) da_nil))))))) (da_cons (do_var (pv 7)) (da_cons (do_d (dd_e (de_tup (da_cons (do_var (pv 7)) (da_cons (do_var (pv 5)) da_nil))))) (da_cons (do_d (dd_e (de_tup (da_cons (do_var (pv 5)) (da_cons (do_var (pv 7)) da_nil))))) da_nil))))))))))) (dg_name (i := 8) sc_law.nd rfl (by first | exact Or.inl rfl | exact Or.inr rfl)) (dss_cons (ds_if (dt_not (dt_tru (dd_e (de_callC (F := d_l_told) (ms := [false, false]) (C_l_told.mono (by decide)) hr hgd rfl (takes_of rfl rfl rfl rfl) (da_cons (do_d (dd_e (de_callC (F := d_is_name) (ms := [false]) (C_is_name.mono (by decide)) hr hgd rfl (takes_of rfl rfl rfl rfl) (da_cons (do_var (pv 8)) da_nil)))) (da_cons (do_d (dd_e (de_callC (F := d_l_name_due) (ms := [false]) (C_l_name_due.mono (by decide)) hr hgd rfl (takes_of rfl rfl rfl rfl) (da_cons (do_var (pv 8)) da_nil)))) da_nil)))))) (dss_one (ds_ret (de_d dd_bl))) dss_nil)
    (dss_one (ds_if (dt_not (dt_tru (dd_e (de_callC (F := d_l_told) (ms := [false, false]) (C_l_told.mono (by decide)) hr hgd rfl (takes_of rfl rfl rfl rfl) (da_cons (do_d (dd_e (de_callC (F := d_is_times) (ms := [false]) (C_is_times.mono (by decide)) hr hgd rfl (takes_of rfl rfl rfl rfl) (da_cons (do_var (pv 8)) da_nil)))) (da_cons (do_d (dd_e (de_callC (F := d_l_times_due) (ms := [false]) (C_l_times_due.mono (by decide)) hr hgd rfl (takes_of rfl rfl rfl rfl) (da_cons (do_var (pv 8)) da_nil)))) da_nil)))))) (dss_one (ds_ret (de_d dd_bl))) dss_nil))))))))))
    (dss_one (ds_ret (de_d (dd_and (dd_e (de_callC (F := d_l_told) (ms := [false, false]) (C_l_told.mono (by decide)) hr hgd rfl (takes_of rfl rfl rfl rfl) (da_cons (do_d (dd_e (de_callC (F := d_is_name) (ms := [false]) (C_is_name.mono (by decide)) hr hgd rfl (takes_of rfl rfl rfl rfl) (da_cons (do_d dd_str) da_nil)))) (da_cons (do_d dd_bl) da_nil)))) (dd_one (dd_e (de_callC (F := d_l_told) (ms := [false, false]) (C_l_told.mono (by decide)) hr hgd rfl (takes_of rfl rfl rfl rfl) (da_cons (do_d (dd_e (de_callC (F := d_is_times) (ms := [false]) (C_is_times.mono (by decide)) hr hgd rfl (takes_of rfl rfl rfl rfl) (da_cons (do_d (dd_e (de_tup (da_cons (do_d (dd_e (de_op ok_iPow (do_d dd_int) (do_d dd_int)))) (da_cons (do_d dd_int) da_nil))))) da_nil)))) (da_cons (do_d dd_bl) da_nil)))))))))))))
theorem all_mk {l : PySem.W.OpenLaw} {w : World} {K : KF} {h : Heap} {mg : MG} {fa : Addr} (X : K.In h) (G : h.Ns mainGlobals mg) (hfa : mg "law" = some (.ref fa))
    {od0 an0 : Option Addr} {sl0 : Array (Option Value)} {oc0 kV0 dc0 pm0 cd0 ct0 : Value} {f0 : Addr}
    {od1 an1 : Option Addr} {sl1 : Array (Option Value)} {oc1 kV1 dc1 pm1 cd1 ct1 : Value} {f1 : Addr}
    {od2 an2 : Option Addr} {sl2 : Array (Option Value)} {oc2 kV2 dc2 pm2 cd2 ct2 : Value} {f2 : Addr}
    {od3 an3 : Option Addr} {sl3 : Array (Option Value)} {oc3 kV3 dc3 pm3 cd3 ct3 : Value} {f3 : Addr}
    {od4 an4 : Option Addr} {sl4 : Array (Option Value)} {oc4 kV4 dc4 pm4 cd4 ct4 : Value} {f4 : Addr}
    {od5 an5 : Option Addr} {sl5 : Array (Option Value)} {oc5 kV5 dc5 pm5 cd5 ct5 : Value} {f5 : Addr}
    {od6 an6 : Option Addr} {sl6 : Array (Option Value)} {oc6 kV6 dc6 pm6 cd6 ct6 : Value} {f6 : Addr}
    {od7 an7 : Option Addr} {sl7 : Array (Option Value)} {oc7 kV7 dc7 pm7 cd7 ct7 : Value} {f7 : Addr}
    {od8 an8 : Option Addr} {sl8 : Array (Option Value)} {oc8 kV8 dc8 pm8 cd8 ct8 : Value} {f8 : Addr}
    {od9 an9 : Option Addr} {sl9 : Array (Option Value)} {oc9 kV9 dc9 pm9 cd9 ct9 : Value} {f9 : Addr}
    {od10 an10 : Option Addr} {sl10 : Array (Option Value)} {oc10 kV10 dc10 pm10 cd10 ct10 : Value} {f10 : Addr}
    {od11 an11 : Option Addr} {sl11 : Array (Option Value)} {oc11 kV11 dc11 pm11 cd11 ct11 : Value} {f11 : Addr}
    (a_is_whole : PySem.W.nsIn K mainGlobals "is_whole" = some (some (.ref f0)))
    (a_is_name : PySem.W.nsIn K mainGlobals "is_name" = some (some (.ref f1)))
    (a_is_times : PySem.W.nsIn K mainGlobals "is_times" = some (some (.ref f2)))
    (a_l_feed : PySem.W.nsIn K mainGlobals "_law_feed" = some (some (.ref f3)))
    (a_l_next : PySem.W.nsIn K mainGlobals "_law_next" = some (some (.ref f4)))
    (a_l_whole : PySem.W.nsIn K mainGlobals "_law_whole" = some (some (.ref f5)))
    (a_l_text : PySem.W.nsIn K mainGlobals "_law_text" = some (some (.ref f6)))
    (a_l_number : PySem.W.nsIn K mainGlobals "_law_number" = some (some (.ref f7)))
    (a_l_told : PySem.W.nsIn K mainGlobals "_law_told" = some (some (.ref f8)))
    (a_l_name_due : PySem.W.nsIn K mainGlobals "_law_name_due" = some (some (.ref f9)))
    (a_l_times_due : PySem.W.nsIn K mainGlobals "_law_times_due" = some (some (.ref f10)))
    (a_law : PySem.W.nsIn K mainGlobals "law" = some (some (.ref f11)))
    (l0 : K.lookup f0 = some ⟨oc0, od0, .func (PySem.W.fnOf "is_whole" "is_whole" (defArgs st_is_whole) (defBody st_is_whole) (defScope st_is_whole) .none kV0 dc0 pm0 an0 cd0 ct0), sl0⟩) (c0 : PySem.W.codeIn K cd0 "is_whole" = true) (k0 : PySem.W.keepIn K (.ref f0) = true)
    (l1 : K.lookup f1 = some ⟨oc1, od1, .func (PySem.W.fnOf "is_name" "is_name" (defArgs st_is_name) (defBody st_is_name) (defScope st_is_name) .none kV1 dc1 pm1 an1 cd1 ct1), sl1⟩) (c1 : PySem.W.codeIn K cd1 "is_name" = true) (k1 : PySem.W.keepIn K (.ref f1) = true)
    (l2 : K.lookup f2 = some ⟨oc2, od2, .func (PySem.W.fnOf "is_times" "is_times" (defArgs st_is_times) (defBody st_is_times) (defScope st_is_times) .none kV2 dc2 pm2 an2 cd2 ct2), sl2⟩) (c2 : PySem.W.codeIn K cd2 "is_times" = true) (k2 : PySem.W.keepIn K (.ref f2) = true)
    (l3 : K.lookup f3 = some ⟨oc3, od3, .func (PySem.W.fnOf "_law_feed" "_law_feed" (defArgs st_l_feed) (defBody st_l_feed) (defScope st_l_feed) .none kV3 dc3 pm3 an3 cd3 ct3), sl3⟩) (c3 : PySem.W.codeIn K cd3 "_law_feed" = true) (k3 : PySem.W.keepIn K (.ref f3) = true)
    (l4 : K.lookup f4 = some ⟨oc4, od4, .func (PySem.W.fnOf "_law_next" "_law_next" (defArgs st_l_next) (defBody st_l_next) (defScope st_l_next) .none kV4 dc4 pm4 an4 cd4 ct4), sl4⟩) (c4 : PySem.W.codeIn K cd4 "_law_next" = true) (k4 : PySem.W.keepIn K (.ref f4) = true)
    (l5 : K.lookup f5 = some ⟨oc5, od5, .func (PySem.W.fnOf "_law_whole" "_law_whole" (defArgs st_l_whole) (defBody st_l_whole) (defScope st_l_whole) .none kV5 dc5 pm5 an5 cd5 ct5), sl5⟩) (c5 : PySem.W.codeIn K cd5 "_law_whole" = true) (k5 : PySem.W.keepIn K (.ref f5) = true)
    (l6 : K.lookup f6 = some ⟨oc6, od6, .func (PySem.W.fnOf "_law_text" "_law_text" (defArgs st_l_text) (defBody st_l_text) (defScope st_l_text) .none kV6 dc6 pm6 an6 cd6 ct6), sl6⟩) (c6 : PySem.W.codeIn K cd6 "_law_text" = true) (k6 : PySem.W.keepIn K (.ref f6) = true)
    (l7 : K.lookup f7 = some ⟨oc7, od7, .func (PySem.W.fnOf "_law_number" "_law_number" (defArgs st_l_number) (defBody st_l_number) (defScope st_l_number) .none kV7 dc7 pm7 an7 cd7 ct7), sl7⟩) (c7 : PySem.W.codeIn K cd7 "_law_number" = true) (k7 : PySem.W.keepIn K (.ref f7) = true)
    (l8 : K.lookup f8 = some ⟨oc8, od8, .func (PySem.W.fnOf "_law_told" "_law_told" (defArgs st_l_told) (defBody st_l_told) (defScope st_l_told) .none kV8 dc8 pm8 an8 cd8 ct8), sl8⟩) (c8 : PySem.W.codeIn K cd8 "_law_told" = true) (k8 : PySem.W.keepIn K (.ref f8) = true)
    (l9 : K.lookup f9 = some ⟨oc9, od9, .func (PySem.W.fnOf "_law_name_due" "_law_name_due" (defArgs st_l_name_due) (defBody st_l_name_due) (defScope st_l_name_due) .none kV9 dc9 pm9 an9 cd9 ct9), sl9⟩) (c9 : PySem.W.codeIn K cd9 "_law_name_due" = true) (k9 : PySem.W.keepIn K (.ref f9) = true)
    (l10 : K.lookup f10 = some ⟨oc10, od10, .func (PySem.W.fnOf "_law_times_due" "_law_times_due" (defArgs st_l_times_due) (defBody st_l_times_due) (defScope st_l_times_due) .none kV10 dc10 pm10 an10 cd10 ct10), sl10⟩) (c10 : PySem.W.codeIn K cd10 "_law_times_due" = true) (k10 : PySem.W.keepIn K (.ref f10) = true)
    (l11 : K.lookup f11 = some ⟨oc11, od11, .func (PySem.W.fnOf "law" "law" (defArgs st_law) (defBody st_law) (defScope st_law) .none kV11 dc11 pm11 an11 cd11 ct11), sl11⟩) (c11 : PySem.W.codeIn K cd11 "law" = true) (k11 : PySem.W.keepIn K (.ref f11) = true)
    (z_len : PySem.W.nsIn K mainGlobals "len" = some none) (z_isinstance : PySem.W.nsIn K mainGlobals "isinstance" = some none) (z_list : PySem.W.nsIn K mainGlobals "list" = some none) (z_tuple : PySem.W.nsIn K mainGlobals "tuple" = some none) (z_abs : PySem.W.nsIn K mainGlobals "abs" = some none) (z_all : PySem.W.nsIn K mainGlobals "all" = some none) (z_sum : PySem.W.nsIn K mainGlobals "sum" = some none) (z_max : PySem.W.nsIn K mainGlobals "max" = some none) (z_min : PySem.W.nsIn K mainGlobals "min" = some none) (z_int : PySem.W.nsIn K mainGlobals "int" = some none) (z_bool : PySem.W.nsIn K mainGlobals "bool" = some none) (z_str : PySem.W.nsIn K mainGlobals "str" = some none) (z_repr : PySem.W.nsIn K mainGlobals "repr" = some none) (z_sorted : PySem.W.nsIn K mainGlobals "sorted" = some none) (z_dict : PySem.W.nsIn K mainGlobals "dict" = some none) (z_set : PySem.W.nsIn K mainGlobals "set" = some none) (z_range : PySem.W.nsIn K mainGlobals "range" = some none) (z_enumerate : PySem.W.nsIn K mainGlobals "enumerate" = some none) (z_zip : PySem.W.nsIn K mainGlobals "zip" = some none) (z_reversed : PySem.W.nsIn K mainGlobals "reversed" = some none)
    {tk_LETTERS : Tok} (v_LETTERS : PySem.W.nsIn K mainGlobals "LETTERS" = some (some (.str "abcdefghijklmnopqrstuvwxyz" tk_LETTERS)))
    {tk_LONGEST_NAME : Tok} (v_LONGEST_NAME : PySem.W.nsIn K mainGlobals "LONGEST_NAME" = some (some (.int (8) tk_LONGEST_NAME)))
    {tk_GREATEST : Tok} (v_GREATEST : PySem.W.nsIn K mainGlobals "GREATEST" = some (some (.int (1000000) tk_GREATEST))) :
    ∃ fd : FuncData, (∀ (s : Shared) (u : Value), BindsTo s fd ⟨[u], []⟩ [("_law_script", u)]) ∧ ∀ base : Heap, K.In base → base.Ns mainGlobals mg → FnG l.prog w K mg base 3 fa fd ["_law_script"] d_law := by
  have e := hfa.symm.trans (PySem.W.mg_of X G a_law)
  cases e
  have B : Blt mg := ⟨PySem.W.mg_none_of X G z_len, PySem.W.mg_none_of X G z_isinstance, PySem.W.mg_none_of X G z_list, PySem.W.mg_none_of X G z_tuple, PySem.W.mg_none_of X G z_abs, PySem.W.mg_none_of X G z_all, PySem.W.mg_none_of X G z_sum, PySem.W.mg_none_of X G z_max, PySem.W.mg_none_of X G z_min, PySem.W.mg_none_of X G z_int, PySem.W.mg_none_of X G z_bool, PySem.W.mg_none_of X G z_str, PySem.W.mg_none_of X G z_repr, PySem.W.mg_none_of X G z_sorted, PySem.W.mg_none_of X G z_dict, PySem.W.mg_none_of X G z_set, PySem.W.mg_none_of X G z_range, PySem.W.mg_none_of X G z_enumerate, PySem.W.mg_none_of X G z_zip, PySem.W.mg_none_of X G z_reversed⟩
  have c_LETTERS := (⟨tk_LETTERS, PySem.W.mg_of X G v_LETTERS⟩ : ∃ t, mg "LETTERS" = some (.str "abcdefghijklmnopqrstuvwxyz" t))
  have c_LONGEST_NAME := (⟨tk_LONGEST_NAME, PySem.W.mg_of X G v_LONGEST_NAME⟩ : ∃ t, mg "LONGEST_NAME" = some (.int (8) t))
  have c_GREATEST := (⟨tk_GREATEST, PySem.W.mg_of X G v_GREATEST⟩ : ∃ t, mg "GREATEST" = some (.int (1000000) t))
  refine ⟨PySem.W.fnOf "law" "law" (defArgs st_law) (defBody st_law) (defScope st_law) .none kV11 dc11 pm11 an11 cd11 ct11, fun s v => .of_eq rfl, fun base _ _ => ?_⟩
  have F_is_whole := fun_mk (st := st_is_whole) l0 c0 k0
  have C_is_whole : Cl l.prog w K mg base 1 "is_whole" ps_is_whole d_is_whole := ⟨_, _, ok_is_whole B F_is_whole, PySem.W.mg_of X G a_is_whole, k0, F_is_whole.binds (ps := ps_is_whole) fun _ _ _ _ _ _ us hl => match us, hl with | [_, _, _], _ => rfl⟩
  have F_is_name := fun_mk (st := st_is_name) l1 c1 k1
  have C_is_name : Cl l.prog w K mg base 1 "is_name" ps_is_name d_is_name := ⟨_, _, ok_is_name B F_is_name c_LETTERS c_LONGEST_NAME, PySem.W.mg_of X G a_is_name, k1, F_is_name.binds (ps := ps_is_name) fun _ _ _ _ _ _ us hl => match us, hl with | [_], _ => rfl⟩
  have F_l_feed := fun_mk (st := st_l_feed) l3 c3 k3
  have C_l_feed : Cl l.prog w K mg base 1 "_law_feed" ps_l_feed d_l_feed := ⟨_, _, ok_l_feed B F_l_feed, PySem.W.mg_of X G a_l_feed, k3, F_l_feed.binds (ps := ps_l_feed) fun _ _ _ _ _ _ us hl => match us, hl with | [_], _ => rfl⟩
  have F_l_next := fun_mk (st := st_l_next) l4 c4 k4
  have C_l_next : Cl l.prog w K mg base 1 "_law_next" ps_l_next d_l_next := ⟨_, _, ok_l_next B F_l_next, PySem.W.mg_of X G a_l_next, k4, F_l_next.binds (ps := ps_l_next) fun _ _ _ _ _ _ us hl => match us, hl with | [_, _], _ => rfl⟩
  have F_l_whole := fun_mk (st := st_l_whole) l5 c5 k5
  have C_l_whole : Cl l.prog w K mg base 1 "_law_whole" ps_l_whole d_l_whole := ⟨_, _, ok_l_whole B F_l_whole, PySem.W.mg_of X G a_l_whole, k5, F_l_whole.binds (ps := ps_l_whole) fun _ _ _ _ _ _ us hl => match us, hl with | [_, _, _], _ => rfl⟩
  have F_l_told := fun_mk (st := st_l_told) l8 c8 k8
  have C_l_told : Cl l.prog w K mg base 1 "_law_told" ps_l_told d_l_told := ⟨_, _, ok_l_told B F_l_told, PySem.W.mg_of X G a_l_told, k8, F_l_told.binds (ps := ps_l_told) fun _ _ _ _ _ _ us hl => match us, hl with | [_, _], _ => rfl⟩
  have F_l_name_due := fun_mk (st := st_l_name_due) l9 c9 k9
  have C_l_name_due : Cl l.prog w K mg base 1 "_law_name_due" ps_l_name_due d_l_name_due := ⟨_, _, ok_l_name_due B F_l_name_due, PySem.W.mg_of X G a_l_name_due, k9, F_l_name_due.binds (ps := ps_l_name_due) fun _ _ _ _ _ _ us hl => match us, hl with | [_], _ => rfl⟩
  have F_is_times := fun_mk (st := st_is_times) l2 c2 k2
  have C_is_times : Cl l.prog w K mg base 2 "is_times" ps_is_times d_is_times := ⟨_, _, ok_is_times B F_is_times C_is_whole c_GREATEST, PySem.W.mg_of X G a_is_times, k2, F_is_times.binds (ps := ps_is_times) fun _ _ _ _ _ _ us hl => match us, hl with | [_], _ => rfl⟩
  have F_l_text := fun_mk (st := st_l_text) l6 c6 k6
  have C_l_text : Cl l.prog w K mg base 2 "_law_text" ps_l_text d_l_text := ⟨_, _, ok_l_text B F_l_text C_l_next, PySem.W.mg_of X G a_l_text, k6, F_l_text.binds (ps := ps_l_text) fun _ _ _ _ _ _ us hl => match us, hl with | [_], _ => rfl⟩
  have F_l_number := fun_mk (st := st_l_number) l7 c7 k7
  have C_l_number : Cl l.prog w K mg base 2 "_law_number" ps_l_number d_l_number := ⟨_, _, ok_l_number B F_l_number C_l_next, PySem.W.mg_of X G a_l_number, k7, F_l_number.binds (ps := ps_l_number) fun _ _ _ _ _ _ us hl => match us, hl with | [_], _ => rfl⟩
  have F_l_times_due := fun_mk (st := st_l_times_due) l10 c10 k10
  have C_l_times_due : Cl l.prog w K mg base 2 "_law_times_due" ps_l_times_due d_l_times_due := ⟨_, _, ok_l_times_due B F_l_times_due C_l_whole, PySem.W.mg_of X G a_l_times_due, k10, F_l_times_due.binds (ps := ps_l_times_due) fun _ _ _ _ _ _ us hl => match us, hl with | [_], _ => rfl⟩
  have F_law := fun_mk (st := st_law) l11 c11 k11
  exact ok_law (P := l.prog) (w := w) (base := base) B F_law C_l_told C_is_name C_is_times C_l_times_due C_l_name_due C_l_next C_l_number C_l_text C_l_feed
end G
namespace G
open PySem L2 DL
/-- a feed -/
def Feed (n : Nat) (m : MO) : Prop := ∃ (cells : List Int) (at' rest : Int), m = .lst [.list (cells.map PyData.int), .int at', .int rest] ∧ 0 ≤ at' ∧ at' ≤ n ∧ 0 ≤ rest
theorem Feed.mono {n k : Nat} {m : MO} (h : Feed n m) (l : n ≤ k) : Feed k m := by
  obtain ⟨c, a, r, e, h1, h2, h3⟩ := h
  exact ⟨c, a, r, e, h1, by omega, h3⟩
theorem next_spec {n : Nat} {m : MO} {many : Int} {P : S → List S → Prop} {E : Exc → List S → Prop} (hf : Feed n m) (hn : n < 2 ^ 100) (h0 : 0 < many) (h1 : many < 2 ^ 250)
    (h : ∀ v m', 0 ≤ v → v < many → Feed (n + 1) m' → P (.d (.int v)) [.own true m', .d (.int many)]) : Wf d_l_next [.own true m, .d (.int many)] P E := by
  obtain ⟨cells, at', rest, rfl, a0, a1, r0⟩ := hf
  have hm0 : many ≠ 0 := by omega
  have hma : many.natAbs < 2 ^ 256 := by omega
  have b1 : at'.natAbs < 2 ^ 256 := by omega
  have b2 : (41 * at').natAbs < 2 ^ 256 := by omega
  have sq : 0 ≤ at' * at' ∧ at' * at' ≤ 2 ^ 200 := ⟨Int.mul_nonneg a0 a0, by
    have := Int.mul_le_mul (a := at') (b := at') (c := 2 ^ 100) (d := 2 ^ 100) (by omega) (by omega) (by omega) (by omega)
    omega⟩
  have big : ∀ x : Int, 0 ≤ x → x ≤ 2 ^ 240 → (x + 41 * at' * at' + 17 * at' + 3).natAbs < 2 ^ 256 := fun x y z => by
    rw [Int.mul_assoc 41]
    generalize at' * at' = q at *
    omega
  have fin : ∀ f : Int, ((f % 999917 + 8111 * at')).natAbs < 2 ^ 256 := fun f => by
    have e1 := Int.emod_nonneg f (b := 999917) (by omega)
    have e2 := Int.emod_lt_of_pos f (b := 999917) (by omega)
    omega
  have done : ∀ (x : Int) (a r : Int), 0 ≤ a → a ≤ n + 1 → 0 ≤ r → P (.d (.int (x % many))) [.own true (.lst [.list (cells.map PyData.int), .int a, .int r]), .d (.int many)] := fun x a r ha hb hr =>
    h _ _ (Int.emod_nonneg x hm0) (Int.emod_lt_of_pos x h0) ⟨cells, a, r, rfl, ha, by omega, hr⟩
  unfold d_l_next
  rw [wf_runB]
  refine ⟨rfl, ?_⟩
  unfold g_l_next
  by_cases hr : 0 < rest
  · simp [hr]
    exact ⟨h0, ⟨h0, hma⟩, done _ _ _ a0 (by omega) (Int.ediv_nonneg r0 (by omega))⟩
  · by_cases hc : cells = []
    · subst hc
      simp [hr]
      have b3 := big 0 (by omega) (by omega)
      rw [Int.zero_add] at b3
      exact ⟨b1, ⟨b2, b1⟩, b1, b3, b1, fin _, h0, done _ _ _ (by omega) (by omega) r0⟩
    · have hl : 0 < cells.length := List.length_pos_iff.mpr hc
      have he : cells.isEmpty = false := by simp [hc]
      obtain ⟨c, e1, e2, _⟩ := at_of (xs := cells.map PyData.int) (i := at' % cells.length) (Int.emod_nonneg _ (by omega)) (by rw [List.length_map]; exact Int.emod_lt_of_pos _ (by omega))
      obtain ⟨ci, _, rfl⟩ := List.mem_map.mp e2
      have hm1 : 0 ≤ ci % 1000003 := Int.emod_nonneg _ (by omega)
      have hm2 : ci % 1000003 < 1000003 := Int.emod_lt_of_pos _ (by omega)
      have b3 := big (ci % 1000003) (by omega) (by omega)
      by_cases h18 : 1000000000000000000 ≤ ci
      · by_cases hal : at' < cells.length
        · simp [hr, hc, he, hl, e1, h18, hal]
          exact ⟨⟨h0, hma⟩, h0, done _ _ _ (by omega) (by omega) (Int.ediv_nonneg (by omega) (by omega))⟩
        · simp [hr, hc, he, hl, e1, h18, hal]
          exact ⟨b1, ⟨b2, b1⟩, b1, b3, b1, fin _, h0, done _ _ _ (by omega) (by omega) r0⟩
      · simp [hr, hc, he, hl, e1, h18]
        exact ⟨b1, ⟨b2, b1⟩, b1, b3, b1, fin _, h0, done _ _ _ (by omega) (by omega) r0⟩
theorem feed_spec {ns : List Int} {P : S → List S → Prop} {E : Exc → List S → Prop} (h : ∀ m, Feed 0 m → P (.own false m) [.d (.list (ns.map PyData.int))]) : Wf d_l_feed [.d (.list (ns.map PyData.int))] P E := by
  unfold d_l_feed
  rw [wf_runB]
  refine ⟨rfl, ?_⟩
  unfold g_l_feed
  simp
  refine h _ ⟨ns.take 63, 0, 0, ?_, by omega, by omega, by omega⟩
  unfold cutD
  simp [HT.sIx, List.map_take]
def nameB : D → Bool
  | .str z => decide (1 ≤ z.length) && decide (z.length ≤ 8) && z.cps.toList.all fun c => hasSub ⟨#[c]⟩ "abcdefghijklmnopqrstuvwxyz"
  | _ => false
def wholeB (d : D) (lo hi : Int) : Bool := match d with
  | .int i => decide (lo ≤ i) && decide (i ≤ hi)
  | _ => false
def timesB : D → Bool
  | .tuple [a, b] => (wholeB a 1 1000000 && wholeB b 1 1000000) && (match a, b with
    | .int i, .int j => decide (j ≤ i)
    | _, _ => false)
  | _ => false
theorem is_name_spec {d : D} {P : S → List S → Prop} {E : Exc → List S → Prop} (hd : ∀ z, d = .str z → z.length ≤ 1000) (h : P (.d (.bool (nameB d))) [.d d]) : Wf d_is_name [.d d] P E := by
  unfold d_is_name
  rw [wf_runB]
  refine ⟨rfl, ?_⟩
  unfold g_is_name
  cases d with
  | str z =>
    have hz := hd z rfl
    have go : ∀ b : Bool, nameB (.str z) = b → P (.d (.bool b)) [.d (.str z)] := fun b e => by rw [← e]; exact h
    by_cases h1 : 1 ≤ z.length
    · by_cases h2 : z.length ≤ 8
      · have i1 : (1 : Int) ≤ z.length := by omega
        have i2 : (0 : Int) < z.length := by omega
        have i3 : (z.length : Int) ≤ 8 := by omega
        have i4 : (z.length : Int) < 9 := by omega
        have i5 : 0 < z.length := by omega
        have i6 : z.length < 9 := by omega
        simp [i1, i2, i3, i4, i5, i6, h1, h2]
        repeat (refine ⟨by omega, ?_⟩)
        refine wc_map (fun d => .bool (match d with
          | .str a => hasSub a "abcdefghijklmnopqrstuvwxyz"
          | _ => false)) (fun d hd => ?_) ?_
        · obtain ⟨c, rfl, _⟩ := sign_mem hd
          simp
        · have e : (signs z).map (fun d => PyData.bool (match d with
            | .str a => hasSub a "abcdefghijklmnopqrstuvwxyz"
            | _ => false)) = z.cps.toList.map fun c => PyData.bool (hasSub ⟨#[c]⟩ "abcdefghijklmnopqrstuvwxyz") := by simp [signs]
          rw [e]
          simp [bools_map]
          exact go _ (by simp [nameB, h1, h2])
      · have i1 : (1 : Int) ≤ z.length := by omega
        have i2 : (0 : Int) < z.length := by omega
        have i3 : ¬ (z.length : Int) ≤ 8 := by omega
        have i4 : ¬ (z.length : Int) < 9 := by omega
        have i5 : 0 < z.length := by omega
        have i6 : ¬ z.length < 9 := by omega
        simp [i1, i2, i3, i4, i5, i6, h1, h2]
        repeat (refine ⟨by omega, ?_⟩)
        exact go _ (by simp [nameB, h2])
    · have i1 : ¬ (1 : Int) ≤ z.length := by omega
      have i2 : ¬ (0 : Int) < z.length := by omega
      have i5 : ¬ 0 < z.length := by omega
      simp [i1, i2, i5, h1]
      repeat (refine ⟨by omega, ?_⟩)
      exact go _ (by simp [nameB, h1])
  | none => simp; exact h
  | bool b => simp; exact h
  | int i => simp; exact h
  | list xs => simp; exact h
  | tuple xs => simp; exact h
  | dict xs => simp; exact h
theorem l_name_due_spec {d : D} {P : S → List S → Prop} {E : Exc → List S → Prop} (hd : ∀ z, d = .str z → z.length ≤ 1000) (h : P (.d (.bool (nameB d))) [.d d]) : Wf d_l_name_due [.d d] P E := by
  unfold d_l_name_due
  rw [wf_runB]
  refine ⟨rfl, ?_⟩
  unfold g_l_name_due
  cases d with
  | str z =>
    have hz := hd z rfl
    have go : ∀ b : Bool, nameB (.str z) = b → P (.d (.bool b)) [.d (.str z)] := fun b e => by rw [← e]; exact h
    by_cases h1 : 1 ≤ z.length
    · by_cases h2 : z.length ≤ 8
      · have i1 : (1 : Int) ≤ z.length := by omega
        have i2 : (0 : Int) < z.length := by omega
        have i3 : (z.length : Int) ≤ 8 := by omega
        have i4 : (z.length : Int) < 9 := by omega
        have i5 : 0 < z.length := by omega
        have i6 : z.length < 9 := by omega
        simp [i1, i2, i3, i4, i5, i6, h1, h2]
        repeat (refine ⟨by omega, ?_⟩)
        refine wc_map (fun d => .bool (match d with
          | .str a => hasSub a "abcdefghijklmnopqrstuvwxyz"
          | _ => false)) (fun d hd => ?_) ?_
        · obtain ⟨c, rfl, _⟩ := sign_mem hd
          simp
        · have e : (signs z).map (fun d => PyData.bool (match d with
            | .str a => hasSub a "abcdefghijklmnopqrstuvwxyz"
            | _ => false)) = z.cps.toList.map fun c => PyData.bool (hasSub ⟨#[c]⟩ "abcdefghijklmnopqrstuvwxyz") := by simp [signs]
          rw [e]
          simp [bools_map]
          exact go _ (by simp [nameB, h1, h2])
      · have i1 : (1 : Int) ≤ z.length := by omega
        have i2 : (0 : Int) < z.length := by omega
        have i3 : ¬ (z.length : Int) ≤ 8 := by omega
        have i4 : ¬ (z.length : Int) < 9 := by omega
        have i5 : 0 < z.length := by omega
        have i6 : ¬ z.length < 9 := by omega
        simp [i1, i2, i3, i4, i5, i6, h1, h2]
        repeat (refine ⟨by omega, ?_⟩)
        exact go _ (by simp [nameB, h2])
    · have i1 : ¬ (1 : Int) ≤ z.length := by omega
      have i2 : ¬ (0 : Int) < z.length := by omega
      have i5 : ¬ 0 < z.length := by omega
      simp [i1, i2, i5, h1]
      repeat (refine ⟨by omega, ?_⟩)
      exact go _ (by simp [nameB, h1])
  | none => simp; exact h
  | bool b => simp; exact h
  | int i => simp; exact h
  | list xs => simp; exact h
  | tuple xs => simp; exact h
  | dict xs => simp; exact h
theorem is_whole_spec {d : D} {lo hi : Int} {P : S → List S → Prop} {E : Exc → List S → Prop} (h : P (.d (.bool (wholeB d lo hi))) [.d d, .d (.int lo), .d (.int hi)]) : Wf d_is_whole [.d d, .d (.int lo), .d (.int hi)] P E := by
  unfold d_is_whole
  rw [wf_runB]
  refine ⟨rfl, ?_⟩
  unfold g_is_whole
  cases d with
  | int i =>
    by_cases h1 : lo ≤ i
    · simp [h1]
      have e : wholeB (.int i) lo hi = decide (i ≤ hi) := by simp [wholeB, h1]
      rw [e] at h
      exact h
    · simp [h1]
      have e : wholeB (.int i) lo hi = false := by simp [wholeB, h1]
      rw [e] at h
      exact h
  | none => simp; exact h
  | bool b => simp; exact h
  | str i => simp; exact h
  | list xs => simp; exact h
  | tuple xs => simp; exact h
  | dict xs => simp; exact h
theorem l_whole_spec {d : D} {lo hi : Int} {P : S → List S → Prop} {E : Exc → List S → Prop} (h : P (.d (.bool (wholeB d lo hi))) [.d d, .d (.int lo), .d (.int hi)]) : Wf d_l_whole [.d d, .d (.int lo), .d (.int hi)] P E := by
  unfold d_l_whole
  rw [wf_runB]
  refine ⟨rfl, ?_⟩
  unfold g_l_whole
  cases d with
  | int i =>
    by_cases h1 : lo ≤ i
    · simp [h1]
      have e : wholeB (.int i) lo hi = decide (i ≤ hi) := by simp [wholeB, h1]
      rw [e] at h
      exact h
    · simp [h1]
      have e : wholeB (.int i) lo hi = false := by simp [wholeB, h1]
      rw [e] at h
      exact h
  | none => simp; exact h
  | bool b => simp; exact h
  | str i => simp; exact h
  | list xs => simp; exact h
  | tuple xs => simp; exact h
  | dict xs => simp; exact h
theorem is_times_spec {d : D} {P : S → List S → Prop} {E : Exc → List S → Prop} (h : P (.d (.bool (timesB d))) [.d d]) : Wf d_is_times [.d d] P E := by
  unfold d_is_times
  rw [wf_runB]
  refine ⟨rfl, ?_⟩
  unfold g_is_times
  cases d with
  | tuple xs =>
    match xs, h with
    | [], h => simp; exact h
    | [a], h => simp; exact h
    | a :: b :: c :: t, h =>
      have e : ¬ (t.length : Int) + 1 + 1 + 1 = 2 := by omega
      simp [e]
      exact h
    | [a, b], h =>
      simp
      refine is_whole_spec ?_
      simp
      refine is_whole_spec ?_
      simp
      refine Wite.mk (fun hw => ?_) fun hw => ?_
      · simp at hw
        have ha := hw.1
        have hb := hw.2
        cases a with
        | int i =>
          cases b with
          | int j =>
            simp
            have e : timesB (.tuple [.int i, .int j]) = decide (j ≤ i) := by simp [timesB, ha, hb]
            rw [e] at h
            exact h
          | _ => simp [wholeB] at hb
        | _ => simp [wholeB] at ha
      · have e : timesB (.tuple [a, b]) = false := by
          show ((wholeB a 1 1000000 && wholeB b 1 1000000) && _) = false
          rw [hw]
          rfl
        rw [e] at h
        simp
        rw [hw]
        exact h
  | none => simp; exact h
  | bool b => simp; exact h
  | int i => simp; exact h
  | str i => simp; exact h
  | list xs => simp; exact h
  | dict xs => simp; exact h
theorem l_times_due_spec {d : D} {P : S → List S → Prop} {E : Exc → List S → Prop} (h : P (.d (.bool (timesB d))) [.d d]) : Wf d_l_times_due [.d d] P E := by
  unfold d_l_times_due
  rw [wf_runB]
  refine ⟨rfl, ?_⟩
  unfold g_l_times_due
  cases d with
  | tuple xs =>
    match xs, h with
    | [], h => simp; exact h
    | [a], h => simp; exact h
    | a :: b :: c :: t, h =>
      have e : ¬ (t.length : Int) + 1 + 1 + 1 = 2 := by omega
      simp [e]
      exact h
    | [a, b], h =>
      simp
      refine l_whole_spec ?_
      simp
      refine l_whole_spec ?_
      simp
      refine Wite.mk (fun hw => ?_) fun hw => ?_
      · simp at hw
        have ha := hw.1
        have hb := hw.2
        cases a with
        | int i =>
          cases b with
          | int j =>
            simp
            have e : timesB (.tuple [.int i, .int j]) = decide (j ≤ i) := by simp [timesB, ha, hb]
            rw [e] at h
            exact h
          | _ => simp [wholeB] at hb
        | _ => simp [wholeB] at ha
      · have e : timesB (.tuple [a, b]) = false := by
          show ((wholeB a 1 1000000 && wholeB b 1 1000000) && _) = false
          rw [hw]
          rfl
        rw [e] at h
        simp
        rw [hw]
        exact h
  | none => simp; exact h
  | bool b => simp; exact h
  | int i => simp; exact h
  | str i => simp; exact h
  | list xs => simp; exact h
  | dict xs => simp; exact h
theorem told_spec {b : Bool} {P : S → List S → Prop} {E : Exc → List S → Prop} (h : P (.d (.bool true)) [.d (.bool b), .d (.bool b)]) : Wf d_l_told [.d (.bool b), .d (.bool b)] P E := by
  unfold d_l_told
  rw [wf_runB]
  refine ⟨rfl, ?_⟩
  unfold g_l_told
  simp
  exact h
theorem number_spec {n : Nat} {m : MO} {P : S → List S → Prop} {E : Exc → List S → Prop} (hf : Feed n m) (hn : n < 2 ^ 99)
    (h : ∀ (t : Int) m', Feed (n + 3) m' → P (.d (.int t)) [.own true m']) : Wf d_l_number [.own true m] P E := by
  unfold d_l_number
  rw [wf_runB]
  refine ⟨rfl, ?_⟩
  unfold g_l_number
  simp
  refine next_spec hf (by omega) (by omega) (by omega) fun v m1 v0 v1 f1 => ?_
  simp
  obtain ⟨x, e1, e2, _⟩ := at_of (xs := [PyData.int 0, .int 1, .int 2, .int 999999, .int 1000000, .int 1000001, .int (-1), .int (-1000000)]) v0 (by simpa using v1)
  have hx : ∃ i, x = .int i := by
    simp at e2
    rcases e2 with rfl | rfl | rfl | rfl | rfl | rfl | rfl | rfl <;> exact ⟨_, rfl⟩
  obtain ⟨i, rfl⟩ := hx
  simp [e1]
  refine next_spec f1 (by omega) (by omega) (by omega) fun u m2 u0 u1 f2 => ?_
  simp
  refine next_spec f2 (by omega) (by omega) (by omega) fun w m3 w0 w1 f3 => ?_
  obtain ⟨y, e3, e4, _⟩ := at_of (xs := [PyData.int i, .int i, .int u]) w0 (by simpa using w1)
  have hy : ∃ i, y = .int i := by
    simp at e4
    rcases e4 with rfl | rfl <;> exact ⟨_, rfl⟩
  obtain ⟨j, rfl⟩ := hy
  simp [e3]
  exact h _ _ f3
def Jt (n : Nat) (ys acc : List D) (r : DL.Env) : Prop := ys.length ≤ 10 ∧ acc.length + ys.length ≤ 10 ∧ (∀ d ∈ acc, ∃ c, d = .str ⟨#[c]⟩) ∧ ∃ m k, r = [some (.own true m), some (.d (.str "abcdefghijklmnopqrstuvwxyz")), some (.d (.int k)), none, none, none] ∧ 0 ≤ k ∧ k ≤ 10 ∧ Feed (n + (10 - ys.length)) m
theorem ones {acc : List D} (h : ∀ d ∈ acc, ∃ c : Nat, d = .str ⟨#[c]⟩) : ∃ l : List Str, strsD acc = some l ∧ l.length = acc.length ∧ ∀ a ∈ l, a.length = 1 := by
  induction acc with
  | nil => exact ⟨[], rfl, rfl, by simp⟩
  | cons d t ih =>
    obtain ⟨l, e1, e2, e3⟩ := ih fun x hx => h x (List.mem_cons_of_mem _ hx)
    obtain ⟨c, rfl⟩ := h d List.mem_cons_self
    refine ⟨⟨#[c]⟩ :: l, by simp [e1], by simp [e2], ?_⟩
    intro a ha
    rcases List.mem_cons.mp ha with rfl | ha
    · rfl
    · exact e3 a ha
theorem ones_sum : ∀ {l : List Str}, (∀ a ∈ l, a.length = 1) → (l.map (·.length)).sum = l.length
  | [], _ => rfl
  | a :: l, h => by
    rw [List.map_cons, List.sum_cons, h a List.mem_cons_self, ones_sum fun b hb => h b (List.mem_cons_of_mem _ hb), List.length_cons, Nat.add_comm]
theorem text_spec {n : Nat} {m : MO} {P : S → List S → Prop} {E : Exc → List S → Prop} (hf : Feed n m) (hn : n < 2 ^ 98)
    (h : ∀ (z : Str) m', z.length ≤ 100 → Feed (n + 20) m' → P (.d (.str z)) [.own true m']) : Wf d_l_text [.own true m] P E := by
  unfold d_l_text
  rw [wf_runB]
  refine ⟨rfl, ?_⟩
  unfold g_l_text
  simp
  refine next_spec hf (by omega) (by omega) (by omega) fun v m1 v0 v1 f1 => ?_
  simp
  refine next_spec f1 (by omega) (by omega) (by omega) fun u m2 u0 u1 f2 => ?_
  simp
  refine next_spec f2 (by omega) (by omega) (by omega) fun w m3 w0 w1 f3 => ?_
  obtain ⟨y, e3, e4, _⟩ := at_of (xs := [PyData.int v, .int (7 + u), .int 1]) w0 (by simpa using w1)
  have hy : ∃ i, y = .int i ∧ 0 ≤ i ∧ i ≤ 10 := by
    simp at e4
    rcases e4 with rfl | rfl | rfl
    · exact ⟨_, rfl, by omega, by omega⟩
    · exact ⟨_, rfl, by omega, by omega⟩
    · exact ⟨_, rfl, by omega, by omega⟩
  obtain ⟨k, rfl, k0, k1⟩ := hy
  simp [e3]
  refine ⟨⟨by omega, by omega⟩, by omega, ?_⟩
  refine wc_inv (Jt (n + 3)) ⟨by simp; omega, by simp; omega, by simp, _, k, rfl, k0, k1, f3.mono (by omega)⟩ ?_ ?_
  · rintro d ys acc r ⟨hl, hl2, ha, m, k, rfl, k0, k1, f⟩
    simp only [List.length_cons] at hl hl2 f
    simp
    refine next_spec f (by omega) (by omega) (by omega) fun v m1 v0 v1 f1 => ?_
    simp
    obtain ⟨c, e1, _, _⟩ := at_of (xs := ("abcdefghijklmnopqrstuvwxyz" : Str).cps.toList) v0 (by
      have : ("abcdefghijklmnopqrstuvwxyz" : Str).cps.toList.length = 26 := by decide +kernel
      omega)
    refine ⟨by decide +kernel, ?_⟩
    rw [e1]
    simp
    refine ⟨by omega, by simp; omega, fun x hx => ?_, m1, k, rfl, k0, k1, Feed.mono f1 (by omega)⟩
    rcases List.mem_append.mp hx with hx | hx
    · exact ha x hx
    · simp at hx
      exact ⟨c, hx⟩
  · rintro acc r ⟨_, hl, ha, m, k, rfl, k0, k1, f⟩
    obtain ⟨l, e1, e2, e3⟩ := ones ha
    have hs := ones_sum e3
    have hj := PySem.W.KT.join_ones l e3
    simp at hl
    simp [e1]
    have hs2 : (l.map Str.length).sum = l.length := hs
    have h0 : (Str.ofString "").length = 0 := by decide
    refine ⟨by rw [h0]; omega, ?_⟩
    generalize hz : Txt.join (Str.ofString "") l = z at hj
    refine next_spec f (by omega) (by omega) (by omega) fun v m1 v0 v1 f1 => ?_
    simp
    by_cases hv : v = 0
    · simp [hv]
      refine next_spec f1 (by omega) (by omega) (by omega) fun w m2 w0 w1 f2 => ?_
      simp
      refine ⟨by omega, ?_⟩
      refine next_spec f2 (by omega) (by omega) (by omega) fun u m3 u0 u1 f3 => ?_
      obtain ⟨y, e5, e6, _⟩ := at_of (xs := [PyData.str "A", .str "0", .str " ", .str "~", .str "Z", .str "-", .str "9"]) u0 (by simpa using u1)
      have hy : ∃ i, y = .str i ∧ i.length = 1 := by
        simp at e6
        rcases e6 with rfl | rfl | rfl | rfl | rfl | rfl | rfl <;> exact ⟨_, rfl, by decide⟩
      obtain ⟨i, rfl, hi⟩ := hy
      have c1 := cutS_length z none (some w)
      have c2 := cutS_length z (some w) none
      have c3 := Str.length_append (cutS z none (some w)) i
      have c4 := Str.length_append (cutS z none (some w) ++ i) (cutS z (some w) none)
      simp [e5]
      refine ⟨by omega, by omega, by omega, ?_⟩
      exact h _ _ (by omega) (f3.mono (by omega))
    · simp [hv]
      exact h _ _ (by omega) (f1.mono (by omega))
def oddL : List D := [.none, .bool true, .bool false, .int 0, .int 1, .tuple [], .list [], .tuple [.str "a"], .list [.str "a"], .str "", .tuple [.int 1], .tuple [.int 1, .int 1, .int 1], .list [.int 1, .int 1], .tuple [.str "a", .int 1], .tuple [.int 1, .none], .tuple [.bool true, .int 1],
  .tuple [.int 2, .bool true], .tuple [.tuple [.int 1], .int 1], .tuple [.int 1, .tuple [.int 1]], .str "ab", .tuple [.int 1, .str "1"], .int 1000000000000000000000000000000000000000]
def Jl (ns : List Int) (xs : List D) (r : DL.Env) : Prop := xs.length ≤ 12 ∧ ∃ m a b c d e f, r = [some (.d (.list (ns.map PyData.int))), some (.own false m), some (.own false (.lst oddL)), a, b, c, d, e, f] ∧ Feed ((12 - xs.length) * 60) m
def Ji (ns : List Int) (m : MO) (xs : List D) (r : DL.Env) : Prop := (∀ d ∈ xs, ∀ z, d = .str z → z.length ≤ 1000) ∧ ∃ a b c d e f, r = [some (.d (.list (ns.map PyData.int))), some (.own false m), some (.own false (.lst oddL)), a, b, c, d, e, f]
theorem odd_ok : ∀ d ∈ oddL, ∀ z, d = .str z → z.length ≤ 1000 := by
  intro d hd z e
  subst e
  simp [oddL] at hd
  rcases hd with rfl | rfl <;> decide
theorem law_w {ns : List Int} : Wf d_law [.d (.list (ns.map PyData.int))] (fun x _ => x = .d (.bool true)) fun _ _ => False := by
  unfold d_law
  rw [wf_runB]
  refine ⟨rfl, ?_⟩
  unfold g_law
  simp
  refine feed_spec fun m f0 => ?_
  simp
  refine ws_forI (Jl ns) ⟨by simp, m, _, _, _, _, _, _, rfl, f0.mono (by simp)⟩ ?_ ?_
  · rintro d ys r ⟨hl, m, a, b, c, d, e, g, rfl, f⟩
    simp only [List.length_cons] at hl f
    simp
    refine text_spec f (by omega) fun z m1 hz f1 => ?_
    simp
    refine number_spec f1 (by omega) fun one m2 f2 => ?_
    simp
    refine number_spec f2 (by omega) fun two m3 f3 => ?_
    simp
    refine next_spec f3 (by omega) (by omega) (by omega) fun v m4 v0 v1 f4 => ?_
    obtain ⟨y, e1, e2, _⟩ := at_of (xs := [PyData.int one, .int two]) (i := if 0 < v then 1 else 0) (by split <;> omega) (by simp; split <;> omega)
    have hy : ∃ i, y = .int i := by
      simp at e2
      rcases e2 with rfl | rfl <;> exact ⟨_, rfl⟩
    obtain ⟨p, rfl⟩ := hy
    simp [e1]
    refine next_spec f4 (by omega) (by simp [oddL]) (by simp [oddL]) fun w m5 w0 w1 f5 => ?_
    obtain ⟨s, e3, e4, _⟩ := at_of (xs := oddL) (i := w) w0 w1
    have hs := odd_ok s e4
    simp [e3]
    refine ws_forI (Ji ns m5) ⟨?_, _, _, _, _, _, _, rfl⟩ ?_ ?_
    · intro d hd z' e
      simp at hd
      rcases hd with rfl | rfl | rfl | rfl | rfl | rfl | rfl | rfl
      · cases e; omega
      · cases e
      · cases e
      · cases e
      · cases e
      · exact hs _ e
      · cases e
      · cases e
    · rintro d zs r ⟨hd, a, b, c, d', e, g, rfl⟩
      have hd0 := hd d List.mem_cons_self
      simp
      refine is_name_spec hd0 ?_
      simp
      refine l_name_due_spec hd0 ?_
      simp
      refine told_spec ?_
      simp
      refine is_times_spec ?_
      simp
      refine l_times_due_spec ?_
      simp
      refine told_spec ?_
      simp
      exact ⟨fun x hx => hd x (List.mem_cons_of_mem _ hx), _, _, _, _, _, _, rfl⟩
    · rintro r ⟨_, a, b, c, d', e, g, rfl⟩
      exact ⟨by omega, m5, _, _, _, _, _, _, rfl, Feed.mono (k := (12 - ys.length) * 60) f5 (by omega)⟩
  · rintro r ⟨_, m, a, b, c, d, e, g, rfl, f⟩
    simp
    refine is_name_spec (fun z e => by cases e; decide) ?_
    have h1 : nameB (.str "abcdefgh") = true := by decide +kernel
    simp [h1]
    refine told_spec ?_
    simp
    refine is_times_spec ?_
    have h2 : timesB (.tuple [.int 1000000, .int 1]) = true := by decide +kernel
    simp [h2]
    exact told_spec (by simp)
theorem law_true (ns : List Int) (hl : ns.length ≤ 63) : ∃ o, d_law [.d (.list (ns.map PyData.int))] = some (.ok (.d (.bool true)), o) := by
  obtain ⟨x, o, h1, h2⟩ := wf_ex (law_w (ns := ns))
  subst h2
  exact ⟨o, h1⟩
end G
open PySem PySem.W PyProof.Rows
set_option maxHeartbeats 0 in
theorem PySem.Challenge.cw_thinnet_k01_names_and_times_holds : PySem.Challenge.rw_thinnet_k01_names_and_times.Holds := by
  w_on; o_law; k_head; (case hw => w_witness2)
  k_fill
  refine DL.walk_G (l := PySem.Challenge.rw_thinnet_k01_names_and_times) (n := 63) (k := 3) (x := "_law_script") (F := G.d_law) rfl (by decide) rfl ⟨rfl, by decide, by decide⟩ (fun w h Y => PySem.W.kIn_of Y) ?F (fun ns hl => G.law_true ns hl)
  case F =>
    intro w mg fa h KX NG hmg
    refine' G.all_mk KX NG hmg ?a_is_whole ?a_is_name ?a_is_times ?a_l_feed ?a_l_next ?a_l_whole ?a_l_text ?a_l_number ?a_l_told ?a_l_name_due ?a_l_times_due ?a_law ?l0 ?c0 ?k0 ?l1 ?c1 ?k1 ?l2 ?c2 ?k2 ?l3 ?c3 ?k3 ?l4 ?c4 ?k4 ?l5 ?c5 ?k5 ?l6 ?c6 ?k6 ?l7 ?c7 ?k7 ?l8 ?c8 ?k8 ?l9 ?c9 ?k9 ?l10 ?c10 ?k10 ?l11 ?c11 ?k11 ?z_len ?z_isinstance ?z_list ?z_tuple ?z_abs ?z_all ?z_sum ?z_max ?z_min ?z_int ?z_bool ?z_str ?z_repr ?z_sorted ?z_dict ?z_set ?z_range ?z_enumerate ?z_zip ?z_reversed ?v_LETTERS ?v_LONGEST_NAME ?v_GREATEST
    (case a_is_whole => k_is); (case a_is_name => k_is); (case a_is_times => k_is); (case a_l_feed => k_is); (case a_l_next => k_is); (case a_l_whole => k_is); (case a_l_text => k_is); (case a_l_number => k_is); (case a_l_told => k_is); (case a_l_name_due => k_is); (case a_l_times_due => k_is); (case a_law => k_is); (case l0 => k_is); (case c0 => k_is); (case k0 => k_is); (case l1 => k_is); (case c1 => k_is); (case k1 => k_is); (case l2 => k_is); (case c2 => k_is); (case k2 => k_is); (case l3 => k_is); (case c3 => k_is); (case k3 => k_is); (case l4 => k_is); (case c4 => k_is); (case k4 => k_is); (case l5 => k_is); (case c5 => k_is); (case k5 => k_is); (case l6 => k_is); (case c6 => k_is); (case k6 => k_is); (case l7 => k_is); (case c7 => k_is); (case k7 => k_is); (case l8 => k_is); (case c8 => k_is); (case k8 => k_is); (case l9 => k_is); (case c9 => k_is); (case k9 => k_is); (case l10 => k_is); (case c10 => k_is); (case k10 => k_is); (case l11 => k_is); (case c11 => k_is); (case k11 => k_is); (case z_len => k_is); (case z_isinstance => k_is); (case z_list => k_is); (case z_tuple => k_is); (case z_abs => k_is); (case z_all => k_is); (case z_sum => k_is); (case z_max => k_is); (case z_min => k_is); (case z_int => k_is); (case z_bool => k_is); (case z_str => k_is); (case z_repr => k_is); (case z_sorted => k_is); (case z_dict => k_is); (case z_set => k_is); (case z_range => k_is); (case z_enumerate => k_is); (case z_zip => k_is); (case z_reversed => k_is); (case v_LETTERS => k_is); (case v_LONGEST_NAME => k_is); (case v_GREATEST => k_is)
