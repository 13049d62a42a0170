import PyProof.Rows.All
import Wide.All
import OpenK.AllK
import Wide.FinOn
import KE.KStateDown
import KE.SortData
import KE.DataEq
import KE.DataCmp
import KE.DataFind
import PyProof.ReprReads
import PyProof.ReprRoads
import HandS.ForMost
import HandS.More
import HandS.Defaults
import HandS.MakeKw
import HandS.MakeKwOnly
import HandS.Flow
import HandS.Style
import HandS.Exc
import HandS.TryOnly
import HandS.ExcOwn
import HandS.WordsExc
import HandS.CallSlots
import HandS.DictComp
import HandS.DictTup
import HandS.Deep
import HandS.IsInst
import HandS.TupAny
import HandS.TupLe
import HandS.TupMul
import HandS.Wide
import HandS.Zip
import HandS.FStr
import HandS.Conv
import HandS.HeadHook4
import HandS.HeadEnd
import HandS.HeadWalk
import KE.KDictCopyH
import KE.KDictSum
import KE.KUnpackStar
import HandS.OwnEq
import HandS.TupSets
import HandS.SetKeys
import HandS.SetBool
import PySem.Challenge.RW_sayloom_k36_whole_deeds_in_either_order
import HandS.Head0
import HandS.Head1
import HandS.Head2
import HandS.HeadHook1
import HandS.HeadHook2
set_option Elab.async false
set_option linter.all false
set_option maxRecDepth 100000
set_option autoImplicit false
set_option maxHeartbeats 0
/-! ## part RA -/
/-! The layer R: values as data or as a numbered object that may change; what holds between them and the hand layer's heap. -/
namespace R
open PySem PySem.Spec
open PyProof.Rows hiding St
open L2

/-- a value: data (never changed), or the n-th object that may change -/
inductive U where
  | d (x : PyData)
  | r (n : Nat)
  | k (x : PyData)
/-- data of the module's own top, the script -/
inductive RepK (K : PySem.W.Frag) (H : Hp) : V → PyData → Prop
  | str (s : Str) : RepK K H (.str s) (.str s)
  | int (i : Int) : RepK K H (.int i) (.int i)
  | tup {a : Addr} {vs : List V} {xs : List PyData} : SqT K (fun _ => none) a vs → vs.length = xs.length → (∀ (i : Nat) (v : V) (x : PyData), vs[i]? = some v → xs[i]? = some x → RepK K H v x) → RepK K H (.ref a) (.tuple xs)
  | lst {a : Addr} {vs : List V} {xs : List PyData} : ((∃ o, H a = some (.frz o (.lst vs))) ∨ SqL K (fun _ => none) a vs) → vs.length = xs.length → (∀ (i : Nat) (v : V) (x : PyData), vs[i]? = some v → xs[i]? = some x → RepK K H v x) → RepK K H (.ref a) (.list xs)
/-- an object that may change -/
inductive MO where
  | lst (us : List U)
  | dct (kvs : List (PyData × U))
  | ins (c : Str) (fs : List (Str × U))
  | dead
  | opq (φ : Heap → Prop) (L : List (Addr × List Key))
abbrev GH := List MO
abbrev MM := List (Addr × Addr)

def kD : Key → PyData
  | .inl i => .int i
  | .inr s => .str s
def tD (ks : List Key) : PyData := .tuple (ks.map kD)

mutual
/-- a value of the layer stands for data; L: the addresses of objects that may change -/
inductive Rep (K : PySem.W.Frag) (H : Hp) (L : Addr → Prop) : V → PyData → Prop
  | non : Rep K H L .non .none
  | bl (b : Bool) : Rep K H L (.bl b) (.bool b)
  | int (i : Int) : Rep K H L (.int i) (.int i)
  | str (s : Str) : Rep K H L (.str s) (.str s)
  | tup {a : Addr} {vs : List V} {xs : List PyData} : H a = some (.tup vs) → Reps K H L vs xs → Rep K H L (.ref a) (.tuple xs)
  | tup0 {a : Addr} : SqT K (fun _ => none) a [] → Rep K H L (.ref a) (.tuple [])
  | lst {a : Addr} {vs : List V} {xs : List PyData} : H a = some (.lst vs) → ¬ L a → Reps K H L vs xs → Rep K H L (.ref a) (.list xs)
  | dK {a : Addr} {o : Obj} {kvs : List (Key × V)} {ks : List (Key)} {vs : List V} {xs : List PyData} : H a = some (.frz o (.dK kvs)) → ks ≠ [] → kvs.map (·.1) = ks → kvs.map (·.2) = vs → Reps K H L vs xs → Rep K H L (.ref a) (.dict ((ks.map kD).zip xs))
  | dT {a : Addr} {o : Obj} {kvs : List ((List Key) × V)} {ks : List (List Key)} {vs : List V} {xs : List PyData} : H a = some (.frz o (.dT kvs)) → kvs.map (·.1) = ks → kvs.map (·.2) = vs → Reps K H L vs xs → Rep K H L (.ref a) (.dict ((ks.map tD).zip xs))
inductive Reps (K : PySem.W.Frag) (H : Hp) (L : Addr → Prop) : List V → List PyData → Prop
  | nil : Reps K H L [] []
  | cons {v : V} {vs : List V} {x : PyData} {xs : List PyData} : Rep K H L v x → Reps K H L vs xs → Reps K H L (v :: vs) (x :: xs)
end

/-- the heap goes on: what may not change stands -/
structure Go (H : Hp) (L : Addr → Prop) (H' : Hp) (L' : Addr → Prop) : Prop where
  keep : ∀ a o, H a = some o → ¬ L a → H' a = some o ∧ ¬ L' a
  tup : ∀ a xs, H a = some (.tup xs) → ¬ L a
  frz : ∀ a o u, H a = some (.frz o u) → ¬ L a
theorem Go.rd {H H' : Hp} {L L' : Addr → Prop} (g : Go H L H' L') {a : Addr} {u : HO} (h : Rd H a u) (n : ¬ L a) : Rd H' a u ∧ ¬ L' a := by
  rcases h with h | ⟨o, h⟩
  · exact ⟨.inl (g.keep a _ h n).1, (g.keep a _ h n).2⟩
  · exact ⟨.inr ⟨o, (g.keep a _ h n).1⟩, (g.keep a _ h n).2⟩
theorem Go.sqT {K : PySem.W.Frag} {H H' : Hp} {L L' : Addr → Prop} (g : Go H L H' L') {a : Addr} {vs : List V} (h : SqT K H a vs) : SqT K H' a vs := by
  rcases h with h | h
  · refine .inl (g.rd h ?_).1
    rcases h with h | ⟨o, h⟩
    · exact g.tup a _ h
    · exact g.frz a _ _ h
  · exact .inr h
mutual
theorem Rep.go {K : PySem.W.Frag} {H H' : Hp} {L L' : Addr → Prop} (g : Go H L H' L') : ∀ {v : V} {x : PyData}, Rep K H L v x → Rep K H' L' v x
  | _, _, .non => .non
  | _, _, .bl b => .bl b
  | _, _, .int i => .int i
  | _, _, .str s => .str s
  | _, _, .tup h r => .tup (g.keep _ _ h (g.tup _ _ h)).1 (Reps.go g r)
  | _, _, .tup0 h => .tup0 h
  | _, _, .lst h n r => .lst (g.keep _ _ h n).1 (g.keep _ _ h n).2 (Reps.go g r)
  | _, _, .dK h n a b r => .dK (g.keep _ _ h (g.frz _ _ _ h)).1 n a b (Reps.go g r)
  | _, _, .dT h a b r => .dT (g.keep _ _ h (g.frz _ _ _ h)).1 a b (Reps.go g r)
theorem Reps.go {K : PySem.W.Frag} {H H' : Hp} {L L' : Addr → Prop} (g : Go H L H' L') : ∀ {vs : List V} {xs : List PyData}, Reps K H L vs xs → Reps K H' L' vs xs
  | _, _, .nil => .nil
  | _, _, .cons h r => .cons (Rep.go g h) (Reps.go g r)
end
theorem RepK.go {K : PySem.W.Frag} {H H' : Hp} {L L' : Addr → Prop} (g : Go H L H' L') {v : V} {x : PyData} (r : RepK K H v x) : RepK K H' v x := by
  induction r with
  | str s => exact .str s
  | int i => exact .int i
  | tup h l _ ih => exact .tup h l ih
  | lst h l _ ih =>
    refine .lst ?_ l ih
    rcases h with ⟨o, h⟩ | h
    · exact .inl ⟨o, (g.keep _ _ h (g.frz _ _ _ h)).1⟩
    · exact .inr h
theorem Reps.length {K : PySem.W.Frag} {H : Hp} {L : Addr → Prop} : ∀ {vs : List V} {xs : List PyData}, Reps K H L vs xs → vs.length = xs.length
  | _, _, .nil => rfl
  | _, _, .cons _ r => congrArg (· + 1) r.length
theorem Reps.get {K : PySem.W.Frag} {H : Hp} {L : Addr → Prop} : ∀ {vs : List V} {xs : List PyData} {i : Nat} {x : PyData}, Reps K H L vs xs → xs[i]? = some x → ∃ v, vs[i]? = some v ∧ Rep K H L v x
  | _, _, 0, _, .cons h _, e => by cases e; exact ⟨_, rfl, h⟩
  | _, _, i + 1, _, .cons _ r, e => Reps.get (i := i) r e
theorem Reps.app {K : PySem.W.Frag} {H : Hp} {L : Addr → Prop} : ∀ {vs ws : List V} {xs ys : List PyData}, Reps K H L vs xs → Reps K H L ws ys → Reps K H L (vs ++ ws) (xs ++ ys)
  | _, _, _, _, .nil, s => s
  | _, _, _, _, .cons h r, s => .cons h (Reps.app r s)
theorem Reps.take {K : PySem.W.Frag} {H : Hp} {L : Addr → Prop} : ∀ {vs : List V} {xs : List PyData} (n : Nat), Reps K H L vs xs → Reps K H L (vs.take n) (xs.take n)
  | _, _, 0, _ => .nil
  | _, _, _ + 1, .nil => .nil
  | _, _, n + 1, .cons h r => .cons h (Reps.take n r)
theorem Reps.drop {K : PySem.W.Frag} {H : Hp} {L : Addr → Prop} : ∀ {vs : List V} {xs : List PyData} (n : Nat), Reps K H L vs xs → Reps K H L (vs.drop n) (xs.drop n)
  | _, _, 0, r => r
  | _, _, _ + 1, .nil => .nil
  | _, _, n + 1, .cons _ r => Reps.drop n r

/-! ### the objects that may change -/
def MO.live : MO → Bool
  | .dead => false
  | _ => true
/-- a stands for an object that may change -/
def Lv (m : MM) (G : GH) (a : Addr) : Prop := ∃ (n : Nat) (p : Addr × Addr) (o : MO), m[n]? = some p ∧ G[n]? = some o ∧ o.live = true ∧ p.1 = a
/-- a value stands for a value -/
def RU (K : PySem.W.Frag) (m : MM) (G : GH) (H : Hp) (v : V) : U → Prop
  | .d x => Rep K H (Lv m G) v x
  | .k x => RepK K H v x
  | .r n => ∃ p, m[n]? = some p ∧ v = .ref p.1
inductive RUs (K : PySem.W.Frag) (m : MM) (G : GH) (H : Hp) : List V → List U → Prop
  | nil : RUs K m G H [] []
  | cons {v : V} {vs : List V} {u : U} {us : List U} : RU K m G H v u → RUs K m G H vs us → RUs K m G H (v :: vs) (u :: us)
def MOk (K : PySem.W.Frag) (m : MM) (G : GH) (H : Hp) (p : Addr × Addr) : MO → Prop
  | .lst us => ∃ vs, H p.1 = some (.lst vs) ∧ RUs K m G H vs us
  | .dct kvs => ∃ vs : List V, RUs K m G H vs (kvs.map (·.2)) ∧
      ((∃ es, H p.1 = some (.dK es) ∧ es.map (fun e => kD e.1) = kvs.map (·.1) ∧ es.map (·.2) = vs) ∨
       (∃ es, H p.1 = some (.dT es) ∧ es.map (fun e => tD e.1) = kvs.map (·.1) ∧ es.map (·.2) = vs))
  | .ins c fs => ∃ es, H p.1 = some (.ins (He.ga K c) p.2 es) ∧ es.map (·.1) = fs.map (·.1) ∧ RUs K m G H (es.map (·.2)) (fs.map (·.2))
  | .dead => True
  | .opq φ L => H p.1 = some (.ext φ) ∧ ∀ q ∈ L, H q.1 = some (.tup (q.2.map kV))
structure Mem (K : PySem.W.Frag) (m : MM) (G : GH) (H : Hp) : Prop where
  len : m.length = G.length
  ok : ∀ (n : Nat) (p : Addr × Addr) (o : MO), m[n]? = some p → G[n]? = some o → MOk K m G H p o
  inj : ∀ (i j : Nat) (p q : Addr × Addr) (o o' : MO), m[i]? = some p → m[j]? = some q → G[i]? = some o → G[j]? = some o' → o.live = true → o'.live = true → p.1 = q.1 → i = j
/-- a step: the places stay, what may not change stands -/
structure Ext (m : MM) (G : GH) (H : Hp) (m' : MM) (G' : GH) (H' : Hp) : Prop where
  pre : ∃ l, m' = m ++ l
  keep : ∀ a o, H a = some o → ¬ Lv m G a → H' a = some o ∧ ¬ Lv m' G' a
theorem Ext.refl {m : MM} {G : GH} {H : Hp} : Ext m G H m G H := ⟨⟨[], by simp⟩, fun _ _ h n => ⟨h, n⟩⟩
theorem Ext.trans {m m1 m2 : MM} {G G1 G2 : GH} {H H1 H2 : Hp} (a : Ext m G H m1 G1 H1) (b : Ext m1 G1 H1 m2 G2 H2) : Ext m G H m2 G2 H2 := by
  obtain ⟨l, rfl⟩ := a.pre
  obtain ⟨l', rfl⟩ := b.pre
  refine ⟨⟨l ++ l', by simp⟩, fun x o h n => ?_⟩
  have q := a.keep x o h n
  exact b.keep x o q.1 q.2
theorem Mem.liveNot {K : PySem.W.Frag} {m : MM} {G : GH} {H : Hp} (M : Mem K m G H) {a : Addr} (h : Lv m G a) : (∃ xs, H a = some (.lst xs)) ∨ (∃ xs, H a = some (.dK xs)) ∨ (∃ xs, H a = some (.dT xs)) ∨ (∃ C dx fs, H a = some (.ins C dx fs)) ∨ ∃ φ, H a = some (.ext φ) := by
  obtain ⟨n, p, o, h1, h2, h3, rfl⟩ := h
  have q := M.ok n p o h1 h2
  cases o with
  | lst us => obtain ⟨vs, e, _⟩ := q; exact .inl ⟨_, e⟩
  | dct kvs =>
    obtain ⟨vs, _, ⟨es, e, _⟩ | ⟨es, e, _⟩⟩ := q
    · exact .inr (.inl ⟨_, e⟩)
    · exact .inr (.inr (.inl ⟨_, e⟩))
  | ins c fs => obtain ⟨es, e, _⟩ := q; exact .inr (.inr (.inr (.inl ⟨_, _, _, e⟩)))
  | dead => cases h3
  | opq φ L => exact .inr (.inr (.inr (.inr ⟨_, q.1⟩)))
theorem Mem.go {K : PySem.W.Frag} {m m' : MM} {G G' : GH} {H H' : Hp} (M : Mem K m G H) (e : Ext m G H m' G' H') : Go H (Lv m G) H' (Lv m' G') := by
  refine ⟨e.keep, fun a xs h l => ?_, fun a o u h l => ?_⟩
  · rcases M.liveNot l with ⟨_, q⟩ | ⟨_, q⟩ | ⟨_, q⟩ | ⟨_, _, _, q⟩ | ⟨_, q⟩ <;> (rw [h] at q; cases q)
  · rcases M.liveNot l with ⟨_, q⟩ | ⟨_, q⟩ | ⟨_, q⟩ | ⟨_, _, _, q⟩ | ⟨_, q⟩ <;> (rw [h] at q; cases q)
theorem RU.ext {K : PySem.W.Frag} {m m' : MM} {G G' : GH} {H H' : Hp} {v : V} {u : U} (r : RU K m G H v u) (M : Mem K m G H) (e : Ext m G H m' G' H') : RU K m' G' H' v u := by
  cases u with
  | d x => exact Rep.go (M.go e) r
  | k x => exact RepK.go (M.go e) r
  | r n =>
    obtain ⟨p, h1, h2⟩ := r
    obtain ⟨l, rfl⟩ := e.pre
    exact ⟨p, by rw [List.getElem?_append_left (List.getElem?_eq_some_iff.mp h1).1]; exact h1, h2⟩
theorem RUs.ext {K : PySem.W.Frag} {m m' : MM} {G G' : GH} {H H' : Hp} (M : Mem K m G H) (e : Ext m G H m' G' H') : ∀ {vs : List V} {us : List U}, RUs K m G H vs us → RUs K m' G' H' vs us
  | _, _, .nil => .nil
  | _, _, .cons a r => .cons (a.ext M e) (RUs.ext M e r)
theorem RUs.length {K : PySem.W.Frag} {m : MM} {G : GH} {H : Hp} : ∀ {vs : List V} {us : List U}, RUs K m G H vs us → vs.length = us.length
  | _, _, .nil => rfl
  | _, _, .cons _ r => congrArg (· + 1) r.length
theorem RUs.get {K : PySem.W.Frag} {m : MM} {G : GH} {H : Hp} : ∀ {vs : List V} {us : List U} {i : Nat} {u : U}, RUs K m G H vs us → us[i]? = some u → ∃ v, vs[i]? = some v ∧ RU K m G H v u
  | _, _, 0, _, .cons h _, e => by cases e; exact ⟨_, rfl, h⟩
  | _, _, i + 1, _, .cons _ r, e => RUs.get (i := i) r e
theorem RUs.app {K : PySem.W.Frag} {m : MM} {G : GH} {H : Hp} : ∀ {vs ws : List V} {xs ys : List U}, RUs K m G H vs xs → RUs K m G H ws ys → RUs K m G H (vs ++ ws) (xs ++ ys)
  | _, _, _, _, .nil, s => s
  | _, _, _, _, .cons h r, s => .cons h (RUs.app r s)
theorem RUs.set {K : PySem.W.Frag} {m : MM} {G : GH} {H : Hp} {v : V} {u : U} (h : RU K m G H v u) : ∀ {vs : List V} {us : List U} (i : Nat), RUs K m G H vs us → RUs K m G H (vs.set i v) (us.set i u)
  | _, _, _, .nil => .nil
  | _, _, 0, .cons _ r => .cons h r
  | _, _, i + 1, .cons a r => .cons a (RUs.set h i r)
theorem RUs.ofReps {K : PySem.W.Frag} {m : MM} {G : GH} {H : Hp} : ∀ {vs : List V} {xs : List PyData}, Reps K H (Lv m G) vs xs → RUs K m G H vs (xs.map .d)
  | _, _, .nil => .nil
  | _, _, .cons h r => .cons h (RUs.ofReps r)
theorem RUs.toReps {K : PySem.W.Frag} {m : MM} {G : GH} {H : Hp} : ∀ {vs : List V} {xs : List PyData}, RUs K m G H vs (xs.map .d) → Reps K H (Lv m G) vs xs
  | _, [], .nil => .nil
  | _, _ :: _, .cons h r => .cons h (RUs.toReps r)

/-! ### what the steps are -/
theorem get_app {α : Type} {l : List α} {x : α} {n : Nat} {y : α} (h : (l ++ [x])[n]? = some y) : (n < l.length ∧ l[n]? = some y) ∨ (n = l.length ∧ y = x) := by
  by_cases hn : n < l.length
  · rw [List.getElem?_append_left hn] at h
    exact .inl ⟨hn, h⟩
  · rw [List.getElem?_append_right (by omega)] at h
    have : n - l.length = 0 := by
      have := (List.getElem?_eq_some_iff.mp h).1
      simp at this
      omega
    rw [this] at h
    exact .inr ⟨by omega, by cases h; rfl⟩
/-- a new object of data -/
theorem Ext.fresh {m : MM} {G : GH} {H : Hp} {p : Addr} {o : HO} (h : H p = none) : Ext m G H m G (upd H p o) :=
  ⟨⟨[], by simp⟩, fun a o' e n => ⟨by rw [upd_ne (ne_of_none e h)]; exact e, n⟩⟩
theorem Mem.fresh {K : PySem.W.Frag} {m : MM} {G : GH} {H : Hp} {p : Addr} {o : HO} (M : Mem K m G H) (h : H p = none) : Mem K m G (upd H p o) := by
  have e := Ext.fresh (m := m) (G := G) (o := o) h
  have ne : ∀ {q : Addr} {y : HO}, H q = some y → upd H p o q = some y := fun h3 => by
    rw [upd_ne (ne_of_none h3 h)]; exact h3
  refine ⟨M.len, fun n q x h1 h2 => ?_, M.inj⟩
  have z := M.ok n q x h1 h2
  cases x with
  | lst us => obtain ⟨vs, a, b⟩ := z; exact ⟨vs, ne a, b.ext M e⟩
  | dct kvs =>
    obtain ⟨vs, b, ⟨es, a, c⟩ | ⟨es, a, c⟩⟩ := z
    · exact ⟨vs, b.ext M e, .inl ⟨es, ne a, c⟩⟩
    · exact ⟨vs, b.ext M e, .inr ⟨es, ne a, c⟩⟩
  | ins c fs => obtain ⟨es, a, b, d⟩ := z; exact ⟨es, ne a, b, d.ext M e⟩
  | dead => trivial
  | opq φ L => exact ⟨ne z.1, fun r hr => ne (z.2 r hr)⟩
theorem Lv.notFree {K : PySem.W.Frag} {m : MM} {G : GH} {H : Hp} (M : Mem K m G H) {p : Addr} (h : H p = none) : ¬ Lv m G p := fun l => by
  rcases M.liveNot l with ⟨_, q⟩ | ⟨_, q⟩ | ⟨_, q⟩ | ⟨_, _, _, q⟩ | ⟨_, q⟩ <;> (rw [h] at q; cases q)
/-- a new object that may change -/
theorem Ext.alloc {m : MM} {G : GH} {H H' : Hp} {p : Addr × Addr} {o : MO} (hl : m.length = G.length) (h0 : H p.1 = none) (k : ∀ a x, H a = some x → H' a = some x) : Ext m G H (m ++ [p]) (G ++ [o]) H' := by
  refine ⟨⟨[p], rfl⟩, fun a x e n => ⟨k a x e, fun ⟨i, p', o', h1, h2, h3, h4⟩ => ?_⟩⟩
  rcases get_app h1 with ⟨hi, h1⟩ | ⟨hi, rfl⟩
  · rw [List.getElem?_append_left (by omega)] at h2
    exact n ⟨i, p', o', h1, h2, h3, h4⟩
  · rw [h4, e] at h0
    cases h0
theorem MOk.ext {K : PySem.W.Frag} {m m' : MM} {G G' : GH} {H H' : Hp} {p : Addr × Addr} {o : MO} (z : MOk K m G H p o) (M : Mem K m G H) (e : Ext m G H m' G' H') (k : ∀ x, H p.1 = some x → H' p.1 = some x) : MOk K m' G' H' p o := by
  cases o with
  | lst us => obtain ⟨vs, a, b⟩ := z; exact ⟨vs, k _ a, b.ext M e⟩
  | dct kvs =>
    obtain ⟨vs, b, ⟨es, a, c⟩ | ⟨es, a, c⟩⟩ := z
    · exact ⟨vs, b.ext M e, .inl ⟨es, k _ a, c⟩⟩
    · exact ⟨vs, b.ext M e, .inr ⟨es, k _ a, c⟩⟩
  | ins c fs => obtain ⟨es, a, b, d⟩ := z; exact ⟨es, k _ a, b, d.ext M e⟩
  | dead => trivial
  | opq φ L => exact ⟨k _ z.1, fun r hr => ((M.go e).keep _ _ (z.2 r hr) ((M.go e).tup _ _ (z.2 r hr))).1⟩
theorem Mem.there {K : PySem.W.Frag} {m : MM} {G : GH} {H : Hp} (M : Mem K m G H) {n : Nat} {p : Addr × Addr} {o : MO} (h1 : m[n]? = some p) (h2 : G[n]? = some o) (h3 : o.live = true) : ∃ x, H p.1 = some x := by
  rcases M.liveNot ⟨n, p, o, h1, h2, h3, rfl⟩ with ⟨_, q⟩ | ⟨_, q⟩ | ⟨_, q⟩ | ⟨_, _, _, q⟩ | ⟨_, q⟩ <;> exact ⟨_, q⟩
theorem Mem.alloc {K : PySem.W.Frag} {m : MM} {G : GH} {H H' : Hp} {p : Addr × Addr} {o : MO} (M : Mem K m G H) (h0 : H p.1 = none) (k : ∀ a x, H a = some x → H' a = some x)
    (new : MOk K (m ++ [p]) (G ++ [o]) H' p o) : Mem K (m ++ [p]) (G ++ [o]) H' := by
  have e : Ext m G H (m ++ [p]) (G ++ [o]) H' := Ext.alloc M.len h0 k
  have hne : ∀ (i : Nat) (q : Addr × Addr) (x : MO), m[i]? = some q → G[i]? = some x → x.live = true → q.1 ≠ p.1 := fun i q x h1 h2 h3 z => by
    obtain ⟨y, hy⟩ := M.there h1 h2 h3
    rw [z, h0] at hy
    cases hy
  have hL := M.len
  refine ⟨by simp [hL], fun n q x h1 h2 => ?_, fun i j q r x y h1 h2 h3 h4 h5 h6 h7 => ?_⟩
  · rcases get_app h1 with ⟨hi, h1⟩ | ⟨hi, rfl⟩
    · rw [List.getElem?_append_left (by omega)] at h2
      exact (M.ok n q x h1 h2).ext M e (fun y => k _ y)
    · rw [hi, hL, List.getElem?_append_right (Nat.le_refl _)] at h2
      simp at h2
      rw [← h2]
      exact new
  · rcases get_app h1 with ⟨hi, a1⟩ | ⟨hi, ei⟩
    · rw [List.getElem?_append_left (by omega)] at h3
      rcases get_app h2 with ⟨hj, a2⟩ | ⟨hj, ej⟩
      · rw [List.getElem?_append_left (by omega)] at h4
        exact M.inj i j q r x y a1 a2 h3 h4 h5 h6 h7
      · rw [ej] at h7
        exact absurd h7 (hne i q x a1 h3 h5)
    · rcases get_app h2 with ⟨hj, a2⟩ | ⟨hj, ej⟩
      · rw [List.getElem?_append_left (by omega)] at h4
        rw [ei] at h7
        exact absurd h7.symm (hne j r y a2 h4 h6)
      · omega
/-- an object that may change is changed (or forgotten: dead) -/
theorem Ext.write {m : MM} {G : GH} {H H' : Hp} {n : Nat} {p : Addr × Addr} {o o' : MO} (h1 : m[n]? = some p) (h2 : G[n]? = some o) (hv : o.live = true) (k : ∀ a, a ≠ p.1 → H' a = H a) : Ext m G H m (G.set n o') H' := by
  refine ⟨⟨[], by simp⟩, fun a x e nl => ?_⟩
  have na : a ≠ p.1 := fun z => nl ⟨n, p, o, h1, h2, hv, z.symm⟩
  refine ⟨by rw [k a na]; exact e, fun ⟨i, q, y, i1, i2, i3, i4⟩ => ?_⟩
  by_cases hi : i = n
  · subst hi
    rw [h1] at i1
    cases i1
    exact na i4.symm
  · rw [List.getElem?_set_ne (Ne.symm hi)] at i2
    exact nl ⟨i, q, y, i1, i2, i3, i4⟩
theorem Mem.write {K : PySem.W.Frag} {m : MM} {G : GH} {H H' : Hp} {n : Nat} {p : Addr × Addr} {o o' : MO} (M : Mem K m G H) (h1 : m[n]? = some p) (h2 : G[n]? = some o) (hv : o.live = true) (k : ∀ a, a ≠ p.1 → H' a = H a)
    (new : MOk K m (G.set n o') H' p o') : Mem K m (G.set n o') H' := by
  have e : Ext m G H m (G.set n o') H' := Ext.write h1 h2 hv k
  have hn : n < G.length := (List.getElem?_eq_some_iff.mp h2).1
  refine ⟨by simp [M.len], fun i q x i1 i2 => ?_, fun i j q r x y i1 i2 i3 i4 i5 i6 i7 => ?_⟩
  · by_cases hi : i = n
    · subst hi
      rw [h1] at i1
      rw [List.getElem?_set_self hn] at i2
      cases i1; cases i2
      exact new
    · rw [List.getElem?_set_ne (Ne.symm hi)] at i2
      cases hx : x.live with
      | true =>
        refine (M.ok i q x i1 i2).ext M e (fun y hy => ?_)
        rw [k q.1 fun z => hi (M.inj i n q p x o i1 h1 i2 h2 hx hv z)]
        exact hy
      | false =>
        cases x with
        | dead => trivial
        | lst us => cases hx
        | dct kvs => cases hx
        | ins c fs => cases hx
        | opq φ L => cases hx
  · have old : ∀ (t : Nat) (z : MO), (G.set n o')[t]? = some z → z.live = true → ∃ z', G[t]? = some z' ∧ z'.live = true := fun t z t1 t2 => by
      by_cases ht : t = n
      · subst ht
        exact ⟨o, h2, hv⟩
      · rw [List.getElem?_set_ne (Ne.symm ht)] at t1
        exact ⟨z, t1, t2⟩
    obtain ⟨x', a1, a2⟩ := old i x i3 i5
    obtain ⟨y', b1, b2⟩ := old j y i4 i6
    exact M.inj i j q r x' y' i1 i2 a1 b1 a2 b2 i7
/-- a list that changes no more is data -/
theorem Mem.freeze {K : PySem.W.Frag} {m : MM} {G : GH} {H : Hp} {n : Nat} {p : Addr × Addr} {xs : List PyData} (M : Mem K m G H) (h1 : m[n]? = some p) (h2 : G[n]? = some (.lst (xs.map .d))) :
    Mem K m (G.set n .dead) H ∧ Ext m G H m (G.set n .dead) H ∧ RU K m (G.set n .dead) H (.ref p.1) (.d (.list xs)) := by
  have e : Ext m G H m (G.set n .dead) H := Ext.write h1 h2 rfl fun _ _ => rfl
  have M' : Mem K m (G.set n .dead) H := M.write h1 h2 rfl (fun _ _ => rfl) trivial
  have hn : n < G.length := (List.getElem?_eq_some_iff.mp h2).1
  obtain ⟨vs, a, b⟩ := M.ok n p _ h1 h2
  refine ⟨M', e, Rep.lst a (fun ⟨i, q, y, i1, i2, i3, i4⟩ => ?_) (RUs.toReps (b.ext M e))⟩
  by_cases hi : i = n
  · subst hi
    rw [List.getElem?_set_self hn] at i2
    cases i2
    cases i3
  · rw [List.getElem?_set_ne (Ne.symm hi)] at i2
    exact hi (M.inj i n q p y _ i1 h1 i2 h2 i3 rfl i4)
/-- a dict that changes no more is locked data -/
theorem Mem.freezeD {K : PySem.W.Frag} {m : MM} {G : GH} {H : Hp} {n : Nat} {p : Addr × Addr} {ds : List (PyData × U)} {xs : List PyData} {u : HO} {od : Obj} (M : Mem K m G H) (h1 : m[n]? = some p) (h2 : G[n]? = some (.dct ds)) (hv : ds.map (·.2) = xs.map .d)
    (hu : H p.1 = some u) (hk : ds = [] → u = .dT []) :
    Mem K m (G.set n .dead) (upd H p.1 (.frz od u)) ∧ Ext m G H m (G.set n .dead) (upd H p.1 (.frz od u)) ∧ RU K m (G.set n .dead) (upd H p.1 (.frz od u)) (.ref p.1) (.d (.dict ((ds.map (·.1)).zip xs))) := by
  have e : Ext m G H m (G.set n .dead) (upd H p.1 (.frz od u)) := Ext.write h1 h2 rfl fun a ha => upd_ne ha
  have M' : Mem K m (G.set n .dead) (upd H p.1 (.frz od u)) := M.write h1 h2 rfl (fun a ha => upd_ne ha) trivial
  refine ⟨M', e, ?_⟩
  obtain ⟨vs, r, d⟩ := M.ok n p _ h1 h2
  rw [hv] at r
  have rr := RUs.toReps (r.ext M e)
  rcases d with ⟨es, a, b, c⟩ | ⟨es, a, b, c⟩
  · rw [hu] at a
    cases a
    have q := Rep.dK (K := K) (H := upd H p.1 (.frz od (.dK es))) (L := Lv m (G.set n .dead)) (a := p.1) (o := od) (kvs := es) upd_same (ks := es.map (·.1)) (vs := es.map (·.2)) (xs := xs) (fun z => ?_) rfl rfl (by rw [c]; exact rr)
    · rw [List.map_map] at q
      have b' : es.map (kD ∘ fun x => x.1) = ds.map (·.1) := b
      rw [b'] at q
      exact q
    · cases es with
      | nil =>
        cases ds with
        | nil => cases hk rfl
        | cons _ _ => cases b
      | cons _ _ => cases z
  · rw [hu] at a
    cases a
    have q := Rep.dT (K := K) (H := upd H p.1 (.frz od (.dT es))) (L := Lv m (G.set n .dead)) (a := p.1) (o := od) (kvs := es) upd_same (ks := es.map (·.1)) (vs := es.map (·.2)) (xs := xs) rfl rfl (by rw [c]; exact rr)
    rw [List.map_map] at q
    have b' : es.map (tD ∘ fun x => x.1) = ds.map (·.1) := b
    rw [b'] at q
    exact q
/-- the last objects are forgotten -/
def U.below (k : Nat) : U → Bool
  | .d _ => true
  | .k _ => true
  | .r n => decide (n < k)
def MO.below (k : Nat) : MO → Bool
  | .lst us => us.all (U.below k)
  | .dct kvs => kvs.all fun p => p.2.below k
  | .ins _ fs => fs.all fun p => p.2.below k
  | .dead => true
  | .opq _ _ => true
theorem Ext.drop {m : MM} {G T : GH} {H : Hp} : Ext (m ++ []) (G ++ T) H (m ++ []) (G ++ T) H := Ext.refl
theorem Lv.drop {m : MM} {G T : GH} {a : Addr} (hl : m.length = (G ++ T).length) (h : Lv (m.take G.length) G a) : Lv m (G ++ T) a := by
  obtain ⟨n, p, o, h1, h2, h3, h4⟩ := h
  have hn : n < G.length := (List.getElem?_eq_some_iff.mp h2).1
  refine ⟨n, p, o, ?_, ?_, h3, h4⟩
  · rw [List.getElem?_take_of_lt hn] at h1
    exact h1
  · rw [List.getElem?_append_left hn]
    exact h2
mutual
theorem Rep.less {K : PySem.W.Frag} {H : Hp} {L L' : Addr → Prop} (g : ∀ a, L' a → L a) : ∀ {v : V} {x : PyData}, Rep K H L v x → Rep K H L' v x
  | _, _, .non => .non
  | _, _, .bl b => .bl b
  | _, _, .int i => .int i
  | _, _, .str s => .str s
  | _, _, .tup h r => .tup h (Reps.less g r)
  | _, _, .tup0 h => .tup0 h
  | _, _, .lst h n r => .lst h (fun z => n (g _ z)) (Reps.less g r)
  | _, _, .dK h n a b r => .dK h n a b (Reps.less g r)
  | _, _, .dT h a b r => .dT h a b (Reps.less g r)
theorem Reps.less {K : PySem.W.Frag} {H : Hp} {L L' : Addr → Prop} (g : ∀ a, L' a → L a) : ∀ {vs : List V} {xs : List PyData}, Reps K H L vs xs → Reps K H L' vs xs
  | _, _, .nil => .nil
  | _, _, .cons h r => .cons (Rep.less g h) (Reps.less g r)
end
theorem RU.drop {K : PySem.W.Frag} {m : MM} {G T : GH} {H : Hp} {v : V} {u : U} (hl : m.length = (G ++ T).length) (r : RU K m (G ++ T) H v u) (hb : u.below G.length = true) : RU K (m.take G.length) G H v u := by
  cases u with
  | d x => exact Rep.less (fun a z => Lv.drop hl z) r
  | k x => exact r
  | r n =>
    obtain ⟨p, h1, h2⟩ := r
    exact ⟨p, by rw [List.getElem?_take_of_lt (of_decide_eq_true hb)]; exact h1, h2⟩
theorem RUs.drop {K : PySem.W.Frag} {m : MM} {G T : GH} {H : Hp} (hl : m.length = (G ++ T).length) : ∀ {vs : List V} {us : List U}, RUs K m (G ++ T) H vs us → us.all (U.below G.length) = true → RUs K (m.take G.length) G H vs us
  | _, _, .nil, _ => .nil
  | _, _, .cons a r, h => by
    rw [List.all_cons, Bool.and_eq_true] at h
    exact .cons (a.drop hl h.1) (RUs.drop hl r h.2)
theorem Mem.drop {K : PySem.W.Frag} {m : MM} {G T : GH} {H : Hp} (M : Mem K m (G ++ T) H) (hb : ∀ o ∈ G, o.below G.length = true) : Mem K (m.take G.length) G H := by
  have hl := M.len
  have g : ∀ {n : Nat} {p : Addr × Addr} {o : MO}, (m.take G.length)[n]? = some p → G[n]? = some o → m[n]? = some p ∧ (G ++ T)[n]? = some o := fun {n p o} h1 h2 => by
    have hn : n < G.length := (List.getElem?_eq_some_iff.mp h2).1
    rw [List.getElem?_take_of_lt hn] at h1
    exact ⟨h1, by rw [List.getElem?_append_left hn]; exact h2⟩
  refine ⟨by rw [List.length_take, hl, List.length_append]; omega, fun n p o h1 h2 => ?_, fun i j p q o o' h1 h2 h3 h4 h5 h6 h7 => ?_⟩
  · have q := g h1 h2
    have z := M.ok n p o q.1 q.2
    have b := hb o (List.mem_of_getElem? h2)
    cases o with
    | lst us => obtain ⟨vs, a, c⟩ := z; exact ⟨vs, a, c.drop hl b⟩
    | dct kvs =>
      have b' : (kvs.map (·.2)).all (U.below G.length) = true := by rw [List.all_map]; exact b
      obtain ⟨vs, c, ⟨es, a, d⟩ | ⟨es, a, d⟩⟩ := z
      · exact ⟨vs, c.drop hl b', .inl ⟨es, a, d⟩⟩
      · exact ⟨vs, c.drop hl b', .inr ⟨es, a, d⟩⟩
    | ins c fs =>
      have b' : (fs.map (·.2)).all (U.below G.length) = true := by rw [List.all_map]; exact b
      obtain ⟨es, a, c, d⟩ := z
      exact ⟨es, a, c, d.drop hl b'⟩
    | dead => trivial
    | opq φ L => exact z
  · have a := g h1 h3
    have b := g h2 h4
    exact M.inj i j p q o o' a.1 b.1 a.2 b.2 h5 h6 h7
theorem Ext.dropped {m0 m : MM} {G0 G T : GH} {H0 H : Hp} (e : Ext m0 G0 H0 m (G ++ T) H) (hl : m.length = (G ++ T).length) (h0 : m0.length ≤ G.length) : Ext m0 G0 H0 (m.take G.length) G H := by
  obtain ⟨l, rfl⟩ := e.pre
  refine ⟨⟨l.take (G.length - m0.length), by rw [List.take_append, List.take_of_length_le h0]⟩, fun a o h n => ?_⟩
  have q := e.keep a o h n
  exact ⟨q.1, fun z => q.2 (Lv.drop hl z)⟩
end R
/-! ## part RB -/
/-! The layer R: what is asked of expressions, tests, arguments, statements, over data and numbered objects. -/
namespace L2
open PySem PySem.Spec
open PyProof.Rows hiding St
theorem PE.imp {X : Cx} {e : Expr} {t t' : TE} (h : PE X e t) (i : ∀ σ H Q, t' σ H Q → t σ H Q) : PE X e t' := ⟨fun pins s σ H Q I q => h.run pins s σ H Q I (i σ H Q q)⟩
theorem PT.imp {X : Cx} {e : Expr} {t t' : TT} (h : PT X e t) (i : ∀ σ H Q, t' σ H Q → t σ H Q) : PT X e t' := ⟨fun pins s σ H Q I q => h.run pins s σ H Q I (i σ H Q q)⟩
theorem PW.imp {X : Cx} {e : Expr} {t t' : TT} (h : PW X e t) (i : ∀ σ H Q, t' σ H Q → t σ H Q) : PW X e t' := ⟨fun whole pins s σ H Q I q => h.run whole pins s σ H Q I (i σ H Q q)⟩
theorem PA.imp {X : Cx} {e : List Expr} {t t' : TA} (h : PA X e t) (i : ∀ σ H Q, t' σ H Q → t σ H Q) : PA X e t' := ⟨fun pos pins s σ H Q I q => h.run pos pins s σ H Q I (i σ H Q q)⟩
theorem PK.imp {X : Cx} {e : List Keyword} {t t' : TA} (h : PK X e t) (i : ∀ σ H Q, t' σ H Q → t σ H Q) : PK X e t' := ⟨fun pos pins s σ H Q I q => h.run pos pins s σ H Q I (i σ H Q q)⟩
theorem PS.imp {X : Cx} {e : Stmt} {t t' : TS} (h : PS X e t) (i : ∀ D σ H, t' D σ H → t D σ H) : PS X e t' := ⟨fun pins s σ H D I q => h.run pins s σ H D I (i D σ H q)⟩
theorem PSs.imp {X : Cx} {e : List Stmt} {t t' : TS} (h : PSs X e t) (i : ∀ D σ H, t' D σ H → t D σ H) : PSs X e t' := ⟨fun pins s σ H D I q => h.run pins s σ H D I (i D σ H q)⟩
end L2
namespace R
open PySem PySem.Spec
open PyProof.Rows hiding St
open L2

abbrev SS := List (Option U)
def StOk (K : PySem.W.Frag) (m : MM) (G : GH) (H : Hp) (σ : St) (ss : SS) : Prop := σ.length = ss.length ∧ ∀ (i : Nat) (u : U), ss[i]? = some (some u) → ∃ v, σ[i]? = some (some v) ∧ RU K m G H v u
theorem StOk.ext {K : PySem.W.Frag} {m m' : MM} {G G' : GH} {H H' : Hp} {σ : St} {ss : SS} (S : StOk K m G H σ ss) (M : Mem K m G H) (e : Ext m G H m' G' H') : StOk K m' G' H' σ ss :=
  ⟨S.1, fun i u h => let ⟨v, a, b⟩ := S.2 i u h; ⟨v, a, b.ext M e⟩⟩
/-- an exception: its class, its fields -/
structure Exn where
  cls : Str
  fs : List (Str × U)
def XRep (K : PySem.W.Frag) (m : MM) (G : GH) (H : Hp) (x : Exn) (c : Value) (d : Option Addr) : Prop :=
  c = .ref (He.ga K x.cls) ∧ ((x.fs = [] ∧ d = none) ∨ ∃ (dx : Addr) (es : List (Str × V)), d = some dx ∧ H dx = some (.xd es) ∧ ¬ Lv m G dx ∧ es.map (·.1) = x.fs.map (·.1) ∧ RUs K m G H (es.map (·.2)) (x.fs.map (·.2)))
abbrev PU := U → GH → Prop
abbrev PX := Exn → GH → Prop
abbrev WE := SS → GH → PU → PX → Prop
abbrev WT := SS → GH → (Bool → GH → Prop) → PX → Prop
abbrev WA := SS → GH → (List U → GH → Prop) → PX → Prop
/-- what is wanted of an exception -/
def OkX (K : PySem.W.Frag) (W : WX) (m : MM) (G : GH) (H : Hp) (σ : St) (p : PX) : Prop :=
  ∀ (x : Exn) (G' : GH) (c : Value) (d : Option Addr) (m' : MM) (H' : Hp), p x G' → Ext m G H m' G' H' → Mem K m' G' H' → XRep K m' G' H' x c d → W c d σ H'
theorem OkX.ext {K : PySem.W.Frag} {W : WX} {m m1 : MM} {G G1 : GH} {H H1 : Hp} {σ : St} {p : PX} (h : OkX K W m G H σ p) (e : Ext m G H m1 G1 H1) : OkX K W m1 G1 H1 σ p :=
  fun x G' c d m' H' a b M r => h x G' c d m' H' a (e.trans b) M r
def tE (K : PySem.W.Frag) (W : WX) (φ : WE) : TE := fun σ H Q => ∃ (m : MM) (G : GH) (ss : SS) (P : PU) (p : PX), Mem K m G H ∧ StOk K m G H σ ss ∧ φ ss G P p ∧ OkX K W m G H σ p ∧
  ∀ (u : U) (G' : GH) (v : V) (m' : MM) (H' : Hp), P u G' → Ext m G H m' G' H' → Mem K m' G' H' → RU K m' G' H' v u → Q v H'
def tT (K : PySem.W.Frag) (W : WX) (φ : WT) : TT := fun σ H Q => ∃ (m : MM) (G : GH) (ss : SS) (P : Bool → GH → Prop) (p : PX), Mem K m G H ∧ StOk K m G H σ ss ∧ φ ss G P p ∧ OkX K W m G H σ p ∧
  ∀ (b : Bool) (G' : GH) (m' : MM) (H' : Hp), P b G' → Ext m G H m' G' H' → Mem K m' G' H' → Q b H'
def tA (K : PySem.W.Frag) (W : WX) (φ : WA) : TA := fun σ H Q => ∃ (m : MM) (G : GH) (ss : SS) (P : List U → GH → Prop) (p : PX), Mem K m G H ∧ StOk K m G H σ ss ∧ φ ss G P p ∧ OkX K W m G H σ p ∧
  ∀ (us : List U) (G' : GH) (vs : List V) (m' : MM) (H' : Hp), P us G' → Ext m G H m' G' H' → Mem K m' G' H' → RUs K m' G' H' vs us → Q vs H'


/-! ### expressions: the readings -/
def eVar (i : Nat) : WE := fun ss G P _ => match ss[i]? with
  | some (some u) => P u G
  | _ => False
def eC (x : PyData) : WE := fun _ G P _ => P (.d x) G
abbrev G2 := U → U → GH → PU → Prop
abbrev G1 := U → GH → PU → Prop
def eOp (g : G2) (a b : WE) : WE := fun ss G P p => a ss G (fun x G1 => b ss G1 (fun y G2 => g x y G2 P) p) p
def eUn (g : G1) (a : WE) : WE := fun ss G P p => a ss G (fun x G1 => g x G1 P) p
def eIf (c : WT) (a b : WE) : WE := fun ss G P p => c ss G (fun k G1 => if k = true then a ss G1 P p else b ss G1 P p) p
def eAnd (a b : WE) : WE := fun ss G P p => a ss G (fun x G1 => match x with
  | .d (.bool true) => b ss G1 P p
  | .d (.bool false) => P (.d (.bool false)) G1
  | _ => False) p
def eOr (a b : WE) : WE := fun ss G P p => a ss G (fun x G1 => match x with
  | .d (.bool true) => P (.d (.bool true)) G1
  | .d (.bool false) => b ss G1 P p
  | _ => False) p
def eNot (a : WE) : WE := fun ss G P p => a ss G (fun x G1 => match x with
  | .d (.bool b) => P (.d (.bool (!b))) G1
  | _ => False) p
/-- a op b op' c -/
def eChain (g g' : G2) (a b c : WE) : WE := fun ss G P p => a ss G (fun x G1 => b ss G1 (fun y G2 => g x y G2 fun z G3 => match z with
  | .d (.bool true) => c ss G3 (fun w G4 => g' y w G4 P) p
  | .d (.bool false) => P (.d (.bool false)) G3
  | _ => False) p) p
def cTest (a : WE) : WT := fun ss G P p => a ss G (fun x G1 => match x with
  | .d (.bool b) => P b G1
  | _ => False) p
def cAnd (a b : WT) : WT := fun ss G P p => a ss G (fun k G1 => if k = true then b ss G1 P p else P false G1) p
def cOr (a b : WT) : WT := fun ss G P p => a ss G (fun k G1 => if k = true then P true G1 else b ss G1 P p) p
def cNot (a : WT) : WT := fun ss G P p => a ss G (fun k G1 => P (!k) G1) p
def aNil : WA := fun _ G P _ => P [] G
def aCons (a : WE) (r : WA) : WA := fun ss G P p => a ss G (fun x G1 => r ss G1 (fun xs G2 => P (x :: xs) G2) p) p
/-- a tuple of data -/
def dataOf : List U → Option (List PyData)
  | [] => some []
  | .d x :: r => (dataOf r).map (x :: ·)
  | .r _ :: _ => none
  | .k _ :: _ => none
theorem dataOf_eq : ∀ {us : List U} {xs : List PyData}, dataOf us = some xs → us = xs.map .d
  | [], _, h => by cases h; rfl
  | .d x :: r, _, h => by
    unfold dataOf at h
    obtain ⟨ys, h1, rfl⟩ := Option.map_eq_some_iff.mp h
    rw [dataOf_eq h1]; rfl
  | .r _ :: _, _, h => by cases h
  | .k _ :: _, _, h => by cases h
theorem dataOf_map : ∀ xs : List PyData, dataOf (xs.map .d) = some xs
  | [] => rfl
  | x :: xs => by show (dataOf (xs.map .d)).map (x :: ·) = _; rw [dataOf_map xs]; rfl
def eTup (t : WA) : WE := fun ss G P p => t ss G (fun us G1 => us.length ≤ sizeLine ∧ match dataOf us with
  | some xs => P (.d (.tuple xs)) G1
  | none => False) p
/-- a list that never changes -/
def eLst (t : WA) : WE := fun ss G P p => t ss G (fun us G1 => us.length ≤ sizeLine ∧ match dataOf us with
  | some xs => P (.d (.list xs)) G1
  | none => False) p
/-- a list that may change -/
def eLstH (t : WA) : WE := fun ss G P p => t ss G (fun us G1 => us.length ≤ sizeLine ∧ P (.r G1.length) (G1 ++ [.lst us])) p

/-! ### expressions: the rules -/
section
variable {X : Cx} {W : WX} {e a b c : Expr} {pos : Pos} {φ φa φb φc : WE} {τ τa τb : WT}
theorem r_var (i : Nat) {x : Str} (hN : X.N[i]? = some x := by rfl) (hv : Vis X.env.scope x := by first | exact Or.inl rfl | exact Or.inr (Or.inl rfl) | exact Or.inr (Or.inr rfl)) (hd : (x == ("__debug__" : Str)) = false := by decide)
    (hcd : (x == ("__classdict__" : Str)) = false := by decide) : PE X (.Name x pos) (tE X.K W (eVar i)) := (pe_var hN hv hd hcd).imp fun σ H Q ⟨m, G, ss, P, p, M, S, h, _, q⟩ => by
  unfold eVar at h
  split at h
  · rename_i u hu
    obtain ⟨v, a, b⟩ := S.2 i u hu
    exact ⟨v, a, q u G v m H h Ext.refl M b⟩
  · exact h.elim
theorem r_const {v : V} {x : PyData} (h : PE X e (tC v)) (r : ∀ H L, Rep X.K H L v x) : PE X e (tE X.K W (eC x)) := h.imp fun σ H Q ⟨m, G, ss, P, p, M, S, h, _, q⟩ => q _ G v m H h Ext.refl M (r H _)
theorem r_int {i : Int} {j : Nat} : PE X (.Constant (.int i) j pos) (tE X.K W (eC (.int i))) := r_const pe_int fun _ _ => .int i
theorem r_bl {k : Bool} {j : Nat} : PE X (.Constant (.bool k) j pos) (tE X.K W (eC (.bool k))) := r_const pe_bl fun _ _ => .bl k
theorem r_non {j : Nat} : PE X (.Constant .none j pos) (tE X.K W (eC .none)) := r_const pe_non fun _ _ => .non
theorem r_str {z : Str} {j : Nat} : PE X (.Constant (.str z) j pos) (tE X.K W (eC (.str z))) := r_const pe_str fun _ _ => .str z
/-- a constant of the module -/
theorem r_glob {x : Str} {v : V} {u : Value} {d : PyData} (hm : X.mg x = some u) (r : RelV v u) (rd : ∀ H L, Rep X.K H L v d) (hg : Gl X x := by rfl) (hd : (x == ("__debug__" : Str)) = false := by decide) : PE X (.Name x pos) (tE X.K W (eC d)) := r_const (pe_glob hg hm r hd) rd

/-- an operation by values -/
def rG2 (K : PySem.W.Frag) (g : G2) : R2 := fun x y H Q => ∃ (m : MM) (G : GH) (u w : U) (P : PU), Mem K m G H ∧ RU K m G H x u ∧ RU K m G H y w ∧ g u w G P ∧
  ∀ (z : U) (G' : GH) (v : V) (m' : MM) (H' : Hp), P z G' → Ext m G H m' G' H' → Mem K m' G' H' → RU K m' G' H' v z → Q v H'
def rG1 (K : PySem.W.Frag) (g : G1) : V → Hp → VK → Prop := fun x H Q => ∃ (m : MM) (G : GH) (u : U) (P : PU), Mem K m G H ∧ RU K m G H x u ∧ g u G P ∧
  ∀ (z : U) (G' : GH) (v : V) (m' : MM) (H' : Hp), P z G' → Ext m G H m' G' H' → Mem K m' G' H' → RU K m' G' H' v z → Q v H'
theorem tOp_of {g : G2} {σ : St} {H : Hp} {Q : VK} (h : tE X.K W (eOp g φa φb) σ H Q) : tOp (rG2 X.K g) (tE X.K W φa) (tE X.K W φb) σ H Q := by
  obtain ⟨m, G, ss, P, p, M, S, h, hx, q⟩ := h
  refine ⟨m, G, ss, _, p, M, S, h, hx, fun u G1 v m1 H1 p1 e1 M1 r1 => ⟨m1, G1, ss, _, p, M1, S.ext M e1, p1, hx.ext e1, fun w G2 v2 m2 H2 p2 e2 M2 r2 => ⟨m2, G2, u, w, P, M2, r1.ext M1 e2, r2, p2, fun z G' v' m' H' pz e' M' r' => ?_⟩⟩⟩
  exact q z G' v' m' H' pz ((e1.trans e2).trans e') M' r'
theorem r_op {op : Operator} {g : G2} (ho : OpR X (binaryOp op) (rG2 X.K g)) (ha : PE X a (tE X.K W φa)) (hb : PE X b (tE X.K W φb)) : PE X (.BinOp a op b pos) (tE X.K W (eOp g φa φb)) := (pe_op ho ha hb).imp fun _ _ _ h => tOp_of h
theorem tUn_of {g : G1} {σ : St} {H : Hp} {Q : VK} (h : tE X.K W (eUn g φa) σ H Q) : tUn (rG1 X.K g) (tE X.K W φa) σ H Q := by
  obtain ⟨m, G, ss, P, p, M, S, h, hx, q⟩ := h
  exact ⟨m, G, ss, _, p, M, S, h, hx, fun u G1 v m1 H1 p1 e1 M1 r1 => ⟨m1, G1, u, P, M1, r1, p1, fun z G' v' m' H' pz e' M' r' => q z G' v' m' H' pz (e1.trans e') M' r'⟩⟩
theorem r_un {op : UnaryOp} {g : G1} (ho : UnR X (unaryOp op) (rG1 X.K g)) (ha : PE X a (tE X.K W φa)) : PE X (.UnaryOp op a pos) (tE X.K W (eUn g φa)) := (pe_un ho ha).imp fun _ _ _ h => tUn_of h
theorem r_cmp {op : CmpOp} {g : G2} (ho : OpR X (compareOp op) (rG2 X.K g)) (ha : PE X a (tE X.K W φa)) (hb : PE X b (tE X.K W φb)) (hm : behindInMarks op b = false := by first | exact nobehind _ (by decide) (by decide) | rfl) : PE X (.Compare a [op] [b] pos) (tE X.K W (eOp g φa φb)) := (pe_cmpR ho ha hb hm).imp fun _ _ _ h => tOp_of h
theorem tTest_of {t : TE} {σ : St} {H : Hp} {Q : Bool → Hp → Prop} (i : ∀ σ H Q, tE X.K W φ σ H Q → t σ H Q) (h : tT X.K W (cTest φ) σ H Q) : tTest t σ H Q := by
  obtain ⟨m, G, ss, P, p, M, S, h, hx, q⟩ := h
  refine i σ H _ ⟨m, G, ss, _, p, M, S, h, hx, fun u G1 v m1 H1 p1 e1 M1 r1 => ?_⟩
  split at p1
  · cases r1
    exact ⟨_, rfl, q _ G1 m1 H1 p1 e1 M1⟩
  · exact p1.elim
theorem r_tcmp {op : CmpOp} {g : G2} (ho : OpR X (compareOp op) (rG2 X.K g)) (ha : PE X a (tE X.K W φa)) (hb : PE X b (tE X.K W φb)) (hm : behindInMarks op b = false := by first | exact nobehind _ (by decide) (by decide) | rfl) : PT X (.Compare a [op] [b] pos) (tT X.K W (cTest (eOp g φa φb))) :=
  (pt_cmpR ho ha hb hm).imp fun _ _ _ h => tTest_of (fun _ _ _ h => tOp_of h) h
theorem tChain_of {g g' : G2} {σ : St} {H : Hp} {Q : VK} (h : tE X.K W (eChain g g' φa φb φc) σ H Q) : tChain (rG2 X.K g) (rG2 X.K g') (tE X.K W φa) (tE X.K W φb) (tE X.K W φc) σ H Q := by
  obtain ⟨m, G, ss, P, p, M, S, h, hx, q⟩ := h
  refine ⟨m, G, ss, _, p, M, S, h, hx, fun u G1 v m1 H1 p1 e1 M1 r1 => ⟨m1, G1, ss, _, p, M1, S.ext M e1, p1, hx.ext e1, fun w G2 v2 m2 H2 p2 e2 M2 r2 => ⟨m2, G2, u, w, _, M2, r1.ext M1 e2, r2, p2, fun z G3 v3 m3 H3 p3 e3 M3 r3 => ?_⟩⟩⟩
  have e13 := (e1.trans e2).trans e3
  split at p3
  · cases r3
    refine ⟨true, rfl, ?_⟩
    rw [if_pos rfl]
    exact ⟨m3, G3, ss, _, p, M3, S.ext M e13, p3, hx.ext e13, fun y G4 v4 m4 H4 p4 e4 M4 r4 => ⟨m4, G4, w, y, P, M4, (r2.ext M2 e3).ext M3 e4, r4, p4, fun z G' v' m' H' pz e' M' r' => q z G' v' m' H' pz ((e13.trans e4).trans e') M' r'⟩⟩
  · cases r3
    refine ⟨false, rfl, ?_⟩
    rw [if_neg Bool.false_ne_true]
    exact q _ G3 _ m3 H3 p3 e13 M3 (.bl false)
  · exact p3.elim
theorem r_chain {op op' : CmpOp} {g g' : G2} (ho : OpR X (compareOp op) (rG2 X.K g)) (ho' : OpR X (compareOp op') (rG2 X.K g')) (ha : PE X a (tE X.K W φa)) (hb : PE X b (tE X.K W φb)) (hc : PE X c (tE X.K W φc)) (hm : lastMarks [op, op'] [b, c] = false := by with_unfolding_all rfl) :
    PE X (.Compare a [op, op'] [b, c] pos) (tE X.K W (eChain g g' φa φb φc)) := (pe_chain ho ho' ha hb hc hm).imp fun _ _ _ h => tChain_of h
theorem r_tchain {op op' : CmpOp} {g g' : G2} (ho : OpR X (compareOp op) (rG2 X.K g)) (ho' : OpR X (compareOp op') (rG2 X.K g')) (ha : PE X a (tE X.K W φa)) (hb : PE X b (tE X.K W φb)) (hc : PE X c (tE X.K W φc)) (hm : lastMarks [op, op'] [b, c] = false := by with_unfolding_all rfl) :
    PT X (.Compare a [op, op'] [b, c] pos) (tT X.K W (cTest (eChain g g' φa φb φc))) := (pt_chain ho ho' ha hb hc hm).imp fun _ _ _ h => tTest_of (fun _ _ _ h => tChain_of h) h
/-- an expression that gives a truth value, as a test -/
theorem r_tval (ha : PE X a (tE X.K W φ)) (he : ∀ whole, isTrue a X.env whole = (do let v ← whole; standAt a.pos; holding [v] (truthy v)) := by intro _; rfl) : PT X a (tT X.K W (cTest φ)) := (pt_val ha he).imp fun _ _ _ h => tTest_of (fun _ _ _ h => h) h
theorem tAnd_of {σ : St} {H : Hp} {Q : Bool → Hp → Prop} (h : tT X.K W (cAnd τa τb) σ H Q) : tAnd (tT X.K W τa) (tT X.K W τb) σ H Q := by
  obtain ⟨m, G, ss, P, p, M, S, h, hx, q⟩ := h
  refine ⟨m, G, ss, _, p, M, S, h, hx, fun k G1 m1 H1 p1 e1 M1 => ?_⟩
  split at p1
  · rename_i hk
    rw [if_pos hk]
    exact ⟨m1, G1, ss, P, p, M1, S.ext M e1, p1, hx.ext e1, fun k' G2 m2 H2 p2 e2 M2 => q k' G2 m2 H2 p2 (e1.trans e2) M2⟩
  · rename_i hk
    rw [if_neg hk]
    exact q _ G1 m1 H1 p1 e1 M1
theorem tOr_of {σ : St} {H : Hp} {Q : Bool → Hp → Prop} (h : tT X.K W (cOr τa τb) σ H Q) : tOr (tT X.K W τa) (tT X.K W τb) σ H Q := by
  obtain ⟨m, G, ss, P, p, M, S, h, hx, q⟩ := h
  refine ⟨m, G, ss, _, p, M, S, h, hx, fun k G1 m1 H1 p1 e1 M1 => ?_⟩
  split at p1
  · rename_i hk
    rw [if_pos hk]
    exact q _ G1 m1 H1 p1 e1 M1
  · rename_i hk
    rw [if_neg hk]
    exact ⟨m1, G1, ss, P, p, M1, S.ext M e1, p1, hx.ext e1, fun k' G2 m2 H2 p2 e2 M2 => q k' G2 m2 H2 p2 (e1.trans e2) M2⟩
theorem tNot_of {σ : St} {H : Hp} {Q : Bool → Hp → Prop} (h : tT X.K W (cNot τa) σ H Q) : tNot (tT X.K W τa) σ H Q := by
  obtain ⟨m, G, ss, P, p, M, S, h, hx, q⟩ := h
  exact ⟨m, G, ss, _, p, M, S, h, hx, fun k G1 m1 H1 p1 e1 M1 => q _ G1 m1 H1 p1 e1 M1⟩
variable {rest : List Expr}
theorem r_and1 (ha : PT X a (tT X.K W τ)) : PW X (.BoolOp .And [a] pos) (tT X.K W τ) := pw_and1 ha
theorem r_or1 (ha : PT X a (tT X.K W τ)) : PW X (.BoolOp .Or [a] pos) (tT X.K W τ) := pw_or1 ha
theorem r_and (ha : PT X a (tT X.K W τa)) (hb : PW X (.BoolOp .And (b :: rest) pos) (tT X.K W τb)) : PW X (.BoolOp .And (a :: b :: rest) pos) (tT X.K W (cAnd τa τb)) := (pw_and ha hb).imp fun _ _ _ h => tAnd_of h
theorem r_or (ha : PT X a (tT X.K W τa)) (hb : PW X (.BoolOp .Or (b :: rest) pos) (tT X.K W τb)) : PW X (.BoolOp .Or (a :: b :: rest) pos) (tT X.K W (cOr τa τb)) := (pw_or ha hb).imp fun _ _ _ h => tOr_of h
theorem r_not (ha : PT X a (tT X.K W τa)) : PT X (.UnaryOp .Not a pos) (tT X.K W (cNot τa)) := (pt_not ha).imp fun _ _ _ h => tNot_of h
theorem r_ifx (hc : PT X c (tT X.K W τ)) (ha : PE X a (tE X.K W φa)) (hb : PE X b (tE X.K W φb)) : PE X (.IfExp c a b pos) (tE X.K W (eIf τ φa φb)) := (pe_ifExp hc ha hb).imp fun σ H Q ⟨m, G, ss, P, p, M, S, h, hx, q⟩ => by
  refine ⟨m, G, ss, _, p, M, S, h, hx, fun k G1 m1 H1 p1 e1 M1 => ?_⟩
  split at p1
  · rename_i hk
    rw [if_pos hk]
    exact ⟨m1, G1, ss, P, p, M1, S.ext M e1, p1, hx.ext e1, fun u G2 v m2 H2 p2 e2 M2 r2 => q u G2 v m2 H2 p2 (e1.trans e2) M2 r2⟩
  · rename_i hk
    rw [if_neg hk]
    exact ⟨m1, G1, ss, P, p, M1, S.ext M e1, p1, hx.ext e1, fun u G2 v m2 H2 p2 e2 M2 r2 => q u G2 v m2 H2 p2 (e1.trans e2) M2 r2⟩
/-- and, or, not as values -/
theorem r_one {op : BoolOp} (h : PE X a (tE X.K W φ)) : PE X (.BoolOp op [a] pos) (tE X.K W φ) := pe_one h
theorem r_andV (ha : PE X a (tE X.K W φa)) (hb : PE X (.BoolOp .And (b :: rest) pos) (tE X.K W φb)) : PE X (.BoolOp .And (a :: b :: rest) pos) (tE X.K W (eAnd φa φb)) := (pe_and ha hb).imp fun σ H Q ⟨m, G, ss, P, p, M, S, h, hx, q⟩ => by
  refine ⟨m, G, ss, _, p, M, S, h, hx, fun u G1 v m1 H1 p1 e1 M1 r1 => ?_⟩
  split at p1
  · cases r1
    refine ⟨true, rfl, ?_⟩
    rw [if_pos rfl]
    exact ⟨m1, G1, ss, P, p, M1, S.ext M e1, p1, hx.ext e1, fun u G2 v m2 H2 p2 e2 M2 r2 => q u G2 v m2 H2 p2 (e1.trans e2) M2 r2⟩
  · cases r1
    refine ⟨false, rfl, ?_⟩
    rw [if_neg Bool.false_ne_true]
    exact q _ G1 _ m1 H1 p1 e1 M1 (.bl false)
  · exact p1.elim
theorem r_orV (ha : PE X a (tE X.K W φa)) (hb : PE X (.BoolOp .Or (b :: rest) pos) (tE X.K W φb)) : PE X (.BoolOp .Or (a :: b :: rest) pos) (tE X.K W (eOr φa φb)) := (pe_or ha hb).imp fun σ H Q ⟨m, G, ss, P, p, M, S, h, hx, q⟩ => by
  refine ⟨m, G, ss, _, p, M, S, h, hx, fun u G1 v m1 H1 p1 e1 M1 r1 => ?_⟩
  split at p1
  · cases r1
    refine ⟨true, rfl, ?_⟩
    rw [if_pos rfl]
    exact q _ G1 _ m1 H1 p1 e1 M1 (.bl true)
  · cases r1
    refine ⟨false, rfl, ?_⟩
    rw [if_neg Bool.false_ne_true]
    exact ⟨m1, G1, ss, P, p, M1, S.ext M e1, p1, hx.ext e1, fun u G2 v m2 H2 p2 e2 M2 r2 => q u G2 v m2 H2 p2 (e1.trans e2) M2 r2⟩
  · exact p1.elim
theorem r_notV (ha : PE X a (tE X.K W φa)) : PE X (.UnaryOp .Not a pos) (tE X.K W (eNot φa)) := (pe_not ha).imp fun σ H Q ⟨m, G, ss, P, p, M, S, h, hx, q⟩ => by
  refine ⟨m, G, ss, _, p, M, S, h, hx, fun u G1 v m1 H1 p1 e1 M1 r1 => ?_⟩
  split at p1
  · cases r1
    exact ⟨_, rfl, q _ G1 _ m1 H1 p1 e1 M1 (.bl _)⟩
  · exact p1.elim
end

/-! ### arguments, displays -/
section
variable {X : Cx} {W : WX} {e : Expr} {es : List Expr} {pos kpos : Pos} {φ : WE} {α : WA}
theorem tCons_of {σ : St} {H : Hp} {Q : List V → Hp → Prop} (h : tA X.K W (aCons φ α) σ H Q) : tCons (tE X.K W φ) (tA X.K W α) σ H Q := by
  obtain ⟨m, G, ss, P, p, M, S, h, hx, q⟩ := h
  exact ⟨m, G, ss, _, p, M, S, h, hx, fun u G1 v m1 H1 p1 e1 M1 r1 => ⟨m1, G1, ss, _, p, M1, S.ext M e1, p1, hx.ext e1, fun us G2 vs m2 H2 p2 e2 M2 r2 => q (u :: us) G2 (v :: vs) m2 H2 p2 (e1.trans e2) M2 (.cons (r1.ext M1 e2) r2)⟩⟩
theorem tNil_of {σ : St} {H : Hp} {Q : List V → Hp → Prop} (h : tA X.K W aNil σ H Q) : tNil σ H Q := by
  obtain ⟨m, G, ss, P, p, M, S, h, hx, q⟩ := h
  exact q [] G [] m H h Ext.refl M .nil
theorem r_anil : PA X [] (tA X.K W aNil) := pa_nil.imp fun _ _ _ h => tNil_of h
theorem r_acons (ha : PE X e (tE X.K W φ)) (hr : PA X es (tA X.K W α)) (hs : starEach (e :: es) X.env = (false, eval e X.env) :: starEach es X.env := by rfl) : PA X (e :: es) (tA X.K W (aCons φ α)) := (pa_cons ha hr hs).imp fun _ _ _ h => tCons_of h
theorem r_knil : PK X [] (tA X.K W aNil) := pk_nil.imp fun _ _ _ h => tNil_of h
theorem r_kcons {nm : Option Str} {kws : List Keyword} (ha : PE X e (tE X.K W φ)) (hr : PK X kws (tA X.K W α)) : PK X (⟨nm, e, kpos⟩ :: kws) (tA X.K W (aCons φ α)) := (pk_cons ha hr).imp fun _ _ _ h => tCons_of h
theorem r_tup {x1 : Nat} (h : PA X es (tA X.K W α)) : PE X (.Tuple es x1 pos) (tE X.K W (eTup α)) := (pe_tup h).imp fun σ H Q ⟨m, G, ss, P, p, M, S, h, hx, q⟩ => by
  refine ⟨m, G, ss, _, p, M, S, h, hx, fun us G1 vs m1 H1 p1 e1 M1 r1 => ⟨by rw [r1.length]; exact p1.1, fun a ha => ?_⟩⟩
  have p2 := p1.2
  split at p2
  · rename_i xs hd
    have eq := dataOf_eq hd
    subst eq
    have e2 : Ext m1 G1 H1 m1 G1 (upd H1 a (.tup vs)) := Ext.fresh ha
    exact q _ G1 _ m1 _ p2 (e1.trans e2) (M1.fresh ha) (Rep.tup upd_same (Reps.go (M1.go e2) (RUs.toReps r1)))
  · exact p2.elim
theorem r_lst (h : PA X es (tA X.K W α)) : PE X (.List es pos) (tE X.K W (eLst α)) := (pe_lst h).imp fun σ H Q ⟨m, G, ss, P, p, M, S, h, hx, q⟩ => by
  refine ⟨m, G, ss, _, p, M, S, h, hx, fun us G1 vs m1 H1 p1 e1 M1 r1 => ⟨by rw [r1.length]; exact p1.1, fun a ha => ?_⟩⟩
  have p2 := p1.2
  split at p2
  · rename_i xs hd
    have eq := dataOf_eq hd
    subst eq
    have e2 : Ext m1 G1 H1 m1 G1 (upd H1 a (.lst vs)) := Ext.fresh ha
    exact q _ G1 _ m1 _ p2 (e1.trans e2) (M1.fresh ha) (Rep.lst upd_same (Lv.notFree M1 ha) (Reps.go (M1.go e2) (RUs.toReps r1)))
  · exact p2.elim
/-- a new list, as one that may change -/
theorem newLst {K : PySem.W.Frag} {m : MM} {G : GH} {H : Hp} {a : Addr} {vs : List V} {us : List U} (M : Mem K m G H) (ha : H a = none) (r : RUs K m G H vs us) :
    Ext m G H (m ++ [(a, 0)]) (G ++ [.lst us]) (upd H a (.lst vs)) ∧ Mem K (m ++ [(a, 0)]) (G ++ [.lst us]) (upd H a (.lst vs)) ∧ RU K (m ++ [(a, 0)]) (G ++ [.lst us]) (upd H a (.lst vs)) (.ref a) (.r G.length) := by
  have k : ∀ b x, H b = some x → upd H a (.lst vs) b = some x := fun b x e => by rw [upd_ne (ne_of_none e ha)]; exact e
  have e2 : Ext m G H (m ++ [(a, 0)]) (G ++ [.lst us]) (upd H a (.lst vs)) := Ext.alloc M.len ha k
  refine ⟨e2, M.alloc (p := (a, 0)) ha k ⟨vs, upd_same, r.ext M e2⟩, ⟨(a, 0), ?_, rfl⟩⟩
  rw [← M.len, List.getElem?_append_right (Nat.le_refl _)]
  simp
theorem r_lstH (h : PA X es (tA X.K W α)) : PE X (.List es pos) (tE X.K W (eLstH α)) := (pe_lst h).imp fun σ H Q ⟨m, G, ss, P, p, M, S, h, hx, q⟩ => by
  refine ⟨m, G, ss, _, p, M, S, h, hx, fun us G1 vs m1 H1 p1 e1 M1 r1 => ⟨by rw [r1.length]; exact p1.1, fun a ha => ?_⟩⟩
  obtain ⟨e2, M2, r2⟩ := newLst M1 ha r1
  exact q _ _ _ _ _ p1.2 (e1.trans e2) M2 r2
end
end R
/-! ## part RC -/
/-! The layer R: operations on values. -/
namespace R
open PySem PySem.Spec
open PyProof.Rows hiding St
open L2
section
variable {X : Cx} {pins : List (Addr × Obj)} {σ : St} {H : Hp} {s : Shared} {L : Addr → Prop}

/-! ### data read off the real heap -/
theorem kD_reads {h : Heap} {P : Program} {w : World} {k : Key} {u : Value} (e : (mixKind P w).is k u = true) : Reads h u (kD k) [] := by
  rcases keyIs_shape e with ⟨i, t, rfl, rfl⟩ | ⟨x, t, rfl, rfl⟩
  · exact .int i t
  · exact .str x t
theorem kDs_reads {h : Heap} {P : Program} {w : World} : ∀ {ks : List Key} {us : List Value}, ItemsAre (mixKind P w) ks us → ReadsAll h us (ks.map kD) []
  | _, _, .nil => .nil
  | _, _, .cons e r => ReadsAll.cons (as := []) (bs := []) (kD_reads e) (kDs_reads r)
theorem keys_reads {h : Heap} {P : Program} {w : World} : ∀ {es : List DictEntry} {kvs : List (Key × Value)}, Pairs (mixKind P w) es kvs → ReadsAll h (es.map (·.key)) ((kvs.map (·.1)).map kD) []
  | _, _, .nil => .nil
  | _, _, .cons e _ r => ReadsAll.cons (as := []) (bs := []) (kD_reads e) (keys_reads r)
theorem vals_eq {P : Program} {w : World} : ∀ {es : List DictEntry} {kvs : List (Key × Value)}, Pairs (mixKind P w) es kvs → es.map (·.val) = kvs.map (·.2)
  | _, _, .nil => rfl
  | _, _, .cons _ e r => by
    rw [List.map_cons, List.map_cons, e, vals_eq r]
theorem kv_vals {κ : Type} : ∀ {kvs : List (κ × V)} {vs : List (κ × Value)}, KV kvs vs → Vals (kvs.map (·.2)) (vs.map (·.2))
  | _, _, .nil => .nil
  | _, _, .cons r t => .cons r.2 (kv_vals t)
theorem kt_vals {H : Hp} : ∀ {kvs : List (List Key × V)} {xs : List (List Key × Addr × Value)}, KT H kvs xs → Vals (kvs.map (·.2)) (xs.map (·.2.2))
  | _, _, .nil => .nil
  | _, _, .cons r t => .cons r.2.2 (kt_vals t)
theorem tKey_reads {h : Heap} {P : Program} {w : World} {ks : List Key} {a : Addr} (x : IsTupleKey (mixKind P w) h ks a) : Reads h (.ref a) (tD ks) [] := by
  obtain ⟨o, items, n, h1, h2, h3, h4⟩ := x
  exact .tuple h1 h2 h3 (kDs_reads h4)
theorem kt_reads {P : Program} {w : World} {H : Hp} {h : Heap} (ok : HOk P w H h) : ∀ {kvs : List (List Key × V)} {xs : List (List Key × Addr × Value)}, KT H kvs xs →
    ReadsAll h (xs.map fun x => Value.ref x.2.1) ((kvs.map (·.1)).map tD) []
  | _, _, .nil => .nil
  | _, _, .cons r t => by
    have q := tKey_reads (key_of ok r.2.1)
    rw [List.map_cons, List.map_cons, List.map_cons]
    exact ReadsAll.cons (as := []) (bs := []) q (kt_reads ok t)
theorem zip_fst {α β : Type} : ∀ {as : List α} {bs : List β}, as.length = bs.length → (as.zip bs).map (·.1) = as
  | [], [], _ => rfl
  | a :: as, b :: bs, h => by rw [List.zip_cons_cons, List.map_cons, zip_fst (by simpa using h)]
theorem zip_snd {α β : Type} : ∀ {as : List α} {bs : List β}, as.length = bs.length → (as.zip bs).map (·.2) = bs
  | [], [], _ => rfl
  | a :: as, b :: bs, h => by rw [List.zip_cons_cons, List.map_cons, zip_snd (by simpa using h)]
theorem emT {K : PySem.W.Frag} {a : Addr} {vs : List V} (h : SqT K (fun _ => none) a vs) (H : Hp) : SqT K H a vs := by
  rcases h with (h | ⟨_, h⟩) | h
  · cases h
  · cases h
  · exact .inr h
theorem emL {K : PySem.W.Frag} {a : Addr} {vs : List V} (h : SqL K (fun _ => none) a vs) (H : Hp) : SqL K H a vs := by
  rcases h with (h | ⟨_, h⟩) | h
  · cases h
  · cases h
  · exact .inr h
theorem frL {K : PySem.W.Frag} {H : Hp} {a : Addr} {vs : List V} (h : (∃ o, H a = some (.frz o (.lst vs))) ∨ SqL K (fun _ => none) a vs) : SqL K H a vs := by
  rcases h with ⟨o, h⟩ | h
  · exact .inl (.inr ⟨o, h⟩)
  · exact emL h H
/-- the table of modules stands in the written part -/
def SM (K : PySem.W.Frag) : Prop := ∃ o, K.lookup sysModules = some o ∧ o.cls = .type "dict"
theorem SM.no (sm : SM X.K) (I : Inv X pins σ H s) : H sysModules = none := by
  obtain ⟨o, h1, _⟩ := sm
  exact (I.bs _ _ (I.mod.kin _ _ h1)).2
theorem SM.rd (sm : SM X.K) (I : Inv X pins σ H s) {a : Addr} {u : HO} (h : Rd H a u) : sysModules ≠ a := fun e => by
  have z := sm.no I
  rw [e] at z
  rcases h with h | ⟨_, h⟩ <;> (rw [z] at h; cases h)
mutual
/-- data stand in the real heap; the lists and dicts among them are not the table of modules -/
theorem Rep.reads (sm : SM X.K) (I : Inv X pins σ H s) : ∀ {v : V} {x : PyData}, Rep X.K H L v x → ∀ {u : Value}, RelV v u → ∃ as, Reads s.heap u x as ∧ sysModules ∉ as
  | _, _, .non, _, r => by cases r; exact ⟨[], .none, by simp⟩
  | _, _, .bl b, _, r => by cases r; exact ⟨[], .bool b, by simp⟩
  | _, _, .int i, _, r => by obtain ⟨t, rfl⟩ := r; exact ⟨[], .int i t, by simp⟩
  | _, _, .str z, _, r => by obtain ⟨t, rfl⟩ := r; exact ⟨[], .str z t, by simp⟩
  | _, _, .tup h q, _, r => by
    cases r
    obtain ⟨its, r', ⟨o, h1, h2, n, h3⟩, _⟩ := I.tuple (.of h)
    obtain ⟨as, a1, a2⟩ := Reps.reads sm I q r'
    exact ⟨as, .tuple h1 h2 h3 a1, a2⟩
  | _, _, .tup0 h, _, r => by
    cases r
    obtain ⟨its, r', ⟨o, h1, h2, n, h3⟩, _⟩ := I.tuple (emT h H)
    cases r'
    exact ⟨[], .tuple h1 h2 h3 .nil, by simp⟩
  | _, _, .lst h _ q, _, r => by
    cases r
    obtain ⟨its, r', ⟨o, n, h1, h2, _, h3⟩, _⟩ := I.list (.of h)
    obtain ⟨as, a1, a2⟩ := Reps.reads sm I q r'
    refine ⟨_, .list h1 h2 h3 a1, ?_⟩
    rw [List.mem_cons, not_or]
    exact ⟨sm.rd I (.of h), a2⟩
  | _, _, .dK h _ e1 e2 q, _, r => by
    cases r
    obtain ⟨z, hs, vs, kv, o, es, ep, h1, h2, h3, h4, h5, h6⟩ := dk_rd I.hok (.inr ⟨_, h⟩)
    have rv := kv_vals kv
    rw [e2] at rv
    obtain ⟨as, a1, a2⟩ := Reps.reads sm I q rv
    have hl := q.length
    have ke := keys_reads (h := s.heap) h5
    rw [← kv.keys, e1] at ke
    have ln : ∀ {ks : List Key}, True := fun {_} => trivial
    have l2 := congrArg List.length e1
    have l3 := congrArg List.length e2
    simp only [List.length_map] at l2 l3
    refine ⟨_, Reads.dict h1 h2.1 h3 (as := []) (bs := as) ?_ ?_, ?_⟩
    · rw [zip_fst (by rw [List.length_map]; omega)]; exact ke
    · rw [zip_snd (by rw [List.length_map]; omega), vals_eq h5]; exact a1
    · simp only [List.append_nil, List.mem_append, List.mem_cons, not_or]
      refine ⟨⟨fun e => ?_, by simp⟩, a2⟩
      rw [← e] at hs
      simp at hs
  | _, _, .dT h e1 e2 q, _, r => by
    cases r
    obtain ⟨z, hs, xs, kv, o, es, ep, h1, h2, h3, h4, h5, h6⟩ := dt_rd I.hok (.inr ⟨_, h⟩)
    have rv := kt_vals kv
    rw [e2] at rv
    obtain ⟨as, a1, a2⟩ := Reps.reads sm I q rv
    have hl := q.length
    have ke := kt_reads I.hok kv
    rw [e1] at ke
    have l2 := congrArg List.length e1
    have l3 := congrArg List.length e2
    simp only [List.length_map] at l2 l3
    refine ⟨_, Reads.dict h1 h2.1 h3 (as := []) (bs := as) ?_ ?_, ?_⟩
    · rw [zip_fst (by rw [List.length_map]; omega), h4, List.map_map]; exact ke
    · rw [zip_snd (by rw [List.length_map]; omega), h4, List.map_map]; exact a1
    · simp only [List.append_nil, List.mem_append, List.mem_cons, not_or]
      refine ⟨⟨fun e => ?_, by simp⟩, a2⟩
      rw [← e] at hs
      simp at hs
theorem Reps.reads (sm : SM X.K) (I : Inv X pins σ H s) : ∀ {vs : List V} {xs : List PyData}, Reps X.K H L vs xs → ∀ {us : List Value}, Vals vs us → ∃ as, ReadsAll s.heap us xs as ∧ sysModules ∉ as
  | _, _, .nil, _, r => by cases r; exact ⟨[], .nil, by simp⟩
  | _, _, .cons h q, _, r => by
    cases r with
    | cons r1 r2 =>
      obtain ⟨as, a1, a2⟩ := Rep.reads sm I h r1
      obtain ⟨bs, b1, b2⟩ := Reps.reads sm I q r2
      exact ⟨as ++ bs, .cons a1 b1, by rw [List.mem_append, not_or]; exact ⟨a2, b2⟩⟩
end
/-- the module's own data, the script -/
theorem RepK.reads (I : Inv X pins σ H s) : ∀ {v : V} {x : PyData}, RepK X.K H v x → ∀ {u : Value}, RelV v u → ∃ as, Reads s.heap u x as := by
  intro v x r
  have all : ∀ (vs : List V) (xs : List PyData), vs.length = xs.length → (∀ (i : Nat) (v : V) (x : PyData), vs[i]? = some v → xs[i]? = some x → ∀ {u : Value}, RelV v u → ∃ as, Reads s.heap u x as) → ∀ {us : List Value}, Vals vs us → ∃ as, ReadsAll s.heap us xs as := by
    intro vs
    induction vs with
    | nil =>
      intro xs hl _ us ru
      cases ru
      cases xs with
      | nil => exact ⟨[], .nil⟩
      | cons _ _ => cases hl
    | cons v vs ih =>
      intro xs hl h us ru
      cases ru with
      | cons r1 r2 =>
        cases xs with
        | nil => cases hl
        | cons x xs =>
          obtain ⟨as, a1⟩ := h 0 v x rfl rfl r1
          obtain ⟨bs, b1⟩ := ih xs (by simpa using hl) (fun i => h (i + 1)) r2
          exact ⟨as ++ bs, .cons a1 b1⟩
  induction r with
  | str z => intro u r; obtain ⟨t, rfl⟩ := r; exact ⟨[], .str z t⟩
  | int i => intro u r; obtain ⟨t, rfl⟩ := r; exact ⟨[], .int i t⟩
  | tup h l _ ih =>
    intro u r
    cases r
    obtain ⟨its, r', ⟨o, h1, h2, n, h3⟩, _⟩ := I.tuple (emT h H)
    obtain ⟨as, a1⟩ := all _ _ l ih r'
    exact ⟨as, .tuple h1 h2 h3 a1⟩
  | lst h l _ ih =>
    intro u r
    cases r
    obtain ⟨its, r', ⟨o, n, h1, h2, _, h3⟩, _⟩ := I.list (frL h)
    obtain ⟨as, a1⟩ := all _ _ l ih r'
    exact ⟨_, .list h1 h2 h3 a1⟩
end
end R
/-! ## part RD -/
/-! The layer R: operators. -/
namespace R
open PySem PySem.Spec
open PyProof.Rows hiding St
open L2

/-! ### what they do -/
def gAdd : G2 := fun x y G P => match x, y with
  | .d (.int i), .d (.int j) => P (.d (.int (i + j))) G
  | .d (.str a), .d (.str b) => a.length + b.length ≤ sizeLine ∧ P (.d (.str (a ++ b))) G
  | .d (.tuple xs), .d (.tuple ys) => xs.length + ys.length ≤ sizeLine ∧ P (.d (.tuple (xs ++ ys))) G
  | .d (.list xs), .d (.list ys) => xs.length + ys.length ≤ sizeLine ∧ P (.d (.list (xs ++ ys))) G
  | _, _ => False
def gSub : G2 := fun x y G P => match x, y with
  | .d (.int i), .d (.int j) => P (.d (.int (i - j))) G
  | _, _ => False
def gMul : G2 := fun x y G P => match x, y with
  | .d (.int i), .d (.int j) => CMulW i j ∧ P (.d (.int (i * j))) G
  | .d (.tuple xs), .d (.int k) => xs ≠ [] ∧ 2 ≤ k ∧ k ≤ 1000 ∧ xs.length ≤ 1000 ∧ P (.d (.tuple (List.replicate k.toNat xs).flatten)) G
  | _, _ => False
def gFdiv : G2 := fun x y G P => match x, y with
  | .d (.int i), .d (.int j) => CDivW i j ∧ P (.d (.int (i / j))) G
  | _, _ => False
def gMod : G2 := fun x y G P => match x, y with
  | .d (.int i), .d (.int j) => 0 < j ∧ P (.d (.int (i % j))) G
  | _, _ => False
def gPow : G2 := fun x y G P => match x, y with
  | .d (.int i), .d (.int j) => CPow i j ∧ P (.d (.int (i ^ j.toNat))) G
  | _, _ => False
def gNeg : G1 := fun x G P => match x with
  | .d (.int i) => P (.d (.int (-i))) G
  | _ => False
def gLt : G2 := fun x y G P => match x, y with
  | .d (.int i), .d (.int j) => P (.d (.bool (decide (i < j)))) G
  | .d (.str a), .d (.str b) => P (.d (.bool (decide (a.cps.toList < b.cps.toList)))) G
  | .d (.tuple xs), .d (.tuple ys) => PySem.W.alike (.tuple xs) (.tuple ys) = true ∧ min (PyData.tuple xs).depth (PyData.tuple ys).depth ≤ 50 ∧ P (.d (.bool (PySem.W.dataLt (.tuple xs) (.tuple ys)))) G
  | _, _ => False
def gCmpI (p : Int → Int → Bool) : G2 := fun x y G P => match x, y with
  | .d (.int i), .d (.int j) => P (.d (.bool (p i j))) G
  | _, _ => False
def EqOk (x y : PyData) : Prop := x.plain = true ∧ y.plain = true ∧ min x.depth y.depth ≤ 50
def gEq : G2 := fun x y G P => match x, y with
  | .d a, .d b => EqOk a b ∧ P (.d (.bool (PyData.eqv a b))) G
  | _, _ => False
def gNe : G2 := fun x y G P => match x, y with
  | .d a, .d b => EqOk a b ∧ P (.d (.bool (!PyData.eqv a b))) G
  | _, _ => False
def isNone : U → Bool
  | .d .none => true
  | _ => false
def gIs : G2 := fun x y G P => match x, y with
  | .d (.bool a), .d (.bool b) => P (.d (.bool (decide (a = b)))) G
  | x, .d .none => P (.d (.bool (isNone x))) G
  | _, _ => False
def gIsNot : G2 := fun x y G P => match x, y with
  | .d (.bool a), .d (.bool b) => P (.d (.bool (!decide (a = b)))) G
  | x, .d .none => P (.d (.bool (!isNone x))) G
  | _, _ => False

section
variable {X : Cx} {pins : List (Addr × Obj)} {σ : St} {H : Hp} {s : Shared}
theorem lift_same {op : Value → Value → Sem Value} {g : G2} {r : R2} (h : OpR X op r) (i : ∀ (m : MM) (G : GH) (H : Hp) (x y : V) (u w : U) (P : PU) (Q : VK), Mem X.K m G H → RU X.K m G H x u → RU X.K m G H y w → g u w G P →
    (∀ (z : U) (G' : GH) (v : V) (m' : MM) (H' : Hp), P z G' → Ext m G H m' G' H' → Mem X.K m' G' H' → RU X.K m' G' H' v z → Q v H') → r x y H Q) : OpR X op (rG2 X.K g) :=
  fun pins s σ H x y v u Q I rx ry ⟨m, G, a, b, P, M, ra, rb, hg, q⟩ => h pins s σ H x y v u Q I rx ry (i m G H x y a b P Q M ra rb hg q)
theorem k_add : OpR X (binaryOp .Add) (rG2 X.K gAdd) := by
  refine lift_same (((op_add.or op_add_str).or op_catA).or op_cat) fun m G H x y u w P Q M ru rw h q => ?_
  unfold gAdd at h
  split at h
  · cases ru; cases rw
    exact .inl (.inl (.inl ⟨_, _, rfl, rfl, q _ G _ m H h Ext.refl M (.int _)⟩))
  · cases ru; cases rw
    exact .inl (.inl (.inr ⟨_, _, rfl, rfl, h.1, q _ G _ m H h.2 Ext.refl M (.str _)⟩))
  · rename_i xs ys
    have ab : ∀ {v : V} {zs : List PyData}, RU X.K m G H v (.d (.tuple zs)) → ∃ a vs, v = .ref a ∧ SqT X.K H a vs ∧ Reps X.K H (Lv m G) vs zs := fun r => by
      cases r with
      | tup h r => exact ⟨_, _, rfl, .of h, r⟩
      | tup0 h => exact ⟨_, _, rfl, emT h H, .nil⟩
    obtain ⟨a, vs, rfl, ha, ra⟩ := ab ru
    obtain ⟨b, ws, rfl, hb, rb⟩ := ab rw
    have l1 := ra.length
    have l2 := rb.length
    refine .inl (.inr ⟨a, b, vs, ws, rfl, rfl, ha, hb, by rw [l1, l2]; exact h.1, fun e => ?_, fun _ e => ?_, fun _ _ p hp => ?_⟩)
    · subst e
      cases ra
      exact q _ G _ m H h.2 Ext.refl M rw
    · subst e
      cases rb
      rw [List.append_nil] at h
      exact q _ G _ m H h.2 Ext.refl M ru
    · have e := Ext.fresh (m := m) (G := G) (o := .tup (vs ++ ws)) hp
      exact q _ G _ m _ h.2 e (M.fresh hp) (Rep.tup upd_same (Reps.go (M.go e) (ra.app rb)))
  · rename_i xs ys
    cases ru with
    | lst ha na ra =>
      cases rw with
      | lst hb nb rb =>
        rename_i a vs b ws
        have l1 := ra.length
        have l2 := rb.length
        refine .inr ⟨a, b, vs, ws, rfl, rfl, ha, hb, by rw [l1, l2]; exact h.1, fun p hp => ?_⟩
        have e := Ext.fresh (m := m) (G := G) (o := .lst (vs ++ ws)) hp
        exact q _ G _ m _ h.2 e (M.fresh hp) (Rep.lst upd_same (Lv.notFree M hp) (Reps.go (M.go e) (ra.app rb)))
  · exact h.elim
theorem rep_int {K : PySem.W.Frag} {H : Hp} {L : Addr → Prop} {v : V} {i : Int} (r : Rep K H L v (.int i)) : v = .int i := by cases r; rfl
theorem lift_int {op : Value → Value → Sem Value} {C : Int → Int → Prop} {f : Int → Int → V} {d : Int → Int → PyData} {g : G2} (hd : ∀ i j H L, Rep X.K H L (f i j) (d i j)) (hg : ∀ x y G P, g x y G P → ∃ i j, x = .d (.int i) ∧ y = .d (.int j) ∧ C i j ∧ P (.d (d i j)) G) (h : OpR X op (rI C f)) : OpR X op (rG2 X.K g) :=
  lift_same h fun m G H x y u w P Q M ru rw hh q => by
    obtain ⟨i, j, rfl, rfl, c, p⟩ := hg u w G P hh
    exact ⟨i, j, rep_int ru, rep_int rw, c, q _ G _ m H p Ext.refl M (hd i j H _)⟩
theorem lift_int0 {op : Value → Value → Sem Value} {f : Int → Int → V} {d : Int → Int → PyData} {g : G2} (hd : ∀ i j H L, Rep X.K H L (f i j) (d i j)) (hg : ∀ x y G P, g x y G P → ∃ i j, x = .d (.int i) ∧ y = .d (.int j) ∧ P (.d (d i j)) G) (h : OpR X op (rI0 f)) : OpR X op (rG2 X.K g) :=
  lift_same h fun m G H x y u w P Q M ru rw hh q => by
    obtain ⟨i, j, rfl, rfl, p⟩ := hg u w G P hh
    exact ⟨i, j, rep_int ru, rep_int rw, q _ G _ m H p Ext.refl M (hd i j H _)⟩
theorem k_sub : OpR X (binaryOp .Sub) (rG2 X.K gSub) := lift_int0 (d := fun i j => .int (i - j)) (fun _ _ _ _ => .int _) (fun x y G P h => by
  unfold gSub at h
  split at h
  · exact ⟨_, _, rfl, rfl, h⟩
  · exact h.elim) op_sub
theorem k_fdiv : OpR X (binaryOp .FloorDiv) (rG2 X.K gFdiv) := lift_int (d := fun i j => .int (i / j)) (fun _ _ _ _ => .int _) (fun x y G P h => by
  unfold gFdiv at h
  split at h
  · exact ⟨_, _, rfl, rfl, h⟩
  · exact h.elim) op_fdivW
theorem k_mod : OpR X (binaryOp .Mod) (rG2 X.K gMod) := lift_int (d := fun i j => .int (i % j)) (fun _ _ _ _ => .int _) (fun x y G P h => by
  unfold gMod at h
  split at h
  · exact ⟨_, _, rfl, rfl, h⟩
  · exact h.elim) op_mod
theorem k_pow : OpR X (binaryOp .Pow) (rG2 X.K gPow) := lift_int (d := fun i j => .int (i ^ j.toNat)) (fun _ _ _ _ => .int _) (fun x y G P h => by
  unfold gPow at h
  split at h
  · exact ⟨_, _, rfl, rfl, h⟩
  · exact h.elim) op_pow
theorem rep_tup {K : PySem.W.Frag} {H : Hp} {L : Addr → Prop} {v : V} {zs : List PyData} (r : Rep K H L v (.tuple zs)) : ∃ a vs, v = .ref a ∧ SqT K H a vs ∧ Reps K H L vs zs := by
  cases r with
  | tup h r => exact ⟨_, _, rfl, .of h, r⟩
  | tup0 h => exact ⟨_, _, rfl, emT h H, .nil⟩
theorem Reps.rep {K : PySem.W.Frag} {H : Hp} {L : Addr → Prop} {vs : List V} {xs : List PyData} (r : Reps K H L vs xs) : ∀ k : Nat, Reps K H L (List.replicate k vs).flatten (List.replicate k xs).flatten
  | 0 => .nil
  | k + 1 => by
    rw [List.replicate_succ, List.replicate_succ, List.flatten_cons, List.flatten_cons]
    exact r.app (Reps.rep r k)
theorem k_mul : OpR X (binaryOp .Mult) (rG2 X.K gMul) := by
  refine lift_same (op_mulW.or op_repT) fun m G H x y u w P Q M ru rw h q => ?_
  unfold gMul at h
  split at h
  · cases ru; cases rw
    exact .inl ⟨_, _, rfl, rfl, h.1, q _ G _ m H h.2 Ext.refl M (.int _)⟩
  · rename_i xs k
    cases rw
    obtain ⟨a, vs, rfl, ha, ra⟩ := rep_tup ru
    have l1 := ra.length
    obtain ⟨h1, h2, h3, h4, h5⟩ := h
    refine .inr ⟨a, _, vs, rfl, rfl, ha, fun e => h1 (by subst e; cases ra; rfl), h2, h3, by omega, fun p hp => ?_⟩
    have e := Ext.fresh (m := m) (G := G) (o := .tup (List.replicate k.toNat vs).flatten) hp
    exact q _ G _ m _ h5 e (M.fresh hp) (Rep.tup upd_same (Reps.go (M.go e) (ra.rep _)))
  · exact h.elim
theorem k_neg : UnR X (unaryOp .USub) (rG1 X.K gNeg) := fun pins s σ H x v Q I rx ⟨m, G, a, P, M, ra, hg, q⟩ => un_neg pins s σ H x v Q I rx (by
  unfold gNeg at hg
  split at hg
  · cases ra
    exact ⟨_, rfl, q _ G _ m H hg Ext.refl M (.int _)⟩
  · exact hg.elim)
theorem lift_cmpI {op : Value → Value → Sem Value} {p : Int → Int → Bool} (h : OpR X op (rI0 fun i j => .bl (p i j))) : OpR X op (rG2 X.K (gCmpI p)) := lift_int0 (d := fun i j => .bool (p i j)) (fun _ _ _ _ => .bl _) (fun x y G P h => by
  unfold gCmpI at h
  split at h
  · exact ⟨_, _, rfl, rfl, h⟩
  · exact h.elim) h
abbrev gLe : G2 := gCmpI fun i j => decide (i ≤ j)
abbrev gGt : G2 := gCmpI fun i j => decide (j < i)
abbrev gGe : G2 := gCmpI fun i j => decide (j ≤ i)
theorem k_le : OpR X (compareOp .LtE) (rG2 X.K gLe) := lift_cmpI op_le
theorem k_gt : OpR X (compareOp .Gt) (rG2 X.K gGt) := lift_cmpI op_gt
theorem k_ge : OpR X (compareOp .GtE) (rG2 X.K gGe) := lift_cmpI op_ge
/-- a comparison whose answer is read off the real heap -/
theorem lift_bool {op : Value → Value → Sem Value} {g : G2} (h : ∀ (pins : List (Addr × Obj)) (s : Shared) (σ : St) (H : Hp) (x y : V) (v u : Value) (L : Addr → Prop) (a b : U) (m : MM) (G : GH) (P : PU) (R : Value → Shared → Prop), Inv X pins σ H s → RelV x v → RelV y u → Mem X.K m G H → RU X.K m G H x a → RU X.K m G H y b → g a b G P →
    (∀ (k : Bool) (t : Nat), P (.d (.bool k)) G → R (.bool k) { s with toks := t }) → wpAny (model X.prog X.w) X.A (op v u) R X.xe s) : OpR X op (rG2 X.K g) :=
  fun pins s σ H x y v u Q I rx ry ⟨m, G, a, b, P, M, ra, rb, hg, q⟩ => h pins s σ H x y v u (Lv m G) a b m G P _ I rx ry M ra rb hg fun k t p => ⟨.bl k, H, I.tok t, rfl, q _ G _ m H p Ext.refl M (.bl k)⟩
theorem k_lt (sm : SM X.K) (hu : X.A.units + 64 < cLine) : OpR X (compareOp .Lt) (rG2 X.K gLt) := by
  refine lift_bool fun pins s σ H x y v u L a b m G P R I rx ry M ra rb hg q => ?_
  unfold gLt at hg
  split at hg
  · cases ra; cases rb
    obtain ⟨t, rfl⟩ := rx
    obtain ⟨t', rfl⟩ := ry
    exact lt_int (q _ s.toks hg)
  · cases ra; cases rb
    obtain ⟨as, r1, _⟩ := Rep.reads (L := L) sm I (.str _) rx
    obtain ⟨bs, r2, _⟩ := Rep.reads (L := L) sm I (.str _) ry
    refine PySem.W.lt_data r1 r2 (by simp [PySem.W.alike]) (by simp) (by simp only [PyData.depth]; omega) ?_
    rw [PySem.W.dataLt_str]
    exact q _ s.toks hg
  · obtain ⟨h1, h2, h3⟩ := hg
    obtain ⟨as, r1, _⟩ := Rep.reads sm I ra rx
    obtain ⟨bs, r2, _⟩ := Rep.reads sm I rb ry
    exact PySem.W.lt_data r1 r2 h1 (by simp) (by omega) (q _ s.toks h3)
  · exact hg.elim
theorem k_eq (sm : SM X.K) (hu : X.A.units + 64 < cLine) : OpR X (compareOp .Eq) (rG2 X.K gEq) := by
  refine lift_bool fun pins s σ H x y v u L a b m G P R I rx ry M ra rb hg q => ?_
  unfold gEq at hg
  split at hg
  · obtain ⟨⟨h1, h2, h3⟩, h4⟩ := hg
    obtain ⟨as, r1, _⟩ := Rep.reads sm I ra rx
    obtain ⟨bs, r2, _⟩ := Rep.reads sm I rb ry
    exact SeqAt.eq_plain r1 r2 h1 h2 (by omega) (q _ s.toks h4)
  · exact hg.elim
theorem k_ne (sm : SM X.K) (hu : X.A.units + 64 < cLine) : OpR X (compareOp .NotEq) (rG2 X.K gNe) := by
  refine lift_bool fun pins s σ H x y v u L a b m G P R I rx ry M ra rb hg q => ?_
  unfold gNe at hg
  split at hg
  · obtain ⟨⟨h1, h2, h3⟩, h4⟩ := hg
    obtain ⟨as, r1, _⟩ := Rep.reads sm I ra rx
    obtain ⟨bs, r2, _⟩ := Rep.reads sm I rb ry
    exact SeqAt.ne_plain r1 r2 h1 h2 (by omega) (q _ s.toks h4)
  · exact hg.elim
theorem isNone_rep {K : PySem.W.Frag} {m : MM} {G : GH} {H : Hp} {v : V} {u : U} (r : RU K m G H v u) : decide (v = .non) = isNone u := by
  cases u with
  | d x => cases r <;> simp [isNone]
  | k x =>
    have r : RepK K H v x := r
    cases r <;> simp [isNone]
  | r n => obtain ⟨p, _, rfl⟩ := r; simp [isNone]
theorem k_is : OpR X (compareOp .Is) (rG2 X.K gIs) := by
  refine lift_same (op_isBl.or op_isN) fun m G H x y u w P Q M ru rw h q => ?_
  unfold gIs at h
  split at h
  · cases ru; cases rw
    exact .inl ⟨_, _, rfl, rfl, q _ G _ m H h Ext.refl M (.bl _)⟩
  · cases rw
    refine .inr ⟨rfl, ?_⟩
    rw [isNone_rep ru]
    exact q _ G _ m H h Ext.refl M (.bl _)
  · exact h.elim
theorem k_isNot : OpR X (compareOp .IsNot) (rG2 X.K gIsNot) := by
  refine lift_same (op_notBl.or op_notN) fun m G H x y u w P Q M ru rw h q => ?_
  unfold gIsNot at h
  split at h
  · cases ru; cases rw
    exact .inl ⟨_, _, rfl, rfl, q _ G _ m H h Ext.refl M (.bl _)⟩
  · cases rw
    refine .inr ⟨rfl, ?_⟩
    rw [isNone_rep ru]
    exact q _ G _ m H h Ext.refl M (.bl _)
  · exact h.elim
end
end R
/-! ## part RE -/
/-! The layer R: subscripts, in, calls of built-ins, methods. -/
namespace R
open PySem PySem.Spec
open PyProof.Rows hiding St
open L2

/-! ### keys -/
def flatK : PyData → Bool
  | .int _ => true
  | .str _ => true
  | _ => false
/-- may be a key here -/
def keyOk : PyData → Bool
  | .int _ => true
  | .str _ => true
  | .tuple xs => !xs.isEmpty && xs.all flatK
  | _ => false
def keyEq (a b : PyData) : Bool := PyData.eqv a b
def lookD {β : Type} (kvs : List (PyData × β)) (k : PyData) : Option β := (kvs.find? fun p => keyEq p.1 k).map (·.2)
def putD {β : Type} (kvs : List (PyData × β)) (k : PyData) (v : β) : List (PyData × β) := if (kvs.any fun p => keyEq p.1 k) = true then kvs.map (fun p => if keyEq p.1 k = true then (p.1, v) else p) else kvs ++ [(k, v)]
theorem kD_eq (a b : Key) : keyEq (kD a) (kD b) = decide (a = b) := by
  cases a with
  | inl i =>
    cases b with
    | inr y => simp [keyEq, kD, PyData.eqv]
    | inl j =>
      simp only [keyEq, kD, PyData.eqv, Sum.inl.injEq]
      by_cases h : i = j
      · subst h; simp
      · rw [decide_eq_false h]
        exact beq_eq_false_iff_ne.mpr h
  | inr x =>
    cases b with
    | inl j => simp [keyEq, kD, PyData.eqv]
    | inr y =>
      simp only [keyEq, kD, PyData.eqv, Sum.inr.injEq]
      by_cases h : x = y
      · subst h; simp
      · rw [decide_eq_false h]
        exact beq_eq_false_iff_ne.mpr h
theorem kDs_eq : ∀ (a b : List Key), PyData.eqvAll (a.map kD) (b.map kD) = decide (a = b)
  | [], [] => by simp [PyData.eqvAll]
  | [], _ :: _ => by simp [PyData.eqvAll]
  | _ :: _, [] => by simp [PyData.eqvAll]
  | x :: xs, y :: ys => by
    rw [List.map_cons, List.map_cons, PyData.eqvAll, kDs_eq xs ys]
    have := kD_eq x y
    unfold keyEq at this
    rw [this]
    by_cases h1 : x = y <;> by_cases h2 : xs = ys <;> simp [h1, h2]
theorem tD_eq (a b : List Key) : keyEq (tD a) (tD b) = decide (a = b) := by
  unfold keyEq tD
  rw [PyData.eqv]
  exact kDs_eq a b
theorem kt_ne (a : Key) (b : List Key) : keyEq (kD a) (tD b) = false := by
  cases a <;> simp [keyEq, kD, tD, PyData.eqv]
def RelOpt {β γ : Type} (R : β → γ → Prop) : Option β → Option γ → Prop
  | some v, some d => R v d
  | none, none => True
  | _, _ => False
theorem look_map {κ γ : Type} [DecidableEq κ] {f : κ → PyData} (hf : ∀ a b, keyEq (f a) (f b) = decide (a = b)) (R : V → γ → Prop) : ∀ {kvs : List (κ × V)} {ds : List (PyData × γ)} (k : κ),
    kvs.map (fun e => f e.1) = ds.map (·.1) → Paired R (kvs.map (·.2)) (ds.map (·.2)) → RelOpt R (valV kvs k) (lookD ds (f k))
  | [], [], _, _, _ => trivial
  | [], _ :: _, _, h, _ => by cases h
  | _ :: _, [], _, h, _ => by cases h
  | e :: kvs, d :: ds, k, h, r => by
    rw [List.map_cons, List.map_cons, List.cons.injEq] at h
    rw [List.map_cons, List.map_cons] at r
    cases r with
    | cons r1 r2 =>
      have ih := look_map hf R k h.2 r2
      unfold valV lookD at ih ⊢
      rw [List.find?_cons, List.find?_cons, ← h.1, hf]
      by_cases hk : e.1 = k
      · rw [decide_eq_true hk]
        exact r1
      · rw [decide_eq_false hk]
        exact ih
theorem flat_key {K : PySem.W.Frag} {H : Hp} {L : Addr → Prop} : ∀ {vs : List V} {xs : List PyData}, Reps K H L vs xs → xs.all flatK = true → ∃ ks : List Key, vs = ks.map kV ∧ xs = ks.map kD
  | _, _, .nil, _ => ⟨[], rfl, rfl⟩
  | _, _, .cons h r, hf => by
    rw [List.all_cons, Bool.and_eq_true] at hf
    obtain ⟨ks, rfl, rfl⟩ := flat_key r hf.2
    cases h with
    | int i => exact ⟨.inl i :: ks, rfl, rfl⟩
    | str s => exact ⟨.inr s :: ks, rfl, rfl⟩
    | non => cases hf.1
    | bl b => cases hf.1
    | tup _ _ => cases hf.1
    | tup0 _ => cases hf.1
    | lst _ _ _ => cases hf.1
    | dK _ _ _ _ _ => cases hf.1
    | dT _ _ _ _ => cases hf.1
/-- a key, as the hand layer has it -/
inductive KeyV (H : Hp) : V → PyData → Prop
  | k (k : Key) : KeyV H (kV k) (kD k)
  | t {b : Addr} (k : List Key) : H b = some (.tup (k.map kV)) → KeyV H (.ref b) (tD k)
theorem keyV_of {K : PySem.W.Frag} {H : Hp} {L : Addr → Prop} {v : V} {x : PyData} (r : Rep K H L v x) (h : keyOk x = true) : KeyV H v x := by
  cases r with
  | int i => exact .k (.inl i)
  | str s => exact .k (.inr s)
  | non => cases h
  | bl b => cases h
  | tup0 _ => cases h
  | lst _ _ _ => cases h
  | dK _ _ _ _ _ => cases h
  | dT _ _ _ _ => cases h
  | tup e r =>
    simp only [keyOk, Bool.and_eq_true] at h
    obtain ⟨ks, rfl, rfl⟩ := flat_key r h.2
    exact .t ks e

section
variable {X : Cx} {pins : List (Addr × Obj)} {σ : St} {H : Hp} {s : Shared}
/-- an empty dict is of either kind -/
theorem retagT (I : Inv X pins σ H s) {a : Addr} (h : H a = some (.dK [])) : Inv X pins σ (upd H a (.dT [])) s := by
  obtain ⟨z, hs, vs, kv, o, es, ep, h1, h2, h3, h4, h5, h6⟩ := dk_of I.hok h
  cases kv
  cases h5' : es.toList with
  | nil =>
    exact I.write (h' := s.heap) (t' := s.toks) (e := a) (by rw [h]; trivial) (.inl rfl) (fun _ _ _ q => q) ⟨o, h1⟩ ⟨Nat.zero_le _, hs, [], .nil, o, es, ep, h1, h2, h3, by rw [h5']; rfl, List.nodup_nil⟩
  | cons _ _ => rw [h5'] at h5; cases h5
theorem retagK (I : Inv X pins σ H s) {a : Addr} (h : H a = some (.dT [])) : Inv X pins σ (upd H a (.dK [])) s := by
  obtain ⟨z, hs, xs, kv, o, es, ep, h1, h2, h3, h4, h5, h6⟩ := dt_of I.hok h
  cases kv
  have he : es = #[] := by
    apply Array.toList_inj.mp
    rw [h4]; rfl
  subst he
  exact I.write (h' := s.heap) (t' := s.toks) (e := a) (by rw [h]; trivial) (.inl rfl) (fun _ _ _ q => q) ⟨o, h1⟩ ⟨Nat.zero_le _, hs, [], .nil, o, #[], ep, h1, h2, h3, by intro e he; simp at he, .nil, List.nodup_nil⟩
/-- the heap's word for a dict, a locked one or one that may change -/
def At (lk : Bool) (H : Hp) (a : Addr) (u : HO) : Prop := if lk = true then ∃ o, H a = some (.frz o u) else H a = some u
theorem At.rd {lk : Bool} {H : Hp} {a : Addr} {u : HO} (h : At lk H a u) : Rd H a u := by
  unfold At at h
  split at h
  · exact .inr h
  · exact .inl h
/-- a dict that is looked at -/
def IsDct (lk : Bool) (H : Hp) (a : Addr) {β : Type} (R : V → β → Prop) (ds : List (PyData × β)) : Prop :=
  (∃ es, At lk H a (.dK es) ∧ (lk = true → es ≠ []) ∧ es.map (fun e => kD e.1) = ds.map (·.1) ∧ Paired R (es.map (·.2)) (ds.map (·.2))) ∨
  (∃ es, At lk H a (.dT es) ∧ es.map (fun e => tD e.1) = ds.map (·.1) ∧ Paired R (es.map (·.2)) (ds.map (·.2)))
def isTupD : PyData → Bool
  | .tuple _ => true
  | _ => false
/-- the key is of the kind of the keys that are there; a locked dict without keys is asked for tuples alone -/
def kindOk {β : Type} (lk : Bool) (ds : List (PyData × β)) (x : PyData) : Prop := match ds with
  | [] => lk = true → isTupD x = true
  | p :: _ => isTupD p.1 = isTupD x
/-- what it holds at a key: perhaps the heap tells another kind of the empty dict -/
theorem dget_of {lk : Bool} {β : Type} {R : V → β → Prop} {a : Addr} {ds : List (PyData × β)} {y : V} {x : PyData} (I : Inv X pins σ H s) (d : IsDct lk H a R ds) (k : KeyV H y x) (kk : kindOk lk ds x) :
    ∃ (H' : Hp) (o : Option V), Inv X pins σ H' s ∧ DGet H' a y o ∧ (∀ s', Inv X pins σ H' s' → Inv X pins σ H s') ∧ RelOpt R o (lookD ds x) := by
  rcases d with ⟨es, e, en, e1, e2⟩ | ⟨es, e, e1, e2⟩
  · cases k with
    | k k => exact ⟨H, valV es k, I, .inl ⟨_, _, e.rd, rfl, rfl⟩, fun _ z => z, look_map kD_eq R k e1 e2⟩
    | @t b k hb =>
      cases es with
      | nil =>
        cases ds with
        | nil =>
          cases lk with
          | true => exact absurd rfl (en rfl)
          | false =>
          have e : H a = some (.dK []) := e
          have hne : b ≠ a := ne_of hb e (by intro z; cases z)
          refine ⟨upd H a (.dT []), none, retagT I e, ?_, fun s' I' => ?_, trivial⟩
          · have q := DGet.t (H := upd H a (.dT [])) (a := a) (kvs := []) (k := k) (b := b) upd_same (by rw [upd_ne hne]; exact hb)
            exact q
          · have q := retagK I' (a := a) upd_same
            rw [upd_upd] at q
            have e' : upd H a (.dK []) = H := by
              funext c
              by_cases hc : c = a
              · subst hc; rw [upd_same, e]
              · rw [upd_ne hc]
            rwa [e'] at q
        | cons _ _ => cases e1
      | cons p es =>
        cases ds with
        | nil => cases e1
        | cons d ds =>
          rw [List.map_cons, List.map_cons, List.cons.injEq] at e1
          have kk' : isTupD d.1 = true := kk
          rw [← e1.1] at kk'
          obtain ⟨pk, pv⟩ := p
          cases pk <;> cases kk'
  · cases k with
    | @t b k hb => exact ⟨H, valV es k, I, .inr ⟨_, _, _, e.rd, rfl, hb, rfl⟩, fun _ z => z, look_map tD_eq R k e1 e2⟩
    | k k =>
      cases es with
      | nil =>
        cases ds with
        | nil =>
          cases lk with
          | true =>
            have kk' : isTupD (kD k) = true := kk rfl
            cases k <;> cases kk'
          | false =>
          have e : H a = some (.dT []) := e
          refine ⟨upd H a (.dK []), none, retagK I e, DGet.k (H := upd H a (.dK [])) (a := a) (kvs := []) (k := k) upd_same, fun s' I' => ?_, trivial⟩
          have q := retagT I' (a := a) upd_same
          rw [upd_upd] at q
          have e' : upd H a (.dT []) = H := by
            funext c
            by_cases hc : c = a
            · subst hc; rw [upd_same, e]
            · rw [upd_ne hc]
          rwa [e'] at q
        | cons _ _ => cases e1
      | cons p es =>
        cases ds with
        | nil => cases e1
        | cons d ds =>
          rw [List.map_cons, List.map_cons, List.cons.injEq] at e1
          have kk' : isTupD d.1 = isTupD (kD k) := kk
          rw [← e1.1] at kk'
          cases k <;> cases kk'
end
end R
/-! ## part RF -/
/-! The layer R: subscripts, in, calls of built-ins, methods. -/
namespace R
open PySem PySem.Spec
open PyProof.Rows hiding St
open L2

theorem paired_reps {K : PySem.W.Frag} {H : Hp} {L : Addr → Prop} : ∀ {vs : List V} {xs : List PyData}, Reps K H L vs xs → Paired (fun v x => Rep K H L v x) vs xs
  | _, _, .nil => .nil
  | _, _, .cons h r => .cons h (paired_reps r)
theorem paired_rus {K : PySem.W.Frag} {m : MM} {G : GH} {H : Hp} : ∀ {vs : List V} {us : List U}, RUs K m G H vs us → Paired (fun v u => RU K m G H v u) vs us
  | _, _, .nil => .nil
  | _, _, .cons h r => .cons h (paired_rus r)
theorem rep_dict {K : PySem.W.Frag} {H : Hp} {L : Addr → Prop} {v : V} {ds : List (PyData × PyData)} (r : Rep K H L v (.dict ds)) : ∃ a, v = .ref a ∧ IsDct true H a (fun v x => Rep K H L v x) ds := by
  generalize e : PyData.dict ds = D at r
  cases r with
  | @dK a o kvs ks vs xs h n e1 e2 q =>
    cases e
    have hl := q.length
    have l2 := congrArg List.length e1
    have l3 := congrArg List.length e2
    simp only [List.length_map] at l2 l3
    refine ⟨_, rfl, .inl ⟨_, ⟨_, h⟩, fun _ z => ?_, ?_, ?_⟩⟩
    · rw [z] at e1; exact n e1.symm
    · rw [zip_fst (by rw [List.length_map]; omega), ← e1, List.map_map]; rfl
    · rw [zip_snd (by rw [List.length_map]; omega), e2]; exact paired_reps q
  | @dT a o kvs ks vs xs h e1 e2 q =>
    cases e
    have hl := q.length
    have l2 := congrArg List.length e1
    have l3 := congrArg List.length e2
    simp only [List.length_map] at l2 l3
    refine ⟨_, rfl, .inr ⟨_, ⟨_, h⟩, ?_, ?_⟩⟩
    · rw [zip_fst (by rw [List.length_map]; omega), ← e1, List.map_map]; rfl
    · rw [zip_snd (by rw [List.length_map]; omega), e2]; exact paired_reps q
  | non => cases e
  | bl b => cases e
  | int i => cases e
  | str z => cases e
  | tup _ _ => cases e
  | tup0 _ => cases e
  | lst _ _ _ => cases e
theorem mok_dct {K : PySem.W.Frag} {m : MM} {G : GH} {H : Hp} {p : Addr × Addr} {kvs : List (PyData × U)} (z : MOk K m G H p (.dct kvs)) : IsDct false H p.1 (fun v u => RU K m G H v u) kvs := by
  obtain ⟨vs, r, ⟨es, e, e1, e2⟩ | ⟨es, e, e1, e2⟩⟩ := z
  · exact .inl ⟨es, e, (fun z => nomatch z), e1, by rw [e2]; exact paired_rus r⟩
  · exact .inr ⟨es, e, e1, by rw [e2]; exact paired_rus r⟩

/-! ### subscripts -/
def keyAsk {β : Type} (lk : Bool) (ds : List (PyData × β)) (x : PyData) : Prop := keyOk x = true ∧ kindOk lk ds x
def flatU (x : PyData) : U := match x with
  | .int i => .d (.int i)
  | .str s => .d (.str s)
  | x => .k x
def gIx : G2 := fun x y G P => match x, y with
  | .d (.list xs), .d (.int i) => match atI xs i with
    | some z => P (.d z) G
    | none => False
  | .d (.tuple xs), .d (.int i) => match atI xs i with
    | some z => P (.d z) G
    | none => False
  | .d (.str z), .d (.int i) => z.length ≤ sizeLine ∧ match atI z.cps.toList i with
    | some c => P (.d (.str ⟨#[c]⟩)) G
    | none => False
  | .k (.list xs), .d (.int i) => match atI xs i with
    | some z => P (flatU z) G
    | none => False
  | .d (.dict ds), .d k => keyAsk true ds k ∧ match lookD ds k with
    | some z => P (.d z) G
    | none => False
  | .r n, .d k => match G[n]? with
    | some (.lst us) => match k with
      | .int i => match atI us i with
        | some z => P z G
        | none => False
      | _ => False
    | some (.dct ds) => keyAsk false ds k ∧ match lookD ds k with
      | some z => P z G
      | none => False
    | _ => False
  | _, _ => False
theorem atI_len {α β : Type} {xs : List α} {ys : List β} (h : xs.length = ys.length) {i : Int} {y : β} (e : atI ys i = some y) : ∃ (j : Nat) (x : α), ys[j]? = some y ∧ xs[j]? = some x ∧ atI xs i = some x := by
  unfold atI at e ⊢
  rw [h]
  obtain ⟨j, h1, h2⟩ := Option.bind_eq_some_iff.mp e
  have hj : j < xs.length := by rw [h]; exact (List.getElem?_eq_some_iff.mp h2).1
  exact ⟨j, xs[j], h2, List.getElem?_eq_getElem hj, by rw [h1]; exact List.getElem?_eq_getElem hj⟩
theorem flatU_rep {K : PySem.W.Frag} {m : MM} {G : GH} {H : Hp} {v : V} {x : PyData} (r : RepK K H v x) : RU K m G H v (flatU x) := by
  cases r with
  | int i => exact Rep.int i
  | str s => exact Rep.str s
  | tup a b c => exact RepK.tup a b c
  | lst a b c => exact RepK.lst a b c
section
variable {X : Cx}
/-- d[k] by values -/
theorem ix_dict {lk : Bool} {value slice : Expr} {pins : List (Addr × Obj)} {s : Shared} {σ : St} {H : Hp} {a : Addr} {y : V} {x : PyData} {u : Value} {β : Type} {R : V → β → Prop} {ds : List (PyData × β)} {z : β} {Q : VK} (hu : X.A.units + 64 < cLine) (I : Inv X pins σ H s) (d : IsDct lk H a R ds) (ky : KeyV H y x) (kk : kindOk lk ds x) (ry : RelV y u) (hz : lookD ds x = some z)
    (q : ∀ v, R v z → Q v H) (hs : subscripted slice false (.ref a) u = operate [.ref a, u] (getItem (.ref a) u)) : wpAny (model X.prog X.w) X.A (subscriptTail value slice (.ref a) u) (EP X pins σ Q) X.xe s := by
  obtain ⟨H', o, I', g, back, ro⟩ := dget_of I d ky kk
  rw [hz] at ro
  cases o with
  | none => exact ro.elim
  | some v =>
    have ro : R v z := ro
    have hT := dict_typeIs I' g
    unfold subscriptTail
    refine wpAny_bind ?_
    rw [getitemInPython_of_ne hT.not_modules]
    refine wpAny_bind (wpAny_specialOf hT PySem.F.slot_dict_getitem.lookup ?_)
    have fin : wpAny (model X.prog X.w) X.A (subscripted slice false (.ref a) u) (fun r s₃ => wpAny (model X.prog X.w) X.A (letTemporaryGo value (.ref a) r >>= fun _ => pure r) (EP X pins σ Q) X.xe s₃) X.xe s := by
      rw [hs]
      exact wpAny_operating (d_getItem (by omega) I' g ry fun w' s' J rw' => wpAny_bind (wpAny_letTemporaryGo (wpAny_pure ⟨v, H, back s' J, rw', q v ro⟩)))
    first
      | exact wpAny_pure (wpAny_bind fin)
      | exact wpAny_bind (wpAny_pure (wpAny_bind fin))
      | exact wpAny_bind fin
theorem x_ix (hu : X.A.units + 64 < cLine) : IxR X (rG2 X.K gIx) := by
  intro value slice pins s σ H x y v u Q I rx ry ⟨m, G, a, b, P, M, ra, rb, hg, q⟩ hs
  unfold gIx at hg
  split at hg
  · split at hg
    · rename_i z hz
      cases rb
      cases ra with
      | lst h n r =>
        obtain ⟨j, w, h1, h2, h3⟩ := atI_len r.length hz
        obtain ⟨w', e1, e2⟩ := r.get h1
        rw [h2] at e1; cases e1
        exact ix_seq value slice pins s σ H _ _ v u Q I rx ry (.inl ⟨_, _, _, _, rfl, rfl, .of h, h3, q _ G _ m H hg Ext.refl M e2⟩) hs
    · exact hg.elim
  · split at hg
    · rename_i z hz
      cases rb
      obtain ⟨p, vs, rfl, h, r⟩ := rep_tup ra
      obtain ⟨j, w, h1, h2, h3⟩ := atI_len r.length hz
      obtain ⟨w', e1, e2⟩ := r.get h1
      rw [h2] at e1; cases e1
      exact ix_seq value slice pins s σ H _ _ v u Q I rx ry (.inr (.inl ⟨_, _, _, _, rfl, rfl, h, h3, q _ G _ m H hg Ext.refl M e2⟩)) hs
    · exact hg.elim
  · obtain ⟨hl, hg⟩ := hg
    split at hg
    · rename_i c hc
      cases ra; cases rb
      exact ix_seq value slice pins s σ H _ _ v u Q I rx ry (.inr (.inr ⟨_, _, _, rfl, rfl, hl, hc, q _ G _ m H hg Ext.refl M (.str _)⟩)) hs
    · exact hg.elim
  · split at hg
    · rename_i z hz
      cases rb
      have ra : RepK X.K H x _ := ra
      cases ra with
      | lst h l r =>
        obtain ⟨j, w, h1, h2, h3⟩ := atI_len l hz
        exact ix_seq value slice pins s σ H _ _ v u Q I rx ry (.inl ⟨_, _, _, _, rfl, rfl, frL h, h3, q _ G _ m H hg Ext.refl M (flatU_rep (r j w z h2 h1))⟩) hs
    · exact hg.elim
  · obtain ⟨⟨k1, k2⟩, hg⟩ := hg
    split at hg
    · rename_i z hz
      obtain ⟨p, rfl, d⟩ := rep_dict ra
      cases rx
      exact ix_dict hu I d (keyV_of rb k1) k2 ry hz (fun w rw' => q _ G w m H hg Ext.refl M rw') hs
    · exact hg.elim
  · rename_i n k
    obtain ⟨p, hp, rfl⟩ := ra
    cases rx
    split at hg
    · rename_i us hG
      split at hg
      · split at hg
        · rename_i z hz
          cases rb
          obtain ⟨vs, h, r⟩ := M.ok n p _ hp hG
          obtain ⟨j, w, h1, h2, h3⟩ := atI_len r.length hz
          obtain ⟨w', e1, e2⟩ := r.get h1
          rw [h2] at e1; cases e1
          exact ix_seq value slice pins s σ H (.ref p.1) _ _ u Q I rfl ry (.inl ⟨_, _, _, _, rfl, rfl, .of h, h3, q _ G _ m H hg Ext.refl M e2⟩) hs
        · exact hg.elim
      · exact hg.elim
    · rename_i ds hG
      obtain ⟨⟨k1, k2⟩, hg⟩ := hg
      split at hg
      · rename_i z hz
        exact ix_dict hu I (mok_dct (M.ok n p _ hp hG)) (keyV_of rb k1) k2 ry hz (fun w rw' => q _ G w m H hg Ext.refl M rw') hs
      · exact hg.elim
    · exact hg.elim
  · exact hg.elim
variable {W : WX} {a b : Expr} {pos : Pos} {φa φb : WE}
theorem r_ix {g : G2} (hr : IxR X (rG2 X.K g)) (ha : PE X a (tE X.K W φa)) (hb : PE X b (tE X.K W φb)) (hs : PlainIx b := by exact fun _ _ => rfl) : PE X (.Subscript a b pos) (tE X.K W (eOp g φa φb)) := (pe_ix hr ha hb hs).imp fun _ _ _ h => tOp_of h

/-! ### slices -/
abbrev WO := SS → GH → (Option Int → GH → Prop) → PX → Prop
def oNone : WO := fun _ G P _ => P none G
def oSome (a : WE) : WO := fun ss G P p => a ss G (fun x G1 => match x with
  | .d (.int i) => P (some i) G1
  | _ => False) p
/-- the items between two places -/
def cutD {α : Type} (xs : List α) (lo hi : Option Int) : List α := (xs.drop (HT.sIx xs.length 0 lo)).take (HT.sIx xs.length xs.length hi - HT.sIx xs.length 0 lo)
def gSl (x : U) (lo hi : Option Int) (G : GH) (P : PU) : Prop := match x with
  | .d (.list xs) => P (.d (.list (cutD xs lo hi))) G
  | .d (.tuple xs) => P (.d (.tuple (cutD xs lo hi))) G
  | .d (.str z) => z.length ≤ sizeLine ∧ P (.d (.str (cutS z lo hi))) G
  | _ => False
def eSl (a : WE) (lo hi : WO) : WE := fun ss G P p => a ss G (fun x G1 => lo ss G1 (fun l G2 => hi ss G2 (fun h G3 => gSl x l h G3 P) p) p) p
def tO (K : PySem.W.Frag) (W : WX) (φ : WO) : L2.TO := fun σ H Q => ∃ (m : MM) (G : GH) (ss : SS) (P : Option Int → GH → Prop) (p : PX), Mem K m G H ∧ StOk K m G H σ ss ∧ φ ss G P p ∧ OkX K W m G H σ p ∧
  ∀ (o : Option Int) (G' : GH) (m' : MM) (H' : Hp), P o G' → Ext m G H m' G' H' → Mem K m' G' H' → Q o H'
variable {ω ωl ωh : WO} {e : Expr} {lo hi : Option Expr} {p2 : Pos} {φ : WE}
theorem r_onone : PO X none (tO X.K W oNone) := ⟨fun pins s σ H Q I ⟨m, G, ss, P, p, M, S, h, hx, q⟩ => po_none.run pins s σ H Q I (q none G m H h Ext.refl M)⟩
theorem r_osome (h : PE X e (tE X.K W φ)) : PO X (some e) (tO X.K W (oSome φ)) := ⟨fun pins s σ H Q I ⟨m, G, ss, P, p, M, S, hh, hx, q⟩ => (po_some h).run pins s σ H Q I ⟨m, G, ss, _, p, M, S, hh, hx, fun u G1 v m1 H1 p1 e1 M1 r1 => by
  split at p1
  · cases r1
    exact ⟨_, rfl, q _ G1 m1 H1 p1 e1 M1⟩
  · exact p1.elim⟩⟩
theorem Reps.cut {K : PySem.W.Frag} {H : Hp} {L : Addr → Prop} {vs : List V} {xs : List PyData} (r : Reps K H L vs xs) (lo hi : Option Int) : Reps K H L (cutV vs lo hi) (cutD xs lo hi) := by
  unfold cutV cutD
  rw [r.length]
  exact (r.drop _).take _
theorem cut_whole {α : Type} {xs : List α} {lo hi : Option Int} (h : HT.sIx xs.length 0 lo = 0 ∧ HT.sIx xs.length xs.length hi = xs.length) : cutD xs lo hi = xs := by
  unfold cutD
  rw [h.1, h.2]
  simp
theorem r_slice (ha : PE X e (tE X.K W φ)) (hl : PO X lo (tO X.K W ωl)) (hh : PO X hi (tO X.K W ωh)) : PE X (.Subscript e (.Slice lo hi none p2) pos) (tE X.K W (eSl φ ωl ωh)) := (pe_slice ((sl_list.or sl_tupA).or sl_str) ha hl hh).imp fun σ H Q ⟨m, G, ss, P, p, M, S, h, hx, q⟩ => by
  refine ⟨m, G, ss, _, p, M, S, h, hx, fun u G1 v m1 H1 p1 e1 M1 r1 => ⟨m1, G1, ss, _, p, M1, S.ext M e1, p1, hx.ext e1, fun l G2 m2 H2 p2 e2 M2 => ⟨m2, G2, ss, _, p, M2, S.ext M (e1.trans e2), p2, (hx.ext e1).ext e2, fun l' G3 m3 H3 p3 e3 M3 => ?_⟩⟩⟩
  have r3 := (r1.ext M1 e2).ext M2 e3
  have e13 := (e1.trans e2).trans e3
  unfold gSl at p3
  split at p3
  · cases r3 with
    | @lst a0 vs0 xs0 h n r =>
      refine .inl (.inl ⟨_, _, rfl, .of h, fun a ha => ?_⟩)
      have e := Ext.fresh (m := m3) (G := G3) (o := .lst (cutV vs0 l l')) ha
      exact q _ G3 _ m3 _ p3 (e13.trans e) (M3.fresh ha) (Rep.lst upd_same (Lv.notFree M3 ha) (Reps.go (M3.go e) (r.cut l l')))
  · obtain ⟨a, vs, rfl, h, r⟩ := rep_tup r3
    have hl := r.length
    refine .inl (.inr ⟨_, _, rfl, h, fun w => ?_, fun _ a' ha => ?_⟩)
    · rw [hl] at w
      rw [cut_whole w] at p3
      exact q _ G3 _ m3 _ p3 e13 M3 r3
    · have e := Ext.fresh (m := m3) (G := G3) (o := .tup (cutV vs l l')) ha
      exact q _ G3 _ m3 _ p3 (e13.trans e) (M3.fresh ha) (Rep.tup upd_same (Reps.go (M3.go e) (r.cut l l')))
  · cases r3
    exact .inr ⟨_, rfl, p3.1, q _ G3 _ m3 _ p3.2 e13 M3 (.str _)⟩
  · exact p3.elim
end
end R
/-! ## part RG -/
/-! The layer R: in, calls of built-ins. -/
namespace R
open PySem PySem.Spec
open PyProof.Rows hiding St
open L2

def InOk (x : PyData) (ys : List PyData) : Prop := PyData.plainAll ys = true ∧ x.plain = true ∧ min (PyData.depthAll ys) x.depth ≤ 50
/-- x in y: neg for not in -/
def gInB (neg : Bool) : G2 := fun x y G P => match x, y with
  | .d (.str a), .d (.str b) => match a.cps.toList with
    | [c] => P (.d (.bool (neg != decide (c ∈ b.cps.toList)))) G
    | _ => False
  | .d x, .d (.list ys) => InOk x ys ∧ P (.d (.bool (neg != ys.any fun y => PyData.eqv y x))) G
  | .d x, .d (.tuple ys) => InOk x ys ∧ P (.d (.bool (neg != ys.any fun y => PyData.eqv y x))) G
  | .d x, .k (.tuple ys) => InOk x ys ∧ P (.d (.bool (neg != ys.any fun y => PyData.eqv y x))) G
  | .d k, .d (.dict ds) => keyAsk true ds k ∧ P (.d (.bool (neg != (lookD ds k).isSome))) G
  | .d k, .r n => match G[n]? with
    | some (.dct ds) => keyAsk false ds k ∧ P (.d (.bool (neg != (lookD ds k).isSome))) G
    | _ => False
  | _, _ => False
abbrev gIn : G2 := gInB false
abbrev gNotIn : G2 := gInB true
theorem ff (b : Bool) : (false != b) = b := by cases b <;> rfl
theorem tt (b : Bool) : (true != b) = !b := by cases b <;> rfl
theorem relOpt_some {β γ : Type} {R : β → γ → Prop} {o : Option β} {d : Option γ} (h : RelOpt R o d) : o.isSome = d.isSome := by
  cases o <;> cases d <;> first | rfl | exact h.elim
section
variable {X : Cx}
theorem str_one {a : Str} {c : Nat} (h : a.cps.toList = [c]) : a = ⟨#[c]⟩ := by
  obtain ⟨cps⟩ := a
  congr
  exact Array.toList_inj.mp h
/-- k in d by values, both answers -/
theorem in_dict {lk : Bool} {pins : List (Addr × Obj)} {s : Shared} {σ : St} {H : Hp} {a : Addr} {y : V} {x : PyData} {u : Value} {β : Type} {R : V → β → Prop} {ds : List (PyData × β)} {Q : Value → Shared → Prop} (hu : X.A.units + 64 < cLine) (I : Inv X pins σ H s) (d : IsDct lk H a R ds) (ky : KeyV H y x) (kk : kindOk lk ds x) (ry : RelV y u)
    (q : ∀ s', Inv X pins σ H s' → Q (.bool (lookD ds x).isSome) s') : wpAny (model X.prog X.w) X.A (compareOp .In u (.ref a)) Q X.xe s := by
  obtain ⟨H', o, I', g, back, ro⟩ := dget_of I d ky kk
  refine d_in (by omega) I' g ry fun s' J => ?_
  rw [relOpt_some ro]
  exact q s' (back s' J)
theorem notIn_dict {lk : Bool} {pins : List (Addr × Obj)} {s : Shared} {σ : St} {H : Hp} {a : Addr} {y : V} {x : PyData} {u : Value} {β : Type} {R : V → β → Prop} {ds : List (PyData × β)} {Q : Value → Shared → Prop} (hu : X.A.units + 64 < cLine) (I : Inv X pins σ H s) (d : IsDct lk H a R ds) (ky : KeyV H y x) (kk : kindOk lk ds x) (ry : RelV y u)
    (q : ∀ s', Inv X pins σ H s' → Q (.bool (!(lookD ds x).isSome)) s') : wpAny (model X.prog X.w) X.A (compareOp .NotIn u (.ref a)) Q X.xe s := by
  obtain ⟨H', o, I', g, back, ro⟩ := dget_of I d ky kk
  refine d_notIn (by omega) I' g ry fun s' J => ?_
  rw [relOpt_some ro]
  exact q s' (back s' J)
theorem k_in (sm : SM X.K) (hu : X.A.units + 64 < cLine) : OpR X (compareOp .In) (rG2 X.K gIn) := by
  intro pins s σ H x y v u Q I rx ry ⟨m, G, a, b, P, M, ra, rb, hg, q⟩
  have fin : ∀ (k : Bool) (s' : Shared), P (.d (.bool k)) G → Inv X pins σ H s' → EP X pins σ Q (.bool k) s' := fun k s' p J => ⟨.bl k, H, J, rfl, q _ G _ m H p Ext.refl M (.bl k)⟩
  unfold gIn gInB at hg
  split at hg
  · split at hg
    · rename_i c hc
      cases ra; cases rb
      rw [str_one hc] at rx
      exact op_in_sign pins s σ H _ _ v u Q I rx ry ⟨c, _, rfl, rfl, by rw [ff] at hg; exact q _ G _ m H hg Ext.refl M (.bl _)⟩
    · exact hg.elim
  · obtain ⟨⟨h1, h2, h3⟩, h4⟩ := hg
    obtain ⟨as, r1, _⟩ := Rep.reads sm I ra rx
    obtain ⟨bs, r2, _⟩ := Rep.reads sm I rb ry
    rw [ff] at h4
    exact SeqAt.in_list_data r2 r1 h1 h2 (by omega) (fin _ s h4 I)
  · obtain ⟨⟨h1, h2, h3⟩, h4⟩ := hg
    obtain ⟨as, r1, _⟩ := Rep.reads sm I ra rx
    obtain ⟨bs, r2, _⟩ := Rep.reads sm I rb ry
    rw [ff] at h4
    exact SeqAt.in_tuple_data r2 r1 h1 h2 (by omega) (fin _ s h4 I)
  · obtain ⟨⟨h1, h2, h3⟩, h4⟩ := hg
    obtain ⟨as, r1, _⟩ := Rep.reads sm I ra rx
    obtain ⟨bs, r2⟩ := RepK.reads I rb ry
    rw [ff] at h4
    exact SeqAt.in_tuple_data r2 r1 h1 h2 (by omega) (fin _ s h4 I)
  · obtain ⟨⟨k1, k2⟩, h4⟩ := hg
    obtain ⟨p, rfl, d⟩ := rep_dict rb
    cases ry
    rw [ff] at h4
    exact in_dict hu I d (keyV_of ra k1) k2 rx fun s' J => fin _ s' h4 J
  · rename_i k n
    obtain ⟨p, hp, rfl⟩ := rb
    cases ry
    split at hg
    · rename_i ds hG
      obtain ⟨⟨k1, k2⟩, h4⟩ := hg
      rw [ff] at h4
      exact in_dict hu I (mok_dct (M.ok n p _ hp hG)) (keyV_of ra k1) k2 rx fun s' J => fin _ s' h4 J
    · exact hg.elim
  · exact hg.elim
theorem k_notIn (sm : SM X.K) (hu : X.A.units + 64 < cLine) : OpR X (compareOp .NotIn) (rG2 X.K gNotIn) := by
  intro pins s σ H x y v u Q I rx ry ⟨m, G, a, b, P, M, ra, rb, hg, q⟩
  have fin : ∀ (k : Bool) (s' : Shared), P (.d (.bool k)) G → Inv X pins σ H s' → EP X pins σ Q (.bool k) s' := fun k s' p J => ⟨.bl k, H, J, rfl, q _ G _ m H p Ext.refl M (.bl k)⟩
  unfold gNotIn gInB at hg
  split at hg
  · split at hg
    · rename_i c hc
      cases ra; cases rb
      rw [str_one hc] at rx
      exact op_notIn_sign pins s σ H _ _ v u Q I rx ry ⟨c, _, rfl, rfl, by rw [tt] at hg; exact q _ G _ m H hg Ext.refl M (.bl _)⟩
    · exact hg.elim
  · obtain ⟨⟨h1, h2, h3⟩, h4⟩ := hg
    obtain ⟨as, r1, _⟩ := Rep.reads sm I ra rx
    obtain ⟨bs, r2, _⟩ := Rep.reads sm I rb ry
    rw [tt] at h4
    exact SeqAt.notIn_list_data r2 r1 h1 h2 (by omega) (fin _ s h4 I)
  · obtain ⟨⟨h1, h2, h3⟩, h4⟩ := hg
    obtain ⟨as, r1, _⟩ := Rep.reads sm I ra rx
    obtain ⟨bs, r2, _⟩ := Rep.reads sm I rb ry
    rw [tt] at h4
    exact SeqAt.notIn_tuple_data r2 r1 h1 h2 (by omega) (fin _ s h4 I)
  · obtain ⟨⟨h1, h2, h3⟩, h4⟩ := hg
    obtain ⟨as, r1, _⟩ := Rep.reads sm I ra rx
    obtain ⟨bs, r2⟩ := RepK.reads I rb ry
    rw [tt] at h4
    exact SeqAt.notIn_tuple_data r2 r1 h1 h2 (by omega) (fin _ s h4 I)
  · obtain ⟨⟨k1, k2⟩, h4⟩ := hg
    obtain ⟨p, rfl, d⟩ := rep_dict rb
    cases ry
    rw [tt] at h4
    exact notIn_dict hu I d (keyV_of ra k1) k2 rx fun s' J => fin _ s' h4 J
  · rename_i k n
    obtain ⟨p, hp, rfl⟩ := rb
    cases ry
    split at hg
    · rename_i ds hG
      obtain ⟨⟨k1, k2⟩, h4⟩ := hg
      rw [tt] at h4
      exact notIn_dict hu I (mok_dct (M.ok n p _ hp hG)) (keyV_of ra k1) k2 rx fun s' J => fin _ s' h4 J
    · exact hg.elim
  · exact hg.elim

/-! ### calls by values -/
abbrev Gn := List U → GH → PU → Prop
def rGn (K : PySem.W.Frag) (g : Gn) : List V → Hp → VK → Prop := fun xs H Q => ∃ (m : MM) (G : GH) (us : List U) (P : PU), Mem K m G H ∧ RUs K m G H xs us ∧ g us G P ∧
  ∀ (z : U) (G' : GH) (v : V) (m' : MM) (H' : Hp), P z G' → Ext m G H m' G' H' → Mem K m' G' H' → RU K m' G' H' v z → Q v H'
def eCallB (g : Gn) (α : WA) : WE := fun ss G P p => α ss G (fun us G1 => g us G1 P) p
variable {W : WX} {x : Str} {e o : Expr} {es : List Expr} {p pos apos : Pos} {α : WA} {g : Gn} {bid T name : String} {φ : WE}
theorem tCB_of {σ : St} {H : Hp} {Q : VK} (h : tE X.K W (eCallB g α) σ H Q) : tCB (rGn X.K g) (tA X.K W α) σ H Q := by
  obtain ⟨m, G, ss, P, p, M, S, h, hx, q⟩ := h
  exact ⟨m, G, ss, _, p, M, S, h, hx, fun us G1 vs m1 H1 p1 e1 M1 r1 => ⟨m1, G1, us, P, M1, r1, p1, fun z G' v' m' H' pz e' M' r' => q z G' v' m' H' pz (e1.trans e') M' r'⟩⟩
theorem r_callB (hc : CallR X (.builtin bid) (rGn X.K g)) (hm : X.mg x = none) (ha : PA X (e :: es) (tA X.K W α)) (hv : bootBuiltins x = some (.builtin bid) := by decide +kernel) (hg : Gl X x := by rfl) (hn : x ≠ "__name__" := by decide) (hdb : (x == ("__debug__" : Str)) = false := by decide)
    (he : starEach (e :: es) X.env = (false, eval e X.env) :: starEach es X.env := by rfl) (hpl : (backTo pos (starEach es X.env)).any (·.1) = false := by rfl) : PE X (.Call (.Name x p) (e :: es) [] pos) (tE X.K W (eCallB g α)) :=
  (pe_callB hc hg hm hv ha hn hdb he hpl).imp fun _ _ _ h => tCB_of h
theorem r_callTy (hc : CallR X (.type T) (rGn X.K g)) (hm : X.mg x = none) (ha : PA X (e :: es) (tA X.K W α)) (hv : bootBuiltins x = some (.type T) := by decide +kernel) (hg : Gl X x := by rfl) (hn : x ≠ "__name__" := by decide) (hdb : (x == ("__debug__" : Str)) = false := by decide)
    (he : starEach (e :: es) X.env = (false, eval e X.env) :: starEach es X.env := by rfl) (hpl : (backTo pos (starEach es X.env)).any (·.1) = false := by rfl) : PE X (.Call (.Name x p) (e :: es) [] pos) (tE X.K W (eCallB g α)) :=
  (pe_callTy hc hg hm hv ha hn hdb he hpl).imp fun _ _ _ h => tCB_of h
theorem lift_call {f : Value} {r : List V → Hp → VK → Prop} (h : CallR X f r) (i : ∀ (m : MM) (G : GH) (H : Hp) (xs : List V) (us : List U) (P : PU) (Q : VK), Mem X.K m G H → RUs X.K m G H xs us → g us G P →
    (∀ (z : U) (G' : GH) (v : V) (m' : MM) (H' : Hp), P z G' → Ext m G H m' G' H' → Mem X.K m' G' H' → RU X.K m' G' H' v z → Q v H') → r xs H Q) : CallR X f (rGn X.K g) :=
  fun pins s σ H xs us Q I rx ⟨m, G, as, P, M, ra, hg, q⟩ => h pins s σ H xs us Q I rx (i m G H xs as P Q M ra hg q)

/-- len -/
def gLen : Gn := fun us G P => match us with
  | [.d (.str z)] => z.length ≤ sizeLine ∧ P (.d (.int z.length)) G
  | [.d (.list xs)] => P (.d (.int xs.length)) G
  | [.d (.tuple xs)] => P (.d (.int xs.length)) G
  | [.k (.list xs)] => P (.d (.int xs.length)) G
  | [.r n] => match G[n]? with
    | some (.lst us) => P (.d (.int us.length)) G
    | _ => False
  | _ => False
theorem c_len : CallR X (.builtin "len") (rGn X.K gLen) := by
  refine lift_call (call_len_seq.or call_len_str) fun m G H xs us P Q M r hg q => ?_
  unfold gLen at hg
  split at hg
  · cases r with
    | cons a b => cases b; cases a; exact .inr ⟨_, rfl, hg.1, q _ G _ m H hg.2 Ext.refl M (.int _)⟩
  · cases r with
    | cons a b =>
      cases b
      cases a with
      | lst h n r => exact .inl ⟨_, _, rfl, .inl (.of h), by rw [r.length]; exact q _ G _ m H hg Ext.refl M (Rep.int _)⟩
  · cases r with
    | cons a b =>
      cases b
      obtain ⟨p, vs, rfl, h, r⟩ := rep_tup a
      exact .inl ⟨_, _, rfl, .inr h, by rw [r.length]; exact q _ G _ m H hg Ext.refl M (Rep.int _)⟩
  · cases r with
    | cons a b =>
      cases b
      have a : RepK X.K H _ _ := a
      cases a with
      | lst h l r => exact .inl ⟨_, _, rfl, .inl (frL h), by rw [l]; exact q _ G _ m H hg Ext.refl M (Rep.int _)⟩
  · cases r with
    | cons a b =>
      cases b
      obtain ⟨p, hp, rfl⟩ := a
      split at hg
      · rename_i _ us hG
        obtain ⟨vs, h, r⟩ := M.ok _ p _ hp hG
        exact .inl ⟨_, _, rfl, .inl (.of h), by rw [r.length]; exact q _ G _ m H hg Ext.refl M (Rep.int _)⟩
      · exact hg.elim
  · exact hg.elim
/-- tuple(x) -/
def gTuple : Gn := fun us G P => match us with
  | [.d (.list xs)] => P (.d (.tuple xs)) G
  | [.d (.tuple xs)] => P (.d (.tuple xs)) G
  | [.r n] => match G[n]? with
    | some (.lst us) => match dataOf us with
      | some xs => P (.d (.tuple xs)) G
      | none => False
    | _ => False
  | _ => False
theorem c_tuple : CallR X (.type "tuple") (rGn X.K gTuple) := by
  refine lift_call call_tuple_of fun m G H xs us P Q M r hg q => ?_
  unfold gTuple at hg
  split at hg
  · cases r with
    | cons a b =>
      cases b
      cases a with
      | @lst p vs xs h n r =>
        refine ⟨_, _, rfl, .inl ⟨.of h, fun l hl => ?_⟩⟩
        have e := Ext.fresh (m := m) (G := G) (o := .tup vs) hl
        exact q _ G _ m _ hg e (M.fresh hl) (Rep.tup upd_same (Reps.go (M.go e) r))
  · cases r with
    | cons a b =>
      cases b
      obtain ⟨p, vs, rfl, h, r⟩ := rep_tup a
      exact ⟨_, _, rfl, .inr ⟨h, q _ G _ m H hg Ext.refl M a⟩⟩
  · cases r with
    | cons a b =>
      cases b
      obtain ⟨p, hp, rfl⟩ := a
      split at hg
      · rename_i _ us hG
        split at hg
        · rename_i ds hd
          obtain ⟨vs, h, r⟩ := M.ok _ p _ hp hG
          rw [dataOf_eq hd] at r
          refine ⟨_, _, rfl, .inl ⟨.of h, fun l hl => ?_⟩⟩
          have e := Ext.fresh (m := m) (G := G) (o := .tup vs) hl
          exact q _ G _ m _ hg e (M.fresh hl) (Rep.tup upd_same (Reps.go (M.go e) (RUs.toReps r)))
        · exact hg.elim
      · exact hg.elim
  · exact hg.elim
/-- list(x), never to change -/
def gList : Gn := fun us G P => match us with
  | [.d (.list xs)] => P (.d (.list xs)) G
  | [.d (.tuple xs)] => P (.d (.list xs)) G
  | _ => False
theorem c_list : CallR X (.type "list") (rGn X.K gList) := by
  refine lift_call call_list_of fun m G H xs us P Q M r hg q => ?_
  unfold gList at hg
  split at hg
  · cases r with
    | cons a b =>
      cases b
      cases a with
      | @lst p vs xs h n r =>
        refine ⟨_, _, rfl, .inl (.of h), fun l hl => ?_⟩
        have e := Ext.fresh (m := m) (G := G) (o := .lst vs) hl
        exact q _ G _ m _ hg e (M.fresh hl) (Rep.lst upd_same (Lv.notFree M hl) (Reps.go (M.go e) r))
  · cases r with
    | cons a b =>
      cases b
      obtain ⟨p, vs, rfl, h, r⟩ := rep_tup a
      refine ⟨_, _, rfl, .inr h, fun l hl => ?_⟩
      have e := Ext.fresh (m := m) (G := G) (o := .lst vs) hl
      exact q _ G _ m _ hg e (M.fresh hl) (Rep.lst upd_same (Lv.notFree M hl) (Reps.go (M.go e) r))
  · exact hg.elim
/-- list(x), as one that may change -/
def gListH : Gn := fun us G P => match us with
  | [.d (.list xs)] => P (.r G.length) (G ++ [.lst (xs.map .d)])
  | [.d (.tuple xs)] => P (.r G.length) (G ++ [.lst (xs.map .d)])
  | [.r n] => match G[n]? with
    | some (.lst us) => P (.r G.length) (G ++ [.lst us])
    | _ => False
  | _ => False
theorem c_listH : CallR X (.type "list") (rGn X.K gListH) := by
  refine lift_call call_list_of fun m G H xs us P Q M r hg q => ?_
  unfold gListH at hg
  split at hg
  · cases r with
    | cons a b =>
      cases b
      cases a with
      | @lst p vs xs h n r =>
        refine ⟨_, _, rfl, .inl (.of h), fun l hl => ?_⟩
        obtain ⟨e2, M2, r2⟩ := newLst M hl (RUs.ofReps r)
        exact q _ _ _ _ _ hg e2 M2 r2
  · cases r with
    | cons a b =>
      cases b
      obtain ⟨p, vs, rfl, h, r⟩ := rep_tup a
      refine ⟨_, _, rfl, .inr h, fun l hl => ?_⟩
      obtain ⟨e2, M2, r2⟩ := newLst M hl (RUs.ofReps r)
      exact q _ _ _ _ _ hg e2 M2 r2
  · cases r with
    | cons a b =>
      cases b
      obtain ⟨p, hp, rfl⟩ := a
      split at hg
      · rename_i _ us hG
        obtain ⟨vs, h, r⟩ := M.ok _ p _ hp hG
        refine ⟨_, _, rfl, .inl (.of h), fun l hl => ?_⟩
        obtain ⟨e2, M2, r2⟩ := newLst M hl r
        exact q _ _ _ _ _ hg e2 M2 r2
      · exact hg.elim
  · exact hg.elim
/-- int(x) of a number, a truth value -/
def gInt : Gn := fun us G P => match us with
  | [.d (.int i)] => P (.d (.int i)) G
  | [.d (.bool b)] => P (.d (.int (if b then 1 else 0))) G
  | _ => False
theorem c_int : CallR X (.type "int") (rGn X.K gInt) := by
  refine lift_call call_int1 fun m G H xs us P Q M r hg q => ?_
  unfold gInt at hg
  split at hg
  · cases r with
    | cons a b => cases b; cases a; exact .inl ⟨_, rfl, q _ G _ m H hg Ext.refl M (.int _)⟩
  · cases r with
    | cons a b => cases b; cases a; exact .inr ⟨_, rfl, q _ G _ m H hg Ext.refl M (.int _)⟩
  · exact hg.elim
/-- max, min of two numbers -/
def gMax2 : Gn := fun us G P => match us with
  | [.d (.int i), .d (.int j)] => P (.d (.int (if j > i then j else i))) G
  | _ => False
def gMin2 : Gn := fun us G P => match us with
  | [.d (.int i), .d (.int j)] => P (.d (.int (if j < i then j else i))) G
  | _ => False
theorem c_max2 (hc : X.calm = true) : CallR X (.builtin "max") (rGn X.K gMax2) := by
  refine lift_call (call_max2 hc) fun m G H xs us P Q M r hg q => ?_
  unfold gMax2 at hg
  split at hg
  · cases r with
    | cons a b =>
      cases b with
      | cons b c => cases c; cases a; cases b; exact ⟨_, _, rfl, q _ G _ m H hg Ext.refl M (.int _)⟩
  · exact hg.elim
theorem c_min2 (hc : X.calm = true) : CallR X (.builtin "min") (rGn X.K gMin2) := by
  refine lift_call (call_min2 hc) fun m G H xs us P Q M r hg q => ?_
  unfold gMin2 at hg
  split at hg
  · cases r with
    | cons a b =>
      cases b with
      | cons b c => cases c; cases a; cases b; exact ⟨_, _, rfl, q _ G _ m H hg Ext.refl M (.int _)⟩
  · exact hg.elim
/-- all, any of a list of truth values -/
def boolsOf : List PyData → Option (List Bool)
  | [] => some []
  | .bool b :: r => (boolsOf r).map (b :: ·)
  | _ :: _ => none
theorem boolsOf_rep {K : PySem.W.Frag} {H : Hp} {L : Addr → Prop} : ∀ {xs : List PyData} {bs : List Bool} {vs : List V}, boolsOf xs = some bs → Reps K H L vs xs → vs = bs.map V.bl
  | [], _, _, h, r => by cases h; cases r; rfl
  | .bool b :: xs, _, _, h, r => by
    unfold boolsOf at h
    obtain ⟨bs, h1, rfl⟩ := Option.map_eq_some_iff.mp h
    cases r with
    | cons r1 r2 => cases r1; rw [boolsOf_rep h1 r2]; rfl
  | .none :: _, _, _, h, _ => by cases h
  | .int _ :: _, _, _, h, _ => by cases h
  | .str _ :: _, _, _, h, _ => by cases h
  | .list _ :: _, _, _, h, _ => by cases h
  | .tuple _ :: _, _, _, h, _ => by cases h
  | .dict _ :: _, _, _, h, _ => by cases h
theorem boolsOf_map (bs : List Bool) : boolsOf (bs.map .bool) = some bs := by
  induction bs with
  | nil => rfl
  | cons b bs ih => show (boolsOf (bs.map .bool)).map (b :: ·) = _; rw [ih]; rfl
def gAll : Gn := fun us G P => match us with
  | [.d (.list xs)] => match boolsOf xs with
    | some bs => P (.d (.bool (bs.all id))) G
    | none => False
  | _ => False
def gAny : Gn := fun us G P => match us with
  | [.d (.list xs)] => match boolsOf xs with
    | some bs => P (.d (.bool (bs.any id))) G
    | none => False
  | _ => False
theorem c_all (hc : X.calm = true) : CallR X (.builtin "all") (rGn X.K gAll) := by
  refine lift_call (cr_all hc) fun m G H xs us P Q M r hg q => ?_
  unfold gAll at hg
  split at hg
  · split at hg
    · rename_i bs hb
      cases r with
      | cons a b =>
        cases b
        cases a with
        | lst h n r => exact ⟨_, bs, rfl, by rw [← boolsOf_rep hb r]; exact .of h, q _ G _ m H hg Ext.refl M (.bl _)⟩
    · exact hg.elim
  · exact hg.elim
theorem c_any (hc : X.calm = true) : CallR X (.builtin "any") (rGn X.K gAny) := by
  refine lift_call (cr_any hc) fun m G H xs us P Q M r hg q => ?_
  unfold gAny at hg
  split at hg
  · split at hg
    · rename_i bs hb
      cases r with
      | cons a b =>
        cases b
        cases a with
        | lst h n r => exact ⟨_, bs, rfl, by rw [← boolsOf_rep hb r]; exact .of h, q _ G _ m H hg Ext.refl M (.bl _)⟩
    · exact hg.elim
  · exact hg.elim
end
end R
/-! ## part RH -/
/-! The layer R: sorted, repr. -/
namespace R
open PySem PySem.Spec
open PyProof.Rows hiding St
open L2

mutual
theorem Reads.there {h : Heap} : ∀ (d : PyData) (v : Value) (as : List Addr), Reads h v d as → ∀ a ∈ as, ∃ o, h.get? a = some o
  | .none, _, _, r => by cases r; simp
  | .bool _, _, _, r => by cases r; simp
  | .int _, _, _, r => by cases r; simp
  | .str _, _, _, r => by cases r; simp
  | .list xs, _, _, r => by
    cases r with
    | list h1 h2 h3 h4 =>
      intro a ha
      rcases List.mem_cons.mp ha with rfl | ha
      · exact ⟨_, h1⟩
      · exact ReadsAll.there xs _ _ h4 a ha
  | .tuple xs, _, _, r => by
    cases r with
    | tuple h1 h2 h3 h4 => exact ReadsAll.there xs _ _ h4
  | .dict kvs, _, _, r => by
    cases r with
    | dict h1 h2 h3 h4 h5 =>
      intro a ha
      rcases List.mem_append.mp ha with ha | ha
      · rcases List.mem_cons.mp ha with rfl | ha
        · exact ⟨_, h1⟩
        · exact ReadsAll.thereK kvs _ _ h4 a ha
      · exact ReadsAll.thereV kvs _ _ h5 a ha
theorem ReadsAll.there {h : Heap} : ∀ (ds : List PyData) (vs : List Value) (as : List Addr), ReadsAll h vs ds as → ∀ a ∈ as, ∃ o, h.get? a = some o
  | [], _, _, r => by cases r; simp
  | d :: ds, _, _, r => by
    cases r with
    | cons h1 h2 =>
      intro a ha
      rcases List.mem_append.mp ha with ha | ha
      · exact Reads.there d _ _ h1 a ha
      · exact ReadsAll.there ds _ _ h2 a ha
theorem ReadsAll.thereK {h : Heap} : ∀ (ds : List (PyData × PyData)) (vs : List Value) (as : List Addr), ReadsAll h vs (ds.map (·.1)) as → ∀ a ∈ as, ∃ o, h.get? a = some o
  | [], _, _, r => by
    have r : ReadsAll h _ [] _ := r
    cases r; simp
  | (k, d) :: ds, _, _, r => by
    have r : ReadsAll h _ (k :: ds.map (·.1)) _ := r
    cases r with
    | cons h1 h2 =>
      intro a ha
      rcases List.mem_append.mp ha with ha | ha
      · exact Reads.there k _ _ h1 a ha
      · exact ReadsAll.thereK ds _ _ h2 a ha
theorem ReadsAll.thereV {h : Heap} : ∀ (ds : List (PyData × PyData)) (vs : List Value) (as : List Addr), ReadsAll h vs (ds.map (·.2)) as → ∀ a ∈ as, ∃ o, h.get? a = some o
  | [], _, _, r => by
    have r : ReadsAll h _ [] _ := r
    cases r; simp
  | (k, d) :: ds, _, _, r => by
    have r : ReadsAll h _ (d :: ds.map (·.2)) _ := r
    cases r with
    | cons h1 h2 =>
      intro a ha
      rcases List.mem_append.mp ha with ha | ha
      · exact Reads.there d _ _ h1 a ha
      · exact ReadsAll.thereV ds _ _ h2 a ha
end
abbrev sortD (xs : List PyData) : List PyData := xs.mergeSort (PySem.W.dataLe false id)
def SortOk (xs : List PyData) : Prop := PySem.W.AllAlike xs ∧ PySem.W.Sortable xs ∧ xs.length ≤ sizeLine ∧ ∀ b ∈ xs, b.depth ≤ 40
def gSorted : Gn := fun us G P => match us with
  | [.d (.list xs)] => SortOk xs ∧ P (.d (.list (sortD xs))) G
  | [.d (.tuple xs)] => SortOk xs ∧ P (.d (.list (sortD xs))) G
  | [.d (.dict ds)] => SortOk (ds.map (·.1)) ∧ P (.d (.list (sortD (ds.map (·.1))))) G
  | [.r n] => match G[n]? with
    | some (.lst us) => match dataOf us with
      | some xs => SortOk xs ∧ P (.d (.list (sortD xs))) G
      | none => False
    | _ => False
  | _ => False
section
variable {X : Cx} {pins : List (Addr × Obj)} {σ : St} {H : Hp} {s : Shared} {L : Addr → Prop}
theorem each_of {K : PySem.W.Frag} : ∀ {vs : List V} {xs : List PyData} {us : List Value}, Reps K H L vs xs → Vals vs us → PySem.W.EachIs (fun (u : Value) (d : PyData) => ∃ v, RelV v u ∧ Rep K H L v d) us xs
  | _, _, _, .nil, .nil => .nil
  | _, _, _, .cons h r, .cons a b => .cons ⟨_, a, h⟩ (each_of r b)
theorem of_each {K : PySem.W.Frag} : ∀ {us : List Value} {xs : List PyData}, PySem.W.EachIs (fun (u : Value) (d : PyData) => ∃ v, RelV v u ∧ Rep K H L v d) us xs → ∃ vs, Vals vs us ∧ Reps K H L vs xs
  | _, _, .nil => ⟨[], .nil, .nil⟩
  | _, _, .cons ⟨v, a, h⟩ r => by
    obtain ⟨vs, b, c⟩ := of_each r
    exact ⟨v :: vs, .cons a b, .cons h c⟩
/-- sorted(x), where what x walks is known -/
theorem sorted_run {x : Value} {vs : List V} {us : List Value} {xs : List PyData} {Q : VK} {m : MM} {G : GH} (sm : SM X.K) (hu : X.A.units + 64 < cLine) (I : Inv X pins σ H s) (M : Mem X.K m G H) (r : Reps X.K H (Lv m G) vs xs) (rv : Vals vs us) (ok : SortOk xs)
    (hc : ∀ (R : List Value → Shared → Prop), (∀ h' tk, (∀ b o, s.heap.get? b = some o → h'.get? b = some o) → R us { s with heap := h', toks := tk }) → wpAny (model X.prog X.w) X.A.in1 (collect x) R X.xe s)
    (q : ∀ (v : V) (H' : Hp), Ext m G H m G H' → Mem X.K m G H' → RU X.K m G H' v (.d (.list (sortD xs))) → Q v H') : wpAny (model X.prog X.w) X.A (call (.builtin "sorted") [x]) (EP X pins σ Q) X.xe s := by
  obtain ⟨h1, h2, h3, h4⟩ := ok
  have ln : us.length = xs.length := rv.length.symm.trans r.length
  refine Calls.call_function_entry PyProof.Rows.kind_sorted PyProof.Rows.plain_sorted PyProof.Rows.entry_sorted (PyProof.Rows.args_sorted1 _) ?_
  unfold Builtin.«sorted»
  refine wpAny_bind (m := checkCount "sorted" 1 1 _) (wpAny_pure ?_)
  refine wpAny_bind (hc _ fun h' tk hk => ?_)
  refine wpAny_bind (wpAny_newList ?_ (by rw [ln]; exact h3))
  have kp : ∀ b o, s.heap.get? b = some o → (h'.push { cls := .type "list", data := .seq us.toArray }).get? b = some o := fun b o e => Heap.get?_push_of_some _ (hk b o e)
  have e1 := each_of r rv
  have e2 : PySem.W.EachIs (fun (u : Value) (d : PyData) => ∃ as, Reads (h'.push { cls := .type "list", data := .seq us.toArray }) u (id d) as ∧ h'.objs.size ∉ as) us xs := e1.mono fun u d ⟨v, a, b⟩ => by
    obtain ⟨as, ra, _⟩ := Rep.reads sm I b a
    refine ⟨as, PyProof.Rows.Reads.keeps kp ra, fun hm => ?_⟩
    obtain ⟨o, ho⟩ := Reads.there _ _ _ ra _ hm
    exact Nat.lt_irrefl _ (Heap.lt_size (hk _ _ ho))
  have hob : (h'.push { cls := .type "list", data := .seq us.toArray }).get? h'.objs.size = some (seqObj "list" us.toArray 0) := Heap.get?_push_size _ rfl
  refine wpAny_bind (wpAny_holding (wpAny_mono (PySem.W.list_sort_data (enc := id) (R := fun (u : Value) (d : PyData) => ∃ v, RelV v u ∧ Rep X.K H (Lv m G) v d) (Q := fun _ s' => EP X pins σ Q (.ref h'.objs.size) s') hob e1 e2 (by rw [List.map_id]; exact h1) (by rw [List.map_id]; exact h2) h3 (fun b hb => by
    have := h4 b hb
    show X.A.units + 1 + 1 + b.depth < cLine
    omega) fun out ho eo => ?_) (fun _ s' z => wpAny_pure ⟨_, rfl, z⟩) fun _ _ e => e))
  obtain ⟨vs', b, c⟩ := of_each eo
  obtain ⟨ep, hat⟩ := PyProof.Rows.sortedHeap_at (vs := us) (out := out.toArray) hob
  have I' : Inv X pins σ H { s with heap := h', toks := tk } := I.kept hk
  have hn : H h'.objs.size = none := I'.hok.fresh (Nat.le_refl _)
  have l3 : vs'.length ≤ sizeLine := by rw [b.length, ho]; exact h3
  have J : Inv X pins σ (upd H h'.objs.size (.lst vs')) { s with heap := PyProof.Rows.sortedHeap (h'.push { cls := .type "list", data := .seq us.toArray }) h'.objs.size us out.toArray, toks := tk } :=
    I'.laid (a := h'.objs.size) (o := .lst vs') (fun c o e => by
      have hc' : c < h'.objs.size := Heap.lt_size e
      rw [PyProof.Rows.sortedHeap_old (Nat.ne_of_lt hc') (by rw [size_push']; exact Nat.lt_succ_of_lt hc')]
      exact Heap.get?_push_of_some _ e) (Nat.le_refl _) ⟨l3, out, ep, b, hat⟩
  have e := Ext.fresh (m := m) (G := G) (o := .lst vs') hn
  exact ⟨.ref h'.objs.size, _, J, rfl, q _ _ e (M.fresh hn) (Rep.lst upd_same (Lv.notFree M hn) (Reps.go (M.go e) c))⟩
theorem vals_of_keys : ∀ {ks : List Key} {us : List Value} {P : Program} {w : World}, ItemsAre (mixKind P w) ks us → Vals (ks.map kV) us
  | _, _, _, _, .nil => .nil
  | _, _, _, _, .cons (k := k) e r => by
    refine .cons ?_ (vals_of_keys r)
    rcases keyIs_shape e with ⟨i, t, rfl, rfl⟩ | ⟨x, t, rfl, rfl⟩
    · exact ⟨t, rfl⟩
    · exact ⟨t, rfl⟩
theorem reps_keys {K : PySem.W.Frag} : ∀ ks : List Key, Reps K H L (ks.map kV) (ks.map kD)
  | [] => .nil
  | .inl i :: ks => .cons (.int i) (reps_keys ks)
  | .inr s :: ks => .cons (.str s) (reps_keys ks)
/-- a dict's keys, as what walks over it gives them -/
theorem dict_keys {lk : Bool} {β : Type} {R : V → β → Prop} {a : Addr} {ds : List (PyData × β)} {m : MM} {G : GH} (I : Inv X pins σ H s) (M : Mem X.K m G H) (d : IsDct lk H a R ds) :
    ∃ (es : Array DictEntry) (ep : Nat) (vs : List V), s.heap.DictRaw a es ep ∧ (a == sysModules) = false ∧ es.size = ds.length ∧ es.size ≤ sizeLine ∧ Vals vs (es.toList.map (·.key)) ∧ Reps X.K H (Lv m G) vs (ds.map (·.1)) := by
  rcases d with ⟨kvs, h, _, e1, e2⟩ | ⟨kvs, h, e1, e2⟩
  · obtain ⟨z, hs, vs, kv, o, es, ep, h1, h2, h3, h4, h5, h6⟩ := dk_rd I.hok h.rd
    have ln : es.toList.length = vs.length := h5.length
    have l2 := congrArg List.length e1
    simp only [List.length_map] at l2
    refine ⟨es, ep, (kvs.map (·.1)).map kV, ⟨o, h1, h2, h3⟩, hs, ?_, ?_, ?_, ?_⟩
    · rw [← Array.length_toList, ln, ← kv.length, l2]
    · rw [← Array.length_toList, ln, ← kv.length]; exact z
    · have go : ∀ {es : List DictEntry} {vs : List (Key × Value)}, Pairs (mixKind X.prog X.w) es vs → ItemsAre (mixKind X.prog X.w) (vs.map (·.1)) (es.map (·.key)) := fun p => by
        induction p with
        | nil => exact .nil
        | cons a b c ih => exact .cons a ih
      rw [kv.keys]
      exact vals_of_keys (go h5)
    · have e1' : ds.map (·.1) = (kvs.map (·.1)).map kD := by rw [← e1, List.map_map]; rfl
      rw [e1']
      exact reps_keys _
  · obtain ⟨z, hs, xs, kv, o, es, ep, h1, h2, h3, h4, h5, h6⟩ := dt_rd I.hok h.rd
    have ln : es.toList.length = xs.length := by rw [h4, List.length_map]
    have lk : ∀ {kvs : List (List Key × V)} {xs : List (List Key × Addr × Value)}, KT H kvs xs → kvs.length = xs.length := fun p => by
      induction p with
      | nil => rfl
      | cons a b ih => simp [ih]
    have l2 := congrArg List.length e1
    simp only [List.length_map] at l2
    refine ⟨es, ep, xs.map fun x => V.ref x.2.1, ⟨o, h1, h2, h3⟩, hs, ?_, ?_, ?_, ?_⟩
    · rw [← Array.length_toList, ln, ← lk kv, l2]
    · rw [← Array.length_toList, ln, ← lk kv]; exact z
    · rw [h4, List.map_map]
      have go : ∀ xs : List (List Key × Addr × Value), Vals (xs.map fun x => V.ref x.2.1) (xs.map ((fun e => e.key) ∘ entryOfKey (tupleKind (mixKind X.prog X.w)))) := fun xs => by
        induction xs with
        | nil => exact .nil
        | cons x xs ih => exact .cons rfl ih
      exact go xs
    · have e1' : ds.map (·.1) = kvs.map fun e => tD e.1 := e1.symm
      rw [e1']
      have go : ∀ {kvs : List (List Key × V)} {xs : List (List Key × Addr × Value)}, KT H kvs xs → Reps X.K H (Lv m G) (xs.map fun x => V.ref x.2.1) (kvs.map fun e => tD e.1) := fun p => by
        induction p with
        | nil => exact .nil
        | cons a b ih => exact .cons (Rep.tup a.2.1 (reps_keys _)) ih
      exact go kv
theorem c_sorted (sm : SM X.K) (hcalm : X.calm = true) (hu : X.A.units + 64 < cLine) : CallR X (.builtin "sorted") (rGn X.K gSorted) := by
  intro pins s σ H xs us Q I rx ⟨m, G, as, P, M, ra, hg, q⟩
  unfold gSorted at hg
  split at hg
  · cases ra with
    | cons a b =>
      cases b
      obtain ⟨u, rfl, rv⟩ := vals1 rx
      cases a with
      | lst h n r =>
        cases rv
        obtain ⟨its, r', ⟨o, c, h1, h2, _, h3⟩, hz⟩ := I.list (.of h)
        refine sorted_run sm hu I M r r' hg.1 (fun R hR => ?_) fun v H' e M' r' => q _ G v m H' hg.2 e M' r'
        have := r'.length
        exact wpAny_collect_seq _ (.inl rfl) h1 h2 h3 (fun h' k => hR h' s.toks k) (by rw [List.size_toArray]; omega)
  · cases ra with
    | cons a b =>
      cases b
      obtain ⟨u, rfl, rv⟩ := vals1 rx
      obtain ⟨p, vs, rfl, h, r⟩ := rep_tup a
      cases rv
      obtain ⟨its, r', ⟨o, h1, h2, c, h3⟩, hz⟩ := I.tuple h
      refine sorted_run sm hu I M r r' hg.1 (fun R hR => ?_) fun v H' e M' r' => q _ G v m H' hg.2 e M' r'
      have := r'.length
      exact wpAny_collect_seq _ (.inr rfl) h1 h2 h3 (fun h' k => hR h' s.toks k) (by rw [List.size_toArray]; omega)
  · cases ra with
    | cons a b =>
      cases b
      obtain ⟨u, rfl, rv⟩ := vals1 rx
      obtain ⟨p, rfl, d⟩ := rep_dict a
      cases rv
      obtain ⟨es, ep, vs, h1, h2, h3, h4, h5, h6⟩ := dict_keys I M d
      refine sorted_run sm hu I M h6 h5 hg.1 (fun R hR => ?_) fun v H' e M' r' => q _ G v m H' hg.2 e M' r'
      refine PySem.W.kdu_collect (A := X.A.in1) (KdlSrc.rawDict (es := es) (ep := ep) h2) (I.ok.hd hcalm) h1 h4 fun h' tk acc k io => ?_
      have ea : acc.toList = es.toList.map (·.key) := by
        refine List.ext_getElem? fun j => ?_
        by_cases hj : j < es.size
        · have ha : j < acc.size := by rw [io.1]; exact hj
          obtain ⟨_, e⟩ := io.2 j acc[j] (Array.getElem?_eq_getElem ha)
          rw [Array.getElem?_toList, Array.getElem?_eq_getElem ha, e, List.getElem?_map, Array.getElem?_toList, Array.getElem?_eq_getElem hj]
          rfl
        · rw [List.getElem?_eq_none (by rw [Array.length_toList, io.1]; omega), List.getElem?_eq_none (by rw [List.length_map, Array.length_toList]; omega)]
      rw [ea]
      exact hR h' tk k
  · cases ra with
    | cons a b =>
      cases b
      obtain ⟨p, hp, rfl⟩ := a
      obtain ⟨u, rfl, rv⟩ := vals1 rx
      cases rv
      split at hg
      · rename_i _ us hG
        split at hg
        · rename_i ds hd
          obtain ⟨vs, h, r⟩ := M.ok _ p _ hp hG
          rw [dataOf_eq hd] at r
          obtain ⟨its, r', ⟨o, c, h1, h2, _, h3⟩, hz⟩ := I.list (.of h)
          refine sorted_run sm hu I M (RUs.toReps r) r' hg.1 (fun R hR => ?_) fun v H' e M' r' => q _ G v m H' hg.2 e M' r'
          have := r'.length
          exact wpAny_collect_seq _ (.inl rfl) h1 h2 h3 (fun h' k => hR h' s.toks k) (by rw [List.size_toArray]; omega)
        · exact hg.elim
      · exact hg.elim
  · exact hg.elim
/-- repr -/
def gRepr : Gn := fun us G P => match us with
  | [.d x] => x.showable = true ∧ x.shown.length ≤ sizeLine ∧ x.depth ≤ 40 ∧ P (.d (.str x.shown)) G
  | _ => False
theorem c_repr (sm : SM X.K) (hgd : X.A.guards = some []) (hu : X.A.units + 64 < cLine) : CallR X (.builtin "repr") (rGn X.K gRepr) := by
  intro pins s σ H xs us Q I rx ⟨m, G, as, P, M, ra, hg, q⟩
  unfold gRepr at hg
  split at hg
  · obtain ⟨h1, h2, h3, h4⟩ := hg
    cases ra with
    | cons a b =>
      cases b
      obtain ⟨u, rfl, rv⟩ := vals1 rx
      rename_i x v
      have fin : ∀ (h' : Heap) (u : Tok) (tk : Nat), (∀ b o, s.heap.get? b = some o → h'.get? b = some o) → EP X pins σ Q (.str x.shown u) { s with heap := h', toks := tk } := fun h' u tk k =>
        ⟨.str x.shown, H, I.kept k, ⟨u, rfl⟩, q _ G _ m H h4 Ext.refl M (.str _)⟩
      have big : ∀ (a : Addr), u = .ref a → wpAny (model X.prog X.w) X.A (call (.builtin "repr") [u]) (EP X pins σ Q) X.xe s := fun p e => by
        subst e
        obtain ⟨as, r1, r2⟩ := Rep.reads sm I a rv
        exact repr_of_reads' r1 h1 (fun _ => r2) hgd (by omega) (fun _ _ e => e) (fun h' u tk k => fin h' u tk k) h2
      have a' := a
      cases a' with
      | non => cases rv; exact PySem.P.repr_of_none (fin s.heap _ _ fun _ _ e => e)
      | bl b => cases rv; exact PySem.P.repr_of_bool (fin s.heap _ _ fun _ _ e => e)
      | int i =>
        obtain ⟨t, rfl⟩ := rv
        exact PySem.P.repr_of_int (of_decide_eq_true h1) (fin s.heap _ _ fun _ _ e => e)
      | str z =>
        obtain ⟨t, rfl⟩ := rv
        exact PySem.P.repr_of_str (fin s.heap _ _ fun _ _ e => e) h2
      | tup _ _ => cases rv; exact big _ rfl
      | tup0 _ => cases rv; exact big _ rfl
      | lst _ _ _ => cases rv; exact big _ rfl
      | dK _ _ _ _ _ => cases rv; exact big _ rfl
      | dT _ _ _ _ => cases rv; exact big _ rfl
  · exact hg.elim
end
end R
/-! ## part RI -/
/-! The layer R: methods of built-in types, attributes, isinstance. -/
namespace R
open PySem PySem.Spec
open PyProof.Rows hiding St
open L2

/-! ### methods of built-in types -/
abbrev Gm := U → List U → GH → PU → Prop
def rGm (K : PySem.W.Frag) (g : Gm) : V → List V → Hp → VK → Prop := fun x xs H Q => ∃ (m : MM) (G : GH) (u : U) (us : List U) (P : PU), Mem K m G H ∧ RU K m G H x u ∧ RUs K m G H xs us ∧ g u us G P ∧
  ∀ (z : U) (G' : GH) (v : V) (m' : MM) (H' : Hp), P z G' → Ext m G H m' G' H' → Mem K m' G' H' → RU K m' G' H' v z → Q v H'
def tyU (T : String) (x : U) (G : GH) : Prop := match x with
  | .d (.str _) => T = "str"
  | .d (.list _) => T = "list"
  | .d (.dict _) => T = "dict"
  | .r n => match G[n]? with
    | some (.lst _) => T = "list"
    | some (.dct _) => T = "dict"
    | _ => False
  | _ => False
def eMeth (T : String) (g : Gm) (o : WE) (α : WA) : WE := fun ss G P p => o ss G (fun x G1 => tyU T x G1 ∧ α ss G1 (fun us G2 => g x us G2 P) p) p
section
variable {X : Cx} {W : WX} {e o : Expr} {es : List Expr} {pos apos cpos : Pos} {α : WA} {g : Gm} {bid T : String} {name : Str} {φ : WE}
/-- the type of a receiver; a locked dict's, too -/
def tyW (K : PySem.W.Frag) (T : String) (x : V) (H : Hp) : Prop := tyV K T x H ∨ (T = "dict" ∧ ∃ p, x = .ref p ∧ ((∃ kvs, Rd H p (.dK kvs)) ∨ ∃ kvs, Rd H p (.dT kvs)))
theorem tyW_is {pins : List (Addr × Obj)} {σ : St} {H : Hp} {s : Shared} {x : V} {v : Value} (I : Inv X pins σ H s) (r : RelV x v) (ty : tyW X.K T x H) : s.TypeIs v T ∧ ∀ a, v = .ref a → ∃ ob, s.heap.get? a = some ob ∧ ob.dict = none := by
  rcases ty with ty | ⟨rfl, p, rfl, hk⟩
  · exact tyV_is I r ty
  · cases r
    have z : ∃ o, s.heap.get? p = some o ∧ o.ExactDict := by
      rcases hk with ⟨kvs, hk⟩ | ⟨kvs, hk⟩
      · obtain ⟨_, _, _, _, o, _, _, e, ex, _⟩ := dk_rd I.hok hk
        exact ⟨o, e, ex⟩
      · obtain ⟨_, _, _, _, o, _, _, e, ex, _⟩ := dt_rd I.hok hk
        exact ⟨o, e, ex⟩
    obtain ⟨o, e, ex⟩ := z
    exact ⟨⟨o, e, ex.1⟩, fun a e2 => by cases e2; exact ⟨o, e, ex.2.1⟩⟩
def tBW0 (K : PySem.W.Frag) (T : String) (r : V → List V → Hp → VK → Prop) (to : TE) : TE := fun σ H Q => to σ H fun x H1 => tyW K T x H1 ∧ r x [] H1 Q
def tBW (K : PySem.W.Frag) (T : String) (r : V → List V → Hp → VK → Prop) (to : TE) (t : TA) : TE := fun σ H Q => to σ H fun x H1 => tyW K T x H1 ∧ t σ H1 fun xs H2 => r x xs H2 Q
theorem pe_bw0 {to : TE} {r : V → List V → Hp → VK → Prop} (pa : PlainAttrs T) (slot : Slot T name bid) (hty : typeOf (.builtin bid) = pure (.type "method_descriptor")) (hm : MtR X bid r) (ho : PE X o to)
    (hb : attributeBase o name X.env (eval o X.env) = eval o X.env) (hl : (apos.endLine == cpos.line) = true) : PE X (.Call (.Attribute o name apos) [] [] cpos) (tBW0 X.K T r to) :=
  ⟨fun pins s σ H Q I h => wpAny_Call_method0_late hb hl (thn (ho.run pins s σ H _ I h) fun v s1 ⟨x, H1, I1, r1, ty, q1⟩ =>
    ⟨T, bid, pa, slot, hty, (tyW_is I1 r1 ty).1, (tyW_is I1 r1 ty).2, Calls.callWith_builtin rfl (PySem.evalArgs_none (hm pins s1 σ H1 x [] v [] Q I1 r1 .nil q1))⟩)⟩
theorem pe_bw {to : TE} {t : TA} {r : V → List V → Hp → VK → Prop} (pa : PlainAttrs T) (slot : Slot T name bid) (hty : typeOf (.builtin bid) = pure (.type "method_descriptor")) (hm : MtR X bid r) (ho : PE X o to) (ha : PA X (e :: es) t)
    (hb : attributeBase o name X.env (eval o X.env) = eval o X.env)
    (hf : ((backTo cpos (starEach (e :: es) X.env)).all (fun x => !x.1) && (backToKw cpos (keywordEach [] X.env)).all (fun x => x.1.isSome) && decide ((e :: es).length + ([] : List Keyword).length + (if ([] : List Keyword).isEmpty then 0 else 1) < 30)) = true)
    (hl : (apos.endLine == cpos.line) = true) (hs : starEach (e :: es) X.env = (false, eval e X.env) :: starEach es X.env) (hp : (backTo cpos (starEach es X.env)).any (·.1) = false) : PE X (.Call (.Attribute o name apos) (e :: es) [] cpos) (tBW X.K T r to t) := by
  refine ⟨fun pins s σ H Q I h => wpAny_Call_method_late hb hf hl rfl (thn (ho.run pins s σ H _ I h) fun v s1 ⟨x, H1, I1, r1, ty, q1⟩ => ?_)⟩
  refine ⟨T, bid, pa, slot, hty, (tyW_is I1 r1 ty).1, (tyW_is I1 r1 ty).2, ?_⟩
  have hA := ha.run cpos pins s1 σ H1 _ I1 q1
  rw [hs] at hA ⊢
  exact Calls.callWith_builtin (by show (false || (backTo cpos (starEach es X.env)).any (·.1)) = false; rw [hp] <;> rfl) (Calls.evalArgs_plain (thn hA fun us s2 ⟨vs, H2, I2, r2, q2⟩ => hm pins s2 σ H2 x vs v us Q I2 r1 r2 q2))
theorem isDct_ty {lk : Bool} {K : PySem.W.Frag} {H : Hp} {a : Addr} {β : Type} {R : V → β → Prop} {ds : List (PyData × β)} (d : IsDct lk H a R ds) : tyW K "dict" (.ref a) H := by
  rcases d with ⟨es, h, _⟩ | ⟨es, h, _⟩
  · exact .inr ⟨rfl, _, rfl, .inl ⟨_, h.rd⟩⟩
  · exact .inr ⟨rfl, _, rfl, .inr ⟨_, h.rd⟩⟩
theorem tyU_ok {K : PySem.W.Frag} {m : MM} {G : GH} {H : Hp} {v : V} {x : U} (M : Mem K m G H) (r : RU K m G H v x) (h : tyU T x G) : tyW K T v H := by
  unfold tyU at h
  split at h
  · cases r; exact .inl h
  · subst h
    cases r with
    | lst h n r => exact .inl (.inl ⟨rfl, _, .of h⟩)
  · subst h
    obtain ⟨a, rfl, d⟩ := rep_dict r
    exact isDct_ty d
  · obtain ⟨p, hp, rfl⟩ := r
    split at h
    · rename_i _ us hG
      subst h
      obtain ⟨vs, e, _⟩ := M.ok _ p _ hp hG
      exact .inl (.inl ⟨rfl, _, .of e⟩)
    · rename_i _ ds hG
      subst h
      exact isDct_ty (mok_dct (M.ok _ p _ hp hG))
    · exact h.elim
  · exact h.elim
theorem r_meth (pa : PlainAttrs T) (slot : Slot T name bid) (hty : typeOf (.builtin bid) = pure (.type "method_descriptor")) (hm : MtR X bid (rGm X.K g)) (ho : PE X o (tE X.K W φ)) (ha : PA X (e :: es) (tA X.K W α))
    (hbase : attributeBase o name X.env (eval o X.env) = eval o X.env := by rfl)
    (hfew : ((backTo cpos (starEach (e :: es) X.env)).all (fun x => !x.1) && (backToKw cpos (keywordEach [] X.env)).all (fun x => x.1.isSome)
      && decide ((e :: es).length + ([] : List Keyword).length + (if ([] : List Keyword).isEmpty then 0 else 1) < 30)) = true := by rfl)
    (hline : (apos.endLine == cpos.line) = true := by rfl) (hs : starEach (e :: es) X.env = (false, eval e X.env) :: starEach es X.env := by rfl) (hplain : (backTo cpos (starEach es X.env)).any (·.1) = false := by rfl) :
    PE X (.Call (.Attribute o name apos) (e :: es) [] cpos) (tE X.K W (eMeth T g φ α)) := (pe_bw pa slot hty hm ho ha hbase hfew hline hs hplain).imp fun σ H Q ⟨m, G, ss, P, p, M, S, h, hx, q⟩ =>
  ⟨m, G, ss, _, p, M, S, h, hx, fun u G1 v m1 H1 p1 e1 M1 r1 => ⟨tyU_ok M1 r1 p1.1, ⟨m1, G1, ss, _, p, M1, S.ext M e1, p1.2, hx.ext e1, fun us G2 vs m2 H2 p2 e2 M2 r2 => ⟨m2, G2, u, us, P, M2, r1.ext M1 e2, r2, p2, fun z G' v' m' H' pz e' M' r' => q z G' v' m' H' pz ((e1.trans e2).trans e') M' r'⟩⟩⟩⟩
theorem r_meth0 (pa : PlainAttrs T) (slot : Slot T name bid) (hty : typeOf (.builtin bid) = pure (.type "method_descriptor")) (hm : MtR X bid (rGm X.K g)) (ho : PE X o (tE X.K W φ))
    (hbase : attributeBase o name X.env (eval o X.env) = eval o X.env := by rfl) (hline : (apos.endLine == cpos.line) = true := by rfl) :
    PE X (.Call (.Attribute o name apos) [] [] cpos) (tE X.K W (eMeth T g φ aNil)) := (pe_bw0 pa slot hty hm ho hbase hline).imp fun σ H Q ⟨m, G, ss, P, p, M, S, h, hx, q⟩ =>
  ⟨m, G, ss, _, p, M, S, h, hx, fun u G1 v m1 H1 p1 e1 M1 r1 => ⟨tyU_ok M1 r1 p1.1, ⟨m1, G1, u, [], P, M1, r1, .nil, p1.2, fun z G' v' m' H' pz e' M' r' => q z G' v' m' H' pz (e1.trans e') M' r'⟩⟩⟩
theorem lift_meth {r : V → List V → Hp → VK → Prop} (h : MtR X bid r) (i : ∀ (m : MM) (G : GH) (H : Hp) (x : V) (xs : List V) (u : U) (us : List U) (P : PU) (Q : VK), Mem X.K m G H → RU X.K m G H x u → RUs X.K m G H xs us → g u us G P →
    (∀ (z : U) (G' : GH) (v : V) (m' : MM) (H' : Hp), P z G' → Ext m G H m' G' H' → Mem X.K m' G' H' → RU X.K m' G' H' v z → Q v H') → r x xs H Q) : MtR X bid (rGm X.K g) :=
  fun pins s σ H x xs v us Q I rx rxs ⟨m, G, a, as, P, M, ra, ras, hg, q⟩ => h pins s σ H x xs v us Q I rx rxs (i m G H x xs a as P Q M ra ras hg q)
/-- a list that may change gets other items -/
theorem setLst {K : PySem.W.Frag} {m : MM} {G : GH} {H : Hp} {n : Nat} {p : Addr × Addr} {us us' : List U} {vs' : List V} (M : Mem K m G H) (hp : m[n]? = some p) (hG : G[n]? = some (.lst us)) (r : RUs K m G H vs' us') :
    Ext m G H m (G.set n (.lst us')) (upd H p.1 (.lst vs')) ∧ Mem K m (G.set n (.lst us')) (upd H p.1 (.lst vs')) := by
  have e : Ext m G H m (G.set n (.lst us')) (upd H p.1 (.lst vs')) := Ext.write hp hG rfl fun a ha => upd_ne ha
  exact ⟨e, M.write hp hG rfl (fun a ha => upd_ne ha) ⟨vs', upd_same, r.ext M e⟩⟩
def gAppend : Gm := fun x us G P => match x, us with
  | .r n, [u] => match G[n]? with
    | some (.lst xs) => xs.length < sizeLine ∧ P (.d .none) (G.set n (.lst (xs ++ [u])))
    | _ => False
  | _, _ => False
theorem m_append : MtR X "list.append" (rGm X.K gAppend) := by
  refine lift_meth (r := rAppend) mt_append fun m G H x xs u us P Q M ru rus hg q => ?_
  unfold gAppend at hg
  split at hg
  · rename_i n u
    obtain ⟨p, hp, rfl⟩ := ru
    cases rus with
    | cons a b =>
      cases b
      split at hg
      · rename_i _ xs hG
        obtain ⟨vs, h, r⟩ := M.ok _ p _ hp hG
        obtain ⟨e, M'⟩ := setLst M hp hG (r.app (.cons a .nil))
        exact ⟨_, vs, _, rfl, rfl, h, by rw [r.length]; exact hg.1, q _ _ _ m _ hg.2 e M' .non⟩
      · exact hg.elim
  · exact hg.elim
def gExtend : Gm := fun x us G P => match x, us with
  | .r n, [.d (.list ys)] => match G[n]? with
    | some (.lst xs) => xs.length + ys.length ≤ sizeLine ∧ P (.d .none) (G.set n (.lst (xs ++ ys.map .d)))
    | _ => False
  | _, _ => False
theorem m_extend : MtR X "list.extend" (rGm X.K gExtend) := by
  refine lift_meth (r := rExtend) mt_extend fun m G H x xs u us P Q M ru rus hg q => ?_
  unfold gExtend at hg
  split at hg
  · rename_i n ys
    obtain ⟨p, hp, rfl⟩ := ru
    cases rus with
    | cons a b =>
      cases b
      cases a with
      | lst hb nb rb =>
        split at hg
        · rename_i _ xs hG
          obtain ⟨vs, h, r⟩ := M.ok _ p _ hp hG
          obtain ⟨e, M'⟩ := setLst M hp hG (r.app (RUs.ofReps rb))
          exact ⟨_, _, vs, _, rfl, rfl, h, hb, by rw [r.length, rb.length]; exact hg.1, q _ _ _ m _ hg.2 e M' .non⟩
        · exact hg.elim
  · exact hg.elim
/-- xs.pop() -/
def gPop : Gm := fun x us G P => match x, us with
  | .r n, [] => match G[n]? with
    | some (.lst xs) => match xs[xs.length - 1]? with
      | some u => P u (G.set n (.lst xs.dropLast))
      | none => False
    | _ => False
  | _, _ => False
theorem RUs.dropLast {K : PySem.W.Frag} {m : MM} {G : GH} {H : Hp} : ∀ {vs : List V} {us : List U}, RUs K m G H vs us → RUs K m G H vs.dropLast us.dropLast
  | _, _, .nil => .nil
  | _, _, .cons a .nil => .nil
  | _, _, .cons a (.cons b r) => .cons a (RUs.dropLast (.cons b r))
theorem RUs.eraseIdx {K : PySem.W.Frag} {m : MM} {G : GH} {H : Hp} : ∀ {vs : List V} {us : List U} (i : Nat), RUs K m G H vs us → RUs K m G H (vs.eraseIdx i) (us.eraseIdx i)
  | _, _, _, .nil => .nil
  | _, _, 0, .cons _ r => r
  | _, _, i + 1, .cons a r => .cons a (RUs.eraseIdx i r)
theorem m_pop : MtR X "list.pop" (rGm X.K gPop) := by
  refine lift_meth (r := rPop) mt_pop fun m G H x xs u us P Q M ru rus hg q => ?_
  unfold gPop at hg
  split at hg
  · rename_i n
    obtain ⟨p, hp, rfl⟩ := ru
    cases rus
    split at hg
    · rename_i _ xs hG
      split at hg
      · rename_i w hw
        obtain ⟨vs, h, r⟩ := M.ok _ p _ hp hG
        obtain ⟨y, e1, e2⟩ := r.get hw
        obtain ⟨e, M'⟩ := setLst M hp hG r.dropLast
        exact ⟨_, vs, y, rfl, rfl, h, by rw [r.length]; exact e1, q _ _ _ m _ hg e M' (e2.ext M e)⟩
      · exact hg.elim
    · exact hg.elim
  · exact hg.elim
/-- xs.pop(i) -/
def gPopAt : Gm := fun x us G P => match x, us with
  | .r n, [.d (.int i)] => match G[n]? with
    | some (.lst xs) => -(2 ^ 63) ≤ i ∧ i < 2 ^ 63 ∧ match seqIndex? i xs.length with
      | some k => match xs[k]? with
        | some u => P u (G.set n (.lst (xs.eraseIdx k)))
        | none => False
      | none => False
    | _ => False
  | _, _ => False
theorem m_popAt : MtR X "list.pop" (rGm X.K gPopAt) := by
  refine lift_meth (r := rPopAt) mt_popAt fun m G H x xs u us P Q M ru rus hg q => ?_
  unfold gPopAt at hg
  split at hg
  · rename_i n i
    obtain ⟨p, hp, rfl⟩ := ru
    cases rus with
    | cons a b =>
      cases b
      cases a
      split at hg
      · rename_i _ xs hG
        obtain ⟨h1, h2, hg⟩ := hg
        split at hg
        · rename_i k hk
          split at hg
          · rename_i w hw
            obtain ⟨vs, h, r⟩ := M.ok _ p _ hp hG
            obtain ⟨y, e1, e2⟩ := r.get hw
            obtain ⟨e, M'⟩ := setLst M hp hG (r.eraseIdx k)
            exact ⟨_, vs, i, k, y, rfl, rfl, h, h1, h2, by rw [r.length]; exact hk, e1, q _ _ _ m _ hg e M' (e2.ext M e)⟩
          · exact hg.elim
        · exact hg.elim
      · exact hg.elim
  · exact hg.elim
/-- sep.join(texts) -/
def strsOf : List PyData → Option (List Str)
  | [] => some []
  | .str z :: r => (strsOf r).map (z :: ·)
  | _ :: _ => none
theorem strsOf_rep {K : PySem.W.Frag} {H : Hp} {L : Addr → Prop} : ∀ {xs : List PyData} {zs : List Str} {vs : List V}, strsOf xs = some zs → Reps K H L vs xs → vs = zs.map V.str
  | [], _, _, h, r => by cases h; cases r; rfl
  | .str b :: xs, _, _, h, r => by
    unfold strsOf at h
    obtain ⟨bs, h1, rfl⟩ := Option.map_eq_some_iff.mp h
    cases r with
    | cons r1 r2 => cases r1; rw [strsOf_rep h1 r2]; rfl
  | .none :: _, _, _, h, _ => by cases h
  | .int _ :: _, _, _, h, _ => by cases h
  | .bool _ :: _, _, _, h, _ => by cases h
  | .list _ :: _, _, _, h, _ => by cases h
  | .tuple _ :: _, _, _, h, _ => by cases h
  | .dict _ :: _, _, _, h, _ => by cases h
theorem strsOf_map (zs : List Str) : strsOf (zs.map .str) = some zs := by
  induction zs with
  | nil => rfl
  | cons b bs ih => show (strsOf (bs.map .str)).map (b :: ·) = _; rw [ih]; rfl
def gJoin : Gm := fun x us G P => match x, us with
  | .d (.str a), [.d (.list xs)] => match strsOf xs with
    | some ys => (ys.map (·.length)).sum + ys.length * a.length ≤ 16777216 ∧ P (.d (.str (Txt.join a ys))) G
    | none => False
  | _, _ => False
theorem m_join : MtR X "str.join" (rGm X.K gJoin) := by
  refine lift_meth mt_join fun m G H x xs u us P Q M ru rus hg q => ?_
  unfold gJoin at hg
  split at hg
  · split at hg
    · rename_i ys hy
      cases ru
      cases rus with
      | cons a b =>
        cases b
        cases a with
        | lst hb nb rb => exact ⟨_, _, ys, rfl, rfl, .inl (by rw [← strsOf_rep hy rb]; exact .of hb), hg.1, q _ G _ m H hg.2 Ext.refl M (.str _)⟩
    · exact hg.elim
  · exact hg.elim
/-- d.get(k, x) -/
def gGet2 : Gm := fun x us G P => match x, us with
  | .d (.dict ds), [.d k, .d z] => keyAsk true ds k ∧ P (.d ((lookD ds k).getD z)) G
  | .r n, [.d k, z] => match G[n]? with
    | some (.dct ds) => keyAsk false ds k ∧ P ((lookD ds k).getD z) G
    | _ => False
  | _, _ => False
theorem relOpt_getD {β γ : Type} {R : β → γ → Prop} {o : Option β} {d : Option γ} {a : β} {b : γ} (h : RelOpt R o d) (r : R a b) : R (o.getD a) (d.getD b) := by
  cases o <;> cases d <;> first | exact r | exact h | exact h.elim
theorem m_get2 (hu : X.A.units + 64 < cLine) : MtR X "dict.get" (rGm X.K gGet2) := by
  intro pins s σ H x xs v us Q I rx rxs ⟨m, G, a, as, P, M, ra, ras, hg, q⟩
  unfold gGet2 at hg
  split at hg
  · obtain ⟨⟨k1, k2⟩, hg⟩ := hg
    obtain ⟨p, rfl, d⟩ := rep_dict ra
    cases rx
    cases ras with
    | cons a1 b1 =>
      cases b1 with
      | cons a2 b2 =>
        cases b2
        obtain ⟨u1, u2, rfl, r1, r2⟩ := vals2 rxs
        obtain ⟨H', ov, I', g, back, ro⟩ := dget_of I d (keyV_of a1 k1) k2
        exact d_get2 (by omega) I' g r1 r2 fun w' s' J rw' => ⟨_, H, back s' J, rw', q _ G _ m H hg Ext.refl M (relOpt_getD (R := fun v x => Rep X.K H (Lv m G) v x) ro a2)⟩
  · obtain ⟨p, hp, rfl⟩ := ra
    split at hg
    · rename_i _ ds hG
      obtain ⟨⟨k1, k2⟩, hg⟩ := hg
      cases rx
      cases ras with
      | cons a1 b1 =>
        cases b1 with
        | cons a2 b2 =>
          cases b2
          obtain ⟨u1, u2, rfl, r1, r2⟩ := vals2 rxs
          obtain ⟨H', ov, I', g, back, ro⟩ := dget_of I (mok_dct (M.ok _ p _ hp hG)) (keyV_of a1 k1) k2
          exact d_get2 (by omega) I' g r1 r2 fun w' s' J rw' => ⟨_, H, back s' J, rw', q _ G _ m H hg Ext.refl M (relOpt_getD ro a2)⟩
    · exact hg.elim
  · exact hg.elim

/-! ### the classes of the text -/
/-- what is known of the classes: the attributes that instances bear -/
abbrev Tab := List (Str × List Str)
structure TabOk (K : PySem.W.Frag) (T : Tab) : Prop where
  cls : ∀ p ∈ T, Cls K (He.ga K p.1)
  no : ∀ p ∈ T, ∀ f ∈ p.2, NoAttr K (He.ga K p.1) f
/-- c is a class there whose instances may bear f -/
def Bears (T : Tab) (c f : Str) : Bool := T.any fun p => decide (p.1 = c) && p.2.any fun g => decide (g = f)
theorem Bears.ok {K : PySem.W.Frag} {T : Tab} (t : TabOk K T) {c f : Str} (h : Bears T c f = true) : Cls K (He.ga K c) ∧ NoAttr K (He.ga K c) f := by
  obtain ⟨p, hp, h1⟩ := List.any_eq_true.mp h
  rw [Bool.and_eq_true] at h1
  obtain ⟨g, hg, h2⟩ := List.any_eq_true.mp h1.2
  have e1 := of_decide_eq_true h1.1
  have e2 := of_decide_eq_true h2
  subst e1; subst e2
  exact ⟨t.cls p hp, t.no p hp g hg⟩
def eFld (T : Tab) (o : WE) (f : Str) : WE := fun ss G P p => o ss G (fun x G1 => match x with
  | .r n => match G1[n]? with
    | some (.ins c fs) => Bears T c f = true ∧ match fs.lookup f with
      | some u => P u G1
      | none => False
    | _ => False
  | _ => False) p
theorem lookup_rus {K : PySem.W.Frag} {m : MM} {G : GH} {H : Hp} {f : Str} {u : U} : ∀ {es : List (Str × V)} {fs : List (Str × U)}, es.map (·.1) = fs.map (·.1) → RUs K m G H (es.map (·.2)) (fs.map (·.2)) → fs.lookup f = some u → ∃ v, es.lookup f = some v ∧ RU K m G H v u
  | [], [], _, _, h => by cases h
  | [], _ :: _, h, _, _ => by cases h
  | _ :: _, [], h, _, _ => by cases h
  | (a, v) :: es, (b, w) :: fs, h, r, hl => by
    rw [List.map_cons, List.map_cons, List.cons.injEq] at h
    have h1 : a = b := h.1
    subst h1
    rw [List.lookup_cons] at hl ⊢
    rw [List.map_cons, List.map_cons] at r
    cases r with
    | cons r1 r2 =>
      cases hf : (f == a) with
      | true =>
        rw [hf] at hl
        cases hl
        exact ⟨v, rfl, r1⟩
      | false =>
        rw [hf] at hl
        exact lookup_rus h.2 r2 hl
theorem r_fld {T : Tab} {f : Str} (t : TabOk X.K T) (he : PE X e (tE X.K W φ)) (hb : attributeBase e f X.env (eval e X.env) = eval e X.env := by rfl) : PE X (.Attribute e f pos) (tE X.K W (eFld T φ f)) := (pe_fld he hb).imp fun σ H Q ⟨m, G, ss, P, p, M, S, h, hx, q⟩ => by
  refine ⟨m, G, ss, _, p, M, S, h, hx, fun u G1 v m1 H1 p1 e1 M1 r1 => ?_⟩
  split at p1
  · obtain ⟨a, ha, rfl⟩ := r1
    split at p1
    · rename_i n c fs hG
      obtain ⟨hb, p1⟩ := p1
      split at p1
      · rename_i w hw
        obtain ⟨es, h1, h2, h3⟩ := M1.ok _ a _ ha hG
        obtain ⟨y, l1, l2⟩ := lookup_rus h2 h3 hw
        obtain ⟨c1, c2⟩ := Bears.ok t hb
        exact ⟨a.1, _, _, es, y, rfl, h1, c1, c2, l1, q _ G1 y m1 H1 p1 e1 M1 l2⟩
      · exact p1.elim
    · exact p1.elim
  · exact p1.elim

/-! ### isinstance -/
def tyName : PyData → String
  | .none => "NoneType"
  | .bool _ => "bool"
  | .int _ => "int"
  | .str _ => "str"
  | .list _ => "list"
  | .tuple _ => "tuple"
  | .dict _ => "dict"
def isB (T : String) (x : PyData) : Bool := tyName x == T || (tyName x == "bool" && T == "int")
def eIsB (T : String) (a : WE) : WE := fun ss G P p => a ss G (fun x G1 => match x with
  | .d x => P (.d (.bool (isB T x))) G1
  | _ => False) p
/-- TyX, and a locked dict of tuple keys -/
def TyZ (K : PySem.W.Frag) (H : Hp) (v : V) (t : Value) : Prop := TyX K H v t ∨ (t = .type "dict" ∧ ∃ (a : Addr) (o : Obj) (kvs : List (List Key × V)), v = .ref a ∧ H a = some (.frz o (.dT kvs)))
theorem kit_z {pins : List (Addr × Obj)} {σ : St} {H : Hp} {s : Shared} {x : V} {u t : Value} (I : Inv X pins σ H s) (rx : RelV x u) (ty : TyZ X.K H x t) : ∃ P : Heap → Prop, PySem.W.KitX X.K u t P ∧ P s.heap ∧ u ≠ .builtin "__main__.__loader__#opaque" := by
  rcases ty with ty | ⟨rfl, a, ob, kvs, rfl, h⟩
  · exact kit_of I rx ty
  · cases rx
    obtain ⟨_, _, xs, _, o, es, ep, h1, h2, _⟩ := dt_rd I.hok (.inr ⟨_, h⟩)
    exact ⟨_, PySem.W.kitx_dict, ⟨o, h1, h2.1⟩, fun z => nomatch z⟩
def rIsZ (K : PySem.W.Frag) : List V → Hp → VK → Prop := fun xs H Q => ∃ (x c : V) (t u : Value) (b : Bool), xs = [x, c] ∧ ClsV c u ∧ TyZ K H x t ∧ PySem.W.kitOne K t u = some b ∧ Q (.bl b) H
theorem call_isZ : CallR X (.builtin "isinstance") (rIsZ X.K) := fun pins s σ H xs us Q I r ⟨x, c, t, u, b, e1, k, ty, e, q⟩ => by
  subst e1
  obtain ⟨u1, u2, rfl, r1, r2⟩ := vals2 r
  obtain rfl := k.eq r2
  obtain ⟨P, Z, p, hx⟩ := kit_z I r1 ty
  exact PySem.W.kia_one Z I.kIn p e hx fun tk => ⟨.bl b, H, I.tok tk, rfl, q⟩
theorem tyX_of {K : PySem.W.Frag} {H : Hp} {L : Addr → Prop} {v : V} {x : PyData} (r : Rep K H L v x) : TyZ K H v (.type (tyName x)) := by
  cases r with
  | non => exact .inl (.base .non)
  | bl b => exact .inl (.base (.bl b))
  | int i => exact .inl (.base (.int i))
  | str s => exact .inl (.base (.str s))
  | tup h r => exact .inl (.base (.tup h))
  | tup0 h =>
    rcases h with (h | ⟨_, h⟩) | ⟨o, its, n, h1, h2, _⟩
    · cases h
    · cases h
    · exact .inl (.kTuple h1 h2)
  | lst h n r => exact .inl (.base (.lst h))
  | dK h _ _ _ _ => exact .inl (.fDict h)
  | dT h _ _ _ => exact .inr ⟨rfl, _, _, _, rfl, h⟩
def kitAll : Bool := ["NoneType", "bool", "int", "str", "list", "tuple", "dict"].all fun n => ["str", "int", "bool", "tuple", "list", "dict"].all fun T => decide (kitB n T = some (n == T || (n == "bool" && T == "int")))
theorem kit_all : kitAll = true := by decide +kernel
theorem kit_of_name {T : String} (hT : T ∈ ["str", "int", "bool", "tuple", "list", "dict"]) (x : PyData) : kitB (tyName x) T = some (isB T x) := by
  have h := List.all_eq_true.mp kit_all (tyName x) (by cases x <;> simp [tyName])
  exact of_decide_eq_true (List.all_eq_true.mp h T hT)
theorem r_isB {T' : Str} {T : String} {p p2 : Pos} (hT : T ∈ ["str", "int", "bool", "tuple", "list", "dict"]) (h1 : X.mg "isinstance" = none) (h2 : X.mg T' = none) (ha : PE X e (tE X.K W φ)) (hv : bootBuiltins T' = some (.type T) := by decide +kernel)
    (hg1 : Gl X "isinstance" := by rfl) (hg2 : Gl X T' := by rfl) (hn : T' ≠ "__name__" := by decide) (hdb : (T' == ("__debug__" : Str)) = false := by decide)
    (he : starEach [e, .Name T' p2] X.env = (false, eval e X.env) :: starEach [.Name T' p2] X.env := by rfl) (he2 : starEach [Expr.Name T' p2] X.env = (false, eval (.Name T' p2) X.env) :: starEach [] X.env := by rfl) (hpl : (backTo pos (starEach [Expr.Name T' p2] X.env)).any (·.1) = false := by rfl) :
    PE X (.Call (.Name "isinstance" p) [e, .Name T' p2] [] pos) (tE X.K W (eIsB T φ)) :=
  (pe_callB call_isZ hg1 h1 (by decide +kernel) (pa_cons ha (pa_cons (pe_bltn (v := .ty T) hg2 h2 hv rfl hn hdb) pa_nil he2) he) (by decide) (by decide) he hpl).imp fun σ H Q ⟨m, G, ss, P, p, M, S, h, hx, q⟩ => by
    refine ⟨m, G, ss, _, p, M, S, h, hx, fun u G1 v m1 H1 p1 e1 M1 r1 => ?_⟩
    split at p1
    · exact ⟨v, .ty T, _, _, _, rfl, .ty T, tyX_of r1, kit_ty (kit_of_name hT _), q _ G1 _ m1 H1 p1 e1 M1 (.bl _)⟩
    · exact p1.elim
end
end R
/-! ## part RJ -/
/-! The layer R: defs, their promises, calls, instances. -/
namespace R
open PySem PySem.Spec
open PyProof.Rows hiding St
open L2

/-- a promise: arguments, objects, what is wanted of the value, of an exception -/
abbrev SpU := List U → GH → PU → PX → Prop
def spV (K : PySem.W.Frag) (sp : SpU) : Sp := fun vs H Q E => ∃ (m : MM) (G : GH) (us : List U) (P : PU) (p : PX), Mem K m G H ∧ RUs K m G H vs us ∧ sp us G P p ∧
  (∀ (u : U) (G' : GH) (v : V) (m' : MM) (H' : Hp), P u G' → Ext m G H m' G' H' → Mem K m' G' H' → RU K m' G' H' v u → Q v H') ∧
  ∀ (x : Exn) (G' : GH) (c : Value) (d : Option Addr) (m' : MM) (H' : Hp), p x G' → Ext m G H m' G' H' → Mem K m' G' H' → XRep K m' G' H' x c d → E c d H'
structure FnG (P : Program) (w : World) (K : PySem.W.Frag) (mg : Str → Option Value) (base : Heap) (k : Nat) (f : Addr) (fd : FuncData) (ps : List Str) (sp : SpU) : Prop where
  len : ∀ us G Q p, sp us G Q p → us.length = ps.length
  run : ∀ (A : Around) (outer : List Env) (s : Shared) (H : Hp) (args : Args) (us : List Value) (vs : List V) (Q : VK) (E : XK),
    Room k A → A.guards = some [] → Env0 P w K mg base A outer s H → BindsTo s fd args (ps.zip us) → Vals vs us → spV K sp vs H Q E →
    codeAny (model P w) A (.call (.ref f) args) (CR (L2.CX P w) outer P w H s Q E) s
theorem spV.len {K : PySem.W.Frag} {sp : SpU} {n : Nat} (h : ∀ us G Q p, sp us G Q p → us.length = n) {vs : List V} {H : Hp} {Q : VK} {E : XK} (z : spV K sp vs H Q E) : vs.length = n := by
  obtain ⟨m, G, us, P, p, M, r, hs, _⟩ := z
  rw [r.length]
  exact h _ _ _ _ hs
theorem FnG.mono {P : Program} {w : World} {K : PySem.W.Frag} {mg : Str → Option Value} {base : Heap} {j k : Nat} {f : Addr} {fd : FuncData} {ps : List Str} {sp : SpU} (F : FnG P w K mg base j f fd ps sp) (h : j ≤ k) : FnG P w K mg base k f fd ps sp :=
  ⟨F.len, fun A outer s H args us vs Q E hr => F.run A outer s H args us vs Q E (hr.mono h)⟩

/-! ### statements: their readings -/
structure Cn where
  nx : SS → GH → Prop
  rt : PU
  bk : SS → GH → Prop := fun _ _ => False
  ct : SS → GH → Prop := fun _ _ => False
  ex : Exn → SS → GH → Prop := fun _ _ _ => False
abbrev WS := SS → GH → Cn → Prop
/-- what is wanted behind a statement, in the hand layer's words -/
structure OkC (K : PySem.W.Frag) (W : WX) (m : MM) (G : GH) (H : Hp) (C : Cn) (D : Ends) : Prop where
  nx : ∀ (ss : SS) (G' : GH) (σ : St) (m' : MM) (H' : Hp), C.nx ss G' → Ext m G H m' G' H' → Mem K m' G' H' → StOk K m' G' H' σ ss → D.nx σ H'
  rt : ∀ (u : U) (G' : GH) (v : V) (m' : MM) (H' : Hp), C.rt u G' → Ext m G H m' G' H' → Mem K m' G' H' → RU K m' G' H' v u → D.rt v H'
  bk : ∀ (ss : SS) (G' : GH) (σ : St) (m' : MM) (H' : Hp), C.bk ss G' → Ext m G H m' G' H' → Mem K m' G' H' → StOk K m' G' H' σ ss → D.bk σ H'
  ct : ∀ (ss : SS) (G' : GH) (σ : St) (m' : MM) (H' : Hp), C.ct ss G' → Ext m G H m' G' H' → Mem K m' G' H' → StOk K m' G' H' σ ss → D.ct σ H'
  ex : ∀ (x : Exn) (ss : SS) (G' : GH) (σ : St) (c : Value) (d : Option Addr) (m' : MM) (H' : Hp), C.ex x ss G' → Ext m G H m' G' H' → Mem K m' G' H' → StOk K m' G' H' σ ss → XRep K m' G' H' x c d → W c d σ H'
def tS (K : PySem.W.Frag) (W : WX) (φ : WS) : TS := fun D σ H => ∃ (m : MM) (G : GH) (ss : SS) (C : Cn), Mem K m G H ∧ StOk K m G H σ ss ∧ φ ss G C ∧ OkC K W m G H C D
theorem OkC.ext {K : PySem.W.Frag} {W : WX} {m m1 : MM} {G G1 : GH} {H H1 : Hp} {C : Cn} {D : Ends} (o : OkC K W m G H C D) (e : Ext m G H m1 G1 H1) : OkC K W m1 G1 H1 C D :=
  ⟨fun ss G' σ m' H' a b => o.nx ss G' σ m' H' a (e.trans b), fun u G' v m' H' a b => o.rt u G' v m' H' a (e.trans b), fun ss G' σ m' H' a b => o.bk ss G' σ m' H' a (e.trans b),
    fun ss G' σ m' H' a b => o.ct ss G' σ m' H' a (e.trans b), fun x ss G' σ c d m' H' a b => o.ex x ss G' σ c d m' H' a (e.trans b)⟩
theorem OkC.okX {K : PySem.W.Frag} {W : WX} {m : MM} {G : GH} {H : Hp} {C : Cn} {D : Ends} {σ : St} {ss : SS} (o : OkC K W m G H C D) (M : Mem K m G H) (S : StOk K m G H σ ss) : OkX K W m G H σ (fun x G' => C.ex x ss G') :=
  fun x G' c d m' H' a e M' r => o.ex x ss G' σ c d m' H' a e M' (S.ext M e) r

/-! ### a def by its body -/
def startU (N : List Str) (us : List U) : SS := us.map some ++ List.replicate (N.length - us.length) none
theorem start_ok {K : PySem.W.Frag} {m : MM} {G : GH} {H : Hp} {N : List Str} {vs : List V} {us : List U} (r : RUs K m G H vs us) : StOk K m G H (L2.start N vs) (startU N us) := by
  have hl := r.length
  refine ⟨by simp [L2.start, startU, hl], fun i u h => ?_⟩
  unfold startU at h
  by_cases hi : i < us.length
  · rw [List.getElem?_append_left (by simpa using hi), List.getElem?_map] at h
    cases e : us[i]? with
    | none => rw [e] at h; cases h
    | some w =>
      rw [e] at h
      cases h
      obtain ⟨v, a, b⟩ := r.get e
      refine ⟨v, ?_, b⟩
      unfold L2.start
      rw [List.getElem?_append_left (by rw [List.length_map, hl]; exact hi), List.getElem?_map, a]
      rfl
  · rw [List.getElem?_append_right (by simpa using hi), List.getElem?_replicate] at h
    split at h <;> cases h
def Closed (G : GH) : Prop := ∀ o ∈ G, MO.below G.length o = true
theorem RU.under {K : PySem.W.Frag} {m : MM} {G : GH} {H : Hp} {v : V} {u : U} (r : RU K m G H v u) : u.below m.length = true := by
  cases u with
  | d x => rfl
  | k x => rfl
  | r n =>
    obtain ⟨p, h, _⟩ := r
    exact decide_eq_true (List.getElem?_eq_some_iff.mp h).1
theorem RUs.under {K : PySem.W.Frag} {m : MM} {G : GH} {H : Hp} : ∀ {vs : List V} {us : List U}, RUs K m G H vs us → us.all (U.below m.length) = true
  | _, _, .nil => rfl
  | _, _, .cons a r => by rw [List.all_cons, a.under, RUs.under r]; rfl
theorem Mem.closed {K : PySem.W.Frag} {m : MM} {G : GH} {H : Hp} (M : Mem K m G H) : Closed G := fun o ho => by
  obtain ⟨n, hn⟩ := List.getElem?_of_mem ho
  have hn' : n < m.length := by rw [M.len]; exact (List.getElem?_eq_some_iff.mp hn).1
  have z := M.ok n m[n] o (List.getElem?_eq_getElem hn') hn
  rw [← M.len]
  cases o with
  | lst us => obtain ⟨vs, _, r⟩ := z; exact r.under
  | dct kvs =>
    obtain ⟨vs, r, _⟩ := z
    have := r.under
    rw [List.all_map] at this
    exact this
  | ins c fs =>
    obtain ⟨es, _, _, r⟩ := z
    have := r.under
    rw [List.all_map] at this
    exact this
  | dead => rfl
  | opq φ L => rfl
/-- what a def leaves behind may be forgotten -/
def Left (n : Nat) (u : U) (G1 : GH) (G' : GH) : Prop := G' = G1 ∨ (∃ T, G1 = G' ++ T) ∧ u.below G'.length = true ∧ (∀ o ∈ G', MO.below G'.length o = true) ∧ n ≤ G'.length
theorem Left.ok {K : PySem.W.Frag} {m0 m : MM} {G0 G1 G' : GH} {H0 H : Hp} {v : V} {u : U} (l : Left G0.length u G1 G') (M0 : Mem K m0 G0 H0) (e : Ext m0 G0 H0 m G1 H) (M : Mem K m G1 H) (r : RU K m G1 H v u) :
    ∃ m', Ext m0 G0 H0 m' G' H ∧ Mem K m' G' H ∧ RU K m' G' H v u := by
  rcases l with rfl | ⟨⟨T, rfl⟩, hu, hG, hn⟩
  · exact ⟨m, e, M, r⟩
  · exact ⟨m.take G'.length, e.dropped M.len (by rw [M0.len]; exact hn), M.drop hG, r.drop M.len hu⟩
section
variable {P : Program} {w : World} {K : PySem.W.Frag} {mg : Str → Option Value} {base : Heap}
theorem FnG.mk' {x qual : Str} {params : Arguments} {body : List Stmt} {scope : Scope} {dvs : List V} {kws : List (Str × V)} {f : Addr} {fd : FuncData} {N ps : List Str} {k : Nat} {sp : SpU} (F : FunD K x qual params body scope dvs kws f fd) (S : FnScope N ps scope)
    (len : ∀ us G Q p, sp us G Q p → us.length = ps.length)
    (hb : ∀ (cdv : Value) (A : Around) (outer : List Env) (s : Shared) (H : Hp) (E : XK), Room k (A.deeper (envOfC qual scope s.heap.objs.size f cdv)) → (A.deeper (envOfC qual scope s.heap.objs.size f cdv)).guards = some [] →
      ∃ φ : WS, PSs (cxOf (L2.CX P w) P w K mg base N qual scope f cdv A outer s H E) body (tS K (fun c d _ H' => E c d H') φ) ∧
        ∀ us G Q p, Closed G → sp us G Q p → φ (startU N us) G { nx := fun _ G1 => ∃ G', Left G.length (.d .none) G1 G' ∧ Q (.d .none) G', rt := fun u G1 => ∃ G', Left G.length u G1 G' ∧ Q u G', ex := fun x _ G' => p x G' }) :
    FnG P w K mg base (k + 1) f fd ps sp := by
  obtain ⟨oc, od, dV, kV, doc, pm, an, cdv, ct, osl, rfl, lk, hcd, _, _⟩ := F.ex
  refine ⟨len, fun A outer s H args us vs Q E hr hgd e0 hbd r hsp => ?_⟩
  have hl := spV.len len hsp
  have KX : K.In s.heap := e0.mod.kin.keeps fun b o e => (e0.bs b o e).1
  have lim : s.heap.NoLimit := e0.mod.nolimit.keeps fun b o e => (e0.bs b o e).1
  have hkind : ∀ y ∈ ps.zip us, scope.names.lookup y.1 = some .local ∨ (scope.names.lookup y.1 = some .cell ∧ ((cellsFrom (s.heap.objs.size + 1) scope.names []).lookup y.1).isSome = true) := by
    rintro ⟨n, v⟩ hy
    rcases S.par n (List.of_mem_zip hy).1 with q | q
    · exact Or.inl q
    · exact Or.inr ⟨q, PySem.W.cellsFrom_some _ _ _ (Or.inl q)⟩
  refine codeAny_call_function hr.depth (KX _ _ lk) rfl S.co S.gen rfl (PySem.W.codeRec_of KX hcd) (hbd _ _ _ _ ?_)
  refine wpAny_newFunctionEnv_cells S.kind hkind ?_
  intro env he s1 xc
  subst he
  refine ⟨lim.keeps xc.toInCall.keep, codeAny_func ?_⟩
  obtain ⟨φ, ht, hφ⟩ := hb cdv A outer s H E (hr.deeper _) hgd
  have I : Inv (cxOf (L2.CX P w) P w K mg base N qual scope f cdv A outer s H E) [] (L2.start N vs) H s1 := inv_start S hr.hd e0 hl r xc
  obtain ⟨m, G, us', Pu, p, M, ru, hs, hq, hx⟩ := hsp
  have go : tS K (fun c d _ H' => E c d H') φ { nx := fun _ H' => Q .non H', rt := Q } (L2.start N vs) H :=
    ⟨m, G, startU N us', _, M, start_ok ru, hφ us' G Pu p M.closed hs,
      ⟨fun ss G1 σ m1 H1 ⟨G', l, q⟩ e M1 S1 => by
          obtain ⟨m', e', M', r'⟩ := l.ok M e M1 (v := .non) (u := .d .none) Rep.non
          exact hq _ G' _ m' H1 q e' M' r',
        fun u G1 v m1 H1 ⟨G', l, q⟩ e M1 r1 => by
          obtain ⟨m', e', M', r'⟩ := l.ok M e M1 r1
          exact hq u G' v m' H1 q e' M' r',
        fun _ _ _ _ _ z => z.elim, fun _ _ _ _ _ z => z.elim,
        fun x ss G1 σ c d m1 H1 q e M1 S1 r1 => hx x G1 c d m1 H1 q e M1 r1⟩⟩
  refine wpAny_mono (ht.run [] s1 (L2.start N vs) H _ I go) (fun fl s' hs' => ?_) fun e s' hs' => hs'
  have fin : ∀ {σ' : St} {H' : Hp} {v : V} {u : Value}, Inv (cxOf (L2.CX P w) P w K mg base N qual scope f cdv A outer s H E) [] σ' H' s' → RelV v u → Q v H' → CE outer P w H s Q u s' := by
    intro σ' H' v u J rv q
    exact ⟨v, H', J.os, J.bare, J.base, J.hok, rv, q⟩
  cases fl with
  | ret u =>
    obtain ⟨v, σ', H', J, rv, q⟩ := hs'
    exact fin J rv q
  | next =>
    obtain ⟨σ', H', J, q⟩ := hs'
    exact fin (v := V.non) (u := Value.none) J rfl q
  | brk =>
    obtain ⟨_, _, _, q⟩ := hs'
    exact q.elim
  | cont =>
    obtain ⟨_, _, _, q⟩ := hs'
    exact q.elim
end

/-! ### calls -/
/-- how the arguments of a call come to the parameters: gU puts the positional ones and the keywords' values in order, defaults among them -/
structure KbU (K : PySem.W.Frag) (fd : FuncData) (ps : List Str) (n : Nat) (ks : List Str) (gU : List U → List U → List U) : Prop where
  to : ∃ (g : List Value → List Value → List Value) (gV : List V → List V → List V), (∀ (s : Shared) (us ws : List Value), K.In s.heap → us.length = n → ws.length = ks.length → BindsTo s fd ⟨us, ks.zip ws⟩ (ps.zip (g us ws))) ∧
    (∀ {vs zs : List V} {us ws : List Value}, Vals vs us → Vals zs ws → Vals (gV vs zs) (g us ws)) ∧
    ∀ {m : MM} {G : GH} {H : Hp} {vs zs : List V} {us ws : List U}, vs.length = n → zs.length = ks.length → RUs K m G H vs us → RUs K m G H zs ws → RUs K m G H (gV vs zs) (gU us ws)
def eCall (sp : SpU) (n : Nat) (gU : List U → List U → List U) (α κ : WA) (l : Nat) : WE := fun ss G P p => α ss G (fun us G1 => κ ss G1 (fun ws G2 => us.length = n ∧ ws.length = l ∧ sp (gU us ws) G2 P p) p) p
section
variable {X : Cx} {W : WX} {k n : Nat} {f C : Addr} {fd : FuncData} {ps ks : List Str} {sp : SpU} {x nm : Str} {p pos apos : Pos} {e o : Expr} {es : List Expr} {kws : List Keyword} {α κ : WA} {φ : WE} {gU : List U → List U → List U}
theorem run_fnG {pins : List (Addr × Obj)} {σ : St} {H : Hp} {s : Shared} {Q : VK} {us ws : List Value} {vs zs : List V} {m : MM} {G : GH} {uu uw : List U} {P : PU} {px : PX} (F : FnG X.prog X.w X.K X.mg X.base k f fd ps sp) (hr : Room k X.A) (hgd : X.A.guards = some []) (hb : KbU X.K fd ps n ks gU) (tk : Takes X W)
    (I : Inv X pins σ H s) (r : Vals vs us) (rz : Vals zs ws) (M : Mem X.K m G H) (ru : RUs X.K m G H vs uu) (rw' : RUs X.K m G H zs uw) (l1 : uu.length = n) (l2 : uw.length = ks.length) (h : sp (gU uu uw) G P px) (hx : OkX X.K W m G H σ px)
    (q : ∀ (u : U) (G' : GH) (v : V) (m' : MM) (H' : Hp), P u G' → Ext m G H m' G' H' → Mem X.K m' G' H' → RU X.K m' G' H' v u → Q v H') :
    wpAny (model X.prog X.w) X.A (call (.ref f) us (ks.zip ws)) (EP X pins σ Q) X.xe s := by
  obtain ⟨g, gV, b1, b2, b3⟩ := hb.to
  have a1 := ru.length
  have a2 := rw'.length
  have a3 := r.length
  have a4 := rz.length
  refine wpAny_call (codeAny_mono (F.run X.A X.stack s H ⟨us, ks.zip ws⟩ (g us ws) (gV vs zs) Q (fun c d H' => W c d σ H') hr hgd I.env0 (b1 s us ws I.kIn (by omega) (by omega)) (b2 r rz) ⟨m, G, _, P, px, M, b3 (by omega) (by omega) ru rw', h, q, hx⟩) fun r s' hq => ?_)
  cases r with
  | error e => exact tk _ _ (XE.of_call I (fun _ _ _ z => z) hq)
  | ok fl =>
    cases fl with
    | ret u => exact I.after hq
    | next => exact False.elim hq
    | brk => exact False.elim hq
    | cont => exact False.elim hq
/-- f(e, ..) -/
theorem r_call (F : FnG X.prog X.w X.K X.mg X.base k f fd ps sp) (hr : Room k X.A) (hgd : X.A.guards = some []) (hm : X.mg x = some (.ref f)) (hk : PySem.W.keepIn X.K (.ref f) = true) (hb : KbU X.K fd ps n [] gU) (tk : Takes X W)
    (ha : PA X (e :: es) (tA X.K W α)) (hg : Gl X x := by rfl) (hdb : (x == ("__debug__" : Str)) = false := by decide) (he : starEach (e :: es) X.env = (false, eval e X.env) :: starEach es X.env := by rfl) (hpl : (backTo pos (starEach es X.env)).any (·.1) = false := by rfl) :
    PE X (.Call (.Name x p) (e :: es) [] pos) (tE X.K W (eCall sp n gU α aNil 0)) := by
  refine ⟨fun pins s σ H Q I ⟨m, G, ss, P, px, M, S, h, hx, q⟩ => ?_⟩
  refine wpAny_Call_Name_kw (ld_glob I hg hm ?_ hdb)
  refine PySem.W.callWith_K (h₀ := X.base) I.ok.mod.kin hk (thn (ha.run pos pins s σ H (fun vs H1 => ∃ m1 G1 us, Mem X.K m1 G1 H1 ∧ RUs X.K m1 G1 H1 vs us ∧ us.length = n ∧ sp (gU us []) G1 P px ∧ Ext m G H m1 G1 H1) I ⟨m, G, ss, _, px, M, S, h, hx, fun us G1 vs m1 H1 p1 e1 M1 r1 => ⟨m1, G1, us, M1, r1, p1.1, p1.2.2, e1⟩⟩) fun us s1 ⟨vs, H1, I1, r, m1, G1, uu, M1, ru, l1, hs, e1⟩ => ⟨I1.kIn, ?_⟩) he hpl
  exact run_fnG (ks := []) (ws := []) (zs := []) F hr hgd hb tk I1 r .nil M1 ru .nil l1 rfl hs (hx.ext e1) fun u G' v m' H' pu e' => q u G' v m' H' pu (e1.trans e')
theorem r_call0 (F : FnG X.prog X.w X.K X.mg X.base k f fd ps sp) (hr : Room k X.A) (hgd : X.A.guards = some []) (hm : X.mg x = some (.ref f)) (hk : PySem.W.keepIn X.K (.ref f) = true) (hb : KbU X.K fd ps n [] gU) (tk : Takes X W) (hg : Gl X x := by rfl) (hdb : (x == ("__debug__" : Str)) = false := by decide) :
    PE X (.Call (.Name x p) [] [] pos) (tE X.K W (eCall sp n gU aNil aNil 0)) := by
  refine ⟨fun pins s σ H Q I ⟨m, G, ss, P, px, M, S, h, hx, q⟩ => ?_⟩
  refine wpAny_Call_Name_kw (ld_glob I hg hm ?_ hdb)
  exact PySem.W.callWith_K0 I.kIn hk (run_fnG (us := []) (vs := []) (ks := []) (ws := []) (zs := []) F hr hgd hb tk I .nil .nil M .nil .nil h.1 rfl h.2.2 hx q)
end
end R
/-! ## part RK -/
/-! The layer R: calls with keywords, methods of own classes, new instances. -/
namespace R
open PySem PySem.Spec
open PyProof.Rows hiding St
open L2
section
variable {X : Cx} {W : WX} {k n : Nat} {f C : Addr} {fd : FuncData} {ps ks : List Str} {sp : SpU} {x nm : Str} {p pos apos : Pos} {e o : Expr} {es : List Expr} {kws : List Keyword} {α κ : WA} {φ : WE} {gU : List U → List U → List U} {c mt : Str}
/-- f(e, .., k = v, ..) -/
theorem r_callK (F : FnG X.prog X.w X.K X.mg X.base k f fd ps sp) (hr : Room k X.A) (hgd : X.A.guards = some []) (hm : X.mg x = some (.ref f)) (hk : PySem.W.keepIn X.K (.ref f) = true) (hb : KbU X.K fd ps n ks gU) (tk : Takes X W)
    (ha : PA X (e :: es) (tA X.K W α)) (hkw : PK X kws (tA X.K W κ)) (hall : (backToKw pos (keywordEach kws X.env)).all (·.1.isSome) = true := by rfl) (hks : (backToKw pos (keywordEach kws X.env)).filterMap (·.1) = ks := by rfl)
    (hg : Gl X x := by rfl) (hdb : (x == ("__debug__" : Str)) = false := by decide) (he : starEach (e :: es) X.env = (false, eval e X.env) :: starEach es X.env := by rfl)
    (hpl : ((backTo pos (starEach (e :: es) X.env)).any (·.1) || (backToKw pos (keywordEach kws X.env)).any (·.1.isNone)) = false := by rfl) :
    PE X (.Call (.Name x p) (e :: es) kws pos) (tE X.K W (eCall sp n gU α κ ks.length)) := by
  refine ⟨fun pins s σ H Q I ⟨m, G, ss, P, px, M, S, h, hx, q⟩ => ?_⟩
  refine wpAny_Call_Name_kw (ld_glob I hg hm ?_ hdb)
  refine PySem.W.callWith_KW (h₀ := X.base) I.ok.mod.kin hk hall (thn (ha.run pos pins s σ H (fun vs H1 => ∃ m1 G1 us, Mem X.K m1 G1 H1 ∧ RUs X.K m1 G1 H1 vs us ∧ κ ss G1 (fun ws G2 => us.length = n ∧ ws.length = ks.length ∧ sp (gU us ws) G2 P px) px ∧ Ext m G H m1 G1 H1) I ⟨m, G, ss, _, px, M, S, h, hx, fun us G1 vs m1 H1 p1 e1 M1 r1 => ⟨m1, G1, us, M1, r1, p1, e1⟩⟩) fun us s1 ⟨vs, H1, I1, r, m1, G1, uu, M1, ru, hs, e1⟩ => ?_) hpl he
  refine thn (hkw.run pos pins s1 σ H1 (fun zs H2 => ∃ m2 G2 ws, Mem X.K m2 G2 H2 ∧ RUs X.K m2 G2 H2 vs uu ∧ RUs X.K m2 G2 H2 zs ws ∧ uu.length = n ∧ ws.length = ks.length ∧ sp (gU uu ws) G2 P px ∧ Ext m G H m2 G2 H2) I1 ⟨m1, G1, ss, _, px, M1, S.ext M e1, hs, hx.ext e1, fun ws G2 zs m2 H2 p2 e2 M2 r2 => ⟨m2, G2, ws, M2, RUs.ext M1 e2 ru, r2, p2.1, p2.2.1, p2.2.2, e1.trans e2⟩⟩) fun ws s2 ⟨zs, H2, I2, rz, m2, G2, uw, M2, ru2, rw2, l1, l2, hs2, e2⟩ => ⟨I2.kIn, ?_⟩
  rw [hks]
  exact run_fnG F hr hgd hb tk I2 r rz M2 ru2 rw2 l1 l2 hs2 (hx.ext e2) fun u G' v m' H' pu e' => q u G' v m' H' pu (e2.trans e')

/-! ### methods of own classes -/
/-- the receiver is an instance of the class c that bears no attribute of the method's name -/
def eMethC (c mt : Str) (sp : SpU) (n : Nat) (gU : List U → List U → List U) (o : WE) (α : WA) : WE := fun ss G P p => o ss G (fun x G1 => match x with
  | .r i => (match G1[i]? with
    | some (.ins d fs) => d = c ∧ fs.lookup mt = none ∧ α ss G1 (fun us G2 => us.length + 1 = n ∧ sp (gU (.r i :: us) []) G2 P p) p
    | _ => False)
  | _ => False) p
theorem lookup_none {K : PySem.W.Frag} {m : MM} {G : GH} {H : Hp} {f : Str} : ∀ {es : List (Str × V)} {fs : List (Str × U)}, es.map (·.1) = fs.map (·.1) → fs.lookup f = none → es.lookup f = none
  | [], [], _, _ => rfl
  | [], _ :: _, h, _ => by cases h
  | _ :: _, [], h, _ => by cases h
  | (a, v) :: es, (b, w) :: fs, h, hl => by
    rw [List.map_cons, List.map_cons, List.cons.injEq] at h
    have h1 : a = b := h.1
    subst h1
    rw [List.lookup_cons] at hl ⊢
    cases hf : (f == a) with
    | true => rw [hf] at hl; cases hl
    | false =>
      rw [hf] at hl
      exact lookup_none (K := K) (m := m) (G := G) (H := H) h.2 hl
theorem r_methC {pl : Sem Bool} (cl : Cls X.K (He.ga X.K c)) (hm : Meth X.K (He.ga X.K c) mt f) (F : FnG X.prog X.w X.K X.mg X.base k f fd ps sp) (hr : Room k X.A) (hgd : X.A.guards = some []) (hb : KbU X.K fd ps n [] gU) (tk : Takes X W)
    (ho : PE X o (tE X.K W φ)) (ha : PA X (e :: es) (tA X.K W α)) (hst : starEach (e :: es) X.env = (false, eval e X.env) :: starEach es X.env := by rfl) (hpl : (backTo pos (starEach es X.env)).any (·.1) = false := by rfl)
    (ht : eval (.Call (.Attribute o mt apos) (e :: es) [] pos) X.env = (do
      let ov ← eval o X.env
      standAt apos.atName
      let (f, first) ← holding [ov] (getMethod ov mt pl)
      callWith pos f first (backTo pos (starEach (e :: es) X.env)) (backToKw pos (keywordEach [] X.env))) := by rfl) :
    PE X (.Call (.Attribute o mt apos) (e :: es) [] pos) (tE X.K W (eMethC c mt sp n gU φ α)) := by
  refine ⟨fun pins s σ H Q I ⟨m, G, ss, P, px, M, S, h, hx, q⟩ => ?_⟩
  refine PySem.W.methodCall_KW (pl := pl) (thn (ho.run pins s σ H (fun v H1 => ∃ m1 G1 i fs, Mem X.K m1 G1 H1 ∧ RU X.K m1 G1 H1 v (.r i) ∧ G1[i]? = some (.ins c fs) ∧ fs.lookup mt = none ∧ α ss G1 (fun us G2 => us.length + 1 = n ∧ sp (gU (.r i :: us) []) G2 P px) px ∧ Ext m G H m1 G1 H1) I ⟨m, G, ss, _, px, M, S, h, hx, fun u G1 v m1 H1 p1 e1 M1 r1 => ?_⟩) fun u s1 ⟨v, H1, I1, rx, m1, G1, i, fs, M1, r1, hG, hl, hα, e1⟩ => ?_) ht
  · split at p1
    · split at p1
      · rename_i d fs hG
        obtain ⟨rfl, p2, p3⟩ := p1
        exact ⟨m1, G1, _, fs, M1, r1, hG, p2, p3, e1⟩
      · exact p1.elim
    · exact p1.elim
  · obtain ⟨a, h1, rfl⟩ := id r1
    cases rx
    obtain ⟨es', h2, h3, h4⟩ := M1.ok i a _ h1 hG
    refine getmeth_ok I1 h2 cl hm (lookup_none (K := X.K) (m := m1) (G := G1) (H := H1) h3 hl) ?_
    refine PySem.W.callWith_K (first := [.ref a.1]) (h₀ := X.base) I.ok.mod.kin hm.kp (thn (ha.run pos pins s1 σ H1 (fun vs H2 => ∃ m2 G2 us, Mem X.K m2 G2 H2 ∧ RUs X.K m2 G2 H2 vs us ∧ RU X.K m2 G2 H2 (.ref a.1) (.r i) ∧ us.length + 1 = n ∧ sp (gU (.r i :: us) []) G2 P px ∧ Ext m G H m2 G2 H2) I1 ⟨m1, G1, ss, _, px, M1, S.ext M e1, hα, hx.ext e1, fun us G2 vs m2 H2 p2 e2 M2 r2 => ⟨m2, G2, us, M2, r2, r1.ext M1 e2, p2.1, p2.2, e1.trans e2⟩⟩) fun us s2 ⟨vs, H2, I2, r, m2, G2, uu, M2, ru, r3, l1, hs, e2⟩ => ⟨I2.kIn, ?_⟩) hst hpl
    exact run_fnG (us := .ref a.1 :: us) (vs := .ref a.1 :: vs) (uu := .r i :: uu) (ks := []) (ws := []) (zs := []) F hr hgd hb tk I2 (.cons rfl r) .nil M2 (.cons r3 ru) .nil l1 rfl hs (hx.ext e2) fun u G' v m' H' pu e' => q u G' v m' H' pu (e2.trans e')
theorem r_methC0 {pl : Sem Bool} (cl : Cls X.K (He.ga X.K c)) (hm : Meth X.K (He.ga X.K c) mt f) (F : FnG X.prog X.w X.K X.mg X.base k f fd ps sp) (hr : Room k X.A) (hgd : X.A.guards = some []) (hb : KbU X.K fd ps n [] gU) (tk : Takes X W)
    (ho : PE X o (tE X.K W φ))
    (ht : eval (.Call (.Attribute o mt apos) [] [] pos) X.env = (do
      let ov ← eval o X.env
      standAt apos.atName
      let (f, first) ← holding [ov] (getMethod ov mt pl)
      callWith pos f first (backTo pos (starEach [] X.env)) (backToKw pos (keywordEach [] X.env))) := by rfl) :
    PE X (.Call (.Attribute o mt apos) [] [] pos) (tE X.K W (eMethC c mt sp n gU φ aNil)) := by
  refine ⟨fun pins s σ H Q I ⟨m, G, ss, P, px, M, S, h, hx, q⟩ => ?_⟩
  refine PySem.W.methodCall_KW (pl := pl) (thn (ho.run pins s σ H (fun v H1 => ∃ m1 G1 i fs, Mem X.K m1 G1 H1 ∧ RU X.K m1 G1 H1 v (.r i) ∧ G1[i]? = some (.ins c fs) ∧ fs.lookup mt = none ∧ (0 + 1 = n ∧ sp (gU [.r i] []) G1 P px) ∧ Ext m G H m1 G1 H1) I ⟨m, G, ss, _, px, M, S, h, hx, fun u G1 v m1 H1 p1 e1 M1 r1 => ?_⟩) fun u s1 ⟨v, H1, I1, rx, m1, G1, i, fs, M1, r1, hG, hl, hα, e1⟩ => ?_) ht
  · split at p1
    · split at p1
      · rename_i d fs hG
        obtain ⟨rfl, p2, p3⟩ := p1
        exact ⟨m1, G1, _, fs, M1, r1, hG, p2, p3, e1⟩
      · exact p1.elim
    · exact p1.elim
  · obtain ⟨a, h1, rfl⟩ := id r1
    cases rx
    obtain ⟨es', h2, h3, h4⟩ := M1.ok i a _ h1 hG
    refine getmeth_ok I1 h2 cl hm (lookup_none (K := X.K) (m := m1) (G := G1) (H := H1) h3 hl) ?_
    exact PySem.W.callWith_K0 (first := [.ref a.1]) I1.kIn hm.kp (run_fnG (us := [.ref a.1]) (vs := [.ref a.1]) (uu := [.r i]) (ks := []) (ws := []) (zs := []) F hr hgd hb tk I1 (.cons rfl .nil) .nil M1 (.cons r1 .nil) .nil hα.1 rfl hα.2 (hx.ext e1) fun u G' v m' H' pu e' => q u G' v m' H' pu (e1.trans e'))

/-! ### new instances -/
def eMake (c : Str) (sp : SpU) (n : Nat) (gU : List U → List U → List U) (α κ : WA) (l : Nat) : WE := fun ss G P p => α ss G (fun us G1 => κ ss G1 (fun ws G2 => us.length + 1 = n ∧ ws.length = l ∧ sp (gU (.r G2.length :: us) ws) (G2 ++ [.ins c []]) (fun u G3 => u = .d .none ∧ P (.r G2.length) G3) p) p) p
theorem guards_make {A : Around} {C : Addr} {us : List Value} {kw : List (Str × Value)} : (A.under (.builtin "type.__call__" ⟨.ref C :: us, kw⟩)).guards = A.guards := by
  show pushGuards (Code.guards (.builtin "type.__call__" ⟨.ref C :: us, kw⟩)) A.guards = A.guards
  have e : Code.guards (.builtin "type.__call__" ⟨.ref C :: us, kw⟩) = [] := by simp [Code.guards, Code.isGuard, guardIds]
  rw [e]
  cases A.guards <;> rfl
theorem run_makeG {pins : List (Addr × Obj)} {σ : St} {H : Hp} {s : Shared} {Q : VK} {us ws : List Value} {vs zs : List V} {m : MM} {G : GH} {uu uw : List U} {P : PU} {px : PX} (Mc : Mk X.K (He.ga X.K c) f) (F : FnG X.prog X.w X.K X.mg X.base k f fd ps sp) (hr : Room (k + 1) X.A) (hgd : X.A.guards = some []) (hb : KbU X.K fd ps n ks gU) (tk : Takes X W)
    (I : Inv X pins σ H s) (r : Vals vs us) (rz : Vals zs ws) (M : Mem X.K m G H) (ru : RUs X.K m G H vs uu) (rw' : RUs X.K m G H zs uw) (l1 : uu.length + 1 = n) (l2 : uw.length = ks.length)
    (h : sp (gU (.r G.length :: uu) uw) (G ++ [.ins c []]) (fun u G3 => u = .d .none ∧ P (.r G.length) G3) px) (hx : OkX X.K W m G H σ px)
    (q : ∀ (u : U) (G' : GH) (v : V) (m' : MM) (H' : Hp), P u G' → Ext m G H m' G' H' → Mem X.K m' G' H' → RU X.K m' G' H' v u → Q v H') :
    wpAny (model X.prog X.w) X.A (call (.ref (He.ga X.K c)) us (ks.zip ws)) (EP X pins σ Q) X.xe s := by
  obtain ⟨g, gV, b1, b2, b3⟩ := hb.to
  have a1 := ru.length
  have a2 := rw'.length
  have a3 := r.length
  have a4 := rz.length
  have I2 := Inv.made (C := He.ga X.K c) I
  have hn : H (s.heap.objs.size + 1) = none := I.hok.fresh (Nat.le_succ _)
  have hd : H s.heap.objs.size = none := I.hok.fresh (Nat.le_refl _)
  have hne : s.heap.objs.size ≠ s.heap.objs.size + 1 := Nat.ne_of_lt (Nat.lt_succ_self _)
  have kk : ∀ a y, H a = some y → upd (upd H s.heap.objs.size (.own (s.heap.objs.size + 1))) (s.heap.objs.size + 1) (.ins (He.ga X.K c) s.heap.objs.size []) a = some y := fun a y e => by
    rw [upd_ne (ne_of_none e hn), upd_ne (ne_of_none e hd)]
    exact e
  have e0 : Ext m G H (m ++ [(s.heap.objs.size + 1, s.heap.objs.size)]) (G ++ [.ins c []]) _ := Ext.alloc M.len (p := (s.heap.objs.size + 1, s.heap.objs.size)) (o := .ins c []) hn kk
  have M0 : Mem X.K (m ++ [(s.heap.objs.size + 1, s.heap.objs.size)]) (G ++ [.ins c []]) _ := M.alloc (p := (s.heap.objs.size + 1, s.heap.objs.size)) hn kk ⟨[], upd_same, rfl, .nil⟩
  have r0 : RU X.K (m ++ [(s.heap.objs.size + 1, s.heap.objs.size)]) (G ++ [.ins c []]) (upd (upd H s.heap.objs.size (.own (s.heap.objs.size + 1))) (s.heap.objs.size + 1) (.ins (He.ga X.K c) s.heap.objs.size [])) (.ref (s.heap.objs.size + 1)) (.r G.length) := by
    refine ⟨(s.heap.objs.size + 1, s.heap.objs.size), ?_, rfl⟩
    rw [← M.len, List.getElem?_append_right (Nat.le_refl _)]
    simp
  have rv : Vals (V.ref (s.heap.objs.size + 1) :: vs) (Value.ref (s.heap.objs.size + 1) :: us) := .cons rfl r
  refine wpAny_call (make_map (f := f) I.kIn Mc.makes Mc.init (beq_iff_eq.mp Mc.fn) (codeAny_mono (F.run _ X.stack _ _ ⟨Value.ref (s.heap.objs.size + 1) :: us, ks.zip ws⟩ (g (Value.ref (s.heap.objs.size + 1) :: us) ws) (gV (V.ref (s.heap.objs.size + 1) :: vs) zs)
    (fun v H2 => v = .non ∧ Q (.ref (s.heap.objs.size + 1)) H2) (fun c d H' => W c d σ H') (hr.make (He.ga X.K c) us (ks.zip ws)) (by rw [guards_make]; exact hgd) (I2.env0.make (He.ga X.K c) us (ks.zip ws))
    (b1 _ (Value.ref (s.heap.objs.size + 1) :: us) ws I2.kIn (by rw [List.length_cons]; omega) (by omega)) (b2 rv rz)
    ⟨_, _, _, _, px, M0, b3 (by rw [List.length_cons]; omega) (by omega) (.cons r0 (RUs.ext M e0 ru)) (RUs.ext M e0 rw'), h, fun u G' v m' H' pu e' M' r' => ?_, fun x G' c d m' H' a e' M' r' => hx x G' c d m' H' a (e0.trans e') M' r'⟩) fun r s' hq' => ?_))
  · obtain ⟨rfl, pu⟩ := pu
    cases r'
    exact ⟨rfl, q _ G' _ m' H' pu (e0.trans e') M' (r0.ext M0 e')⟩
  · cases r with
    | error e => exact tk _ _ (XE.of_call I2 (fun _ _ _ z => z) hq')
    | ok fl =>
      cases fl with
      | ret u =>
        obtain ⟨v, H', I3, rv, ev, q3⟩ := I2.after hq'
        subst ev
        exact ⟨rv, ⟨V.ref (s.heap.objs.size + 1), H', I3, rfl, q3⟩⟩
      | next => exact False.elim hq'
      | brk => exact False.elim hq'
      | cont => exact False.elim hq'
/-- C(e, .., k = v, ..) -/
theorem r_makeK (Mc : Mk X.K (He.ga X.K c) f) (F : FnG X.prog X.w X.K X.mg X.base k f fd ps sp) (hr : Room (k + 1) X.A) (hgd : X.A.guards = some []) (hm : X.mg x = some (.ref (He.ga X.K c))) (hb : KbU X.K fd ps n ks gU) (tk : Takes X W)
    (ha : PA X (e :: es) (tA X.K W α)) (hkw : PK X kws (tA X.K W κ)) (hall : (backToKw pos (keywordEach kws X.env)).all (·.1.isSome) = true := by rfl) (hks : (backToKw pos (keywordEach kws X.env)).filterMap (·.1) = ks := by rfl)
    (hg : Gl X x := by rfl) (hdb : (x == ("__debug__" : Str)) = false := by decide) (he : starEach (e :: es) X.env = (false, eval e X.env) :: starEach es X.env := by rfl)
    (hpl : ((backTo pos (starEach (e :: es) X.env)).any (·.1) || (backToKw pos (keywordEach kws X.env)).any (·.1.isNone)) = false := by rfl) :
    PE X (.Call (.Name x p) (e :: es) kws pos) (tE X.K W (eMake c sp n gU α κ ks.length)) := by
  refine ⟨fun pins s σ H Q I ⟨m, G, ss, P, px, M, S, h, hx, q⟩ => ?_⟩
  refine wpAny_Call_Name_kw (ld_glob I hg hm ?_ hdb)
  refine PySem.W.callWith_KW (h₀ := X.base) I.ok.mod.kin Mc.kp hall (thn (ha.run pos pins s σ H (fun vs H1 => ∃ m1 G1 us, Mem X.K m1 G1 H1 ∧ RUs X.K m1 G1 H1 vs us ∧ κ ss G1 (fun ws G2 => us.length + 1 = n ∧ ws.length = ks.length ∧ sp (gU (.r G2.length :: us) ws) (G2 ++ [.ins c []]) (fun u G3 => u = .d .none ∧ P (.r G2.length) G3) px) px ∧ Ext m G H m1 G1 H1) I ⟨m, G, ss, _, px, M, S, h, hx, fun us G1 vs m1 H1 p1 e1 M1 r1 => ⟨m1, G1, us, M1, r1, p1, e1⟩⟩) fun us s1 ⟨vs, H1, I1, r, m1, G1, uu, M1, ru, hs, e1⟩ => ?_) hpl he
  refine thn (hkw.run pos pins s1 σ H1 (fun zs H2 => ∃ m2 G2 ws, Mem X.K m2 G2 H2 ∧ RUs X.K m2 G2 H2 vs uu ∧ RUs X.K m2 G2 H2 zs ws ∧ uu.length + 1 = n ∧ ws.length = ks.length ∧ sp (gU (.r G2.length :: uu) ws) (G2 ++ [.ins c []]) (fun u G3 => u = .d .none ∧ P (.r G2.length) G3) px ∧ Ext m G H m2 G2 H2) I1 ⟨m1, G1, ss, _, px, M1, S.ext M e1, hs, hx.ext e1, fun ws G2 zs m2 H2 p2 e2 M2 r2 => ⟨m2, G2, ws, M2, RUs.ext M1 e2 ru, r2, p2.1, p2.2.1, p2.2.2, e1.trans e2⟩⟩) fun ws s2 ⟨zs, H2, I2, rz, m2, G2, uw, M2, ru2, rw2, l1, l2, hs2, e2⟩ => ⟨I2.kIn, ?_⟩
  rw [hks]
  exact run_makeG Mc F hr hgd hb tk I2 r rz M2 ru2 rw2 l1 l2 hs2 (hx.ext e2) fun u G' v m' H' pu e' => q u G' v m' H' pu (e2.trans e')
/-- C(e, ..) -/
theorem r_make (Mc : Mk X.K (He.ga X.K c) f) (F : FnG X.prog X.w X.K X.mg X.base k f fd ps sp) (hr : Room (k + 1) X.A) (hgd : X.A.guards = some []) (hm : X.mg x = some (.ref (He.ga X.K c))) (hb : KbU X.K fd ps n [] gU) (tk : Takes X W)
    (ha : PA X (e :: es) (tA X.K W α)) (hg : Gl X x := by rfl) (hdb : (x == ("__debug__" : Str)) = false := by decide) (he : starEach (e :: es) X.env = (false, eval e X.env) :: starEach es X.env := by rfl) (hpl : (backTo pos (starEach es X.env)).any (·.1) = false := by rfl) :
    PE X (.Call (.Name x p) (e :: es) [] pos) (tE X.K W (eMake c sp n gU α aNil 0)) := by
  refine ⟨fun pins s σ H Q I ⟨m, G, ss, P, px, M, S, h, hx, q⟩ => ?_⟩
  refine wpAny_Call_Name_kw (ld_glob I hg hm ?_ hdb)
  refine PySem.W.callWith_K (h₀ := X.base) I.ok.mod.kin Mc.kp (thn (ha.run pos pins s σ H (fun vs H1 => ∃ m1 G1 us, Mem X.K m1 G1 H1 ∧ RUs X.K m1 G1 H1 vs us ∧ us.length + 1 = n ∧ sp (gU (.r G1.length :: us) []) (G1 ++ [.ins c []]) (fun u G3 => u = .d .none ∧ P (.r G1.length) G3) px ∧ Ext m G H m1 G1 H1) I ⟨m, G, ss, _, px, M, S, h, hx, fun us G1 vs m1 H1 p1 e1 M1 r1 => ⟨m1, G1, us, M1, r1, p1.1, p1.2.2, e1⟩⟩) fun us s1 ⟨vs, H1, I1, r, m1, G1, uu, M1, ru, l1, hs, e1⟩ => ⟨I1.kIn, ?_⟩) he hpl
  exact run_makeG (ks := []) (ws := []) (zs := []) Mc F hr hgd hb tk I1 r .nil M1 ru .nil l1 rfl hs (hx.ext e1) fun u G' v m' H' pu e' => q u G' v m' H' pu (e1.trans e')
end
end R
/-! ## part RL -/
/-! The layer R: small statements, targets. -/
namespace R
open PySem PySem.Spec
open PyProof.Rows hiding St
open L2

/-! ### readings -/
def sSkip : WS := fun ss G C => C.nx ss G
def sSeq (φ ψ : WS) : WS := fun ss G C => φ ss G { C with nx := fun ss1 G1 => ψ ss1 G1 C }
def sExpr (e : WE) : WS := fun ss G C => e ss G (fun _ G1 => C.nx ss G1) (fun x G1 => C.ex x ss G1)
def sRet (e : WE) : WS := fun ss G C => e ss G C.rt (fun x G1 => C.ex x ss G1)
def sRetN : WS := fun _ G C => C.rt (.d .none) G
def sBreak : WS := fun ss G C => C.bk ss G
def sCont : WS := fun ss G C => C.ct ss G
def sIf (c : WT) (a b : WS) : WS := fun ss G C => c ss G (fun k G1 => if k = true then a ss G1 C else b ss G1 C) (fun x G1 => C.ex x ss G1)
/-- a list that may change no more (nothing of the text) -/
def sFreeze (i : Nat) (φ : WS) : WS := fun ss G C => match ss[i]? with
  | some (some (.r n)) => (match G[n]? with
    | some (.lst us) => (match dataOf us with
      | some xs => φ (ss.set i (some (.d (.list xs)))) (G.set n .dead) C
      | none => False)
    | _ => False)
  | _ => False
abbrev WG := U → SS → GH → (SS → GH → Prop) → Prop
abbrev WGs := List U → SS → GH → (SS → GH → Prop) → Prop
def noX : PX := fun _ _ => False
def gdName (i : Nat) : WG := fun u ss G P => P (ss.set i (some u)) G
def gdNil : WGs := fun us ss G P => us = [] ∧ P ss G
def gdCons (a : WG) (r : WGs) : WGs := fun us ss G P => match us with
  | u :: us => a u ss G fun ss1 G1 => r us ss1 G1 P
  | [] => False
def gdTup (n : Nat) (r : WGs) : WG := fun u ss G P => match u with
  | .d (.tuple xs) => xs.length = n ∧ r (xs.map .d) ss G P
  | _ => False
def gdStar (n i : Nat) (r : WGs) : WG := fun u ss G P => match u with
  | .d (.tuple xs) => n ≤ xs.length + 1 ∧ xs.length ≤ 16384 ∧ r (((xs.take i ++ [PyData.list ((xs.drop i).take (xs.length + 1 - n))]) ++ (xs.drop i).drop (xs.length + 1 - n)).map .d) ss G P
  | _ => False
def putU (f : Str) (u : U) : List (Str × U) → List (Str × U)
  | [] => [(f, u)]
  | (g, x) :: r => if g = f then (g, u) :: r else (g, x) :: putU f u r
def setF (T : Tab) (f : Str) (x u : U) (G : GH) (P : GH → Prop) : Prop := match x with
  | .r n => (match G[n]? with
    | some (.ins c fs) => Bears T c f = true ∧ fs.length < 1000 ∧ P (G.set n (.ins c (putU f u fs)))
    | _ => False)
  | _ => False
def gdFld (T : Tab) (o : WE) (f : Str) : WG := fun u ss G P => o ss G (fun x G1 => setF T f x u G1 (P ss)) noX
/-- o[i] = u -/
def setI (o i u : U) (G : GH) (P : GH → Prop) : Prop := match o, i with
  | .r n, .d k => (match G[n]? with
    | some (.lst us) => (match k with
      | .int j => (match ixN us.length j with
        | some q => P (G.set n (.lst (us.set q u)))
        | none => False)
      | _ => False)
    | some (.dct ds) => keyAsk false ds k ∧ ds.length < sizeLine ∧ P (G.set n (.dct (putD ds k u)))
    | _ => False)
  | _, _ => False
def gdSub (o i : WE) : WG := fun u ss G P => o ss G (fun x G1 => i ss G1 (fun y G2 => setI x y u G2 (P ss)) noX) noX
def sAsg (e : WE) (γ : WG) : WS := fun ss G C => e ss G (fun u G1 => γ u ss G1 C.nx) (fun x G1 => C.ex x ss G1)
def sAsg2 (e : WE) (γ γ' : WG) : WS := fun ss G C => e ss G (fun u G1 => γ u ss G1 fun ss1 G2 => γ' u ss1 G2 C.nx) (fun x G1 => C.ex x ss G1)
/-- a, b, .. = x, y, .. by a tuple that nobody keeps -/
def sUnp (n : Nat) (α : WA) (γ : WGs) : WS := fun ss G C => α ss G (fun us G1 => us.length = n ∧ γ us ss G1 C.nx) (fun x G1 => C.ex x ss G1)
def sPar (i j : Nat) (α : WA) : WS := fun ss G C => α ss G (fun us G1 => match us with
  | [u, w] => C.nx ((ss.set i (some u)).set j (some w)) G1
  | _ => False) (fun x G1 => C.ex x ss G1)
def sPar3 (i j l : Nat) (α : WA) : WS := fun ss G C => α ss G (fun us G1 => match us with
  | [u, w, z] => C.nx (((ss.set i (some u)).set j (some w)).set l (some z)) G1
  | _ => False) (fun x G1 => C.ex x ss G1)
def sAug (i : Nat) (e : WE) (g : G2) : WS := fun ss G C => match ss[i]? with
  | some (some u) => e ss G (fun w G1 => g u w G1 fun z G2 => C.nx (ss.set i (some z)) G2) (fun x G1 => C.ex x ss G1)
  | _ => False
def sFldAug (T : Tab) (o e : WE) (g : G2) (f : Str) : WS := fun ss G C => o ss G (fun x G1 => match x with
  | .r n => (match G1[n]? with
    | some (.ins c fs) => Bears T c f = true ∧ (match fs.lookup f with
      | some u => e ss G1 (fun w G2 => g u w G2 fun z G3 => ∃ fs', G3[n]? = some (.ins c fs') ∧ fs'.length < 1000 ∧ C.nx ss (G3.set n (.ins c (putU f z fs')))) (fun x G1 => C.ex x ss G1)
      | none => False)
    | _ => False)
  | _ => False) (fun x G1 => C.ex x ss G1)

section
variable {X : Cx} {W : WX} {e a b c o : Expr} {st : Stmt} {rest sa sb : List Stmt} {es : List Expr} {pos pos' tpos : Pos} {φ φo φi : WE} {τ : WT} {α : WA} {ψ ψ' : WS} {γ γ' : WG} {γs : WGs}
/-! ### rules -/
theorem s_nil : PSs X [] (tS X.K W sSkip) := pss_nil.imp fun D σ H ⟨m, G, ss, C, M, S, h, o⟩ => o.nx ss G σ m H h Ext.refl M S
theorem tSeq_of {t u : TS} {D : Ends} {σ : St} {H : Hp} (i : ∀ D σ H, tS X.K W ψ D σ H → t D σ H) (i' : ∀ D σ H, tS X.K W ψ' D σ H → u D σ H) (h : tS X.K W (sSeq ψ ψ') D σ H) : tSeq t u D σ H := by
  obtain ⟨m, G, ss, C, M, S, h, o⟩ := h
  refine i _ σ H ⟨m, G, ss, _, M, S, h, ⟨fun ss1 G1 σ1 m1 H1 p e M1 S1 => i' _ σ1 H1 ⟨m1, G1, ss1, C, M1, S1, p, o.ext e⟩, o.rt, o.bk, o.ct, o.ex⟩⟩
theorem s_cons (h1 : PS X st (tS X.K W ψ)) (h2 : PSs X rest (tS X.K W ψ')) : PSs X (st :: rest) (tS X.K W (sSeq ψ ψ')) := (pss_cons h1 h2).imp fun D σ H h => tSeq_of (fun _ _ _ h => h) (fun _ _ _ h => h) h
theorem s_one (h1 : PS X st (tS X.K W ψ)) : PSs X [st] (tS X.K W ψ) := pss_one h1
theorem s_pass : PS X (.Pass pos) (tS X.K W sSkip) := (ps_pass).imp fun D σ H ⟨m, G, ss, C, M, S, h, o⟩ => o.nx ss G σ m H h Ext.refl M S
theorem s_break : PS X (.Break pos) (tS X.K W sBreak) := (ps_break).imp fun D σ H ⟨m, G, ss, C, M, S, h, o⟩ => o.bk ss G σ m H h Ext.refl M S
theorem s_cont : PS X (.Continue pos) (tS X.K W sCont) := (ps_continue).imp fun D σ H ⟨m, G, ss, C, M, S, h, o⟩ => o.ct ss G σ m H h Ext.refl M S
theorem s_expr (he : PE X e (tE X.K W φ)) (hs : swapsWith e none pos.line X.env = pure false := by rfl) : PS X (.Expr e pos) (tS X.K W (sExpr φ)) := (ps_expr he hs).imp fun D σ H ⟨m, G, ss, C, M, S, h, o⟩ =>
  ⟨m, G, ss, _, _, M, S, h, o.okX M S, fun u G1 v m1 H1 p e M1 r => o.nx ss G1 σ m1 H1 p e M1 (S.ext M e)⟩
theorem s_ret (he : PE X e (tE X.K W φ)) : PS X (.Return (some e) pos) (tS X.K W (sRet φ)) := (ps_ret he).imp fun D σ H ⟨m, G, ss, C, M, S, h, o⟩ => ⟨m, G, ss, _, _, M, S, h, o.okX M S, o.rt⟩
theorem s_retN : PS X (.Return none pos) (tS X.K W sRetN) := (ps_retN).imp fun D σ H ⟨m, G, ss, C, M, S, h, o⟩ => o.rt _ G .non m H h Ext.refl M Rep.non
theorem s_if (hc : PT X c (tT X.K W τ)) (ha : PSs X sa (tS X.K W ψ)) (hb : PSs X sb (tS X.K W ψ')) : PS X (.If c sa sb pos) (tS X.K W (sIf τ ψ ψ')) := (ps_if hc ha hb).imp fun D σ H ⟨m, G, ss, C, M, S, h, o⟩ => by
  refine ⟨m, G, ss, _, _, M, S, h, o.okX M S, fun k G1 m1 H1 p1 e1 M1 => ?_⟩
  split at p1
  · rename_i hk
    rw [if_pos hk]
    exact ⟨m1, G1, ss, C, M1, S.ext M e1, p1, o.ext e1⟩
  · rename_i hk
    rw [if_neg hk]
    exact ⟨m1, G1, ss, C, M1, S.ext M e1, p1, o.ext e1⟩
theorem StOk.set {K : PySem.W.Frag} {m : MM} {G : GH} {H : Hp} {σ : St} {ss : SS} {v : V} {u : U} (S : StOk K m G H σ ss) (r : RU K m G H v u) (i : Nat) : StOk K m G H (σ.set i (some v)) (ss.set i (some u)) := by
  refine ⟨by simp [S.1], fun j w h => ?_⟩
  by_cases hj : i = j
  · subst hj
    by_cases hi : i < ss.length
    · rw [List.getElem?_set_self hi] at h
      cases h
      exact ⟨v, List.getElem?_set_self (by rw [S.1]; exact hi), r⟩
    · rw [List.getElem?_eq_none (by simpa using hi)] at h
      cases h
  · rw [List.getElem?_set_ne hj] at h ⊢
    exact S.2 j w h
/-- nothing of the text: a list is frozen -/
theorem s_freeze (i : Nat) (h : PSs X sa (tS X.K W ψ)) : PSs X sa (tS X.K W (sFreeze i ψ)) := h.imp fun D σ H ⟨m, G, ss, C, M, S, hf, o⟩ => by
  unfold sFreeze at hf
  split at hf
  · rename_i n hn
    split at hf
    · rename_i us hG
      split at hf
      · rename_i xs hx
        have eq := dataOf_eq hx
        subst eq
        obtain ⟨v, hv, p, hp, rfl⟩ := S.2 i _ hn
        obtain ⟨M', e, r⟩ := M.freeze hp hG
        refine ⟨m, _, _, C, M', ?_, hf, o.ext e⟩
        have S' := (S.ext M e).set r i
        have e2 : σ.set i (some (.ref p.1)) = σ := by
          refine List.ext_getElem? fun j => ?_
          by_cases hj : i = j
          · subst hj
            rw [hv, List.getElem?_set_self (List.getElem?_eq_some_iff.mp hv).1]
          · rw [List.getElem?_set_ne hj]
        rwa [e2] at S'
      · exact hf.elim
    · exact hf.elim
  · exact hf.elim

/-! ### targets -/
def tG (K : PySem.W.Frag) (γ : WG) : L2.TG := fun v σ H Q => ∃ (m : MM) (G : GH) (ss : SS) (u : U) (P : SS → GH → Prop), Mem K m G H ∧ StOk K m G H σ ss ∧ RU K m G H v u ∧ γ u ss G P ∧
  ∀ (ss' : SS) (G' : GH) (σ' : St) (m' : MM) (H' : Hp), P ss' G' → Ext m G H m' G' H' → Mem K m' G' H' → StOk K m' G' H' σ' ss' → Q σ' H'
def tGs (K : PySem.W.Frag) (γ : WGs) : L2.TGs := fun vs σ H Q => ∃ (m : MM) (G : GH) (ss : SS) (us : List U) (P : SS → GH → Prop), Mem K m G H ∧ StOk K m G H σ ss ∧ RUs K m G H vs us ∧ γ us ss G P ∧
  ∀ (ss' : SS) (G' : GH) (σ' : St) (m' : MM) (H' : Hp), P ss' G' → Ext m G H m' G' H' → Mem K m' G' H' → StOk K m' G' H' σ' ss' → Q σ' H'
theorem PG.imp {t t' : L2.TG} (h : PG X e t) (i : ∀ v σ H Q, t' v σ H Q → t v σ H Q) : PG X e t' := ⟨fun pins s σ H v u Q I r q => h.run pins s σ H v u Q I r (i v σ H Q q)⟩
theorem PGs.imp {t t' : L2.TGs} (h : PGs X es t) (i : ∀ v σ H Q, t' v σ H Q → t v σ H Q) : PGs X es t' := ⟨fun pins s σ H v u Q I r q => h.run pins s σ H v u Q I r (i v σ H Q q)⟩
theorem t_name (i : Nat) {x : Str} (hN : X.N.Nodup) (hi : X.N[i]? = some x := by rfl) (hx : Loc X.env.scope x := by first | exact Or.inl rfl | exact Or.inr rfl) (hf : X.fn x = true ∨ X.env.scope.names.lookup x = some .local := by first | exact .inl rfl | exact .inr rfl) : PG X (.Name x pos) (tG X.K (gdName i)) :=
  PG.imp (pg_name hN hi hx hf) fun v σ H Q ⟨m, G, ss, u, P, M, S, r, h, q⟩ => q _ G _ m H h Ext.refl M (S.set r i)
theorem t_nil : PGs X [] (tGs X.K gdNil) := PGs.imp pgs_nil fun v σ H Q ⟨m, G, ss, us, P, M, S, r, h, q⟩ => by
  obtain ⟨rfl, h⟩ := h
  cases r
  exact ⟨rfl, q ss G σ m H h Ext.refl M S⟩
theorem gCons_of {v : List V} {σ : St} {H : Hp} {Q : St → Hp → Prop} (h : tGs X.K (gdCons γ γs) v σ H Q) : L2.gCons (tG X.K γ) (tGs X.K γs) v σ H Q := by
  obtain ⟨m, G, ss, us, P, M, S, r, h, q⟩ := h
  unfold gdCons at h
  cases r with
  | nil => exact h.elim
  | cons a r => exact ⟨_, _, rfl, m, G, ss, _, _, M, S, a, h, fun ss1 G1 σ1 m1 H1 p1 e1 M1 S1 => ⟨m1, G1, ss1, _, P, M1, S1, RUs.ext M e1 r, p1, fun ss2 G2 σ2 m2 H2 p2 e2 => q ss2 G2 σ2 m2 H2 p2 (e1.trans e2)⟩⟩
theorem t_cons (h1 : PG X e (tG X.K γ)) (h2 : PGs X es (tGs X.K γs)) (hs : (assignEach (e :: es) X.env).map (·.2) = assign e X.env :: (assignEach es X.env).map (·.2) := by rfl) : PGs X (e :: es) (tGs X.K (gdCons γ γs)) := PGs.imp (pgs_cons h1 h2 hs) fun _ _ _ _ h => gCons_of h
theorem t_consS {sp : Pos} (h1 : PG X e (tG X.K γ)) (h2 : PGs X es (tGs X.K γs)) : PGs X (.Starred e sp :: es) (tGs X.K (gdCons γ γs)) := by
  have k : PGs X (.Starred e sp :: es) (L2.gCons (tG X.K γ) (tGs X.K γs)) := by
    refine ⟨fun pins s σ H vs us Q I r h => ?_⟩
    obtain ⟨v, r', rfl, h⟩ := h
    cases r with
    | cons a b =>
      show wpAny _ _ (assignInOrder (assign e X.env :: (assignEach es X.env).map (·.2)) (_ :: _)) _ _ s
      unfold assignInOrder
      exact wpAny_bind (wpAny_holding (thn (h1.run pins s σ H _ _ _ I a h) fun _ s1 ⟨σ1, H1, I1, q1⟩ => h2.run pins s1 σ1 H1 _ _ Q I1 b q1))
  exact PGs.imp k fun _ _ _ _ h => gCons_of h
theorem RUs.ofData {K : PySem.W.Frag} {m : MM} {G : GH} {H : Hp} {vs : List V} {xs : List PyData} (r : Reps K H (Lv m G) vs xs) : RUs K m G H vs (xs.map .d) := RUs.ofReps r
theorem t_tup {k n : Nat} (hc : X.calm = true) (h : PGs X es (tGs X.K γs)) (hn : (assignEach es X.env).length = n := by rfl) (hst : (assignEach es X.env).findIdx? (·.1) = none := by rfl) : PG X (.Tuple es k pos) (tG X.K (gdTup n γs)) :=
  PG.imp (pg_tup hc h hn hst) fun v σ H Q ⟨m, G, ss, u, P, M, S, r, h, q⟩ => by
    unfold gdTup at h
    split at h
    · obtain ⟨a, vs, rfl, ha, ra⟩ := rep_tup r
      exact ⟨a, vs, rfl, ha, by rw [ra.length]; exact h.1, m, G, ss, _, P, M, S, RUs.ofReps ra, h.2, q⟩
    · exact h.elim
/-- a tuple in parts, one of which takes the rest -/
theorem star_tup {l : Addr} {items : Array Value} {n i : Nat} {A : Around} {E : Value → Shared → Prop} {s : Shared} {prog : Program} {w : World} {Q : List Value → Shared → Prop} (hl : IsTup s.heap l items) (hh : A.handled = none) (hi : i < n) (hn : n ≤ items.size + 1) (hz : items.size ≤ 16384)
    (h : ∀ (h' : Heap) (tk : Nat), (∀ b o, s.heap.get? b = some o → h'.get? b = some o) →
      Q (items.toList.take i ++ [.ref h'.objs.size] ++ (items.toList.drop i).drop (items.size + 1 - n)) { s with heap := h'.push { cls := .type "list", data := .seq ((items.toList.drop i).take (items.size + 1 - n)).toArray }, toks := tk }) :
    wpAny (model prog w) A (unpackItems (.ref l) n (some i)) Q E s := by
  have hll : l < s.heap.objs.size := let ⟨o, ho, _⟩ := hl; Heap.lt_size ho
  have hlt : l ≠ s.heap.objs.size := Nat.ne_of_lt hll
  unfold unpackItems notIterableAtAll
  refine wpAny_bind (wpAny_bind (wpAny_specialOf hl.typeIs slot_tuple_iter.lookup (wpAny_pure ?_)))
  simp only [Bool.false_eq_true, if_false]
  refine wpAny_bind (wpAny_holding (iter_tuple hl (wpAny_bind (wpAny_holding (draw_tuple hlt i 0 _ _ ⟨_, Heap.get?_push_size _ rfl, rfl, rfl⟩ (hl.push _) (by omega) fun h₁ hit₁ hs₁ => ?_)))))
  have tup1 : IsTup h₁ l items := (hl.push _).extBut hs₁.extBut hlt
  rw [Nat.zero_add] at hit₁
  obtain ⟨oi, hoi, _⟩ := id hit₁
  obtain ⟨ol, hol, _⟩ := id tup1
  rw [List.drop_zero]
  have len1 : (items.toList.take i).length = i := by rw [List.length_take, Array.length_toList]; omega
  have len2 : (items.toList.drop i).length = items.size - i := by rw [List.length_drop, Array.length_toList]
  rw [if_neg (by rw [len1]; omega)]
  refine wpAny_bind (wpAny_holding (PySem.W.kun_collect (s := { s with heap := h₁ }) (T := "tuple_iterator") (.inr (.inr (.inr rfl))) (Walks.tuple (A := A.in1) hh s.heap.objs.size l hlt items) (fun j u st => st.1.typeIs) (k := i) (by omega) ⟨hit₁, tup1⟩ (Heap.lt_size hoi) (Heap.lt_size hol) (fun h₂ tk hk => ?_) (by rw [sizeLine_eq]; omega)))
  have len3 : (items.toList.drop i).length - (n - 1 - i) = items.size + 1 - n := by rw [len2]; omega
  show wpAny _ _ (if (items.toList.drop i).length < n - 1 - i then _ else _) _ _ _
  rw [if_neg (by rw [len2]; omega)]
  show wpAny _ _ (newList ((items.toList.drop i).take ((items.toList.drop i).length - (n - 1 - i))) >>= fun d => pure (items.toList.take i ++ [d] ++ (items.toList.drop i).drop ((items.toList.drop i).length - (n - 1 - i)))) _ _ _
  rw [len3]
  have kept : ∀ b o, s.heap.get? b = some o → h₂.get? b = some o := fun b o e => by
    have hb : b ≠ s.heap.objs.size := Nat.ne_of_lt (Heap.lt_size e)
    exact hk b o hb (hs₁.extBut b o hb (Heap.get?_push_of_some _ e))
  exact wpAny_bind (wpAny_newList (wpAny_pure (h h₂ tk kept)) (by rw [List.length_take, len2, sizeLine_eq]; omega))
theorem t_star {k n i : Nat} (hc : X.calm = true) (h : PGs X es (tGs X.K γs)) (hi : i < n := by decide) (hn : (assignEach es X.env).length = n := by rfl) (hst : (assignEach es X.env).findIdx? (·.1) = some i := by rfl) : PG X (.Tuple es k pos) (tG X.K (gdStar n i γs)) := by
  refine ⟨fun pins s σ H v u Q I r ⟨m, G, ss, ud, P, M, S, ru, hg, q⟩ => ?_⟩
  unfold gdStar at hg
  split at hg
  · rename_i xs
    obtain ⟨h1, h2, h3⟩ := hg
    obtain ⟨a, vs, rfl, ha, ra⟩ := rep_tup ru
    cases r
    obtain ⟨its, rv, ht, hz⟩ := I.tuple ha
    have l1 := ra.length
    have l2 := rv.length
    rw [assign_Tuple]
    refine wpAny_bind (wpAny_standAt ?_)
    unfold unpack
    rw [hn, hst]
    refine wpAny_bind (wpAny_holding (star_tup ht (I.ok.hd hc) hi (by rw [List.size_toArray]; omega) (by rw [List.size_toArray]; omega) fun h' tk hk => ?_))
    have I' : Inv X pins σ H { s with heap := h', toks := tk } := I.kept hk
    have hf : H h'.objs.size = none := I'.hok.fresh (Nat.le_refl _)
    have en : its.toArray.size = xs.length := by rw [List.size_toArray]; omega
    have zz : ((vs.drop i).take (xs.length + 1 - n)).length ≤ sizeLine := by
      have hs := sizeLine_eq
      rw [List.length_take, List.length_drop]
      omega
    have rm : Vals ((vs.drop i).take (xs.length + 1 - n)) ((its.drop i).take (xs.length + 1 - n)) := (rv.drop i).take _
    rw [en, show its.toArray.toList = its from List.toList_toArray ..]
    have I2 : Inv X pins σ (upd H h'.objs.size (.lst ((vs.drop i).take (xs.length + 1 - n)))) { s with heap := h'.push { cls := .type "list", data := .seq ((its.drop i).take (xs.length + 1 - n)).toArray }, toks := tk } := I'.lnew (t' := tk) rm zz
    have e := Ext.fresh (m := m) (G := G) (o := .lst ((vs.drop i).take (xs.length + 1 - n))) hf
    have R := Reps.go (M.go e) ra
    have rl : RU X.K m G (upd H h'.objs.size (.lst ((vs.drop i).take (xs.length + 1 - n)))) (.ref h'.objs.size) (.d (.list ((xs.drop i).take (xs.length + 1 - n)))) := Rep.lst upd_same (Lv.notFree M hf) ((R.drop i).take _)
    have one : Vals [V.ref h'.objs.size] [Value.ref h'.objs.size] := .cons (show RelV (V.ref h'.objs.size) (Value.ref h'.objs.size) from rfl) .nil
    refine h.run pins _ σ _ ((vs.take i ++ [.ref h'.objs.size]) ++ (vs.drop i).drop (xs.length + 1 - n)) _ Q I2 (((rv.take i).append one).append ((rv.drop i).drop _)) ⟨m, G, ss, _, P, M.fresh hf, S.ext M e, ?_, h3, fun ss' G' σ' m' H' p e' => q ss' G' σ' m' H' p (e.trans e')⟩
    rw [List.map_append, List.map_append]
    exact ((RUs.ofReps (R.take i)).app (.cons rl .nil)).app (RUs.ofReps ((R.drop i).drop _))
  · exact hg.elim

/-! ### attributes, items stored -/
theorem putU_keys (f : Str) {V1 V2 : Type} : ∀ {es : List (Str × V)} {fs : List (Str × U)} {v : V} {u : U}, es.map (·.1) = fs.map (·.1) → (putF f v es).map (·.1) = (putU f u fs).map (·.1)
  | [], [], _, _, _ => rfl
  | [], _ :: _, _, _, h => by cases h
  | _ :: _, [], _, _, h => by cases h
  | (a, x) :: es, (b, y) :: fs, v, u, h => by
    rw [List.map_cons, List.map_cons, List.cons.injEq] at h
    have h1 : a = b := h.1
    subst h1
    unfold putF putU
    by_cases ha : a = f
    · rw [if_pos ha, if_pos ha]
      simp [h.2]
    · rw [if_neg ha, if_neg ha]
      have := putU_keys (V1 := V1) (V2 := V2) f (v := v) (u := u) h.2
      simp [this]
theorem putU_rus {K : PySem.W.Frag} {m : MM} {G : GH} {H : Hp} (f : Str) {v : V} {u : U} (r : RU K m G H v u) : ∀ {es : List (Str × V)} {fs : List (Str × U)}, es.map (·.1) = fs.map (·.1) → RUs K m G H (es.map (·.2)) (fs.map (·.2)) → RUs K m G H ((putF f v es).map (·.2)) ((putU f u fs).map (·.2))
  | [], [], _, _ => .cons r .nil
  | [], _ :: _, h, _ => by cases h
  | _ :: _, [], h, _ => by cases h
  | (a, x) :: es, (b, y) :: fs, h, rs => by
    rw [List.map_cons, List.map_cons, List.cons.injEq] at h
    have h1 : a = b := h.1
    subst h1
    rw [List.map_cons, List.map_cons] at rs
    cases rs with
    | cons r1 r2 =>
      unfold putF putU
      by_cases ha : a = f
      · rw [if_pos ha, if_pos ha]
        exact .cons r r2
      · rw [if_neg ha, if_neg ha]
        exact .cons r1 (putU_rus f r h.2 r2)
/-- o.f = u by values -/
theorem setF_run {T : Tab} {f : Str} {pins : List (Addr × Obj)} {s : Shared} {σ : St} {H : Hp} {m : MM} {G : GH} {x u : U} {ov uv : Value} {xv vv : V} {A : Around} {E : Value → Shared → Prop} {P : GH → Prop} {Q : Unit → Shared → Prop} (t : TabOk X.K T) (I : Inv X pins σ H s) (M : Mem X.K m G H) (rx : RU X.K m G H xv x) (ru : RU X.K m G H vv u) (r1 : RelV xv ov) (r2 : RelV vv uv) (h : setF T f x u G P)
    (q : ∀ (s' : Shared) (G' : GH) (H' : Hp), P G' → Ext m G H m G' H' → Mem X.K m G' H' → Inv X pins σ H' s' → Q () s') : wpAny (model X.prog X.w) A (setAttr ov f uv) Q E s := by
  unfold setF at h
  split at h
  · rename_i n
    split at h
    · rename_i c fs hG
      obtain ⟨hb, hl, hp⟩ := h
      obtain ⟨p, h1, rfl⟩ := rx
      cases r1
      obtain ⟨es, h2, h3, h4⟩ := M.ok n p _ h1 hG
      obtain ⟨c1, c2⟩ := Bears.ok t hb
      have ll := congrArg List.length h3
      rw [List.length_map, List.length_map] at ll
      have e : Ext m G H m (G.set n (.ins c (putU f u fs))) (upd H p.1 (.ins (He.ga X.K c) p.2 (putF f vv es))) := Ext.write h1 hG rfl fun a ha => upd_ne ha
      refine setattr_ok I h2 c1 c2 (by rw [ll]; exact hl) r2 fun s' I' => q s' _ _ hp e (M.write h1 hG rfl (fun a ha => upd_ne ha) ⟨_, upd_same, putU_keys (V1 := Nat) (V2 := Nat) f h3, RUs.ext M e (putU_rus f ru h3 h4)⟩) I'
    · exact h.elim
  · exact h.elim
theorem t_fld {T : Tab} {f : Str} (t : TabOk X.K T) (ho : PE X o (tE X.K W φo)) : PG X (.Attribute o f pos) (tG X.K (gdFld T φo f)) := by
  refine ⟨fun pins s σ H v u Q I r ⟨m, G, ss, ud, P, M, S, ru, hg, q⟩ => ?_⟩
  show wpAny _ _ (holding [u] (eval o X.env) >>= fun ov => standAt pos.atName >>= fun _ => holding [u, ov] (setAttr ov f u) >>= fun _ => release [u, ov] []) _ _ s
  refine wpAny_bind (wpAny_holding (thn (ho.run pins s σ H (fun xv H1 => ∃ m1 G1 x, Mem X.K m1 G1 H1 ∧ RU X.K m1 G1 H1 xv x ∧ RU X.K m1 G1 H1 v ud ∧ setF T f x ud G1 (P ss) ∧ Ext m G H m1 G1 H1) I ⟨m, G, ss, _, noX, M, S, hg, fun _ _ _ _ _ _ z => z.elim, fun x G1 xv m1 H1 p1 e1 M1 r1 => ⟨m1, G1, x, M1, r1, ru.ext M e1, p1, e1⟩⟩) fun ov s1 ⟨xv, H1, I1, rx, m1, G1, x, M1, r1, r2, hs, e1⟩ => ?_))
  refine wpAny_bind (wpAny_standAt (wpAny_bind (wpAny_holding (setF_run t I1 M1 r1 r2 rx r hs fun s2 G2 H2 p2 e2 M2 I2 => ?_))))
  exact wpAny_release ⟨σ, H2, I2, q ss G2 σ m1 H2 p2 (e1.trans e2) M2 (S.ext M (e1.trans e2))⟩
end
end R
/-! ## part RM -/
/-! The layer R: assignments. -/
namespace R
open PySem PySem.Spec
open PyProof.Rows hiding St
open L2
theorem rus_append_inv {K : PySem.W.Frag} {m : MM} {G : GH} {H : Hp} : ∀ {vs : List V} {us ws : List U}, RUs K m G H vs (us ++ ws) → ∃ as bs, vs = as ++ bs ∧ RUs K m G H as us ∧ RUs K m G H bs ws
  | vs, [], ws, h => ⟨[], vs, rfl, .nil, h⟩
  | _, u :: us, ws, .cons a r => by
    obtain ⟨as, bs, rfl, h1, h2⟩ := rus_append_inv r
    exact ⟨_ :: as, bs, rfl, .cons a h1, h2⟩
theorem put_any {κ : Type} [DecidableEq κ] {f : κ → PyData} (hf : ∀ a b, keyEq (f a) (f b) = decide (a = b)) (k : κ) : ∀ {es : List (κ × V)} {ds : List (PyData × U)}, es.map (fun e => f e.1) = ds.map (·.1) → (es.any fun e => decide (e.1 = k)) = ds.any fun p => keyEq p.1 (f k)
  | [], [], _ => rfl
  | [], _ :: _, h => by cases h
  | _ :: _, [], h => by cases h
  | e :: es, d :: ds, h => by
    rw [List.map_cons, List.map_cons, List.cons.injEq] at h
    rw [List.any_cons, List.any_cons, put_any hf k h.2, ← h.1, hf]
theorem put_map {κ : Type} [DecidableEq κ] {f : κ → PyData} (hf : ∀ a b, keyEq (f a) (f b) = decide (a = b)) {K : PySem.W.Frag} {m : MM} {G : GH} {H : Hp} {v : V} {u : U} (r : RU K m G H v u) (k : κ) {es : List (κ × V)} {ds : List (PyData × U)}
    (h : es.map (fun e => f e.1) = ds.map (·.1)) (rs : RUs K m G H (es.map (·.2)) (ds.map (·.2))) : (putK es k v).map (fun e => f e.1) = (putD ds (f k) u).map (·.1) ∧ RUs K m G H ((putK es k v).map (·.2)) ((putD ds (f k) u).map (·.2)) := by
  unfold putK putD
  rw [put_any hf k h]
  have go : ∀ {es : List (κ × V)} {ds : List (PyData × U)}, es.map (fun e => f e.1) = ds.map (·.1) → RUs K m G H (es.map (·.2)) (ds.map (·.2)) →
      (es.map fun kv => if kv.1 = k then (kv.1, v) else kv).map (fun e => f e.1) = (ds.map fun p => if keyEq p.1 (f k) = true then (p.1, u) else p).map (·.1) ∧
      RUs K m G H ((es.map fun kv => if kv.1 = k then (kv.1, v) else kv).map (·.2)) ((ds.map fun p => if keyEq p.1 (f k) = true then (p.1, u) else p).map (·.2)) := by
    intro es
    induction es with
    | nil =>
      intro ds h rs
      cases ds with
      | nil => exact ⟨rfl, .nil⟩
      | cons _ _ => cases h
    | cons e es ih =>
      intro ds h rs
      cases ds with
      | nil => cases h
      | cons d ds =>
        rw [List.map_cons, List.map_cons, List.cons.injEq] at h
        rw [List.map_cons, List.map_cons] at rs
        cases rs with
        | cons r1 r2 =>
          obtain ⟨i1, i2⟩ := ih h.2 r2
          simp only [List.map_cons]
          rw [← h.1, hf]
          by_cases hk : e.1 = k
          · rw [if_pos hk, if_pos (decide_eq_true hk)]
            refine ⟨?_, .cons r i2⟩
            rw [i1]
          · rw [if_neg hk, if_neg (by rw [decide_eq_false hk]; exact Bool.false_ne_true)]
            refine ⟨?_, .cons r1 i2⟩
            rw [i1, h.1]
  split
  · exact go h rs
  · rw [List.map_append, List.map_append, List.map_append, List.map_append, h]
    exact ⟨rfl, rs.app (.cons r .nil)⟩
section
variable {X : Cx} {W : WX} {e a b c o i : Expr} {st : Stmt} {es : List Expr} {pos pos' tpos : Pos} {φ φo φi : WE} {τ : WT} {α : WA} {ψ ψ' : WS} {γ γ' : WG} {γs : WGs}
/-- o[i] = u by values -/
theorem setI_run {pins : List (Addr × Obj)} {s : Shared} {σ : St} {H : Hp} {m : MM} {G : GH} {x y u : U} {ov iv uv : Value} {xv yv vv : V} {P : GH → Prop} {Q : Unit → Shared → Prop} (hu : X.A.units + 64 < cLine) (I : Inv X pins σ H s) (M : Mem X.K m G H) (rx : RU X.K m G H xv x) (ry : RU X.K m G H yv y) (ru : RU X.K m G H vv u) (r1 : RelV xv ov) (r2 : RelV yv iv) (r3 : RelV vv uv) (h : setI x y u G P)
    (q : ∀ (s' : Shared) (G' : GH) (H' : Hp), P G' → Ext m G H m G' H' → Mem X.K m G' H' → Inv X pins σ H' s' → Q () s') : wpAny (model X.prog X.w) X.A (setItem ov iv uv) Q X.xe s := by
  unfold setI at h
  split at h
  · rename_i n k
    obtain ⟨p, hp, rfl⟩ := rx
    cases r1
    split at h
    · rename_i us hG
      split at h
      · rename_i j
        split at h
        · rename_i w hw
          cases ry
          obtain ⟨vs, h1, r⟩ := M.ok n p _ hp hG
          obtain ⟨e, M'⟩ := setLst M hp hG (r.set ru w)
          exact thn (set_list pins s σ H (.ref p.1) (.int j) vv (.ref p.1) iv uv (fun H' => H' = upd H p.1 (.lst (vs.set w vv))) I rfl r2 r3 ⟨p.1, vs, j, w, rfl, rfl, h1, by rw [r.length]; exact hw, rfl⟩) fun _ s' ⟨H', I', e'⟩ => by
            subst e'
            exact q s' _ _ h e M' I'
        · exact h.elim
      · exact h.elim
    · rename_i ds hG
      obtain ⟨⟨k1, k2⟩, hz, hp'⟩ := h
      obtain ⟨vs, r, d⟩ := M.ok n p _ hp hG
      -- of the kind that the key wants
      have key : KeyV H yv k := keyV_of ry k1
      have done : ∀ (o : HO) (H0 : Hp), (∀ b, b ≠ p.1 → H0 b = H b) → Inv X pins σ H0 s → DPut H0 p.1 yv vv (upd H0 p.1 o) → MOk X.K m (G.set n (.dct (putD ds k u))) (upd H p.1 o) p (.dct (putD ds k u)) → wpAny (model X.prog X.w) X.A (setItem (.ref p.1) iv uv) Q X.xe s := fun o H0 hH I0 g mo => by
        have eqH : upd H0 p.1 o = upd H p.1 o := by
          funext b
          by_cases hb : b = p.1
          · subst hb; rw [upd_same, upd_same]
          · rw [upd_ne hb, upd_ne hb, hH b hb]
        have e : Ext m G H m (G.set n (.dct (putD ds k u))) (upd H p.1 o) := Ext.write hp hG rfl fun a ha => upd_ne ha
        refine d_setItem (by omega) I0 g r2 r3 fun s' I' => ?_
        rw [eqH] at I'
        exact q s' _ _ hp' e (M.write hp hG rfl (fun a ha => upd_ne ha) mo) I'
      have ext : ∀ o, Ext m G H m (G.set n (.dct (putD ds k u))) (upd H p.1 o) := fun o => Ext.write hp hG rfl fun a ha => upd_ne ha
      rcases d with ⟨es, h1, h2, h3⟩ | ⟨es, h1, h2, h3⟩
      · have len : es.length = ds.length := by have := congrArg List.length h2; simpa using this
        cases key with
        | k k0 =>
          obtain ⟨i1, i2⟩ := put_map kD_eq ru k0 h2 (by rw [h3]; exact r)
          exact done (.dK (putK es k0 vv)) H (fun _ _ => rfl) I (DPut.k h1 (by rw [len]; exact hz)) ⟨_, RUs.ext M (ext _) i2, .inl ⟨_, upd_same, i1, rfl⟩⟩
        | @t b k0 hb =>
          cases ds with
          | nil =>
            cases es with
            | cons _ _ => cases h2
            | nil =>
              have hne : b ≠ p.1 := ne_of hb h1 (by intro z; cases z)
              have gg : DPut (upd H p.1 (.dT [])) p.1 (.ref b) vv (upd (upd H p.1 (.dT [])) p.1 (.dT (putK [] k0 vv))) := DPut.t upd_same (by rw [upd_ne hne]; exact hb) (by show 0 < sizeLine; decide)
              exact done (.dT (putK [] k0 vv)) (upd H p.1 (.dT [])) (fun b hb => upd_ne hb) (retagT I h1) gg ⟨[vv], .cons (ru.ext M (ext _)) .nil, .inr ⟨_, upd_same, rfl, rfl⟩⟩
          | cons d ds =>
            cases es with
            | nil => cases h2
            | cons e es =>
              rw [List.map_cons, List.map_cons, List.cons.injEq] at h2
              have kk' : isTupD d.1 = true := k2
              rw [← h2.1] at kk'
              obtain ⟨pk, pv⟩ := e
              cases pk <;> cases kk'
      · have len : es.length = ds.length := by have := congrArg List.length h2; simpa using this
        cases key with
        | @t b k0 hb =>
          obtain ⟨i1, i2⟩ := put_map tD_eq ru k0 h2 (by rw [h3]; exact r)
          exact done (.dT (putK es k0 vv)) H (fun _ _ => rfl) I (DPut.t h1 hb (by rw [len]; exact hz)) ⟨_, RUs.ext M (ext _) i2, .inr ⟨_, upd_same, i1, rfl⟩⟩
        | k k0 =>
          cases ds with
          | nil =>
            cases es with
            | cons _ _ => cases h2
            | nil =>
              have gg : DPut (upd H p.1 (.dK [])) p.1 (kV k0) vv (upd (upd H p.1 (.dK [])) p.1 (.dK (putK [] k0 vv))) := DPut.k upd_same (by show 0 < sizeLine; decide)
              exact done (.dK (putK [] k0 vv)) (upd H p.1 (.dK [])) (fun b hb => upd_ne hb) (retagK I h1) gg ⟨[vv], .cons (ru.ext M (ext _)) .nil, .inl ⟨_, upd_same, rfl, rfl⟩⟩
          | cons d ds =>
            cases es with
            | nil => cases h2
            | cons e es =>
              rw [List.map_cons, List.map_cons, List.cons.injEq] at h2
              have kk' : isTupD d.1 = isTupD (kD k0) := k2
              rw [← h2.1] at kk'
              cases k0 <;> cases kk'
    · exact h.elim
  · exact h.elim
theorem t_sub (hu : X.A.units + 64 < cLine) (ho : PE X o (tE X.K W φo)) (hi : PE X i (tE X.K W φi)) (ha : ∀ v, assign (.Subscript o i pos) X.env v = (do
      let ov ← holding [v] (eval o X.env)
      let iv ← holding [v, ov] (eval i X.env)
      standAt pos
      holding [v, ov, iv] (setItem ov iv v)
      release [v, ov, iv] []) := by intro _; rfl) : PG X (.Subscript o i pos) (tG X.K (gdSub φo φi)) := by
  refine ⟨fun pins s σ H v u Q I r ⟨m, G, ss, ud, P, M, S, ru, hg, q⟩ => ?_⟩
  rw [ha]
  refine wpAny_bind (wpAny_holding (thn (ho.run pins s σ H (fun xv H1 => ∃ m1 G1 x, Mem X.K m1 G1 H1 ∧ RU X.K m1 G1 H1 xv x ∧ RU X.K m1 G1 H1 v ud ∧ φi ss G1 (fun y G2 => setI x y ud G2 (P ss)) noX ∧ Ext m G H m1 G1 H1) I ⟨m, G, ss, _, noX, M, S, hg, fun _ _ _ _ _ _ z => z.elim, fun x G1 xv m1 H1 p1 e1 M1 r1 => ⟨m1, G1, x, M1, r1, ru.ext M e1, p1, e1⟩⟩) fun ov s1 ⟨xv, H1, I1, rx, m1, G1, x, M1, r1, r2, hs, e1⟩ => ?_))
  refine wpAny_bind (wpAny_holding (thn (hi.run pins s1 σ H1 (fun yv H2 => ∃ m2 G2 y, Mem X.K m2 G2 H2 ∧ RU X.K m2 G2 H2 xv x ∧ RU X.K m2 G2 H2 yv y ∧ RU X.K m2 G2 H2 v ud ∧ setI x y ud G2 (P ss) ∧ Ext m G H m2 G2 H2) I1 ⟨m1, G1, ss, _, noX, M1, S.ext M e1, hs, fun _ _ _ _ _ _ z => z.elim, fun y G2 yv m2 H2 p2 e2 M2 ry => ⟨m2, G2, y, M2, r1.ext M1 e2, ry, r2.ext M1 e2, p2, e1.trans e2⟩⟩) fun iv s2 ⟨yv, H2, I2, ry, m2, G2, y, M2, t1, t2, t3, hs2, e2⟩ => ?_))
  refine wpAny_bind (wpAny_standAt (wpAny_bind (wpAny_holding (setI_run hu I2 M2 t1 t2 t3 rx ry r hs2 fun s3 G3 H3 p3 e3 M3 I3 => ?_))))
  exact wpAny_release ⟨σ, H3, I3, q ss G3 σ m2 H3 p3 (e2.trans e3) M3 (S.ext M (e2.trans e3))⟩

/-! ### assignments -/
theorem s_asg (he : PE X e (tE X.K W φ)) (hg : PG X a (tG X.K γ)) (hs : swapsWithSole [a] e pos.line X.env = pure false := by rfl) (hw : swappedStores [a] e X.env = pure none := by rfl) (h1 : (assignEach [a] X.env).map (·.2) = [assign a X.env] := by rfl) : PS X (.Assign [a] e pos) (tS X.K W (sAsg φ γ)) :=
  (ps_asg he hg hs hw h1).imp fun D σ H ⟨m, G, ss, C, M, S, h, o⟩ => ⟨m, G, ss, _, _, M, S, h, o.okX M S, fun u G1 v m1 H1 p1 e1 M1 r1 => ⟨m1, G1, ss, u, _, M1, S.ext M e1, r1, p1, fun ss2 G2 σ2 m2 H2 p2 e2 M2 S2 => o.nx ss2 G2 σ2 m2 H2 p2 (e1.trans e2) M2 S2⟩⟩
theorem s_asg2 (he : PE X e (tE X.K W φ)) (hg : PG X a (tG X.K γ)) (hg' : PG X b (tG X.K γ')) (ha : (assignEach [a, b] X.env).map (·.2) = [assign a X.env, assign b X.env] := by rfl) (hw : swappedStores [a, b] e X.env = pure none := by rfl) : PS X (.Assign [a, b] e pos) (tS X.K W (sAsg2 φ γ γ')) :=
  (ps_asg2 he hg hg' ha hw).imp fun D σ H ⟨m, G, ss, C, M, S, h, o⟩ => ⟨m, G, ss, _, _, M, S, h, o.okX M S, fun u G1 v m1 H1 p1 e1 M1 r1 => ⟨m1, G1, ss, u, _, M1, S.ext M e1, r1, p1, fun ss2 G2 σ2 m2 H2 p2 e2 M2 S2 => ⟨m2, G2, ss2, u, _, M2, S2, r1.ext M1 e2, p2, fun ss3 G3 σ3 m3 H3 p3 e3 M3 S3 => o.nx ss3 G3 σ3 m3 H3 p3 ((e1.trans e2).trans e3) M3 S3⟩⟩⟩
/-- a, b, .. = x, y, ..: the tuple is made and parted -/
theorem s_unp {es ts : List Expr} {k1 k2 n : Nat} {p1 p2 : Pos} (hc : X.calm = true) (ha : PA X es (tA X.K W α)) (hg : PGs X ts (tGs X.K γs)) (hz : n ≤ 1000 := by decide) (hn : (assignEach ts X.env).length = n := by rfl) (hst : (assignEach ts X.env).findIdx? (·.1) = none := by rfl)
    (hs : swapsWithSole [.Tuple ts k1 p1] (.Tuple es k2 p2) pos.line X.env = pure false := by rfl) (hw : swappedStores [.Tuple ts k1 p1] (.Tuple es k2 p2) X.env = pure none := by rfl) (h1 : (assignEach [.Tuple ts k1 p1] X.env).map (·.2) = [assign (.Tuple ts k1 p1) X.env] := by rfl) :
    PS X (.Assign [.Tuple ts k1 p1] (.Tuple es k2 p2) pos) (tS X.K W (sUnp n α γs)) :=
  (ps_asg (pe_tup ha) (pg_tup hc hg hn hst) hs hw h1).imp fun D σ H ⟨m, G, ss, C, M, S, h, o⟩ => by
    refine ⟨m, G, ss, _, _, M, S, h, o.okX M S, fun us G1 vs m1 H1 p1 e1 M1 r1 => ?_⟩
    obtain ⟨p1, p2⟩ := p1
    refine ⟨by rw [r1.length, p1]; exact Nat.le_trans hz (by decide), fun t ht => ?_⟩
    have e2 : Ext m1 G1 H1 m1 G1 (upd H1 t (.tup vs)) := Ext.fresh ht
    exact ⟨t, vs, rfl, .of upd_same, by rw [r1.length]; exact p1, m1, G1, ss, us, _, M1.fresh ht, S.ext M (e1.trans e2), RUs.ext M1 e2 r1, p2, fun ss3 G3 σ3 m3 H3 p3 e3 M3 S3 => o.nx ss3 G3 σ3 m3 H3 p3 ((e1.trans e2).trans e3) M3 S3⟩
theorem s_par {j l : Nat} {x y : Str} {px py pt pt2 : Pos} {kt k2 : Nat} (hc : X.calm = true) (hN : X.N.Nodup) (ha : PA X [a, b] (tA X.K W α)) (hi : X.N[j]? = some x := by rfl) (hj : X.N[l]? = some y := by rfl) (hij : j ≠ l := by decide) (hx : X.env.scope.names.lookup x = some .local := by rfl) (hy : X.env.scope.names.lookup y = some .local := by rfl)
    (hw : swappedStores [.Tuple [.Name x px, .Name y py] kt pt] (.Tuple [a, b] k2 pt2) X.env = pure (some [x, y]) := by rfl) (hs : swapsWithSole [.Tuple [.Name x px, .Name y py] kt pt] (.Tuple [a, b] k2 pt2) pos.line X.env = pure false := by rfl) :
    PS X (.Assign [.Tuple [.Name x px, .Name y py] kt pt] (.Tuple [a, b] k2 pt2) pos) (tS X.K W (sPar j l α)) := (ps_par hc hN hi hj hij hx hy ha hw hs).imp fun D σ H ⟨m, G, ss, C, M, S, h, o⟩ =>
  ⟨m, G, ss, _, _, M, S, h, o.okX M S, fun us G1 vs m1 H1 p1 e1 M1 r1 => by
    split at p1
    · cases r1 with
      | cons a b =>
        cases b with
        | cons b c =>
          cases c
          exact ⟨_, _, rfl, o.nx _ G1 _ m1 H1 p1 e1 M1 (((S.ext M e1).set a _).set b _)⟩
    · exact p1.elim⟩
theorem s_par3 {j l q : Nat} {x y z : Str} {px py pz pt pt2 : Pos} {kt k2 : Nat} (hc : X.calm = true) (hN : X.N.Nodup) (ha : PA X [a, b, c] (tA X.K W α)) (hi : X.N[j]? = some x := by rfl) (hj : X.N[l]? = some y := by rfl) (hl : X.N[q]? = some z := by rfl) (hij : j ≠ l := by decide) (hil : j ≠ q := by decide) (hjl : l ≠ q := by decide)
    (hx : X.env.scope.names.lookup x = some .local := by rfl) (hy : X.env.scope.names.lookup y = some .local := by rfl) (hz : X.env.scope.names.lookup z = some .local := by rfl)
    (hw : swappedStores [.Tuple [.Name x px, .Name y py, .Name z pz] kt pt] (.Tuple [a, b, c] k2 pt2) X.env = pure (some [x, y, z]) := by rfl) (hs : swapsWithSole [.Tuple [.Name x px, .Name y py, .Name z pz] kt pt] (.Tuple [a, b, c] k2 pt2) pos.line X.env = pure false := by rfl) :
    PS X (.Assign [.Tuple [.Name x px, .Name y py, .Name z pz] kt pt] (.Tuple [a, b, c] k2 pt2) pos) (tS X.K W (sPar3 j l q α)) := (ps_par3 hc hN hi hj hl hij hil hjl hx hy hz ha hw hs).imp fun D σ H ⟨m, G, ss, C, M, S, h, o⟩ =>
  ⟨m, G, ss, _, _, M, S, h, o.okX M S, fun us G1 vs m1 H1 p1 e1 M1 r1 => by
    split at p1
    · cases r1 with
      | cons a b =>
        cases b with
        | cons b c =>
          cases c with
          | cons c d =>
            cases d
            exact ⟨_, _, _, rfl, o.nx _ G1 _ m1 H1 p1 e1 M1 ((((S.ext M e1).set a _).set b _).set c _)⟩
    · exact p1.elim⟩
theorem s_aug {g : G2} {op : Operator} (i : Nat) {x : Str} (hN : X.N.Nodup) (he : PE X e (tE X.K W φ)) (ho : OpR X (inplaceOp op) (rG2 X.K g)) (hi : X.N[i]? = some x := by rfl) (hx : Loc X.env.scope x := by first | exact Or.inl rfl | exact Or.inr rfl) (hf : X.fn x = true ∨ X.env.scope.names.lookup x = some .local := by first | exact .inl rfl | exact .inr rfl) :
    PS X (.AugAssign (.Name x pos') op e pos) (tS X.K W (sAug i φ g)) := (ps_aug (ti := rG2 X.K g) hN hi hx he (fun pins s σ H x y v u Q I rx ry h => ho pins s σ H x y v u Q I rx ry h) hf).imp fun D σ H ⟨m, G, ss, C, M, S, h, o⟩ => by
  unfold sAug at h
  split at h
  · rename_i u hu
    obtain ⟨v, hv, ru⟩ := S.2 i u hu
    exact ⟨v, hv, m, G, ss, _, _, M, S, h, o.okX M S, fun w G1 y m1 H1 p1 e1 M1 r1 => ⟨m1, G1, u, w, _, M1, ru.ext M e1, r1, p1, fun z G2 z' m2 H2 p2 e2 M2 r2 => o.nx _ G2 _ m2 H2 p2 (e1.trans e2) M2 ((S.ext M (e1.trans e2)).set r2 i)⟩⟩
  · exact h.elim
theorem s_fldaug {T : Tab} {g : G2} {op : Operator} {f : Str} (t : TabOk X.K T) (ho : PE X o (tE X.K W φo)) (he : PE X e (tE X.K W φ)) (hp : OpR X (inplaceOp op) (rG2 X.K g)) : PS X (.AugAssign (.Attribute o f tpos) op e pos) (tS X.K W (sFldAug T φo φ g f)) :=
  (ps_fldaug (rd := rG2 X.K g) ho he (fun pins s σ H x y v u Q I rx ry h => hp pins s σ H x y v u Q I rx ry h)).imp fun D σ H ⟨m, G, ss, C, M, S, h, o⟩ => by
    refine ⟨m, G, ss, _, _, M, S, h, o.okX M S, fun x G1 v m1 H1 p1 e1 M1 r1 => ?_⟩
    split at p1
    · rename_i n
      obtain ⟨p, hp, rfl⟩ := r1
      split at p1
      · rename_i c fs hG
        obtain ⟨hb, p1⟩ := p1
        split at p1
        · rename_i u hu
          obtain ⟨es, h2, h3, h4⟩ := M1.ok n p _ hp hG
          obtain ⟨y, l1, l2⟩ := lookup_rus h3 h4 hu
          obtain ⟨c1, c2⟩ := Bears.ok t hb
          refine ⟨p.1, _, p.2, es, y, rfl, h2, c1, c2, l1, m1, G1, ss, _, _, M1, S.ext M e1, p1, (o.okX M S).ext e1, fun w G2 z m2 H2 p2 e2 M2 r2 => ⟨m2, G2, u, w, _, M2, l2.ext M1 e2, r2, p2, fun z3 G3 v3 m3 H3 p3 e3 M3 r3 => ?_⟩⟩
          obtain ⟨fs', hG', hl, p4⟩ := p3
          obtain ⟨l, hpre⟩ := ((e2.trans e3).pre)
          have hp3 : m3[n]? = some p := by
            rw [hpre, List.getElem?_append_left (List.getElem?_eq_some_iff.mp hp).1]
            exact hp
          obtain ⟨es', k2, k3, k4⟩ := M3.ok n p _ hp3 hG'
          have ll := congrArg List.length k3
          rw [List.length_map, List.length_map] at ll
          have ew : Ext m3 G3 H3 m3 (G3.set n (.ins c (putU f z3 fs'))) (upd H3 p.1 (.ins (He.ga X.K c) p.2 (putF f v3 es'))) := Ext.write hp3 hG' rfl fun a ha => upd_ne ha
          have ee := ((e1.trans e2).trans e3).trans ew
          exact ⟨p.2, es', k2, by rw [ll]; exact hl, o.nx ss _ σ m3 _ p4 ee (M3.write hp3 hG' rfl (fun a ha => upd_ne ha) ⟨_, upd_same, putU_keys (V1 := Nat) (V2 := Nat) f k3, RUs.ext M3 ew (putU_rus f r3 k3 k4)⟩) (S.ext M ee)⟩
        · exact p1.elim
      · exact p1.elim
    · exact p1.elim
end
end R
/-! ## part RN -/
/-! The layer R: what changes no more; what is walked over; loops. -/
namespace R
open PySem PySem.Spec
open PyProof.Rows hiding St
open L2

/-! ### what changes no more is data (nothing of the text) -/
/-- a value that may change, from here on data: what is wanted then -/
def frzU (u : U) (G : GH) (P : PU) : Prop := match u with
  | .r n => (match G[n]? with
    | some (.lst us) => (match dataOf us with
      | some xs => P (.d (.list xs)) (G.set n .dead)
      | none => False)
    | some (.dct ds) => (match dataOf (ds.map (·.2)) with
      | some xs => P (.d (.dict ((ds.map (·.1)).zip xs))) (G.set n .dead)
      | none => False)
    | _ => False)
  | u => P u G
theorem frz_run {X : Cx} {pins : List (Addr × Obj)} {s : Shared} {σ : St} {H : Hp} {m : MM} {G : GH} {v : V} {u : U} {P : PU} (I : Inv X pins σ H s) (M : Mem X.K m G H) (r : RU X.K m G H v u) (h : frzU u G P) :
    ∃ (H' : Hp) (u' : U) (G' : GH), Inv X pins σ H' s ∧ Mem X.K m G' H' ∧ Ext m G H m G' H' ∧ RU X.K m G' H' v u' ∧ P u' G' := by
  unfold frzU at h
  split at h
  · rename_i n
    obtain ⟨p, hp, rfl⟩ := r
    split at h
    · rename_i us hG
      split at h
      · rename_i xs hx
        have eq := dataOf_eq hx
        subst eq
        obtain ⟨M', e, r'⟩ := M.freeze hp hG
        exact ⟨H, _, _, I, M', e, r', h⟩
      · exact h.elim
    · rename_i ds hG
      split at h
      · rename_i xs hx
        have hv := dataOf_eq hx
        obtain ⟨vs, r, d⟩ := M.ok n p _ hp hG
        have go : ∀ {H0 : Hp} {w : HO}, Inv X pins σ H0 s → H0 p.1 = some w → Mut (some w) → (∀ b, b ≠ p.1 → H0 b = H b) → Mem X.K m G H0 → (ds = [] → w = .dT []) →
            ∃ (H' : Hp) (u' : U) (G' : GH), Inv X pins σ H' s ∧ Mem X.K m G' H' ∧ Ext m G H m G' H' ∧ RU X.K m G' H' (.ref p.1) u' ∧ P u' G' := fun {H0 w} I0 hw mu hb M0 hk => by
          obtain ⟨od, I1⟩ := I0.lock hw mu
          obtain ⟨M', _, r'⟩ := M0.freezeD (od := od) hp hG hv hw hk
          exact ⟨_, _, _, I1, M', Ext.write hp hG rfl fun a ha => by rw [upd_ne ha, hb a ha], r', h⟩
        rcases d with ⟨es, a, b, c⟩ | ⟨es, a, b, c⟩
        · cases es with
          | nil =>
            cases ds with
            | cons _ _ => cases b
            | nil =>
              have hb' : ∀ b, b ≠ p.1 → (upd H p.1 (.dT [])) b = H b := fun b hb => upd_ne hb
              have M0 : Mem X.K m G (upd H p.1 (.dT [])) := by
                have z := M.write hp hG rfl hb' (o' := .dct []) ⟨[], .nil, .inr ⟨[], upd_same, rfl, rfl⟩⟩
                have e' : G.set n (.dct []) = G := by
                  refine List.ext_getElem? fun j => ?_
                  by_cases hj : n = j
                  · subst hj
                    rw [hG, List.getElem?_set_self (List.getElem?_eq_some_iff.mp hG).1]
                  · rw [List.getElem?_set_ne hj]
                rwa [e'] at z
              exact go (retagT I a) upd_same trivial hb' M0 fun _ => rfl
          | cons e0 es =>
            exact go I a trivial (fun _ _ => rfl) M fun z => by
              rw [z] at b; cases b
        · exact go I a trivial (fun _ _ => rfl) M fun z => by
            rw [z] at b
            cases es with
            | nil => rfl
            | cons _ _ => cases b
      · exact h.elim
    · exact h.elim
  · exact ⟨H, u, G, I, M, Ext.refl, r, h⟩
def eFrz (e : WE) : WE := fun ss G P p => e ss G (fun u G1 => frzU u G1 P) p
/-- the slot's value changes no more -/
def sFrz (i : Nat) (φ : WS) : WS := fun ss G C => match ss[i]? with
  | some (some u) => frzU u G fun u1 G1 => φ (ss.set i (some u1)) G1 C
  | _ => False
/-- what came up behind the first n objects may be forgotten, slots, too -/
def Cut (n : Nat) (ss : SS) (G : GH) (ss' : SS) (G' : GH) : Prop := (ss' = ss ∧ G' = G) ∨ ((∃ T, G = G' ++ T) ∧ Closed G' ∧ n ≤ G'.length ∧ ss'.length = ss.length ∧ ∀ (i : Nat) (u : U), ss'[i]? = some (some u) → ss[i]? = some (some u) ∧ u.below G'.length = true)
theorem Cut.ok {K : PySem.W.Frag} {m0 m : MM} {G0 G G' : GH} {H0 H : Hp} {σ : St} {ss ss' : SS} (c : Cut G0.length ss G ss' G') (M0 : Mem K m0 G0 H0) (e : Ext m0 G0 H0 m G H) (M : Mem K m G H) (S : StOk K m G H σ ss) :
    ∃ m', Ext m0 G0 H0 m' G' H ∧ Mem K m' G' H ∧ StOk K m' G' H σ ss' := by
  rcases c with ⟨rfl, rfl⟩ | ⟨⟨T, rfl⟩, hG, hn, hl, hs⟩
  · exact ⟨m, e, M, S⟩
  · refine ⟨m.take G'.length, e.dropped M.len (by rw [M0.len]; exact hn), M.drop hG, by rw [hl]; exact S.1, fun i u hu => ?_⟩
    obtain ⟨a, b⟩ := hs i u hu
    obtain ⟨v, hv, r⟩ := S.2 i u a
    exact ⟨v, hv, r.drop M.len b⟩
/-- slots forgotten that refer behind n -/
def dropS (n : Nat) (ss : SS) : SS := ss.map fun o => match o with
  | some u => if u.below n = true then some u else none
  | none => none
theorem Cut.mk {n : Nat} {ss : SS} {G T : GH} (hG : Closed G) (hn : n ≤ G.length) : Cut n ss (G ++ T) (dropS G.length ss) G := by
  refine .inr ⟨⟨T, rfl⟩, hG, hn, by simp [dropS], fun i u h => ?_⟩
  unfold dropS at h
  rw [List.getElem?_map] at h
  obtain ⟨o, h1, h2⟩ := Option.map_eq_some_iff.mp h
  cases o with
  | none => cases h2
  | some w =>
    simp only [] at h2
    split at h2
    · cases h2
      rename_i hb
      exact ⟨h1, hb⟩
    · cases h2
def eScope (e : WE) : WE := fun ss G P p => e ss G (fun u G1 => ∃ G', Left G.length u G1 G' ∧ P u G') p
def sScope (φ : WS) : WS := fun ss G C => φ ss G { C with nx := fun ss1 G1 => ∃ ss' G', Cut G.length ss1 G1 ss' G' ∧ C.nx ss' G', ct := fun ss1 G1 => ∃ ss' G', Cut G.length ss1 G1 ss' G' ∧ C.ct ss' G' }
theorem thnE {X : Cx} {pins : List (Addr × Obj)} {σ : St} {Q Q' : VK} {α : Type} {t : Sem Value} {s : Shared} {E : Value → Shared → Prop} (h : wpAny (model X.prog X.w) X.A t (EP X pins σ Q) E s) (q : ∀ u s', EP X pins σ Q u s' → EP X pins σ Q' u s') : wpAny (model X.prog X.w) X.A t (EP X pins σ Q') E s := wpAny_mono h q fun _ _ z => z
section
variable {X : Cx} {W : WX} {e : Expr} {sa : List Stmt} {φ : WE} {ψ : WS}
theorem e_frz (he : PE X e (tE X.K W φ)) : PE X e (tE X.K W (eFrz φ)) := by
  refine ⟨fun pins s σ H Q I ⟨m, G, ss, P, p, M, S, h, hx, q⟩ => ?_⟩
  refine thn (he.run pins s σ H (fun v H1 => ∃ m1 G1 u, Mem X.K m1 G1 H1 ∧ RU X.K m1 G1 H1 v u ∧ frzU u G1 P ∧ Ext m G H m1 G1 H1) I ⟨m, G, ss, _, p, M, S, h, hx, fun u G1 v m1 H1 p1 e1 M1 r1 => ⟨m1, G1, u, M1, r1, p1, e1⟩⟩) fun w s1 ⟨v, H1, I1, rv, m1, G1, u, M1, r1, hf, e1⟩ => ?_
  obtain ⟨H2, u', G2, I2, M2, e2, r2, p2⟩ := frz_run I1 M1 r1 hf
  exact ⟨v, H2, I2, rv, q u' G2 v m1 H2 p2 (e1.trans e2) M2 r2⟩
theorem slot_same {σ : St} {i : Nat} {v : V} (h : σ[i]? = some (some v)) : σ.set i (some v) = σ := by
  refine List.ext_getElem? fun j => ?_
  by_cases hj : i = j
  · subst hj
    rw [h, List.getElem?_set_self (List.getElem?_eq_some_iff.mp h).1]
  · rw [List.getElem?_set_ne hj]
theorem s_frz (i : Nat) (h : PSs X sa (tS X.K W ψ)) : PSs X sa (tS X.K W (sFrz i ψ)) := by
  refine ⟨fun pins s σ H D I ⟨m, G, ss, C, M, S, hf, o⟩ => ?_⟩
  unfold sFrz at hf
  split at hf
  · rename_i u hu
    obtain ⟨v, hv, r⟩ := S.2 i u hu
    obtain ⟨H2, u', G2, I2, M2, e2, r2, p2⟩ := frz_run I M r hf
    have S2 := (S.ext M e2).set r2 i
    rw [slot_same hv] at S2
    exact h.run pins s σ H2 D I2 ⟨m, G2, _, C, M2, S2, p2, o.ext e2⟩
  · exact hf.elim
theorem e_scope (he : PE X e (tE X.K W φ)) : PE X e (tE X.K W (eScope φ)) := he.imp fun σ H Q ⟨m, G, ss, P, p, M, S, h, hx, q⟩ =>
  ⟨m, G, ss, _, p, M, S, h, hx, fun u G1 v m1 H1 ⟨G', l, p1⟩ e1 M1 r1 => by
    obtain ⟨m', e', M', r'⟩ := l.ok M e1 M1 r1
    exact q u G' v m' H1 p1 e' M' r'⟩
theorem s_scope (h : PSs X sa (tS X.K W ψ)) : PSs X sa (tS X.K W (sScope ψ)) := h.imp fun D σ H ⟨m, G, ss, C, M, S, hf, o⟩ =>
  ⟨m, G, ss, _, M, S, hf, ⟨fun ss1 G1 σ1 m1 H1 ⟨ss', G', c, p1⟩ e1 M1 S1 => by
      obtain ⟨m', e', M', S'⟩ := c.ok M e1 M1 S1
      exact o.nx ss' G' σ1 m' H1 p1 e' M' S', o.rt, o.bk, fun ss1 G1 σ1 m1 H1 ⟨ss', G', c, p1⟩ e1 M1 S1 => by
      obtain ⟨m', e', M', S'⟩ := c.ok M e1 M1 S1
      exact o.ct ss' G' σ1 m' H1 p1 e' M' S', o.ex⟩⟩
end

/-! ### what is walked over -/
abbrev Cur := GH → Option (List U)
structure ItOk (K : PySem.W.Frag) (J : It) (m : MM) (G : GH) (H : Hp) (cur : Cur) : Prop where
  stop : ∀ (m' : MM) (G' : GH) (H' : Hp) (us : List U) (i : Nat), Ext m G H m' G' H' → Mem K m' G' H' → cur G' = some us → us.length ≤ i → J.stop i H'
  go : ∀ (m' : MM) (G' : GH) (H' : Hp) (us : List U) (i : Nat) (u : U), Ext m G H m' G' H' → Mem K m' G' H' → cur G' = some us → us[i]? = some u → J.go i H' ∧ ∀ (x : V) (H'' : Hp), J.yld i H' x H'' → Ext m' G' H' m' G' H'' ∧ Mem K m' G' H'' ∧ RU K m' G' H'' x u
abbrev WI := SS → GH → (Cur → GH → Prop) → PX → Prop
def tI (K : PySem.W.Frag) (W : WX) (ι : WI) : TI := fun σ H R => ∃ (m : MM) (G : GH) (ss : SS) (P : Cur → GH → Prop) (p : PX), Mem K m G H ∧ StOk K m G H σ ss ∧ ι ss G P p ∧ OkX K W m G H σ p ∧
  ∀ (cur : Cur) (G' : GH) (J : It) (m' : MM) (H' : Hp), P cur G' → Ext m G H m' G' H' → Mem K m' G' H' → ItOk K J m' G' H' cur → R J H'
theorem _root_.L2.PI.imp {X : Cx} {tg e : Expr} {t t' : TI} (h : PI X tg e t) (i : ∀ σ H R, t' σ H R → t σ H R) : PI X tg e t' := ⟨fun pins s σ H R I q => h.run pins s σ H R I (i σ H R q)⟩
def curU (u : U) : Cur := match u with
  | .d (.list xs) => fun _ => some (xs.map .d)
  | .d (.tuple xs) => fun _ => some (xs.map .d)
  | .d (.str z) => fun _ => some (z.cps.toList.map fun c => .d (.str ⟨#[c]⟩))
  | .d (.dict ds) => fun _ => some (ds.map fun p => .d p.1)
  | .r n => fun G => match G[n]? with
    | some (.lst us) => some us
    | _ => none
  | _ => fun _ => none
def iSeq (e : WE) : WI := fun ss G R p => e ss G (fun u G1 => (curU u G1).isSome = true ∧ R (curU u) G1) p
theorem reps_at {K : PySem.W.Frag} {m : MM} {G : GH} {H : Hp} {vs : List V} {xs : List PyData} {i : Nat} {u : U} (r : Reps K H (Lv m G) vs xs) (h : (xs.map U.d)[i]? = some u) : ∃ v, vs[i]? = some v ∧ RU K m G H v u := (RUs.ofReps r).get h
section
variable {X : Cx} {W : WX} {tg e a b : Expr} {pos p apos cpos tpos : Pos} {φ φa φb : WE} {α : WA} {elts : List Expr} {kk : Nat}
theorem it_list {K : PySem.W.Frag} {m : MM} {G : GH} {H : Hp} {a : Addr} {vs : List V} {xs : List PyData} (M : Mem K m G H) (h : H a = some (.lst vs)) (n : ¬ Lv m G a) (r : Reps K H (Lv m G) vs xs) : ItOk K (Itl K a) m G H fun _ => some (xs.map .d) := by
  have st : ∀ {m' : MM} {G' : GH} {H' : Hp}, Ext m G H m' G' H' → SqL K H' a vs := fun e => .inl (.inl (e.keep a _ h n).1)
  refine ⟨fun m' G' H' us i e M' c hi => ⟨vs, st e, ?_⟩, fun m' G' H' us i u e M' c hu => ?_⟩
  · cases c
    rw [r.length, ← List.length_map (f := U.d)]
    exact hi
  · cases c
    obtain ⟨v, hv, rv⟩ := reps_at (Reps.go (M.go e) r) hu
    exact ⟨⟨vs, v, st e, hv⟩, fun x H'' ⟨eH, hy⟩ => by
      subst eH
      have := hy vs (st e)
      rw [hv] at this; cases this
      exact ⟨Ext.refl, M', rv⟩⟩
theorem it_tup {K : PySem.W.Frag} {m : MM} {G : GH} {H : Hp} {a : Addr} {vs : List V} {xs : List PyData} (M : Mem K m G H) (h : SqT K H a vs) (r : Reps K H (Lv m G) vs xs) : ItOk K (Itt K a) m G H fun _ => some (xs.map .d) := by
  have st : ∀ {m' : MM} {G' : GH} {H' : Hp}, Ext m G H m' G' H' → SqT K H' a vs := fun e => (M.go e).sqT h
  refine ⟨fun m' G' H' us i e M' c hi => ⟨vs, st e, ?_⟩, fun m' G' H' us i u e M' c hu => ?_⟩
  · cases c
    rw [r.length, ← List.length_map (f := U.d)]
    exact hi
  · cases c
    obtain ⟨v, hv, rv⟩ := reps_at (Reps.go (M.go e) r) hu
    exact ⟨⟨vs, v, st e, hv⟩, fun x H'' ⟨eH, hy⟩ => by
      subst eH
      have := hy vs (st e)
      rw [hv] at this; cases this
      exact ⟨Ext.refl, M', rv⟩⟩
theorem it_mut {K : PySem.W.Frag} {m : MM} {G : GH} {H : Hp} {n : Nat} {p : Addr × Addr} (hp : m[n]? = some p) : ItOk K (Itl K p.1) m G H (curU (.r n)) := by
  have st : ∀ {m' : MM} {G' : GH} {H' : Hp} {us : List U}, Ext m G H m' G' H' → Mem K m' G' H' → curU (.r n) G' = some us → ∃ vs, SqL K H' p.1 vs ∧ RUs K m' G' H' vs us := fun {m' G' H' us} e M' c => by
    obtain ⟨l, hl⟩ := e.pre
    have hp' : m'[n]? = some p := by
      rw [hl, List.getElem?_append_left (List.getElem?_eq_some_iff.mp hp).1]
      exact hp
    unfold curU at c
    simp only [] at c
    split at c
    · rename_i ws hG
      cases c
      obtain ⟨vs, h, r⟩ := M'.ok n p _ hp' hG
      exact ⟨vs, .inl (.inl h), r⟩
    · cases c
  refine ⟨fun m' G' H' us i e M' c hi => ?_, fun m' G' H' us i u e M' c hu => ?_⟩
  · obtain ⟨vs, q, r⟩ := st e M' c
    exact ⟨vs, q, by rw [r.length]; exact hi⟩
  · obtain ⟨vs, q, r⟩ := st e M' c
    obtain ⟨v, hv, rv⟩ := r.get hu
    exact ⟨⟨vs, v, q, hv⟩, fun x H'' ⟨eH, hy⟩ => by
      subst eH
      have := hy vs q
      rw [hv] at this; cases this
      exact ⟨Ext.refl, M', rv⟩⟩
theorem it_str {K : PySem.W.Frag} {m : MM} {G : GH} {H : Hp} (z : Str) : ItOk K (Its z) m G H (curU (.d (.str z))) := by
  refine ⟨fun m' G' H' us i e M' c hi => ?_, fun m' G' H' us i u e M' c hu => ?_⟩
  · cases c
    rw [List.length_map, Array.length_toList] at hi
    exact hi
  · cases c
    rw [List.getElem?_map, Array.getElem?_toList] at hu
    obtain ⟨c, hc, rfl⟩ := Option.map_eq_some_iff.mp hu
    exact ⟨(Array.getElem?_eq_some_iff.mp hc).1, fun x H'' ⟨eH, c', hc', ex⟩ => by
      subst eH
      rw [hc] at hc'; cases hc'
      subst ex
      exact ⟨Ext.refl, M', Rep.str _⟩⟩
theorem kD_rep {K : PySem.W.Frag} {H : Hp} {L : Addr → Prop} (k : Key) : Rep K H L (kV k) (kD k) := by
  cases k with
  | inl i => exact .int i
  | inr s => exact .str s
theorem kDs_rep {K : PySem.W.Frag} {H : Hp} {L : Addr → Prop} : ∀ ks : List Key, Reps K H L (ks.map kV) (ks.map kD)
  | [] => .nil
  | k :: ks => .cons (kD_rep k) (kDs_rep ks)
theorem it_keys {K : PySem.W.Frag} {m : MM} {G : GH} {H : Hp} {a : Addr} {o : Obj} {es : List (Key × V)} {us0 : List U} (M : Mem K m G H) (h : H a = some (.frz o (.dK es))) (hk : us0 = es.map fun e => .d (kD e.1)) : ItOk K (Itk a o es) m G H fun _ => some us0 := by
  have st : ∀ {m' : MM} {G' : GH} {H' : Hp}, Ext m G H m' G' H' → H' a = some (.frz o (.dK es)) := fun e => ((M.go e).keep a _ h ((M.go e).frz _ _ _ h)).1
  subst hk
  refine ⟨fun m' G' H' us i e M' c hi => ⟨st e, ?_⟩, fun m' G' H' us i u e M' c hu => ?_⟩
  · cases c
    rw [List.length_map] at hi
    exact hi
  · cases c
    rw [List.getElem?_map] at hu
    obtain ⟨c, hc, rfl⟩ := Option.map_eq_some_iff.mp hu
    exact ⟨⟨st e, (List.getElem?_eq_some_iff.mp hc).1⟩, fun x H'' ⟨eH, k, v, hk, ex⟩ => by
      subst eH
      rw [hc] at hk; cases hk
      subst ex
      exact ⟨Ext.refl, M', kD_rep k⟩⟩
theorem it_keysT {K : PySem.W.Frag} {m : MM} {G : GH} {H : Hp} {a : Addr} {o : Obj} {es : List (List Key × V)} {us0 : List U} (M : Mem K m G H) (h : H a = some (.frz o (.dT es))) (hk : us0 = es.map fun e => .d (tD e.1)) : ItOk K (Itkt a o es) m G H fun _ => some us0 := by
  have st : ∀ {m' : MM} {G' : GH} {H' : Hp}, Ext m G H m' G' H' → H' a = some (.frz o (.dT es)) := fun e => ((M.go e).keep a _ h ((M.go e).frz _ _ _ h)).1
  subst hk
  refine ⟨fun m' G' H' us i e M' c hi => ⟨st e, ?_⟩, fun m' G' H' us i u e M' c hu => ?_⟩
  · cases c
    rw [List.length_map] at hi
    exact hi
  · cases c
    rw [List.getElem?_map] at hu
    obtain ⟨c, hc, rfl⟩ := Option.map_eq_some_iff.mp hu
    exact ⟨⟨st e, (List.getElem?_eq_some_iff.mp hc).1⟩, fun x H'' ⟨eH, k, v, q, hk, ex, hq⟩ => by
      subst eH
      rw [hc] at hk; cases hk
      subst ex
      exact ⟨Ext.refl, M', Rep.tup hq (kDs_rep _)⟩⟩
/-- a list, a tuple, a text, a dict's keys, walked over -/
theorem i_seq (he : PE X e (tE X.K W φ)) : PI X tg e (tI X.K W (iSeq φ)) := by
  refine ⟨fun pins s σ H R I ⟨m, G, ss, P, p, M, S, h, hx, q⟩ => ?_⟩
  refine thn (he.run pins s σ H (fun v H1 => ∃ m1 G1 u, Mem X.K m1 G1 H1 ∧ RU X.K m1 G1 H1 v u ∧ ((curU u G1).isSome = true ∧ P (curU u) G1) ∧ Ext m G H m1 G1 H1) I ⟨m, G, ss, _, p, M, S, h, hx, fun u G1 v m1 H1 p1 e1 M1 r1 => ⟨m1, G1, u, M1, r1, p1, e1⟩⟩) fun w s1 ⟨v, H1, I1, rv, m1, G1, u, M1, r1, ⟨hc, hp⟩, e1⟩ => ?_
  have lst : ∀ {a : Addr} {vs : List V}, w = .ref a → SqL X.K H1 a vs → R (Itl X.K a) H1 → wpAny (model X.prog X.w) X.A (pyIter w) (PIE X pins σ tg R) X.xe s1 := fun {a vs} ew hq hr => by
    subst ew
    obtain ⟨its, rv, pl, hz⟩ := I1.list hq
    exact wpAny_pyIter_list pl.isList (pi_one (tk := s1.toks) I1 _ (turn_list a _) ⟨_, Heap.get?_push_size _ rfl, rfl, rfl⟩ hr)
  cases u with
  | k x => cases x <;> cases hc
  | r n =>
    obtain ⟨pp, hpp, rfl⟩ := r1
    cases rv
    have hc' := hc
    unfold curU at hc'
    simp only [] at hc'
    split at hc'
    · rename_i us hG
      obtain ⟨vs, hv, r⟩ := M1.ok n pp _ hpp hG
      exact lst rfl (.inl (.inl hv)) (q _ G1 _ m1 H1 hp e1 M1 (it_mut hpp))
    · cases hc'
  | d x =>
    cases x with
    | none => cases hc
    | bool b => cases hc
    | int i => cases hc
    | list xs =>
      cases r1 with
      | lst hh n r =>
        cases rv
        exact lst rfl (.inl (.inl hh)) (q _ G1 _ m1 H1 hp e1 M1 (it_list M1 hh n r))
    | tuple xs =>
      obtain ⟨a, vs, rfl, hh, r⟩ := rep_tup r1
      cases rv
      obtain ⟨its, rv, pl, hz⟩ := I1.tuple hh
      exact wpAny_pyIter_tuple (show s1.heap.IsTuple a its.toArray from pl) (pi_one (tk := s1.toks) I1 _ (turn_tuple a _) ⟨_, Heap.get?_push_size _ rfl, rfl, rfl⟩ (q _ G1 _ m1 H1 hp e1 M1 (it_tup M1 hh r)))
    | str z =>
      cases r1
      obtain ⟨t, rfl⟩ := rv
      have hr := q _ G1 _ m1 H1 hp e1 M1 (it_str z)
      cases ha : z.cps.all (· < 128)
      · exact wpAny_pyIter_wide ha (pi_one (tk := s1.toks) I1 _ (turn_str _ z t "str_iterator" (.inr rfl)) ⟨_, Heap.get?_push_size _ rfl, rfl, rfl⟩ hr)
      · exact wpAny_pyIter_ascii ha (pi_one (tk := s1.toks) I1 _ (turn_str _ z t "str_ascii_iterator" (.inl rfl)) ⟨_, Heap.get?_push_size _ rfl, rfl, rfl⟩ hr)
    | dict ds =>
      obtain ⟨a, rfl, d⟩ := rep_dict r1
      cases rv
      rcases d with ⟨es, ⟨o, hh⟩, _, e2, _⟩ | ⟨es, ⟨o, hh⟩, e2, _⟩
      · have hr := q _ G1 _ m1 H1 hp e1 M1 (it_keys (us0 := ds.map fun p => .d p.1) M1 hh (by
          have z := congrArg (List.map U.d) e2
          rw [List.map_map, List.map_map] at z
          exact z.symm))
        obtain ⟨hs, hgd, hx, es', ep, vs, hdt, hsz, kv, hm⟩ := I1.frzK hh
        refine iter_keys hs hgd hx hdt (pi_one (tk := s1.toks) I1 _ (turn_keys _ hdt) ⟨_, Heap.get?_push_size _ rfl, rfl, ?_⟩ hr)
        rw [hsz] <;> rfl
      · have hr := q _ G1 _ m1 H1 hp e1 M1 (it_keysT (us0 := ds.map fun p => .d p.1) M1 hh (by
          have z := congrArg (List.map U.d) e2
          rw [List.map_map, List.map_map] at z
          exact z.symm))
        obtain ⟨hs, hgd, hx, es', ep, hdt, hsz, ent⟩ := I1.frzT hh
        refine iter_keys hs hgd hx hdt (pi_one (tk := s1.toks) I1 _ (turn_keysT _ hdt) ⟨_, Heap.get?_push_size _ rfl, rfl, ?_⟩ hr)
        rw [hsz] <;> rfl
end
end R
/-! ## part RO -/
/-! The layer R: ranges, zips, dict items walked over; loops. -/
namespace R
open PySem PySem.Spec
open PyProof.Rows hiding St
open L2
def rngU (lo : Int) (n : Nat) : List U := (List.range n).map fun i => .d (.int (lo + (i : Nat)))
def iRng1 (α : WA) : WI := fun ss G R p => α ss G (fun us G1 => match us with
  | [.d (.int j)] => -(2 ^ 62) ≤ j ∧ j < 2 ^ 62 ∧ R (fun _ => some (rngU 0 j.toNat)) G1
  | _ => False) p
def iRng2 (α : WA) : WI := fun ss G R p => α ss G (fun us G1 => match us with
  | [.d (.int i), .d (.int j)] => (-(2 ^ 62) ≤ i ∧ i < 2 ^ 62 ∧ -(2 ^ 62) ≤ j ∧ j < 2 ^ 62) ∧ R (fun _ => some (rngU i (j - i).toNat)) G1
  | _ => False) p
def pairD (x y : PyData) : U := .d (.tuple [x, y])
def iZip (α : WA) : WI := fun ss G R p => α ss G (fun us G1 => match us with
  | [.d (.list xs), .d (.list ys)] => R (fun _ => some (List.zipWith pairD xs ys)) G1
  | [.d (.tuple xs), .d (.tuple ys)] => R (fun _ => some (List.zipWith pairD xs ys)) G1
  | _ => False) p
/-- the items of a dict with flat keys -/
def flatKeys (ds : List (PyData × PyData)) : Bool := match ds with
  | [] => false
  | p :: _ => !isTupD p.1
def iItems (e : WE) : WI := fun ss G R p => e ss G (fun u G1 => match u with
  | .d (.dict ds) => flatKeys ds = true ∧ R (fun _ => some (ds.map fun p => pairD p.1 p.2)) G1
  | _ => False) p
def iEnum (α : WA) : WI := fun ss G R p => α ss G (fun us G1 => match us with
  | [.d (.list xs)] => R (fun _ => some (xs.zipIdx.map fun p => pairD (.int (p.2 : Nat)) p.1)) G1
  | _ => False) p
section
variable {X : Cx} {W : WX} {tg e a b : Expr} {pos p apos cpos tpos : Pos} {φ φa φb : WE} {α : WA} {elts : List Expr} {kk : Nat} {st : Stmt} {body : List Stmt} {ψ : WS} {ι : WI} {γ : WG} {c : Expr} {τ : WT}
theorem it_rng {K : PySem.W.Frag} {m : MM} {G : GH} {H : Hp} (lo : Int) (n : Nat) : ItOk K (Itr lo n) m G H fun _ => some (rngU lo n) := by
  refine ⟨fun m' G' H' us i e M' c hi => ?_, fun m' G' H' us i u e M' c hu => ?_⟩
  · cases c
    have hi : n ≤ i := by simpa [rngU] using hi
    exact hi
  · cases c
    unfold rngU at hu
    rw [List.getElem?_map] at hu
    obtain ⟨j, hj, rfl⟩ := Option.map_eq_some_iff.mp hu
    have hij := List.getElem?_eq_some_iff.mp hj
    obtain ⟨h1, h2⟩ := hij
    rw [List.length_range] at h1
    rw [List.getElem_range] at h2
    subst h2
    exact ⟨h1, fun x H'' ⟨eH, ex⟩ => by
      subst eH; subst ex
      exact ⟨Ext.refl, M', Rep.int _⟩⟩
theorem i_rng1 (hm : X.mg "range" = none) (ha : PA X [a] (tA X.K W α)) (hg : Gl X "range" := by rfl) (hs : starEach [a] X.env = [(false, eval a X.env)] := by rfl) : PI X tg (.Call (.Name "range" p) [a] [] pos) (tI X.K W (iRng1 α)) := (pi_range1 hg hm ha hs).imp fun σ H R' ⟨m, G, ss, P, px, M, S, h, hx, q⟩ =>
  ⟨m, G, ss, _, px, M, S, h, hx, fun us G1 vs m1 H1 p1 e1 M1 r1 => by
    split at p1
    · cases r1 with
      | cons a1 b1 =>
        cases b1; cases a1
        exact ⟨_, rfl, p1.1, p1.2.1, q _ G1 _ m1 H1 p1.2.2 e1 M1 (it_rng _ _)⟩
    · exact p1.elim⟩
theorem i_rng2 (hm : X.mg "range" = none) (ha : PA X [a, b] (tA X.K W α)) (hg : Gl X "range" := by rfl) (hs : starEach [a, b] X.env = [(false, eval a X.env), (false, eval b X.env)] := by rfl) (hs2 : starEach [b] X.env = [(false, eval b X.env)] := by rfl) : PI X tg (.Call (.Name "range" p) [a, b] [] pos) (tI X.K W (iRng2 α)) :=
  (pi_range2 hg hm ha hs hs2).imp fun σ H R' ⟨m, G, ss, P, px, M, S, h, hx, q⟩ => ⟨m, G, ss, _, px, M, S, h, hx, fun us G1 vs m1 H1 p1 e1 M1 r1 => by
    split at p1
    · cases r1 with
      | cons a1 b1 =>
        cases b1 with
        | cons a2 b2 =>
          cases b2; cases a1; cases a2
          exact ⟨_, _, rfl, p1.1, q _ G1 _ m1 H1 p1.2 e1 M1 (it_rng _ _)⟩
    · exact p1.elim⟩
theorem zip_at {xs ys : List PyData} {i : Nat} {u : U} (h : (List.zipWith pairD xs ys)[i]? = some u) : ∃ x y, xs[i]? = some x ∧ ys[i]? = some y ∧ u = pairD x y := by
  rw [List.getElem?_zipWith] at h
  split at h
  · cases h; exact ⟨_, _, by assumption, by assumption, rfl⟩
  · cases h
theorem pair_ok {K : PySem.W.Frag} {m : MM} {G : GH} {H : Hp} {x y : PyData} {v w : V} {T : Addr} (M : Mem K m G H) (hT : H T = none) (a : Rep K H (Lv m G) v x) (b : Rep K H (Lv m G) w y) : Ext m G H m G (upd H T (.tup [v, w])) ∧ Mem K m G (upd H T (.tup [v, w])) ∧ RU K m G (upd H T (.tup [v, w])) (.ref T) (pairD x y) := by
  have e : Ext m G H m G (upd H T (.tup [v, w])) := Ext.fresh hT
  exact ⟨e, M.fresh hT, Rep.tup upd_same (.cons (Rep.go (M.go e) a) (.cons (Rep.go (M.go e) b) .nil))⟩
theorem i_zip (hm : X.mg "zip" = none) (ha : PA X [a, b] (tA X.K W α)) (hg : Gl X "zip" := by rfl) (hs : starEach [a, b] X.env = (false, eval a X.env) :: starEach [b] X.env := by rfl) (hpl : (backTo pos (starEach [b] X.env)).any (·.1) = false := by rfl) :
    PI X (.Tuple elts kk tpos) (.Call (.Name "zip" p) [a, b] [] pos) (tI X.K W (iZip α)) := (RZ.pi_zipA hg hm ha hs hpl).imp fun σ H R' ⟨m, G, ss, P, px, M, S, h, hx, q⟩ => ⟨m, G, ss, _, px, M, S, h, hx, fun us G1 vs m1 H1 p1 e1 M1 r1 => by
    split at p1
    · rename_i xs ys
      cases r1 with
      | cons a1 b1 =>
        cases b1 with
        | cons a2 b2 =>
          cases b2
          cases a1 with
          | lst h1 n1 q1 =>
            cases a2 with
            | lst h2 n2 q2 =>
              refine ⟨_, _, _, _, rfl, .inl ⟨.inl (.inl h1), .inl (.inl h2), q _ G1 _ m1 H1 p1 e1 M1 ⟨fun m' G' H' us i e M' c hi => ?_, fun m' G' H' us i u e M' c hu => ?_⟩⟩⟩
              · cases c
                rw [List.length_zipWith, ← q1.length, ← q2.length] at hi
                exact ⟨_, _, .inl (.inl (e.keep _ _ h1 n1).1), .inl (.inl (e.keep _ _ h2 n2).1), by omega⟩
              · cases c
                obtain ⟨x, y, hx, hy, rfl⟩ := zip_at hu
                obtain ⟨v, hv, rv⟩ := (Reps.go (M1.go e) q1).get hx
                obtain ⟨w, hw, rw'⟩ := (Reps.go (M1.go e) q2).get hy
                refine ⟨⟨_, _, v, w, .inl (.inl (e.keep _ _ h1 n1).1), .inl (.inl (e.keep _ _ h2 n2).1), hv, hw⟩, fun z H'' ⟨T, x', y', ez, hT, eH, hx', hy'⟩ => ?_⟩
                subst ez; subst eH
                have z1 := hx' _ (.inl (.inl (e.keep _ _ h1 n1).1))
                have z2 := hy' _ (.inl (.inl (e.keep _ _ h2 n2).1))
                rw [hv] at z1; rw [hw] at z2
                cases z1; cases z2
                exact pair_ok M' hT rv rw'
    · rename_i xs ys
      cases r1 with
      | cons a1 b1 =>
        cases b1 with
        | cons a2 b2 =>
          cases b2
          obtain ⟨p1', vs1, rfl, h1, q1⟩ := rep_tup a1
          obtain ⟨p2', vs2, rfl, h2, q2⟩ := rep_tup a2
          refine ⟨_, _, _, _, rfl, .inr ⟨h1, h2, q _ G1 _ m1 H1 p1 e1 M1 ⟨fun m' G' H' us i e M' c hi => ?_, fun m' G' H' us i u e M' c hu => ?_⟩⟩⟩
          · cases c
            rw [List.length_zipWith, ← q1.length, ← q2.length] at hi
            exact ⟨_, _, (M1.go e).sqT h1, (M1.go e).sqT h2, by omega⟩
          · cases c
            obtain ⟨x, y, hx, hy, rfl⟩ := zip_at hu
            obtain ⟨v, hv, rv⟩ := (Reps.go (M1.go e) q1).get hx
            obtain ⟨w, hw, rw'⟩ := (Reps.go (M1.go e) q2).get hy
            refine ⟨⟨_, _, v, w, (M1.go e).sqT h1, (M1.go e).sqT h2, hv, hw⟩, fun z H'' ⟨T, x', y', ez, hT, eH, hx', hy'⟩ => ?_⟩
            subst ez; subst eH
            have z1 := hx' _ ((M1.go e).sqT h1)
            have z2 := hy' _ ((M1.go e).sqT h2)
            rw [hv] at z1; rw [hw] at z2
            cases z1; cases z2
            exact pair_ok M' hT rv rw'
    · exact p1.elim⟩
theorem paired_get {α β : Type} {F : α → β → Prop} : ∀ {l : List α} {r : List β} {i : Nat} {y : β}, Paired F l r → r[i]? = some y → ∃ x, l[i]? = some x ∧ F x y
  | _, _, 0, _, .cons h _, e => by cases e; exact ⟨_, rfl, h⟩
  | _, _, i + 1, _, .cons _ r, e => paired_get (i := i) r e
theorem i_items (he : PE X e (tE X.K W φ)) (hbase : attributeBase e "items" X.env (eval e X.env) = eval e X.env := by rfl) (hline : (apos.endLine == cpos.line) = true := by rfl) : PI X (.Tuple elts kk tpos) (.Call (.Attribute e "items" apos) [] [] cpos) (tI X.K W (iItems φ)) :=
  (pi_items he hbase hline).imp fun σ H R' ⟨m, G, ss, P, px, M, S, h, hx, q⟩ => ⟨m, G, ss, _, px, M, S, h, hx, fun u G1 v m1 H1 p1 e1 M1 r1 => by
    split at p1
    · rename_i ds
      obtain ⟨hk, p1⟩ := p1
      obtain ⟨a, rfl, d⟩ := rep_dict r1
      have r0 := r1
      rcases d with ⟨es, ⟨o, hh⟩, en, e2, e3⟩ | ⟨es, ⟨o, hh⟩, e2, _⟩
      · refine ⟨a, o, es, rfl, hh, q _ G1 _ m1 H1 p1 e1 M1 ⟨fun m' G' H' us i e M' c hi => ?_, fun m' G' H' us i u e M' c hu => ?_⟩⟩
        · cases c
          have l2 := congrArg List.length e2
          simp only [List.length_map] at l2 hi
          exact ⟨((M1.go e).keep a _ hh ((M1.go e).frz _ _ _ hh)).1, by omega⟩
        · cases c
          rw [List.getElem?_map] at hu
          obtain ⟨⟨k, x⟩, hkx, rfl⟩ := Option.map_eq_some_iff.mp hu
          have k1 : (ds.map (·.1))[i]? = some k := by rw [List.getElem?_map, hkx]; rfl
          rw [← e2, List.getElem?_map] at k1
          obtain ⟨⟨k', v'⟩, hes, rfl⟩ := Option.map_eq_some_iff.mp k1
          have x1 : (ds.map (·.2))[i]? = some x := by rw [List.getElem?_map, hkx]; rfl
          obtain ⟨v2, hv2, rv⟩ := paired_get e3 x1
          rw [List.getElem?_map, hes] at hv2
          cases hv2
          refine ⟨⟨((M1.go e).keep a _ hh ((M1.go e).frz _ _ _ hh)).1, (List.getElem?_eq_some_iff.mp hes).1⟩, fun z H'' ⟨T, k3, v3, h3, ez, hT, eH⟩ => ?_⟩
          rw [hes] at h3; cases h3
          subst ez; subst eH
          exact pair_ok M' hT (kD_rep k') (Rep.go (M1.go e) rv)
      · exfalso
        cases ds with
        | nil => cases hk
        | cons d ds =>
          cases es with
          | nil => cases e2
          | cons e0 es =>
            rw [List.map_cons, List.map_cons, List.cons.injEq] at e2
            have hk : (!isTupD d.1) = true := hk
            rw [← e2.1] at hk
            cases hk
    · exact p1.elim⟩
theorem i_enum (hm : X.mg "enumerate" = none) (ha : PA X [a] (tA X.K W α)) (hg : Gl X "enumerate" := by rfl) (hs : starEach [a] X.env = [(false, eval a X.env)] := by rfl) : PI X (.Tuple elts kk tpos) (.Call (.Name "enumerate" p) [a] [] pos) (tI X.K W (iEnum α)) :=
  (pi_enum hg hm ha hs).imp fun σ H R' ⟨m, G, ss, P, px, M, S, h, hx, q⟩ => ⟨m, G, ss, _, px, M, S, h, hx, fun us G1 vs m1 H1 p1 e1 M1 r1 => by
    split at p1
    · rename_i xs
      cases r1 with
      | cons a1 b1 =>
        cases b1
        cases a1 with
        | lst h1 n1 q1 =>
          refine ⟨_, _, rfl, .inl (.inl h1), q _ G1 _ m1 H1 p1 e1 M1 ⟨fun m' G' H' us i e M' c hi => ?_, fun m' G' H' us i u e M' c hu => ?_⟩⟩
          · cases c
            rw [List.length_map, List.length_zipIdx, ← q1.length] at hi
            exact ⟨_, .inl (.inl (e.keep _ _ h1 n1).1), hi⟩
          · cases c
            rw [List.getElem?_map, List.getElem?_zipIdx] at hu
            obtain ⟨y, hy, rfl⟩ := Option.map_eq_some_iff.mp hu
            obtain ⟨x, hx, rfl⟩ := Option.map_eq_some_iff.mp hy
            obtain ⟨v, hv, rv⟩ := (Reps.go (M1.go e) q1).get hx
            refine ⟨⟨_, v, .inl (.inl (e.keep _ _ h1 n1).1), hv⟩, fun z H'' ⟨T, x', ez, hT, eH, hx'⟩ => ?_⟩
            subst ez; subst eH
            have z1 := hx' _ (.inl (.inl (e.keep _ _ h1 n1).1))
            rw [hv] at z1; cases z1
            have w := pair_ok M' hT (x := .int ((0 + i : Nat))) (v := .int (i : Nat)) (by rw [Nat.zero_add]; exact Rep.int _) rv
            exact w
    · exact p1.elim⟩

/-! ### loops -/
def forL (cur : Cur) (all : List U) (γ : WG) (ψ : WS) : List U → WS
  | [] => fun ss G C => cur G = some all ∧ C.nx ss G
  | u :: us => fun ss G C => cur G = some all ∧ γ u ss G fun ss1 G1 => ψ ss1 G1 { C with nx := fun ss2 G2 => forL cur all γ ψ us ss2 G2 C, ct := fun ss2 G2 => forL cur all γ ψ us ss2 G2 C, bk := C.nx }
def sFor (ι : WI) (γ : WG) (ψ : WS) : WS := fun ss G C => ι ss G (fun cur G1 => match cur G1 with
  | some us => forL cur us γ ψ us ss G1 C
  | none => False) (fun x G1 => C.ex x ss G1)
theorem forL_cur {cur : Cur} {all : List U} {γ : WG} {ψ : WS} {us : List U} {ss : SS} {G : GH} {C : Cn} (h : forL cur all γ ψ us ss G C) : cur G = some all := by
  cases us <;> exact h.1
theorem s_for (hp : PassesOwn (model X.prog X.w) X.A X.env X.xe) (hc : X.calm = true) (hi : PI X tg e (tI X.K W ι)) (hg : PG X tg (tG X.K γ)) (hb : PSs X body (tS X.K W ψ)) (hs : ∀ x, foldedSetIterable e X.env x = pure x := by intro _; rfl) : PS X (.For tg e body [] pos) (tS X.K W (sFor ι γ ψ)) :=
  (ps_for hp hc hi hg hb hs).imp fun D σ H ⟨m, G, ss, C, M, S, h, o⟩ => by
    refine ⟨m, G, ss, _, _, M, S, h, o.okX M S, fun cur G1 J m1 H1 p1 e1 M1 it => ?_⟩
    split at p1
    · rename_i us hcur
      refine ⟨fun i k σ' H' => k = us.length - i ∧ ∃ m' G' ss', Mem X.K m' G' H' ∧ StOk X.K m' G' H' σ' ss' ∧ Ext m1 G1 H1 m' G' H' ∧ forL cur us γ ψ (us.drop i) ss' G' C, ⟨us.length - 0, rfl, m1, G1, ss, M1, S.ext M e1, Ext.refl, p1⟩, ?_⟩
      rintro i k σ' H' ⟨rfl, m', G', ss', M', S', e', h'⟩
      have hcur' := forL_cur h'
      cases hu : us[i]? with
      | none =>
        have hi : us.length ≤ i := List.getElem?_eq_none_iff.mp hu
        rw [List.drop_eq_nil_of_le hi] at h'
        exact .inl ⟨it.stop m' G' H' us i e' M' hcur' hi, o.nx ss' G' σ' m' H' h'.2 (e1.trans e') M' S'⟩
      | some u =>
        have hi := (List.getElem?_eq_some_iff.mp hu).1
        have hd : us.drop i = u :: us.drop (i + 1) := by
          rw [List.drop_eq_getElem_cons hi]
          rw [List.getElem?_eq_getElem hi] at hu
          cases hu; rfl
        rw [hd] at h'
        obtain ⟨_, h'⟩ := h'
        obtain ⟨g1, g2⟩ := it.go m' G' H' us i u e' M' hcur' hu
        refine .inr ⟨g1, fun σ2 H2 => ∃ m2 G2 ss2, Mem X.K m2 G2 H2 ∧ StOk X.K m2 G2 H2 σ2 ss2 ∧ Ext m1 G1 H1 m2 G2 H2 ∧ forL cur us γ ψ (us.drop (i + 1)) ss2 G2 C, fun σ2 H2 z => ⟨us.length - (i + 1), by omega, rfl, z⟩, fun x H2 y => ?_⟩
        obtain ⟨y1, y2, y3⟩ := g2 x H2 y
        refine ⟨m', G', ss', u, _, y2, S'.ext M' y1, y3, h', fun ss3 G3 σ3 m3 H3 p3 e3 M3 S3 => ⟨m3, G3, ss3, _, M3, S3, p3, ?_⟩⟩
        have ee := (e'.trans y1).trans e3
        exact ⟨fun ss4 G4 σ4 m4 H4 p4 e4 M4 S4 => ⟨m4, G4, ss4, M4, S4, ee.trans e4, p4⟩, fun u4 G4 v4 m4 H4 p4 e4 M4 r4 => o.rt u4 G4 v4 m4 H4 p4 ((e1.trans ee).trans e4) M4 r4,
          fun ss4 G4 σ4 m4 H4 p4 e4 M4 S4 => o.nx ss4 G4 σ4 m4 H4 p4 ((e1.trans ee).trans e4) M4 S4, fun ss4 G4 σ4 m4 H4 p4 e4 M4 S4 => ⟨m4, G4, ss4, M4, S4, ee.trans e4, p4⟩,
          fun x4 ss4 G4 σ4 c4 d4 m4 H4 p4 e4 M4 S4 r4 => o.ex x4 ss4 G4 σ4 c4 d4 m4 H4 p4 ((e1.trans ee).trans e4) M4 S4 r4⟩
    · exact p1.elim
def sWhile (τ : WT) (ψ : WS) : WS := fun ss G C => ∃ I : Nat → SS → GH → Prop, (∃ k, I k ss G) ∧ ∀ k ss1 G1, I k ss1 G1 → τ ss1 G1 (fun b G2 => if b = true then ψ ss1 G2 { C with nx := fun ss3 G3 => ∃ k', k' < k ∧ I k' ss3 G3, ct := fun ss3 G3 => ∃ k', k' < k ∧ I k' ss3 G3, bk := C.nx } else C.nx ss1 G2) (fun x G2 => C.ex x ss1 G2)
theorem s_while (hp : PassesOwn (model X.prog X.w) X.A X.env X.xe) (hc : PT X c (tT X.K W τ)) (hb : PSs X body (tS X.K W ψ)) : PS X (.While c body [] pos) (tS X.K W (sWhile τ ψ)) := (ps_while hp hc hb).imp fun D σ H ⟨m, G, ss, C, M, S, ⟨I, ⟨k0, i0⟩, h⟩, o⟩ => by
  refine ⟨fun k σ' H' => ∃ m' G' ss', Mem X.K m' G' H' ∧ StOk X.K m' G' H' σ' ss' ∧ Ext m G H m' G' H' ∧ I k ss' G', ⟨k0, m, G, ss, M, S, Ext.refl, i0⟩, fun k σ' H' ⟨m', G', ss', M', S', e', i'⟩ => ?_⟩
  refine ⟨m', G', ss', _, _, M', S', h k ss' G' i', (o.ext e').okX M' S', fun b G2 m2 H2 p2 e2 M2 => ?_⟩
  have ee := e'.trans e2
  split at p2
  · rename_i hb
    show if b = true then _ else _
    rw [if_pos hb]
    refine ⟨fun σ4 H4 => ∃ k', k' < k ∧ ∃ m4 G4 ss4, Mem X.K m4 G4 H4 ∧ StOk X.K m4 G4 H4 σ4 ss4 ∧ Ext m G H m4 G4 H4 ∧ I k' ss4 G4, fun σ4 H4 z => z, m2, G2, ss', _, M2, S'.ext M' e2, p2, ?_⟩
    exact ⟨fun ss4 G4 σ4 m4 H4 ⟨k', hk, i4⟩ e4 M4 S4 => ⟨k', hk, m4, G4, ss4, M4, S4, ee.trans e4, i4⟩, fun u4 G4 v4 m4 H4 p4 e4 M4 r4 => o.rt u4 G4 v4 m4 H4 p4 (ee.trans e4) M4 r4,
      fun ss4 G4 σ4 m4 H4 p4 e4 M4 S4 => o.nx ss4 G4 σ4 m4 H4 p4 (ee.trans e4) M4 S4, fun ss4 G4 σ4 m4 H4 ⟨k', hk, i4⟩ e4 M4 S4 => ⟨k', hk, m4, G4, ss4, M4, S4, ee.trans e4, i4⟩,
      fun x4 ss4 G4 σ4 c4 d4 m4 H4 p4 e4 M4 S4 r4 => o.ex x4 ss4 G4 σ4 c4 d4 m4 H4 p4 (ee.trans e4) M4 S4 r4⟩
  · rename_i hb
    show if b = true then _ else _
    rw [if_neg hb]
    exact o.nx ss' G2 σ' m2 H2 p2 ee M2 (S'.ext M' e2)
/-- what never runs -/
theorem s_never : PS X st (tS X.K W fun _ _ _ => False) := ⟨fun _ _ _ _ _ _ ⟨_, _, _, _, _, _, h, _⟩ => h.elim⟩
theorem e_never : PE X e (tE X.K W fun _ _ _ _ => False) := ⟨fun _ _ _ _ _ _ ⟨_, _, _, _, _, _, _, h, _⟩ => h.elim⟩
end
end R
/-! ## part RP -/
/-! The layer R: list comprehensions. -/
namespace R
open PySem PySem.Spec
open PyProof.Rows hiding St
open L2

/-! ### targets of comprehensions: the slots vs alone change -/
def tGc (K : PySem.W.Frag) (ws : List Nat) (γ : WG) : L2.TG := fun v σ H Q => ∃ (m : MM) (G : GH) (ss : SS) (u : U) (P : SS → GH → Prop), Mem K m G H ∧ StOk K m G H σ ss ∧ RU K m G H v u ∧ γ u ss G P ∧
  ∀ (ss' : SS) (G' : GH) (σ' : St) (m' : MM) (H' : Hp), P ss' G' → Ext m G H m' G' H' → Mem K m' G' H' → StOk K m' G' H' σ' ss' → wipe σ' ws = wipe σ ws → Q σ' H'
def tGsc (K : PySem.W.Frag) (ws : List Nat) (γ : WGs) : L2.TGs := fun vs σ H Q => ∃ (m : MM) (G : GH) (ss : SS) (us : List U) (P : SS → GH → Prop), Mem K m G H ∧ StOk K m G H σ ss ∧ RUs K m G H vs us ∧ γ us ss G P ∧
  ∀ (ss' : SS) (G' : GH) (σ' : St) (m' : MM) (H' : Hp), P ss' G' → Ext m G H m' G' H' → Mem K m' G' H' → StOk K m' G' H' σ' ss' → wipe σ' ws = wipe σ ws → Q σ' H'
def wipeU (ss : SS) : List Nat → SS
  | [] => ss
  | v :: vs => (wipeU ss vs).set v none
theorem StOk.unset {K : PySem.W.Frag} {m : MM} {G : GH} {H : Hp} {σ : St} {ss : SS} (S : StOk K m G H σ ss) (i : Nat) : StOk K m G H (σ.set i none) (ss.set i none) := by
  refine ⟨by simp [S.1], fun j w h => ?_⟩
  by_cases hj : i = j
  · subst hj
    by_cases hi : i < ss.length
    · rw [List.getElem?_set_self hi] at h; cases h
    · rw [List.getElem?_eq_none (by simpa using hi)] at h; cases h
  · rw [List.getElem?_set_ne hj] at h ⊢
    exact S.2 j w h
theorem StOk.wipe {K : PySem.W.Frag} {m : MM} {G : GH} {H : Hp} {σ : St} {ss : SS} (S : StOk K m G H σ ss) : ∀ ws : List Nat, StOk K m G H (L2.wipe σ ws) (wipeU ss ws)
  | [] => S
  | v :: ws => (StOk.wipe S ws).unset v
theorem wipe_set {σ : St} {x : Option V} {i : Nat} : ∀ {ws : List Nat}, i ∈ ws → L2.wipe (σ.set i x) ws = L2.wipe σ ws
  | [], h => by cases h
  | v :: ws, h => by
    show (L2.wipe (σ.set i x) ws).set v none = (L2.wipe σ ws).set v none
    by_cases hi : i ∈ ws
    · rw [wipe_set hi]
    · have hv : i = v := by
        rcases List.mem_cons.mp h with e | e
        · exact e
        · exact absurd e hi
      subst hv
      have go : ∀ ws : List Nat, i ∉ ws → L2.wipe (σ.set i x) ws = (L2.wipe σ ws).set i x := fun ws => by
        induction ws with
        | nil => intro _; rfl
        | cons w ws ih =>
          intro hn
          have h1 : i ≠ w := fun e => hn (by simp [e])
          show (L2.wipe (σ.set i x) ws).set w none = ((L2.wipe σ ws).set w none).set i x
          rw [ih fun e => hn (List.mem_cons_of_mem _ e), List.set_comm _ _ h1]
      rw [go ws hi, List.set_set]
theorem wipe_wipe (σ : St) (ws : List Nat) : L2.wipe (L2.wipe σ ws) ws = L2.wipe σ ws := by
  refine List.ext_getElem? fun i => ?_
  by_cases hi : i ∈ ws
  · have a : ∀ τ : St, ∀ ws : List Nat, i ∈ ws → (L2.wipe τ ws)[i]? = if i < τ.length then some none else none := fun τ ws => by
      induction ws with
      | nil => intro h; cases h
      | cons w ws ih =>
        intro h
        show ((L2.wipe τ ws).set w none)[i]? = _
        by_cases hw : w = i
        · subst hw
          by_cases hl : w < τ.length
          · rw [if_pos hl, List.getElem?_set_self (by rw [wipe_length]; exact hl)]
          · rw [if_neg hl, List.getElem?_eq_none (by rw [List.length_set, wipe_length]; omega)]
        · rw [List.getElem?_set_ne hw]
          exact ih (by rcases List.mem_cons.mp h with e | e; exact absurd e.symm hw; exact e)
    rw [a _ ws hi, a _ ws hi, wipe_length]
  · have a : ∀ τ : St, ∀ ws : List Nat, i ∉ ws → (L2.wipe τ ws)[i]? = τ[i]? := fun τ ws => by
      induction ws with
      | nil => intro _; rfl
      | cons w ws ih =>
        intro h
        show ((L2.wipe τ ws).set w none)[i]? = _
        rw [List.getElem?_set_ne (fun e => h (by simp [e]))]
        exact ih fun e => h (List.mem_cons_of_mem _ e)
    rw [a _ ws hi]
section
variable {X : Cx} {W : WX} {tg e elt iter : Expr} {es : List Expr} {pos : Pos} {γ : WG} {γs : WGs} {ws : List Nat}
theorem c_name (i : Nat) {x : Str} (hN : X.N.Nodup) (hw : i ∈ ws := by decide) (hi : X.N[i]? = some x := by rfl) (hx : Loc X.env.scope x := by first | exact Or.inl rfl | exact Or.inr rfl) (hf : X.fn x = true ∨ X.env.scope.names.lookup x = some .local := by first | exact .inl rfl | exact .inr rfl) : PG X (.Name x pos) (tGc X.K ws (gdName i)) :=
  PG.imp (pg_name hN hi hx hf) fun v σ H Q ⟨m, G, ss, u, P, M, S, r, h, q⟩ => q _ G _ m H h Ext.refl M (S.set r i) (wipe_set hw)
theorem c_nil : PGs X [] (tGsc X.K ws gdNil) := PGs.imp pgs_nil fun v σ H Q ⟨m, G, ss, us, P, M, S, r, h, q⟩ => by
  obtain ⟨rfl, h⟩ := h
  cases r
  exact ⟨rfl, q ss G σ m H h Ext.refl M S rfl⟩
theorem c_cons (h1 : PG X e (tGc X.K ws γ)) (h2 : PGs X es (tGsc X.K ws γs)) (hs : (assignEach (e :: es) X.env).map (·.2) = assign e X.env :: (assignEach es X.env).map (·.2) := by rfl) : PGs X (e :: es) (tGsc X.K ws (gdCons γ γs)) :=
  PGs.imp (pgs_cons h1 h2 hs) fun vs σ H Q ⟨m, G, ss, us, P, M, S, r, h, q⟩ => by
    unfold gdCons at h
    cases r with
    | nil => exact h.elim
    | cons a r => exact ⟨_, _, rfl, m, G, ss, _, _, M, S, a, h, fun ss1 G1 σ1 m1 H1 p1 e1 M1 S1 w1 => ⟨m1, G1, ss1, _, P, M1, S1, RUs.ext M e1 r, p1, fun ss2 G2 σ2 m2 H2 p2 e2 M2 S2 w2 => q ss2 G2 σ2 m2 H2 p2 (e1.trans e2) M2 S2 (w2.trans w1)⟩⟩
theorem c_tup {k n : Nat} (hc : X.calm = true) (h : PGs X es (tGsc X.K ws γs)) (hn : (assignEach es X.env).length = n := by rfl) (hst : (assignEach es X.env).findIdx? (·.1) = none := by rfl) : PG X (.Tuple es k pos) (tGc X.K ws (gdTup n γs)) :=
  PG.imp (pg_tup hc h hn hst) fun v σ H Q ⟨m, G, ss, u, P, M, S, r, h, q⟩ => by
    unfold gdTup at h
    split at h
    · obtain ⟨a, vs, rfl, ha, ra⟩ := rep_tup r
      exact ⟨a, vs, rfl, ha, by rw [ra.length]; exact h.1, m, G, ss, _, P, M, S, RUs.ofReps ra, h.2, q⟩
    · exact h.elim

/-! ### list comprehensions -/
/-- nothing is raised in a comprehension's block -/
abbrev W0 : WX := fun _ _ _ _ => False
theorem takes0 {X : Cx} : Takes X W0 := fun u s' ⟨a, B, sI, pins, σ, H, cls, d, e, I, nb, up, sky, na, os, ag, w⟩ => w.elim
def lcL (n : Nat) (cur : Cur) (all : List U) (γ : WG) (τ : WT) (ε : WE) (base : SS) : List U → GH → (GH → Prop) → Prop
  | [] => fun G P => cur G = some all ∧ P G
  | u :: us => fun G P => cur G = some all ∧ γ u base G fun ss1 G1 => τ ss1 G1 (fun b G2 => if b = true then ε ss1 G2 (fun y G3 => match G3[n]? with
      | some (.lst acc) => acc.length < sizeLine ∧ lcL n cur all γ τ ε base us (G3.set n (.lst (acc ++ [y]))) P
      | _ => False) noX else lcL n cur all γ τ ε base us G2 P) noX
def eLc (ι : WI) (γ : WG) (τ : WT) (ε : WE) (ws : List Nat) : WE := fun ss G P p => ι ss G (fun cur G1 => match cur G1 with
  | some us => lcL G1.length cur us γ τ ε (wipeU ss ws) us (G1 ++ [.lst []]) fun G2 => P (.r G1.length) G2
  | none => False) p
theorem lcL_cur {n : Nat} {cur : Cur} {all : List U} {γ : WG} {τ : WT} {ε : WE} {base : SS} {us : List U} {G : GH} {P : GH → Prop} (h : lcL n cur all γ τ ε base us G P) : cur G = some all := by
  cases us <;> exact h.1
def tYes' : WT := fun _ G P _ => P true G
theorem p_none : PTs X [] (tT X.K W tYes') := ⟨fun pins s σ H Q I ⟨m, G, ss, P, p, M, S, h, hx, q⟩ => pts_nil.run pins s σ H Q I (q true G m H h Ext.refl M)⟩
theorem p_one {c : Expr} {τ : WT} (h : PT X c (tT X.K W τ)) : PTs X [c] (tT X.K W τ) := pts_one h
abbrev Blk (X : Cx) (scope : Scope) (R : Cx → Prop) : Prop := ∀ (s : Shared) (H : Hp) (C : Addr) (cl : List (Str × Addr)) (fp : List Addr), R (X.blk s H scope (compEnvC scope cl C X.env) fp)
theorem lc_of {ι : WI} {τ : WT} {ε : WE} {σ : St} {H : Hp} {Q : VK} (h : tE X.K W (eLc ι γ τ ε ws) σ H Q) : tLc (tI X.K W ι) (tGc X.K ws γ) (tT X.K W0 τ) (tE X.K W0 ε) ws σ H Q := by
  obtain ⟨m, G, ss, P, p, M, S, h, hx, q⟩ := h
  refine ⟨m, G, ss, _, p, M, S, h, hx, fun cur G1 J m1 H1 p1 e1 M1 it D hD => ?_⟩
  split at p1
  · rename_i us hcur
    have hl := M1.len
    have k0 : ∀ a x, H1 a = some x → (upd H1 D (.lst [])) a = some x := fun a x e => by
      rw [upd_ne (ne_of_none e hD)]; exact e
    have e2 : Ext m1 G1 H1 (m1 ++ [(D, D)]) (G1 ++ [.lst []]) (upd H1 D (.lst [])) := Ext.alloc hl hD k0
    have M2 : Mem X.K (m1 ++ [(D, D)]) (G1 ++ [.lst []]) (upd H1 D (.lst [])) := M1.alloc hD k0 ⟨[], upd_same, .nil⟩
    have S2 : StOk X.K (m1 ++ [(D, D)]) (G1 ++ [.lst []]) (upd H1 D (.lst [])) (wipe σ ws) (wipeU ss ws) := ((S.ext M e1).ext M1 e2).wipe ws
    have hDm : ∀ {m' : MM} {G' : GH} {H' : Hp}, Ext (m1 ++ [(D, D)]) (G1 ++ [.lst []]) (upd H1 D (.lst [])) m' G' H' → m'[G1.length]? = some (D, D) := fun e => by
      obtain ⟨l, rfl⟩ := e.pre
      rw [List.getElem?_append_left (by rw [List.length_append, hl]; simp), ← hl, List.getElem?_append_right (Nat.le_refl _)]
      simp
    refine ⟨fun i k H' => k = us.length - i ∧ ∃ m' G', Mem X.K m' G' H' ∧ Ext (m1 ++ [(D, D)]) (G1 ++ [.lst []]) (upd H1 D (.lst [])) m' G' H' ∧ lcL G1.length cur us γ τ ε (wipeU ss ws) (us.drop i) G' fun G2 => P (.r G1.length) G2,
      ⟨us.length - 0, rfl, _, _, M2, Ext.refl, p1⟩, ?_⟩
    rintro i k H' ⟨rfl, m', G', M', e', h'⟩
    have hcur' := lcL_cur h'
    have ee := e2.trans e'
    cases hu : us[i]? with
    | none =>
      have hi : us.length ≤ i := List.getElem?_eq_none_iff.mp hu
      rw [List.drop_eq_nil_of_le hi] at h'
      exact .inl ⟨it.stop m' G' H' us i ee M' hcur' hi, q _ G' (.ref D) m' H' h'.2 (e1.trans ee) M' ⟨_, hDm e', rfl⟩⟩
    | some u =>
      have hi := (List.getElem?_eq_some_iff.mp hu).1
      have hd : us.drop i = u :: us.drop (i + 1) := by
        rw [List.drop_eq_getElem_cons hi]
        rw [List.getElem?_eq_getElem hi] at hu
        cases hu; rfl
      rw [hd] at h'
      obtain ⟨_, h'⟩ := h'
      obtain ⟨g1, g2⟩ := it.go m' G' H' us i u ee M' hcur' hu
      refine .inr ⟨g1, fun H2 => ∃ m2 G2, Mem X.K m2 G2 H2 ∧ Ext (m1 ++ [(D, D)]) (G1 ++ [.lst []]) (upd H1 D (.lst [])) m2 G2 H2 ∧ lcL G1.length cur us γ τ ε (wipeU ss ws) (us.drop (i + 1)) G2 fun G2 => P (.r G1.length) G2,
        fun H2 z => ⟨us.length - (i + 1), by omega, rfl, z⟩, fun x H2 y => ?_⟩
      obtain ⟨y1, y2, y3⟩ := g2 x H2 y
      refine ⟨m', G', _, u, _, y2, (S2.ext M2 e').ext M' y1, y3, h', fun ss3 G3 σ3 m3 H3 p3 e3 M3 S3 w3 => ⟨by rw [w3, wipe_wipe], m3, G3, ss3, _, _, M3, S3, p3, fun _ _ _ _ _ _ z => z.elim, fun b G4 m4 H4 p4 e4 M4 => ?_⟩⟩
      have e34 := ((e'.trans y1).trans e3).trans e4
      split at p4
      · rename_i hb
        show if b = true then _ else _
        rw [if_pos hb]
        refine ⟨m4, G4, ss3, _, _, M4, S3.ext M3 e4, p4, fun _ _ _ _ _ _ z => z.elim, fun yv G5 v5 m5 H5 p5 e5 M5 r5 => ?_⟩
        have e35 := e34.trans e5
        split at p5
        · rename_i acc hG5
          obtain ⟨hz, p5⟩ := p5
          have hm5 := hDm e35
          obtain ⟨vs, hv, rv⟩ := M5.ok _ _ _ hm5 hG5
          obtain ⟨e6, M6⟩ := setLst M5 hm5 hG5 (rv.app (.cons r5 .nil))
          exact ⟨vs, hv, by rw [rv.length]; exact hz, m5, _, M6, e35.trans e6, p5⟩
        · exact p5.elim
      · rename_i hb
        show if b = true then _ else _
        rw [if_neg hb]
        exact ⟨m4, G4, M4, e34, p4⟩
  · exact p1.elim
theorem r_lc {ifs : List Expr} {scope : Scope} {own : List (Str × Nat)} {ι : WI} {τ : WT} {ε : WE} (hc : X.calm = true) (hN : X.N.Nodup) (ok : BlkOk X.N X.env.scope scope own) (hi : PI X tg iter (tI X.K W ι)) (hg : Blk X scope fun B => PG B tg (tGc X.K (own.map (·.2)) γ))
    (ht : Blk X scope fun B => PTs B ifs (tT X.K W0 τ)) (he : Blk X scope fun B => PE B elt (tE X.K W0 ε)) (hs : ∀ x, foldedSetIterable iter X.env x = pure x := by intro _; rfl) : PE X (.ListComp elt [⟨tg, iter, ifs, 0⟩] scope pos) (tE X.K W (eLc ι γ τ ε (own.map (·.2)))) :=
  (pe_lc hc hN hi ok hg ht he hs).imp fun _ _ _ h => lc_of h
theorem s_setLc (i : Nat) {y : Str} {py spos : Pos} {ifs : List Expr} {scope : Scope} {own : List (Str × Nat)} {ι : WI} {τ : WT} {ε : WE} (hc : X.calm = true) (hN : X.N.Nodup) (ok : BlkOk X.N X.env.scope scope own) (hi : PI X tg iter (tI X.K W ι)) (hg : Blk X scope fun B => PG B tg (tGc X.K (own.map (·.2)) γ))
    (ht : Blk X scope fun B => PTs B ifs (tT X.K W0 τ)) (he : Blk X scope fun B => PE B elt (tE X.K W0 ε)) (hy : X.N[i]? = some y := by rfl) (hyl : X.env.scope.names.lookup y = some .local := by rfl) (hsw : swapsWith (.ListComp elt [⟨tg, iter, ifs, 0⟩] scope pos) (some (.Name y py)) spos.line X.env = pure true := by rfl) (hs : ∀ x, foldedSetIterable iter X.env x = pure x := by intro _; rfl) :
    PS X (.Assign [.Name y py] (.ListComp elt [⟨tg, iter, ifs, 0⟩] scope pos) spos) (tS X.K W (sAsg (eLc ι γ τ ε (own.map (·.2))) (gdName i))) :=
  (ps_setLc hc hN hy hyl hsw hi ok hg ht he hs).imp fun D σ H ⟨m, G, ss, C, M, S, h, o⟩ => lc_of (W := W) ⟨m, G, ss, _, _, M, S, h, o.okX M S, fun u G1 v m1 H1 p1 e1 M1 r1 => o.nx _ G1 _ m1 H1 p1 e1 M1 ((S.ext M e1).set r1 i)⟩
end
end R
/-! ## part RPa -/
/-! The layer R: a comprehension of any kind, by what its turn does to its new object. -/
namespace R
open PySem PySem.Spec
open PyProof.Rows hiding St
open L2
section
variable {X : Cx}
/-- τ knows what σ knows but at ws -/
def Know (ws : List Nat) (σ τ : St) : Prop := τ.length = σ.length ∧ ∀ (j : Nat) (v : V), (wipe σ ws)[j]? = some (some v) → τ[j]? = some (some v)
theorem Know.refl (ws : List Nat) (σ : St) : Know ws σ σ := ⟨rfl, fun j v e => (wipe_some e).1⟩
/-- what a comprehension of any kind asks: u0 the new object's word; tel what is asked of a turn's item, Nx wanted behind it -/
def tComp (wi : TI) (g : TG) (tt : TT) (tel : Addr → St → Hp → (Hp → Prop) → Prop) (u0 : Addr → HO) (ws : List Nat) : TE := fun σ H Q => wi σ H fun J H1 => ∀ D, H1 D = none →
  ∃ W : Nat → Nat → Hp → Prop, (∃ m, W 0 m (upd H1 D (u0 D))) ∧ ∀ i m H, W i m H → (J.stop i H ∧ Q (.ref D) H) ∨ (J.go i H ∧ ∃ Nx : Hp → Prop, (∀ H', Nx H' → ∃ m', m' < m ∧ W (i + 1) m' H') ∧
    ∀ x H', J.yld i H x H' → g x (wipe σ ws) H' fun σ2 H2 => wipe σ2 ws = wipe σ ws ∧ tt σ2 H2 fun b H3 => if b = true then tel D σ2 H3 Nx else Nx H3)
/-- the kind c of comprehension: its new object o0, its turn's item El -/
structure Kind (X : Cx) (c tg : Expr) (ifs : List Expr) (new : Sem Value) (o0 : Obj) (u0 : Addr → HO) (El : Env → Addr → (Shared → Prop) → (Value → Shared → Prop) → Shared → Prop) : Prop where
  made : ∀ {E : Value → Shared → Prop} {Q : Value → Shared → Prop} {s : Shared}, Q (.ref s.heap.objs.size) { s with heap := s.heap.push o0 } → wpAny (model X.prog X.w) X.A new Q E s
  fits : ∀ {H : Hp} {h : Heap}, sysModules < h.objs.size → ObjOk X.prog X.w (upd H h.objs.size (u0 h.objs.size)) (h.push o0) h.objs.size (u0 h.objs.size)
  start : ∀ {it D : Addr} {env : Env} {R : Result → Shared → Prop} {s : Shared}, codeAny (model X.prog X.w) X.A (.compLoop c 0 (.ref it) (.ref D) env) R s →
    wpAny (model X.prog X.w) X.A (pyIter (.ref it)) (fun it' s' => codeAny (model X.prog X.w) X.A (.compLoop c 0 it' (.ref D) env) R s') (notedBy (model X.prog X.w) X.A env fun x s' => R (.error x) s') s → codeAny (model X.prog X.w) X.A (.compStart c 0 (.ref it) (.ref D) env) R s
  loop : ∀ {it D : Addr} {env : Env} {R : Result → Shared → Prop} {s : Shared} (J : Nat → Shared → Prop), (∀ n s, J n s → wpAny (model X.prog X.w) X.A (pyNext (.ref it)) (fun r s₁ => match r with
      | none => R (.ok .next) s₁
      | some v => wpAny (model X.prog X.w) X.A (letOwnedTupleGo tg (.ref it) v) (fun _ s₁' => wpAny (model X.prog X.w) X.A (assign tg env v) (fun _ s₂ => wpAny (model X.prog X.w) X.A (forIn ifs true fun c r => if r = true then do let ok ← isTrue c env (eval c env); pure (ForInStep.yield ok) else pure (ForInStep.yield r))
        (fun ok s₃ => if ok = true then El env D (fun s' => ∃ m, m < n ∧ J m s') (notedBy (model X.prog X.w) X.A env fun e s' => R (.error e) s') s₃ else ∃ m, m < n ∧ J m s₃) (notedBy (model X.prog X.w) X.A env fun e s' => R (.error e) s') s₂) (notedBy (model X.prog X.w) X.A env fun e s' => R (.error e) s') s₁') (notedBy (model X.prog X.w) X.A env fun e s' => R (.error e) s') s₁)
      (notedBy (model X.prog X.w) X.A env fun e s' => R (.error e) s') s) → ∀ n, J n s → codeAny (model X.prog X.w) X.A (.compLoop c 0 (.ref it) (.ref D) env) R s
theorem comp_core {c tg iter : Expr} {ifs : List Expr} {gs : List Comprehension} {scope : Scope} {own : List (Str × Nat)} {cpos : Pos} {new : Sem Value} {o0 : Obj} {u0 : Addr → HO} {El : Env → Addr → (Shared → Prop) → (Value → Shared → Prop) → Shared → Prop} {wi : TI} {g : TG} {tt : TT} {tel : Addr → St → Hp → (Hp → Prop) → Prop}
    {use : Option (Value → Sem Unit)} {Qf : Value → Shared → Prop} {pins : List (Addr × Obj)} {s : Shared} {σ : St} {H : Hp} {Q : VK} (k : Kind X c tg ifs new o0 u0 El) (hcl : clausesOf c = ⟨tg, iter, ifs, 0⟩ :: gs) (ca : X.calm = true) (nd : X.N.Nodup) (I : Inv X pins σ H s) (hi : PI X tg iter wi) (ok : BlkOk X.N X.env.scope scope own)
    (hg : Blk X scope fun B => PG B tg g) (ht : Blk X scope fun B => PTs B ifs tt) (hel : Blk X scope fun B => ∀ (pins : List (Addr × Obj)) (s : Shared) (σ : St) (D : Addr) (H : Hp) (Nx : Hp → Prop) (N : Value → Shared → Prop), Inv B pins σ H s → tel D σ H Nx → El B.env D (fun s' => ∃ τ H', Inv B pins τ H' s' ∧ Know (own.map (·.2)) σ τ ∧ Nx H') N s)
    (mono : ∀ {env : Env} {D : Addr} {Q Q' : Shared → Prop} {N : Value → Shared → Prop} {s : Shared}, El env D Q N s → (∀ s', Q s' → Q' s') → El env D Q' N s)
    (hs : ∀ x, foldedSetIterable iter X.env x = pure x) (h : tComp wi g tt tel u0 (own.map (·.2)) σ H Q) (out : ∀ D C s' m H', Inv X pins σ H' s' → Q (.ref D) H' → s'.heap.Ns C m → FpOk X pins H' C → compPost (model X.prog X.w) X.A X.xe use Qf (.ref D) C (.ok .next) s') :
    wpAny (model X.prog X.w) X.A (comprehension c scope X.env cpos new false (eval iter X.env) use) Qf X.xe s := by
  have hfr : ∀ y ∈ scope.names, y.2 = .free → ∃ a, X.env.cells.lookup y.1 = some a := fun y hy e => (ok.free y hy e).elim (fun z => I.ok.has _ (.inl z)) fun z => I.ok.has _ (.inr z)
  refine wpAny_comprehension_free (use := use) hcl hs (closure_ok hfr) ok.kind (fun y hy e => (ok.uniq y hy).trans (congrArg some e)) (thn (hi.run pins s σ H _ I h) fun _ _ h1 => thn h1 fun _ s2 ⟨it, fp, tn, J, H2, ev, I2, T, st2, f2, q⟩ => ?_)
  subst ev
  refine k.made (newEnv_comp ?_)
  have hDn : H2 s2.heap.objs.size = none := I2.hok.fresh (Nat.le_refl _)
  obtain ⟨W, ⟨m0, w0⟩, turn⟩ := q _ hDn
  have hlt : ∀ b ∈ fp, b < s2.heap.objs.size := fun b hb => let ⟨_, e, _⟩ := T.obj _ _ st2 b hb; Heap.lt_size e
  have I3 : Inv X pins σ (upd H2 s2.heap.objs.size (u0 s2.heap.objs.size)) { s2 with heap := s2.heap.push o0 } := I2.laid (t' := s2.toks) (fun b o e => Heap.get?_push_of_some _ e) (Nat.le_refl _) (k.fits I2.big)
  have f3 : ∀ b ∈ fp, FpOk X pins (upd H2 s2.heap.objs.size (u0 s2.heap.objs.size)) b ∧ b < (s2.heap.push o0).objs.size := fun b hb => ⟨⟨by rw [upd_ne (Nat.ne_of_lt (hlt b hb))]; exact (f2 b hb).1, (f2 b hb).2⟩, by rw [Heap.size_push]; exact Nat.lt_succ_of_lt (hlt b hb)⟩
  have st3 : tn 0 (s2.heap.push o0) := T.keep _ _ _ st2 fun b _ o e => Heap.get?_push_of_some _ e
  have none3 : ∀ b ∈ fp, (upd H2 s2.heap.objs.size (u0 s2.heap.objs.size)) b = none := fun b hb => (f3 b hb).1.1
  generalize hD : s2.heap.objs.size = D at *
  generalize hu : upd H2 D (u0 D) = H3 at *
  generalize h3 : ({ s2 with heap := s2.heap.push o0 } : Shared) = s3 at *
  have hh3 : s2.heap.push o0 = s3.heap := by rw [← h3]
  rw [hh3] at st3 f3
  have I4 := block_start (fp := fp) I3 ok nd f3
  have pg := hg s3 H3 s3.heap.objs.size (cellsFrom (s3.heap.objs.size + 1) scope.names (cloFrom X.env.cells scope.names [])) fp
  have pt := ht s3 H3 s3.heap.objs.size (cellsFrom (s3.heap.objs.size + 1) scope.names (cloFrom X.env.cells scope.names [])) fp
  have pe := hel s3 H3 s3.heap.objs.size (cellsFrom (s3.heap.objs.size + 1) scope.names (cloFrom X.env.cells scope.names [])) fp
  show codeAny _ _ (.compStart c 0 (.ref it) (.ref D) (compEnvC scope (cellsFrom (s3.heap.objs.size + 1) scope.names (cloFrom X.env.cells scope.names [])) s3.heap.objs.size X.env)) (compPost (model X.prog X.w) X.A X.xe use Qf (.ref D) s3.heap.objs.size) _
  generalize hce : compEnvC scope (cellsFrom (s3.heap.objs.size + 1) scope.names (cloFrom X.env.cells scope.names [])) s3.heap.objs.size X.env = ce at I4 pg pt pe ⊢
  have hloc : ce.locals = s3.heap.objs.size := by rw [← hce]; rfl
  generalize h4 : ({ s3 with heap := pushCells (s3.heap.push { cls := .type "dict", data := .dict #[] }) scope.names } : Shared) = s4 at I4 ⊢
  have st4 : tn 0 s4.heap := T.keep _ _ _ st3 fun b _ o e => by rw [← h4]; exact pushCells_keeps _ _ _ _ (Heap.get?_push_of_some _ e)
  -- the walk's own objects, within the block
  have own' : ∀ {τ : St} {F : Hp} {z : Shared}, Inv (X.blk s3 H3 scope ce fp) [] τ F z → (∀ b ∈ fp, F b = none) → ∀ b ∈ fp, FpOk (X.blk s3 H3 scope ce fp) [] F b := fun {τ F z} Iz hn b hb =>
    ⟨hn b hb, (Iz.ok.exf b hb).1, Iz.ok.exfs b hb, .inl hb, fun x a e => (Iz.ok.exf b hb).2 x a e, fun p hp => absurd (show p ∈ ([] : List (Addr × Obj)) ++ [] from hp) (by simp)⟩
  have loop : codeAny (model X.prog X.w) X.A (.compLoop c 0 (.ref it) (.ref D) ce) (compPost (model X.prog X.w) X.A X.xe use Qf (.ref D) s3.heap.objs.size) s4 := by
    refine k.loop (fun n z => ∃ i F, Inv (X.blk s3 H3 scope ce fp) [] (wipe σ (own.map (·.2))) F z ∧ tn i z.heap ∧ (∀ b ∈ fp, F b = none) ∧ W i n F) ?_ m0 ⟨0, H3, I4, st4, none3, w0⟩
    rintro n z ⟨i, F, Iz, sz, nz, wz⟩
    rcases turn i n F wz with ⟨stop, qq⟩ | ⟨go, Nx, hNx, step⟩
    · refine thnF (T.done (X.blk s3 H3 scope ce fp) rfl rfl rfl ca i [] z _ F (fun _ _ => False) Iz (own' Iz nz) sz stop) fun r z2 ⟨hr, Iy⟩ => ?_
      subst hr
      obtain ⟨mm, hn, _⟩ := Iy.loc
      have hn : z2.heap.Ns ce.locals mm := hn
      have nC : F ce.locals = none := Iy.free
      rw [hloc] at hn nC
      exact out D _ z2 mm F (I3.call' (ch := fp) Iy.os Iy.base Iy.hok Iy.bare fun b hb => let ⟨x, _⟩ := f3 b hb; ⟨x.2.2.2.1, x.2.1, x.2.2.2.2.1, x.2.2.2.2.2⟩) qq hn (I3.fpOk (Nat.le_refl _) nC)
    · refine thnF (T.item (X.blk s3 H3 scope ce fp) rfl rfl rfl ca i [] z _ F (fun _ _ => False) Iz (own' Iz nz) sz go) fun r z2 ⟨u, hr, h6⟩ => ?_
      subst hr
      refine thnF h6 fun _ z3 ⟨x, F3, J3, r3, y3, s3', n3⟩ => ?_
      have J3' := J3.pinned (own' J3 n3) (T.obj _ _ s3')
      refine thnF (pg.run _ z3 _ F3 x u _ J3' r3 (step x F3 y3)) fun _ z4 ⟨τ, F4, J4, hw, q4⟩ => ?_
      refine thnF (pt.run _ z4 τ F4 _ J4 q4) fun b z5 ⟨F5, J5, q5⟩ => ?_
      have fin : ∀ {τ' : St} {z' : Shared} {F' : Hp}, Inv (X.blk s3 H3 scope ce fp) ([] ++ pinsAt fp z3.heap) τ' F' z' → Know (own.map (·.2)) τ τ' → Nx F' → ∃ m, m < n ∧ ∃ i F, Inv (X.blk s3 H3 scope ce fp) [] (wipe σ (own.map (·.2))) F z' ∧ tn i z'.heap ∧ (∀ b ∈ fp, F b = none) ∧ W i m F := fun {τ' z' F'} J kn nx => by
        obtain ⟨m', hm, w'⟩ := hNx F' nx
        have stand : ∀ b ∈ fp, ∀ o, z3.heap.get? b = some o → z'.heap.get? b = some o ∧ F' b = none := fun b hb o e =>
          have y := J.pin (b, o) (List.mem_append_right _ (List.mem_append_right _ (mem_pinsAt hb e)))
          ⟨y.1, y.2.1⟩
        refine ⟨m', hm, i + 1, F', (J.unpinned (pins := [])).weak (by rw [kn.1, ← hw, wipe_length]) (fun j v e => ?_), T.keep _ _ _ s3' fun b hb o e => (stand b hb o e).1, fun b hb => ?_, w'⟩
        · rw [← hw] at e
          exact kn.2 j v e
        · obtain ⟨o, e, _⟩ := T.obj _ _ s3' b hb
          exact (stand b hb o e).2
      cases b with
      | false =>
        simp only [Bool.false_eq_true, if_false] at q5 ⊢
        exact fin J5 (Know.refl _ _) q5
      | true =>
        simp only [if_true] at q5 ⊢
        exact mono (pe _ z5 τ D F5 Nx _ J5 q5) fun z6 ⟨τ', F6, J6, kn, nx⟩ => fin J6 kn nx
  exact k.start loop (T.self X.A 0 _ _ _ st4 loop)
end
end R
/-! ## part RPb -/
/-! The layer R: list comprehensions of three clauses. -/
namespace R
open PySem PySem.Spec
open PyProof.Rows hiding St
open L2
abbrev c3 (elt t0 i0 t1 i1 t2 i2 : Expr) (scope : Scope) (pos : Pos) : Expr := .ListComp elt [⟨t0, i0, [], 0⟩, ⟨t1, i1, [], 0⟩, ⟨t2, i2, [], 0⟩] scope pos
section
variable {prog : Program} {w : World} {A : Around} {R : Result → Shared → Prop} {s : Shared} {elt t0 i0 t1 i1 t2 i2 tg it1 : Expr} {scope : Scope} {pos : Pos} {it acc : Value} {env : Env} {k : Nat}
/-- a turn of a clause that isn't the last -/
abbrev TurnOut (elt t0 i0 t1 i1 t2 i2 tg itp nx : Expr) (scope : Scope) (pos : Pos) (k : Nat) (it acc : Value) (env : Env) : Sem Fin := do
  standAt itp.pos
  match ← pyNext it with
  | none => pure (.done .next)
  | some v =>
    letOwnedTupleGo tg it v
    assign tg env v
    let mut ok := true
    for c in ([] : List Expr) do
      if ok then ok ← isTrue c env (eval c env)
    if ok then
      let x ← eval nx env
      standAt nx.pos
      let x ← foldedSetIterable nx env x
      let _ ← runOwn (.compStart (c3 elt t0 i0 t1 i1 t2 i2 scope pos) (k + 1) (← holding [x] (pyIter x)) acc env) env
    again (.compLoop (c3 elt t0 i0 t1 i1 t2 i2 scope pos) k it acc env)
theorem turn3_0 : compTurn (c3 elt t0 i0 t1 i1 t2 i2 scope pos) 0 it acc env = TurnOut elt t0 i0 t1 i1 t2 i2 t0 i0 i1 scope pos 0 it acc env := by rfl
theorem turn3_1 : compTurn (c3 elt t0 i0 t1 i1 t2 i2 scope pos) 1 it acc env = TurnOut elt t0 i0 t1 i1 t2 i2 t1 i1 i2 scope pos 1 it acc env := by rfl
theorem turn3_2 : compTurn (c3 elt t0 i0 t1 i1 t2 i2 scope pos) 2 it acc env = (do
    standAt i2.pos
    match ← pyNext it with
    | none => pure (.done .next)
    | some v =>
      letOwnedTupleGo t2 it v
      assign t2 env v
      let mut ok := true
      for c in ([] : List Expr) do
        if ok then ok ← isTrue c env (eval c env)
      if ok then
        (do let _ ← call (.builtin "list.append") [acc, ← eval elt env])
      again (.compLoop (c3 elt t0 i0 t1 i1 t2 i2 scope pos) 2 it acc env)) := by rfl
/-- the item of a clause that isn't the last: the next clause's own loop -/
def ElOut (prog : Program) (w : World) (A : Around) (c nx : Expr) (k : Nat) (env : Env) (D : Addr) (Q : Shared → Prop) (N : Value → Shared → Prop) (s : Shared) : Prop :=
  wpAny (model prog w) A (eval nx env) (fun x s4 => wpAny (model prog w) A (pyIter x) (fun i s5 => codeAny (model prog w) A (.compStart c (k + 1) i (.ref D) env) (fun r s' => match r with
    | .ok _ => Q s'
    | .error _ => False) s5) N s4) N s
def ElL (prog : Program) (w : World) (A : Around) (elt : Expr) (env : Env) (D : Addr) (Q : Shared → Prop) (N : Value → Shared → Prop) (s : Shared) : Prop :=
  wpAny (model prog w) A (eval elt env) (fun x s4 => wpAny (model prog w) A (call (.builtin "list.append") [.ref D, x]) (fun _ s5 => Q s5) N s4) N s
/-- what a loop's turn asks, its item El -/
abbrev Turns (prog : Program) (w : World) (A : Around) (R : Result → Shared → Prop) (tg : Expr) (it : Value) (env : Env) (J : Nat → Shared → Prop) (El : (Shared → Prop) → (Value → Shared → Prop) → Shared → Prop) : Prop := ∀ n s, J n s → wpAny (model prog w) A (pyNext it) (fun r s₁ => match r with
      | none => R (.ok .next) s₁
      | some v => wpAny (model prog w) A (letOwnedTupleGo tg it v) (fun _ s₁' => wpAny (model prog w) A (assign tg env v) (fun _ s₂ => wpAny (model prog w) A (forIn ([] : List Expr) true fun c r => if r = true then do let ok ← isTrue c env (eval c env); pure (ForInStep.yield ok) else pure (ForInStep.yield r))
        (fun ok s₃ => if ok = true then El (fun s' => ∃ m, m < n ∧ J m s') (notedBy (model prog w) A env fun e s' => R (.error e) s') s₃ else ∃ m, m < n ∧ J m s₃) (notedBy (model prog w) A env fun e s' => R (.error e) s') s₂) (notedBy (model prog w) A env fun e s' => R (.error e) s') s₁') (notedBy (model prog w) A env fun e s' => R (.error e) s') s₁)
      (notedBy (model prog w) A env fun e s' => R (.error e) s') s
theorem loop3_out {itp nx : Expr} {D : Addr} (ht : compTurn (c3 elt t0 i0 t1 i1 t2 i2 scope pos) k it (.ref D) env = TurnOut elt t0 i0 t1 i1 t2 i2 tg itp nx scope pos k it (.ref D) env) (hs : ∀ x, foldedSetIterable nx env x = pure x) (J : Nat → Shared → Prop)
    (turn : Turns prog w A R tg it env J (ElOut prog w A (c3 elt t0 i0 t1 i1 t2 i2 scope pos) nx k env D)) (n : Nat) (h : J n s) : codeAny (model prog w) A (.compLoop (c3 elt t0 i0 t1 i1 t2 i2 scope pos) k it (.ref D) env) R s := by
  refine codeAny_loop rfl J (fun n s hJ => ?_) n h
  show wpAny _ A ((compTurn (c3 elt t0 i0 t1 i1 t2 i2 scope pos) k it (.ref D) env).onRaise (fun x => do noteFrame x env; theTreesLotGoes x)) _ _ s
  refine wpAny_noted ?_
  rw [ht]
  unfold TurnOut
  refine wpAny_bind (wpAny_standAt (wpAny_bind (wpAny_mono (turn n s hJ) (fun r s₁ h₁ => ?_) fun _ _ h' => h')))
  cases r with
  | none => exact wpAny_pure h₁
  | some v =>
    refine wpAny_bind (wpAny_mono h₁ (fun _ s₂ h₂ => ?_) fun _ _ h' => h')
    refine wpAny_bind (wpAny_mono h₂ (fun _ s₃ h₃ => wpAny_bind (wpAny_mono h₃ (fun ok s₄ h₄ => ?_) fun _ _ h' => h')) fun _ _ h' => h')
    cases ok with
    | false => exact wpAny_pure ⟨rfl, h₄⟩
    | true =>
      refine wpAny_bind (wpAny_mono h₄ (fun x s₅ h₅ => ?_) fun _ _ h' => h')
      refine wpAny_bind (wpAny_standAt (wpAny_bind (wpAny_of_eq (hs x) (wpAny_bind (wpAny_holding (wpAny_mono h₅ (fun i s₆ h₆ => ?_) fun _ _ h' => h'))))))
      refine wpAny_bind (wpAny_runOwn ?_)
      rw [Around.mark_none]
      refine codeAny_mono h₆ fun r s' hr => ?_
      cases r with
      | error e => exact hr.elim
      | ok f =>
        first
          | exact wpAny_pure ⟨rfl, hr⟩
          | exact wpAny_bind (wpAny_pure (wpAny_pure ⟨rfl, hr⟩))
theorem loop3_in {D : Addr} (J : Nat → Shared → Prop) (turn : Turns prog w A R t2 it env J (ElL prog w A elt env D)) (n : Nat) (h : J n s) : codeAny (model prog w) A (.compLoop (c3 elt t0 i0 t1 i1 t2 i2 scope pos) 2 it (.ref D) env) R s := by
  refine codeAny_loop rfl J (fun n s hJ => ?_) n h
  show wpAny _ A ((compTurn (c3 elt t0 i0 t1 i1 t2 i2 scope pos) 2 it (.ref D) env).onRaise (fun x => do noteFrame x env; theTreesLotGoes x)) _ _ s
  refine wpAny_noted ?_
  rw [turn3_2]
  refine wpAny_bind (wpAny_standAt (wpAny_bind (wpAny_mono (turn n s hJ) (fun r s₁ h₁ => ?_) fun _ _ h' => h')))
  cases r with
  | none => exact wpAny_pure h₁
  | some v =>
    refine wpAny_bind (wpAny_mono h₁ (fun _ s₂ h₂ => ?_) fun _ _ h' => h')
    refine wpAny_bind (wpAny_mono h₂ (fun _ s₃ h₃ => wpAny_bind (wpAny_mono h₃ (fun ok s₄ h₄ => ?_) fun _ _ h' => h')) fun _ _ h' => h')
    cases ok with
    | false => exact wpAny_pure ⟨rfl, h₄⟩
    | true => exact wpAny_bind (wpAny_bind (wpAny_mono h₄ (fun x s₅ h₅ => wpAny_bind (wpAny_mono h₅ (fun _ s₆ h₆ => wpAny_pure (wpAny_pure ⟨rfl, h₆⟩)) fun _ _ h' => h')) fun _ _ h' => h'))
theorem start3 (hk : k = 1 ∨ k = 2) (h0 : codeAny (model prog w) A (.compLoop (c3 elt t0 i0 t1 i1 t2 i2 scope pos) k it acc env) R s)
    (h : wpAny (model prog w) A (pyIter it) (fun it' s' => codeAny (model prog w) A (.compLoop (c3 elt t0 i0 t1 i1 t2 i2 scope pos) k it' acc env) R s') (notedBy (model prog w) A env fun x s' => R (.error x) s') s) : codeAny (model prog w) A (.compStart (c3 elt t0 i0 t1 i1 t2 i2 scope pos) k it acc env) R s := by
  refine codeAny_of_tree ?_
  show wpAny _ _ ((compStart (c3 elt t0 i0 t1 i1 t2 i2 scope pos) k it acc env).onRaise (fun x => do noteFrame x env; standAt theWindowsPlace)) _ _ s
  refine wpAny_notedAt ?_
  unfold compStart
  rcases hk with rfl | rfl
  all_goals
    show wpAny _ _ (ask >>= _) _ _ s
    refine wpAny_bind (wpAny_askSetting (wpAny_ite ?_))
    split
    · first
        | exact wpAny_bind (wpAny_pure (wpAny_pure (And.intro rfl h0)))
        | exact wpAny_pure (And.intro rfl h0)
    · refine wpAny_bind (wpAny_rule ?_)
      first
        | (show wpAny _ _ (standAt i1.pos >>= _) _ _ s; exact wpAny_bind (wpAny_standAt (wpAny_bind (wpAny_mono h (fun it' s' h' => wpAny_pure (And.intro rfl h')) fun _ _ x => x))))
        | (show wpAny _ _ (standAt i2.pos >>= _) _ _ s; exact wpAny_bind (wpAny_standAt (wpAny_bind (wpAny_mono h (fun it' s' h' => wpAny_pure (And.intro rfl h')) fun _ _ x => x))))
end

/-! ### an inner clause's loop, within the block -/
/-- what an inner clause asks -/
def tIn (wi : TI) (g : TG) (tel : Addr → St → Hp → (Hp → Prop) → Prop) (ws1 : List Nat) : Addr → St → Hp → (Hp → Prop) → Prop := fun D σ H Nx => wi σ H fun J H4 => ∃ W1 : Nat → Nat → Hp → Prop, (∃ m, W1 0 m H4) ∧ ∀ j k H, W1 j k H →
  (J.stop j H ∧ Nx H) ∨ (J.go j H ∧ ∃ Nx1 : Hp → Prop, (∀ H', Nx1 H' → ∃ k', k' < k ∧ W1 (j + 1) k' H') ∧ ∀ x H', J.yld j H x H' → g x (wipe σ ws1) H' fun σ3 H5 => wipe σ3 ws1 = wipe σ ws1 ∧ tel D σ3 H5 Nx1)
theorem Know.of_wipe {ws1 ws : List Nat} (h : ∀ i ∈ ws1, i ∈ ws) (σ : St) : Know ws σ (wipe σ ws1) := ⟨wipe_length _ _, fun j v e => by
  obtain ⟨e1, e2⟩ := wipe_some e
  rw [wipe_out fun z => e2 (h j z)]
  exact e1⟩
section
variable {B : Cx} {c tg nx : Expr} {k : Nat} {wi : TI} {g : TG} {tel : Addr → St → Hp → (Hp → Prop) → Prop} {ws ws1 : List Nat} {El : Env → Addr → (Shared → Prop) → (Value → Shared → Prop) → Shared → Prop}
theorem inner_run (ca : B.calm = true) (hw : ∀ i ∈ ws1, i ∈ ws) (hi : PI B tg nx wi) (hg : PG B tg g)
    (hel : ∀ (pins : List (Addr × Obj)) (s : Shared) (σ : St) (D : Addr) (H : Hp) (Nx : Hp → Prop) (N : Value → Shared → Prop), Inv B pins σ H s → tel D σ H Nx → El B.env D (fun s' => ∃ τ H', Inv B pins τ H' s' ∧ Know ws1 σ τ ∧ Nx H') N s)
    (mono : ∀ {env : Env} {D : Addr} {Q Q' : Shared → Prop} {N : Value → Shared → Prop} {s : Shared}, El env D Q N s → (∀ s', Q s' → Q' s') → El env D Q' N s)
    (loop : ∀ {it D : Addr} {R : Result → Shared → Prop} {s : Shared} (J : Nat → Shared → Prop), Turns B.prog B.w B.A R tg (.ref it) B.env J (El B.env D) → ∀ n, J n s → codeAny (model B.prog B.w) B.A (.compLoop c (k + 1) (.ref it) (.ref D) B.env) R s)
    (start : ∀ {it D : Addr} {R : Result → Shared → Prop} {s : Shared}, codeAny (model B.prog B.w) B.A (.compLoop c (k + 1) (.ref it) (.ref D) B.env) R s → wpAny (model B.prog B.w) B.A (pyIter (.ref it)) (fun it' s' => codeAny (model B.prog B.w) B.A (.compLoop c (k + 1) it' (.ref D) B.env) R s') (notedBy (model B.prog B.w) B.A B.env fun x s' => R (.error x) s') s → codeAny (model B.prog B.w) B.A (.compStart c (k + 1) (.ref it) (.ref D) B.env) R s)
    (hxe : B.xe = fun _ _ => False) (pins : List (Addr × Obj)) (s : Shared) (σ : St) (D : Addr) (H : Hp) (Nx : Hp → Prop) (N : Value → Shared → Prop) (I : Inv B pins σ H s) (h : tIn wi g tel ws1 D σ H Nx) : ElOut B.prog B.w B.A c nx k B.env D (fun s' => ∃ τ H', Inv B pins τ H' s' ∧ Know ws σ τ ∧ Nx H') N s := by
  have r := hi.run pins s σ H _ I h
  rw [hxe] at r
  refine thnF r fun _ s4 h4 => thnF h4 fun _ s5 ⟨it, fp, tn, J, H5, ev, I5, T, st5, f5, W1, ⟨m1, w1⟩, turn⟩ => ?_
  subst ev
  have ownd : ∀ {F : Hp}, (∀ b ∈ fp, F b = none) → ∀ b ∈ fp, FpOk B pins F b := fun hn b hb => ⟨hn b hb, (f5 b hb).2⟩
  have lp : codeAny (model B.prog B.w) B.A (.compLoop c (k + 1) (.ref it) (.ref D) B.env) (fun r s' => match r with
      | .ok _ => ∃ τ H', Inv B pins τ H' s' ∧ Know ws σ τ ∧ Nx H'
      | .error _ => False) s5 := by
    refine loop (fun n z => ∃ j F, Inv B pins (wipe σ ws1) F z ∧ tn j z.heap ∧ (∀ b ∈ fp, F b = none) ∧ W1 j n F) ?_ m1 ⟨0, H5, I5.weak (wipe_length _ _) (fun j v e => (wipe_some e).1), st5, fun b hb => (f5 b hb).1, w1⟩
    rintro n z ⟨j, F, Iz, sz, nz, wz⟩
    rcases turn j n F wz with ⟨stop, nx⟩ | ⟨go, Nx1, hNx, step⟩
    · refine thnF (T.done B rfl rfl rfl ca j pins z _ F (fun _ _ => False) Iz (ownd nz) sz stop) fun r z2 ⟨hr, Iy⟩ => ?_
      subst hr
      exact ⟨wipe σ ws1, F, Iy, Know.of_wipe hw σ, nx⟩
    · refine thnF (T.item B rfl rfl rfl ca j pins z _ F (fun _ _ => False) Iz (ownd nz) sz go) fun r z2 ⟨u, hr, h6⟩ => ?_
      subst hr
      refine thnF h6 fun _ z3 ⟨x, F3, J3, r3, y3, s3', n3⟩ => ?_
      have J3' := J3.pinned (ownd n3) (T.obj _ _ s3')
      have rg := hg.run _ z3 _ F3 x u _ J3' r3 (step x F3 y3)
      rw [hxe] at rg
      refine thnF rg fun _ z4 ⟨τ, F4, J4, hwp, q4⟩ => ?_
      rw [List.forIn_nil]
      refine wpAny_pure ?_
      simp only [if_true]
      refine mono (hel _ z4 τ D F4 Nx1 _ J4 q4) fun z6 ⟨τ', F6, J6, kn, nx1⟩ => ?_
      obtain ⟨m', hm, w'⟩ := hNx F6 nx1
      have stand : ∀ b ∈ fp, ∀ o, z3.heap.get? b = some o → z6.heap.get? b = some o ∧ F6 b = none := fun b hb o e =>
        have y := J6.pin (b, o) (List.mem_append_right _ (List.mem_append_right _ (mem_pinsAt hb e)))
        ⟨y.1, y.2.1⟩
      refine ⟨m', hm, j + 1, F6, J6.unpinned.weak (by rw [kn.1, wipe_length, ← wipe_length τ ws1, hwp, wipe_length]) (fun i v e => ?_), T.keep _ _ _ s3' fun b hb o e => (stand b hb o e).1, fun b hb => ?_, w'⟩
      · rw [← hwp] at e
        exact kn.2 i v e
      · obtain ⟨o, e, _⟩ := T.obj _ _ s3' b hb
        exact (stand b hb o e).2
  exact start lp (T.self B.A 0 _ _ _ st5 lp)
end
end R
/-! ## part RPc -/
/-! The layer R: list comprehensions of three clauses, the reading. -/
namespace R
open PySem PySem.Spec
open PyProof.Rows hiding St
open L2
abbrev WB := SS → GH → (GH → Prop) → Prop
def loopC (cur : Cur) (all : List U) (γ : WG) (base : SS) (body : WB) : List U → GH → (GH → Prop) → Prop
  | [] => fun G P => cur G = some all ∧ P G
  | u :: us => fun G P => cur G = some all ∧ γ u base G fun ss1 G1 => body ss1 G1 fun G2 => loopC cur all γ base body us G2 P
theorem loopC_cur {cur : Cur} {all : List U} {γ : WG} {base : SS} {body : WB} {us : List U} {G : GH} {P : GH → Prop} (h : loopC cur all γ base body us G P) : cur G = some all := by
  cases us <;> exact h.1
/-- an inner clause -/
def wIn (ι : WI) (γ : WG) (ws1 : List Nat) (body : WB) : WB := fun ss G P => ι ss G (fun cur G3 => match cur G3 with
  | some us => loopC cur us γ (wipeU ss ws1) body us G3 P
  | none => False) noX
/-- the last: appended to the n-th object -/
def wApp (n : Nat) (ε : WE) : WB := fun ss G P => ε ss G (fun y G7 => match G7[n]? with
  | some (.lst acc) => acc.length < sizeLine ∧ P (G7.set n (.lst (acc ++ [y])))
  | _ => False) noX
def eLc3 (ι0 : WI) (γ0 : WG) (ι1 : WI) (γ1 : WG) (ι2 : WI) (γ2 : WG) (ε : WE) (ws ws1 ws2 : List Nat) : WE := fun ss G P p => ι0 ss G (fun cur G1 => match cur G1 with
  | some us => loopC cur us γ0 (wipeU ss ws) (wIn ι1 γ1 ws1 (wIn ι2 γ2 ws2 (wApp G1.length ε))) us (G1 ++ [.lst []]) fun G2 => P (.r G1.length) G2
  | none => False) p
/-- what a turn does is what body says -/
def Real (K : PySem.W.Frag) (D : Addr) (n : Nat) (tel : Addr → St → Hp → (Hp → Prop) → Prop) (body : WB) : Prop := ∀ (m0 : MM) (G0 : GH) (H0 : Hp) (m : MM) (G : GH) (H : Hp) (σ : St) (ss : SS) (P : GH → Prop), Ext m0 G0 H0 m G H → Mem K m G H → StOk K m G H σ ss → m[n]? = some (D, D) → body ss G P →
  tel D σ H fun H' => ∃ m' G', Mem K m' G' H' ∧ Ext m0 G0 H0 m' G' H' ∧ P G'
theorem ext_at {m m' : MM} {G G' : GH} {H H' : Hp} {n : Nat} {p : Addr × Addr} (e : Ext m G H m' G' H') (h : m[n]? = some p) : m'[n]? = some p := by
  obtain ⟨l, rfl⟩ := e.pre
  rw [List.getElem?_append_left (List.getElem?_eq_some_iff.mp h).1]
  exact h
theorem turns_of {K : PySem.W.Frag} {J : It} {m1 : MM} {G1 : GH} {H1 : Hp} {cur : Cur} {us : List U} {γ : WG} {base : SS} {body : WB} {ws : List Nat} {σ : St} {D : Addr} {n : Nat} {tel : Addr → St → Hp → (Hp → Prop) → Prop} {P : GH → Prop} (it : ItOk K J m1 G1 H1 cur)
    {m0 m2 : MM} {G0 G2 : GH} {H0 H2 : Hp} (M2 : Mem K m2 G2 H2) (e0 : Ext m0 G0 H0 m2 G2 H2) (e2 : Ext m1 G1 H1 m2 G2 H2) (hD : m2[n]? = some (D, D)) (S : StOk K m2 G2 H2 (wipe σ ws) base) (rl : Real K D n tel body) (h : loopC cur us γ base body us G2 P) :
    ∃ W1 : Nat → Nat → Hp → Prop, (∃ k, W1 0 k H2) ∧ ∀ j k H, W1 j k H → (J.stop j H ∧ ∃ m' G', Mem K m' G' H ∧ Ext m0 G0 H0 m' G' H ∧ P G') ∨ (J.go j H ∧ ∃ Nx1 : Hp → Prop, (∀ H', Nx1 H' → ∃ k', k' < k ∧ W1 (j + 1) k' H') ∧
      ∀ x H', J.yld j H x H' → tGc K ws γ x (wipe σ ws) H' fun σ3 H5 => wipe σ3 ws = wipe σ ws ∧ tel D σ3 H5 Nx1) := by
  refine ⟨fun j k H => k = us.length - j ∧ ∃ m' G', Mem K m' G' H ∧ Ext m2 G2 H2 m' G' H ∧ loopC cur us γ base body (us.drop j) G' P, ⟨us.length - 0, rfl, m2, G2, M2, Ext.refl, h⟩, ?_⟩
  rintro j k H ⟨rfl, m', G', M', e', h'⟩
  have hcur := loopC_cur h'
  have ee := e2.trans e'
  cases hu : us[j]? with
  | none =>
    have hi : us.length ≤ j := List.getElem?_eq_none_iff.mp hu
    rw [List.drop_eq_nil_of_le hi] at h'
    exact .inl ⟨it.stop m' G' H us j ee M' hcur hi, m', G', M', e0.trans e', h'.2⟩
  | some u =>
    have hi := (List.getElem?_eq_some_iff.mp hu).1
    have hd : us.drop j = u :: us.drop (j + 1) := by
      rw [List.drop_eq_getElem_cons hi]
      rw [List.getElem?_eq_getElem hi] at hu
      cases hu; rfl
    rw [hd] at h'
    obtain ⟨_, h'⟩ := h'
    obtain ⟨g1, g2⟩ := it.go m' G' H us j u ee M' hcur hu
    refine .inr ⟨g1, fun H' => ∃ m' G', Mem K m' G' H' ∧ Ext m2 G2 H2 m' G' H' ∧ loopC cur us γ base body (us.drop (j + 1)) G' P, fun H' z => ⟨us.length - (j + 1), by omega, rfl, z⟩, fun x H' y => ?_⟩
    obtain ⟨y1, y2, y3⟩ := g2 x H' y
    refine ⟨m', G', base, u, _, y2, (S.ext M2 e').ext M' y1, y3, h', fun ss3 G3 σ3 m3 H3 p3 e3 M3 S3 w3 => ⟨by rw [w3, wipe_wipe], ?_⟩⟩
    have e13 := (e'.trans y1).trans e3
    exact rl m2 G2 H2 m3 G3 H3 σ3 ss3 _ e13 M3 S3 (ext_at e13 hD) p3
theorem real_in {K : PySem.W.Frag} {D : Addr} {n : Nat} {ι : WI} {γ : WG} {ws1 : List Nat} {tel : Addr → St → Hp → (Hp → Prop) → Prop} {body : WB} (rl : Real K D n tel body) : Real K D n (tIn (tI K W0 ι) (tGc K ws1 γ) tel ws1) (wIn ι γ ws1 body) := by
  intro m0 G0 H0 m G H σ ss P e0 M S hD h
  refine ⟨m, G, ss, _, noX, M, S, h, fun _ _ _ _ _ _ z => z.elim, fun cur G1 J m1 H1 p1 e1 M1 it => ?_⟩
  split at p1
  · rename_i us hcur
    exact turns_of it M1 (e0.trans e1) Ext.refl (ext_at e1 hD) ((S.ext M e1).wipe ws1) rl p1
  · exact p1.elim
def telL (te : TE) : Addr → St → Hp → (Hp → Prop) → Prop := fun D σ H Nx => te σ H fun y H4 => ∃ acc, H4 D = some (.lst acc) ∧ acc.length < sizeLine ∧ Nx (upd H4 D (.lst (acc ++ [y])))
theorem real_app {K : PySem.W.Frag} {D : Addr} {n : Nat} {ε : WE} : Real K D n (telL (tE K W0 ε)) (wApp n ε) := by
  intro m0 G0 H0 m G H σ ss P e0 M S hD h
  refine ⟨m, G, ss, _, noX, M, S, h, fun _ _ _ _ _ _ z => z.elim, fun y G5 v5 m5 H5 p5 e5 M5 r5 => ?_⟩
  split at p5
  · rename_i acc hG5
    obtain ⟨hz, p5⟩ := p5
    have hm5 := ext_at e5 hD
    obtain ⟨vs, hv, rv⟩ := M5.ok _ _ _ hm5 hG5
    obtain ⟨e6, M6⟩ := setLst M5 hm5 hG5 (rv.app (.cons r5 .nil))
    exact ⟨vs, hv, by rw [rv.length]; exact hz, m5, _, M6, (e0.trans e5).trans e6, p5⟩
  · exact p5.elim
section
variable {X : Cx} {W : WX}
theorem kind_list3 {elt t0 i0 t1 i1 t2 i2 : Expr} {scope : Scope} {pos : Pos} (hs : ∀ env x, foldedSetIterable i1 env x = pure x) : Kind X (c3 elt t0 i0 t1 i1 t2 i2 scope pos) t0 [] (newList []) { cls := .type "list", data := .seq ([] : List Value).toArray } (fun _ => .lst []) (ElOut X.prog X.w X.A (c3 elt t0 i0 t1 i1 t2 i2 scope pos) i1 0) where
  made := fun h => wpAny_newObj_type h (by show 0 ≤ sizeLine; decide)
  fits := fun _ => ⟨Nat.zero_le _, [], 0, .nil, Heap.get?_push_size _ rfl⟩
  start := fun h0 h => codeAny_compStart_list h0 h
  loop := fun J turn n h => loop3_out turn3_0 (hs _) J turn n h
theorem mono_out {prog : Program} {w : World} {A : Around} {c nx : Expr} {k : Nat} {env : Env} {D : Addr} {Q Q' : Shared → Prop} {N : Value → Shared → Prop} {s : Shared} (h : ElOut prog w A c nx k env D Q N s) (q : ∀ s', Q s' → Q' s') : ElOut prog w A c nx k env D Q' N s :=
  wpAny_mono h (fun _ _ h => wpAny_mono h (fun _ _ h => codeAny_mono h fun r s' z => by
    cases r with
    | ok f => exact q s' z
    | error e => exact z) fun _ _ z => z) fun _ _ z => z
theorem yes_of {σ : St} {H : Hp} {a b : Hp → Prop} (h : a H) : tYes σ H (fun k H3 => if k = true then a H3 else b H3) := by
  show (if true = true then a H else b H)
  rw [if_pos rfl]
  exact h
theorem r_lc3 {elt t0 i0 t1 i1 t2 i2 : Expr} {scope : Scope} {pos : Pos} {own : List (Str × Nat)} {ι0 ι1 ι2 : WI} {γ0 γ1 γ2 : WG} {ε : WE} (ws1 ws2 : List Nat) (hc : X.calm = true) (hN : X.N.Nodup) (ok : BlkOk X.N X.env.scope scope own) (h0 : PI X t0 i0 (tI X.K W ι0)) (hg0 : Blk X scope fun B => PG B t0 (tGc X.K (own.map (·.2)) γ0))
    (h1 : Blk X scope fun B => PI B t1 i1 (tI X.K W0 ι1)) (hg1 : Blk X scope fun B => PG B t1 (tGc X.K ws1 γ1)) (h2 : Blk X scope fun B => PI B t2 i2 (tI X.K W0 ι2)) (hg2 : Blk X scope fun B => PG B t2 (tGc X.K ws2 γ2)) (he : Blk X scope fun B => PE B elt (tE X.K W0 ε))
    (w1 : ∀ i ∈ ws1, i ∈ own.map (·.2) := by decide) (w2 : ∀ i ∈ ws2, i ∈ ws1 := by decide) (hs : ∀ x, foldedSetIterable i0 X.env x = pure x := by intro _; rfl) (hs1 : ∀ env x, foldedSetIterable i1 env x = pure x := by intro _ _; rfl) (hs2 : ∀ env x, foldedSetIterable i2 env x = pure x := by intro _ _; rfl) :
    PE X (c3 elt t0 i0 t1 i1 t2 i2 scope pos) (tE X.K W (eLc3 ι0 γ0 ι1 γ1 ι2 γ2 ε (own.map (·.2)) ws1 ws2)) := by
  refine ⟨fun pins s σ H Q I ⟨m, G, ss, P, p, M, S, h, hx, q⟩ => ?_⟩
  rw [eval_ListComp]
  have r : tComp (tI X.K W ι0) (tGc X.K (own.map (·.2)) γ0) tYes (tIn (tI X.K W0 ι1) (tGc X.K ws1 γ1) (tIn (tI X.K W0 ι2) (tGc X.K ws2 γ2) (telL (tE X.K W0 ε)) ws2) ws1) (fun _ => .lst []) (own.map (·.2)) σ H Q := by
    refine ⟨m, G, ss, _, p, M, S, h, hx, fun cur G1 J m1 H1 p1 e1 M1 it D hD => ?_⟩
    split at p1
    · rename_i us hcur
      have hl := M1.len
      have k0 : ∀ a x, H1 a = some x → (upd H1 D (.lst [])) a = some x := fun a x e => by
        rw [upd_ne (ne_of_none e hD)]; exact e
      have e2 : Ext m1 G1 H1 (m1 ++ [(D, D)]) (G1 ++ [.lst []]) (upd H1 D (.lst [])) := Ext.alloc hl hD k0
      have M2 : Mem X.K (m1 ++ [(D, D)]) (G1 ++ [.lst []]) (upd H1 D (.lst [])) := M1.alloc hD k0 ⟨[], upd_same, .nil⟩
      have hm : (m1 ++ [(D, D)])[G1.length]? = some (D, D) := by rw [← hl, List.getElem?_append_right (Nat.le_refl _)]; simp
      obtain ⟨W1, w0, turn⟩ := turns_of it M2 Ext.refl e2 hm (((S.ext M e1).ext M1 e2).wipe (own.map (·.2))) (real_in (real_in (real_app (ε := ε)))) p1
      refine ⟨W1, w0, fun i k H' hw => ?_⟩
      rcases turn i k H' hw with ⟨a, m', G', M', e', pp⟩ | ⟨a, Nx, b, c⟩
      · exact .inl ⟨a, q _ G' (.ref D) m' H' pp ((e1.trans e2).trans e') M' ⟨_, ext_at e' hm, rfl⟩⟩
      · refine .inr ⟨a, Nx, b, fun x H2 y => ?_⟩
        obtain ⟨m3, G3, ss3, u, P3, M3, S3, r3, h3, q3⟩ := c x H2 y
        refine ⟨m3, G3, ss3, u, P3, M3, S3, r3, h3, fun ss4 G4 σ4 m4 H4 p4 e4 M4 S4 w4 => ?_⟩
        obtain ⟨z1, z2⟩ := q3 ss4 G4 σ4 m4 H4 p4 e4 M4 S4 w4
        exact ⟨z1, yes_of z2⟩
    · exact p1.elim
  refine comp_core (kind_list3 hs1) rfl hc hN I h0 ok hg0 (fun _ _ _ _ _ => pts_nil) (fun s0 H0 C cl fp => ?_) mono_out hs r fun D C s' m H' I' q hn f => ⟨m, hn, fun h2 sb => ⟨.ref D, H', I'.turned (t' := s'.toks) (fun b o hb e => (sb.2 b hb).trans e) f.1 f.2.1 f.2.2.2.1 f.2.2.2.2.1 f.2.2.2.2.2, rfl, q⟩⟩
  have inner : ∀ (pins : List (Addr × Obj)) (s : Shared) (σ : St) (D : Addr) (H : Hp) (Nx : Hp → Prop) (N : Value → Shared → Prop), Inv (X.blk s0 H0 scope (compEnvC scope cl C X.env) fp) pins σ H s → tIn (tI X.K W0 ι2) (tGc X.K ws2 γ2) (telL (tE X.K W0 ε)) ws2 D σ H Nx →
      ElOut X.prog X.w X.A (c3 elt t0 i0 t1 i1 t2 i2 scope pos) i2 1 (compEnvC scope cl C X.env) D (fun s' => ∃ τ H', Inv (X.blk s0 H0 scope (compEnvC scope cl C X.env) fp) pins τ H' s' ∧ Know ws1 σ τ ∧ Nx H') N s := fun pins s σ D H Nx N I h =>
    inner_run (B := X.blk s0 H0 scope (compEnvC scope cl C X.env) fp) (El := ElL X.prog X.w X.A elt) (tel := telL (tE X.K W0 ε)) hc w2 (h2 s0 H0 C cl fp) (hg2 s0 H0 C cl fp)
      (fun pins s σ D H Nx N I h => thnF ((he s0 H0 C cl fp).run pins s σ H _ I h) fun v s4 ⟨y, H4, I4, r4, acc, hD, hz, nx⟩ => app_ok (X := X.blk s0 H0 scope (compEnvC scope cl C X.env) fp) I4 hD hz r4 fun s5 I5 => ⟨σ, _, I5, Know.refl _ _, nx⟩)
      (fun h q => wpAny_mono h (fun _ _ h => wpAny_mono h (fun _ _ h => q _ h) fun _ _ z => z) fun _ _ z => z) (fun J t n h => loop3_in J t n h) (fun h0 h => start3 (.inr rfl) h0 h) rfl pins s σ D H Nx N I h
  exact fun pins s σ D H Nx N I h => inner_run (B := X.blk s0 H0 scope (compEnvC scope cl C X.env) fp) (El := ElOut X.prog X.w X.A (c3 elt t0 i0 t1 i1 t2 i2 scope pos) i2 1) hc w1 (h1 s0 H0 C cl fp) (hg1 s0 H0 C cl fp) inner mono_out (fun J t n h => loop3_out turn3_1 (hs2 _) J t n h) (fun h0 h => start3 (.inl rfl) h0 h) rfl pins s σ D H Nx N I h
end
end R
/-! ## part RQ -/
/-! The layer R: dict comprehensions, keys flat or tuples of flat ones. -/
namespace R
open PySem PySem.Spec
open PyProof.Rows hiding St
open L2
/-- the heap behind a new dict's d[y] = v: an empty one is of either kind -/
def DPutX (H : Hp) (a : Addr) (y v : V) (H' : Hp) : Prop := DPut H a y v H' ∨ (H a = some (.dK []) ∧ DPut (upd H a (.dT [])) a y v H') ∨ (H a = some (.dT []) ∧ DPut (upd H a (.dK [])) a y v H')
section
variable {X : Cx}
theorem x_dictSet {pins : List (Addr × Obj)} {σ : St} {H H' : Hp} {s : Shared} {E : Value → Shared → Prop} {D : Addr} {y v : V} {u r : Value} {Q : Unit → Shared → Prop} (hu : X.A.units + 64 < cLine) (I : Inv X pins σ H s) (p : DPutX H D y v H') (ry : RelV y u) (rv : RelV v r) (h : ∀ s', Inv X pins σ H' s' → Q () s') : wpAny (model X.prog X.w) X.A (dictSet D u r) Q E s := by
  have go : ∀ {H0 : Hp}, Inv X pins σ H0 s → DPut H0 D y v H' → wpAny (model X.prog X.w) X.A (dictSet D u r) Q E s := fun {H0} I0 g => by
    rcases g with ⟨kvs, k, e, ey, l, eH⟩ | ⟨kvs, k, b, e, ey, eb, l, eH⟩
    · subst ey; subst eH
      exact d_dictSet I0 e l ry rv h
    · subst ey; subst eH
      obtain rfl : u = Value.ref b := ry
      obtain ⟨z, hd, xs, rel, dd⟩ := dt_of I0.hok e
      have lx : (putK kvs k v).length ≤ sizeLine := by have := length_putK kvs k v; omega
      refine wpAny_dictSet_heap (hsz := by rw [← Paired.length rel]; exact z) (show X.A.units < cLine by omega) (key_of I0.hok eb) dd fun h' dd' hs => h _ ?_
      obtain ⟨q, es, ep, hq, h2, h3, h4, _, h5⟩ := dd'
      refine d_write I0 (by rw [e]; exact True.intro) hs ⟨q, hq⟩ ⟨lx, hd, _, (rel.put k eb rv).keeps fun c ys ec => ?_, q, es, ep, hq, h2, h3, h4, h5⟩
      rw [upd_ne (ne_of ec e (fun z => nomatch z))]; exact ec
  rcases p with g | ⟨e, g⟩ | ⟨e, g⟩
  · exact go I g
  · exact go (retagT I e) g
  · exact go (retagK I e) g
/-- what a dict's turn asks -/
def telD (tk tv : TE) : Addr → St → Hp → (Hp → Prop) → Prop := fun D σ H Nx => tk σ H fun y H4 => tv σ H4 fun z H5 => ∃ H6, DPutX H5 D y z H6 ∧ Nx H6
def tDcg (wi : TI) (g : TG) (tt : TT) (tk tv : TE) (ws : List Nat) : TE := tComp wi g tt (telD tk tv) (fun _ => .dK []) ws
def ElD (X : Cx) (kx vx : Expr) (env : Env) (D : Addr) (Q : Shared → Prop) (N : Value → Shared → Prop) (s : Shared) : Prop := wpAny (model X.prog X.w) X.A (eval kx env) (fun kv s4 => wpAny (model X.prog X.w) X.A (eval vx env) (fun vv s5 => wpAny (model X.prog X.w) X.A (dictSet D kv vv) (fun _ s6 => Q s6) N s5) N s4) N s
theorem kind_dict {kx vx tg iter : Expr} {ifs : List Expr} {scope : Scope} {pos : Pos} : Kind X (.DictComp kx vx [⟨tg, iter, ifs, 0⟩] scope pos) tg ifs newDict { cls := .type "dict", data := .dict #[] } (fun _ => .dK []) (ElD X kx vx) where
  made := fun h => wpAny_newObj_type h
  fits := fun hb => dk_empty _ hb
  start := fun h0 h => codeAny_compStart_dict h0 h
  loop := fun J turn n h => compLoop_anyD J turn n h
theorem el_dict {kx vx : Expr} {scope : Scope} {tk tv : TE} {ws : List Nat} (hu : X.A.units + 64 < cLine) (hk : Blk X scope fun B => PE B kx tk) (he : Blk X scope fun B => PE B vx tv) : Blk X scope fun B => ∀ (pins : List (Addr × Obj)) (s : Shared) (σ : St) (D : Addr) (H : Hp) (Nx : Hp → Prop) (N : Value → Shared → Prop), Inv B pins σ H s → telD tk tv D σ H Nx → ElD X kx vx B.env D (fun s' => ∃ τ H', Inv B pins τ H' s' ∧ Know ws σ τ ∧ Nx H') N s :=
  fun s0 H0 C cl fp pins s σ D H Nx N I h => thnF ((hk s0 H0 C cl fp).run pins s σ H _ I h) fun kv s4 ⟨y, H4, I4, r4, h4⟩ => thnF ((he s0 H0 C cl fp).run pins s4 σ H4 _ I4 h4) fun vv s5 ⟨z, H5, I5, r5, H6, p, nx⟩ => x_dictSet (X := X.blk s0 H0 scope (compEnvC scope cl C X.env) fp) hu I5 p r4 r5 fun s6 I6 => ⟨σ, H6, I6, Know.refl _ _, nx⟩
theorem mono_dict {kx vx : Expr} {env : Env} {D : Addr} {Q Q' : Shared → Prop} {N : Value → Shared → Prop} {s : Shared} (h : ElD X kx vx env D Q N s) (q : ∀ s', Q s' → Q' s') : ElD X kx vx env D Q' N s :=
  wpAny_mono h (fun _ _ h => wpAny_mono h (fun _ _ h => wpAny_mono h (fun _ _ h => q _ h) fun _ _ z => z) fun _ _ z => z) fun _ _ z => z
theorem pe_dcg {kx vx tg iter : Expr} {ifs : List Expr} {scope : Scope} {own : List (Str × Nat)} {pos : Pos} {wi : TI} {g : TG} {tt : TT} {tk tv : TE} (hu : X.A.units + 64 < cLine) (hc : X.calm = true) (hN : X.N.Nodup) (hi : PI X tg iter wi) (ok : BlkOk X.N X.env.scope scope own) (hg : Blk X scope fun B => PG B tg g)
    (ht : Blk X scope fun B => PTs B ifs tt) (hk : Blk X scope fun B => PE B kx tk) (he : Blk X scope fun B => PE B vx tv) (hs : ∀ x, foldedSetIterable iter X.env x = pure x) : PE X (.DictComp kx vx [⟨tg, iter, ifs, 0⟩] scope pos) (tDcg wi g tt tk tv (own.map (·.2))) := by
  refine ⟨fun pins s σ H Q I h => ?_⟩
  rw [arm_eval_DictComp]
  exact comp_core kind_dict rfl hc hN I hi ok hg ht (el_dict hu hk he) mono_dict hs h fun D C s' m H' I' q hn f => ⟨m, hn, fun h2 sb => ⟨.ref D, H', I'.turned (t' := s'.toks) (fun b o hb e => (sb.2 b hb).trans e) f.1 f.2.1 f.2.2.2.1 f.2.2.2.2.1 f.2.2.2.2.2, rfl, q⟩⟩
end
section
variable {X : Cx}
/-! ### the reading -/
def putI (n : Nat) (x y : U) (G : GH) (P : GH → Prop) : Prop := match x with
  | .d k => (match G[n]? with
    | some (.dct ds) => keyAsk false ds k ∧ ds.length < sizeLine ∧ P (G.set n (.dct (putD ds k y)))
    | _ => False)
  | _ => False
def dcL (n : Nat) (cur : Cur) (all : List U) (γ : WG) (τ : WT) (κ ε : WE) (base : SS) : List U → GH → (GH → Prop) → Prop
  | [] => fun G P => cur G = some all ∧ P G
  | u :: us => fun G P => cur G = some all ∧ γ u base G fun ss1 G1 => τ ss1 G1 (fun b G2 => if b = true then κ ss1 G2 (fun x G3 => ε ss1 G3 (fun y G4 => putI n x y G4 fun G5 => dcL n cur all γ τ κ ε base us G5 P) noX) noX else dcL n cur all γ τ κ ε base us G2 P) noX
def eDc (ι : WI) (γ : WG) (τ : WT) (κ ε : WE) (ws : List Nat) : WE := fun ss G P p => ι ss G (fun cur G1 => match cur G1 with
  | some us => dcL G1.length cur us γ τ κ ε (wipeU ss ws) us (G1 ++ [.dct []]) fun G2 => P (.r G1.length) G2
  | none => False) p
theorem dcL_cur {n : Nat} {cur : Cur} {all : List U} {γ : WG} {τ : WT} {κ ε : WE} {base : SS} {us : List U} {G : GH} {P : GH → Prop} (h : dcL n cur all γ τ κ ε base us G P) : cur G = some all := by
  cases us <;> exact h.1
/-- a key put into a dict that may change, by values -/
theorem put_dct {K : PySem.W.Frag} {m : MM} {G : GH} {H : Hp} {n : Nat} {p : Addr × Addr} {ds : List (PyData × U)} {k : PyData} {u : U} {yv vv : V} (M : Mem K m G H) (hp : m[n]? = some p) (hG : G[n]? = some (.dct ds)) (ha : keyAsk false ds k) (hz : ds.length < sizeLine) (ry : RU K m G H yv (.d k)) (ru : RU K m G H vv u) :
    ∃ H', DPutX H p.1 yv vv H' ∧ Ext m G H m (G.set n (.dct (putD ds k u))) H' ∧ Mem K m (G.set n (.dct (putD ds k u))) H' := by
  obtain ⟨vs, r, d⟩ := M.ok n p _ hp hG
  have key : KeyV H yv k := keyV_of ry ha.1
  have ext : ∀ o, Ext m G H m (G.set n (.dct (putD ds k u))) (upd H p.1 o) := fun o => Ext.write hp hG rfl fun a ha => upd_ne ha
  have done : ∀ (o : HO), MOk K m (G.set n (.dct (putD ds k u))) (upd H p.1 o) p (.dct (putD ds k u)) → Ext m G H m (G.set n (.dct (putD ds k u))) (upd H p.1 o) ∧ Mem K m (G.set n (.dct (putD ds k u))) (upd H p.1 o) := fun o mo => ⟨ext o, M.write hp hG rfl (fun a ha => upd_ne ha) mo⟩
  rcases d with ⟨es, h1, h2, h3⟩ | ⟨es, h1, h2, h3⟩
  · have len : es.length = ds.length := by have := congrArg List.length h2; simpa using this
    cases key with
    | k k0 =>
      obtain ⟨i1, i2⟩ := put_map kD_eq ru k0 h2 (by rw [h3]; exact r)
      exact ⟨_, .inl (DPut.k h1 (by rw [len]; exact hz)), done (.dK (putK es k0 vv)) ⟨_, RUs.ext M (ext _) i2, .inl ⟨_, upd_same, i1, rfl⟩⟩⟩
    | @t b k0 hb =>
      cases ds with
      | nil =>
        cases es with
        | cons _ _ => cases h2
        | nil =>
          have hne : b ≠ p.1 := ne_of hb h1 (by intro z; cases z)
          have g : DPut (upd H p.1 (.dT [])) p.1 (.ref b) vv (upd (upd H p.1 (.dT [])) p.1 (.dT (putK [] k0 vv))) := DPut.t upd_same (by rw [upd_ne hne]; exact hb) (by show 0 < sizeLine; decide)
          rw [upd_upd] at g
          exact ⟨_, .inr (.inl ⟨h1, g⟩), done (.dT (putK [] k0 vv)) ⟨[vv], .cons (ru.ext M (ext _)) .nil, .inr ⟨_, upd_same, rfl, rfl⟩⟩⟩
      | cons d ds =>
        cases es with
        | nil => cases h2
        | cons e es =>
          rw [List.map_cons, List.map_cons, List.cons.injEq] at h2
          have kk' : isTupD d.1 = true := ha.2
          rw [← h2.1] at kk'
          obtain ⟨pk, pv⟩ := e
          cases pk <;> cases kk'
  · have len : es.length = ds.length := by have := congrArg List.length h2; simpa using this
    cases key with
    | @t b k0 hb =>
      obtain ⟨i1, i2⟩ := put_map tD_eq ru k0 h2 (by rw [h3]; exact r)
      exact ⟨_, .inl (DPut.t h1 hb (by rw [len]; exact hz)), done (.dT (putK es k0 vv)) ⟨_, RUs.ext M (ext _) i2, .inr ⟨_, upd_same, i1, rfl⟩⟩⟩
    | k k0 =>
      cases ds with
      | nil =>
        cases es with
        | cons _ _ => cases h2
        | nil =>
          have g : DPut (upd H p.1 (.dK [])) p.1 (kV k0) vv (upd (upd H p.1 (.dK [])) p.1 (.dK (putK [] k0 vv))) := DPut.k upd_same (by show 0 < sizeLine; decide)
          rw [upd_upd] at g
          exact ⟨_, .inr (.inr ⟨h1, g⟩), done (.dK (putK [] k0 vv)) ⟨[vv], .cons (ru.ext M (ext _)) .nil, .inl ⟨_, upd_same, rfl, rfl⟩⟩⟩
      | cons d ds =>
        cases es with
        | nil => cases h2
        | cons e es =>
          rw [List.map_cons, List.map_cons, List.cons.injEq] at h2
          have kk' : isTupD d.1 = isTupD (kD k0) := ha.2
          rw [← h2.1] at kk'
          cases k0 <;> cases kk'
section
variable {W : WX} {tg iter kx vx : Expr} {pos : Pos} {γ : WG} {ws : List Nat} {ι : WI} {τ : WT} {κ ε : WE}
theorem dc_of {σ : St} {H : Hp} {Q : VK} (h : tE X.K W (eDc ι γ τ κ ε ws) σ H Q) : tDcg (tI X.K W ι) (tGc X.K ws γ) (tT X.K W0 τ) (tE X.K W0 κ) (tE X.K W0 ε) ws σ H Q := by
  obtain ⟨m, G, ss, P, p, M, S, h, hx, q⟩ := h
  refine ⟨m, G, ss, _, p, M, S, h, hx, fun cur G1 J m1 H1 p1 e1 M1 it D hD => ?_⟩
  split at p1
  · rename_i us hcur
    have hl := M1.len
    have k0 : ∀ a x, H1 a = some x → (upd H1 D (.dK [])) a = some x := fun a x e => by
      rw [upd_ne (ne_of_none e hD)]; exact e
    have e2 : Ext m1 G1 H1 (m1 ++ [(D, D)]) (G1 ++ [.dct []]) (upd H1 D (.dK [])) := Ext.alloc hl hD k0
    have M2 : Mem X.K (m1 ++ [(D, D)]) (G1 ++ [.dct []]) (upd H1 D (.dK [])) := M1.alloc hD k0 ⟨[], .nil, .inl ⟨[], upd_same, rfl, rfl⟩⟩
    have S2 : StOk X.K (m1 ++ [(D, D)]) (G1 ++ [.dct []]) (upd H1 D (.dK [])) (wipe σ ws) (wipeU ss ws) := ((S.ext M e1).ext M1 e2).wipe ws
    have hDm : ∀ {m' : MM} {G' : GH} {H' : Hp}, Ext (m1 ++ [(D, D)]) (G1 ++ [.dct []]) (upd H1 D (.dK [])) m' G' H' → m'[G1.length]? = some (D, D) := fun e => by
      obtain ⟨l, rfl⟩ := e.pre
      rw [List.getElem?_append_left (by rw [List.length_append, hl]; simp), ← hl, List.getElem?_append_right (Nat.le_refl _)]
      simp
    refine ⟨fun i k H' => k = us.length - i ∧ ∃ m' G', Mem X.K m' G' H' ∧ Ext (m1 ++ [(D, D)]) (G1 ++ [.dct []]) (upd H1 D (.dK [])) m' G' H' ∧ dcL G1.length cur us γ τ κ ε (wipeU ss ws) (us.drop i) G' fun G2 => P (.r G1.length) G2, ⟨us.length - 0, rfl, _, _, M2, Ext.refl, p1⟩, ?_⟩
    rintro i k H' ⟨rfl, m', G', M', e', h'⟩
    have hcur' := dcL_cur h'
    have ee := e2.trans e'
    cases hu : us[i]? with
    | none =>
      have hi : us.length ≤ i := List.getElem?_eq_none_iff.mp hu
      rw [List.drop_eq_nil_of_le hi] at h'
      exact .inl ⟨it.stop m' G' H' us i ee M' hcur' hi, q _ G' (.ref D) m' H' h'.2 (e1.trans ee) M' ⟨_, hDm e', rfl⟩⟩
    | some u =>
      have hi := (List.getElem?_eq_some_iff.mp hu).1
      have hd : us.drop i = u :: us.drop (i + 1) := by
        rw [List.drop_eq_getElem_cons hi]
        rw [List.getElem?_eq_getElem hi] at hu
        cases hu; rfl
      rw [hd] at h'
      obtain ⟨_, h'⟩ := h'
      obtain ⟨g1, g2⟩ := it.go m' G' H' us i u ee M' hcur' hu
      refine .inr ⟨g1, fun H2 => ∃ m2 G2, Mem X.K m2 G2 H2 ∧ Ext (m1 ++ [(D, D)]) (G1 ++ [.dct []]) (upd H1 D (.dK [])) m2 G2 H2 ∧ dcL G1.length cur us γ τ κ ε (wipeU ss ws) (us.drop (i + 1)) G2 fun G2 => P (.r G1.length) G2,
        fun H2 z => ⟨us.length - (i + 1), by omega, rfl, z⟩, fun x H2 y => ?_⟩
      obtain ⟨y1, y2, y3⟩ := g2 x H2 y
      refine ⟨m', G', _, u, _, y2, (S2.ext M2 e').ext M' y1, y3, h', fun ss3 G3 σ3 m3 H3 p3 e3 M3 S3 w3 => ⟨by rw [w3, wipe_wipe], m3, G3, ss3, _, _, M3, S3, p3, fun _ _ _ _ _ _ z => z.elim, fun b G4 m4 H4 p4 e4 M4 => ?_⟩⟩
      have e34 := ((e'.trans y1).trans e3).trans e4
      split at p4
      · rename_i hb
        show if b = true then _ else _
        rw [if_pos hb]
        have S4 := S3.ext M3 e4
        refine ⟨m4, G4, ss3, _, _, M4, S4, p4, fun _ _ _ _ _ _ z => z.elim, fun xk G5 v5 m5 H5 p5 e5 M5 r5 => ?_⟩
        refine ⟨m5, G5, ss3, _, _, M5, S4.ext M4 e5, p5, fun _ _ _ _ _ _ z => z.elim, fun xv G6 v6 m6 H6 p6 e6 M6 r6 => ?_⟩
        have e36 := (e34.trans e5).trans e6
        have hm6 := hDm e36
        have r5' := r5.ext M5 e6
        unfold putI at p6
        split at p6
        · split at p6
          · rename_i ds hG6
            obtain ⟨⟨k1, k2⟩, hz, hp'⟩ := p6
            obtain ⟨H7, g7, e7, M7⟩ := put_dct M6 hm6 hG6 ⟨k1, k2⟩ hz r5' r6
            exact ⟨H7, g7, m6, _, M7, e36.trans e7, hp'⟩
          · exact p6.elim
        · exact p6.elim
      · rename_i hb
        show if b = true then _ else _
        rw [if_neg hb]
        exact ⟨m4, G4, M4, e34, p4⟩
  · exact p1.elim
theorem r_dc {ifs : List Expr} {scope : Scope} {own : List (Str × Nat)} (hu : X.A.units + 64 < cLine) (hc : X.calm = true) (hN : X.N.Nodup) (ok : BlkOk X.N X.env.scope scope own) (hi : PI X tg iter (tI X.K W ι)) (hg : Blk X scope fun B => PG B tg (tGc X.K (own.map (·.2)) γ))
    (ht : Blk X scope fun B => PTs B ifs (tT X.K W0 τ)) (hk : Blk X scope fun B => PE B kx (tE X.K W0 κ)) (he : Blk X scope fun B => PE B vx (tE X.K W0 ε)) (hs : ∀ x, foldedSetIterable iter X.env x = pure x := by intro _; rfl) :
    PE X (.DictComp kx vx [⟨tg, iter, ifs, 0⟩] scope pos) (tE X.K W (eDc ι γ τ κ ε (own.map (·.2)))) := (pe_dcg hu hc hN hi ok hg ht hk he hs).imp fun _ _ _ h => dc_of h
/-- name = {..}, in the hand layer's words -/
theorem ps_setDcg {i : Nat} {y : Str} {py spos : Pos} {ifs : List Expr} {scope : Scope} {own : List (Str × Nat)} {wi : TI} {g : TG} {tt : TT} {tk tv : TE} (hu : X.A.units + 64 < cLine) (hc : X.calm = true) (hN : X.N.Nodup) (ok : BlkOk X.N X.env.scope scope own) (hi : PI X tg iter wi) (hg : Blk X scope fun B => PG B tg g)
    (ht : Blk X scope fun B => PTs B ifs tt) (hk : Blk X scope fun B => PE B kx tk) (he : Blk X scope fun B => PE B vx tv) (hy : X.N[i]? = some y) (hyl : X.env.scope.names.lookup y = some .local) (hsw : swapsWith (.DictComp kx vx [⟨tg, iter, ifs, 0⟩] scope pos) (some (.Name y py)) spos.line X.env = pure true) (hs : ∀ x, foldedSetIterable iter X.env x = pure x) :
    PS X (.Assign [.Name y py] (.DictComp kx vx [⟨tg, iter, ifs, 0⟩] scope pos) spos) (tAsg (tDcg wi g tt tk tv (own.map (·.2))) (gName i)) := by
  refine ⟨fun pins s σ H D I h' => ?_⟩
  have h' : tDcg wi g tt tk tv (own.map (·.2)) σ H (fun x H1 => gName i x σ H1 D.nx) := h'
  rw [exec_Assign_Name_used _ _ _ _ hsw]
  refine wpAny_bind (wpAny_standAt (wpAny_bind ?_))
  show wpAny _ X.A (do let _ ← comprehension (.DictComp kx vx [⟨tg, iter, ifs, 0⟩] scope pos) scope X.env (firstIterPos [⟨tg, iter, ifs, 0⟩] pos) newDict false (eval iter X.env) (some (assign (.Name y py) X.env))) _ _ s
  refine wpAny_bind (thn (comp_core (Qf := fun _ s' => SP X pins D .next s') kind_dict rfl hc hN I hi ok hg ht (el_dict hu hk he) mono_dict hs h' fun L C s' m H' I' q hn f => ?_) fun _ s' hq => wpAny_pure (wpAny_pure hq))
  show wpAny _ _ (assign (.Name y py) X.env (.ref L)) _ _ _
  refine wpAny_assign_Name (store_ok2 (v := V.ref L) I' hN hy (.inl hyl) rfl (fun s2 I2 ⟨a, sb, ha⟩ => ?_) (.inr hyl))
  have ne : C ≠ a := ha.elim (fun z => by rw [z]; exact f.2.1) fun z e => f.2.2.2.2.1 y a z e.symm
  exact ⟨m, hn.sameBut sb ne, fun h3 sb3 => ⟨_, H', I2.turned (t' := s2.toks) (fun b o hb e => (sb3.2 b hb).trans e) f.1 f.2.1 f.2.2.2.1 f.2.2.2.2.1 f.2.2.2.2.2, q⟩⟩
/-- a name is stored -/
theorem asg_of {i : Nat} {T : TE} {st : Stmt} {φ : WE} (h : PS X st (tAsg T (gName i))) (hT : ∀ σ H Q, tE X.K W φ σ H Q → T σ H Q) : PS X st (tS X.K W (sAsg φ (gdName i))) := h.imp fun D σ H ⟨m, G, ss, C, M, S, h, o⟩ =>
  hT σ H _ ⟨m, G, ss, _, _, M, S, h, o.okX M S, fun u G1 v m1 H1 p1 e1 M1 r1 => o.nx _ G1 _ m1 H1 p1 e1 M1 ((S.ext M e1).set r1 i)⟩
theorem s_setDc (i : Nat) {y : Str} {py spos : Pos} {ifs : List Expr} {scope : Scope} {own : List (Str × Nat)} (hu : X.A.units + 64 < cLine) (hc : X.calm = true) (hN : X.N.Nodup) (ok : BlkOk X.N X.env.scope scope own) (hi : PI X tg iter (tI X.K W ι)) (hg : Blk X scope fun B => PG B tg (tGc X.K (own.map (·.2)) γ))
    (ht : Blk X scope fun B => PTs B ifs (tT X.K W0 τ)) (hk : Blk X scope fun B => PE B kx (tE X.K W0 κ)) (he : Blk X scope fun B => PE B vx (tE X.K W0 ε)) (hy : X.N[i]? = some y := by rfl) (hyl : X.env.scope.names.lookup y = some .local := by rfl) (hsw : swapsWith (.DictComp kx vx [⟨tg, iter, ifs, 0⟩] scope pos) (some (.Name y py)) spos.line X.env = pure true := by rfl) (hs : ∀ x, foldedSetIterable iter X.env x = pure x := by intro _; rfl) :
    PS X (.Assign [.Name y py] (.DictComp kx vx [⟨tg, iter, ifs, 0⟩] scope pos) spos) (tS X.K W (sAsg (eDc ι γ τ κ ε (own.map (·.2))) (gdName i))) := asg_of (ps_setDcg hu hc hN ok hi hg ht hk he hy hyl hsw hs) fun _ _ _ h => dc_of h
end
end
end R
/-! ## part RR -/
/-! The layer R: own __len__, own __eq__, isinstance of own classes, try .. finally. -/
namespace R
open PySem PySem.Spec
open PyProof.Rows hiding St
open L2
/-- what isinstance asks of a class of the text -/
structure InsK (K : PySem.W.Frag) (c : Str) : Prop where
  cls : Cls K (He.ga K c)
  ha : PySem.W.findIn K (.ref (He.ga K c)) "__class__" = some (some (.builtin "object.__class__"))
  hn : PySem.W.specialIn K (.builtin "object.__class__") "__get__" = some (some (.builtin "getset_descriptor.__get__"))
  htk : PySem.W.takesIn K (.builtin "object.__class__") = some true
  hm : PySem.W.mroIn K (He.ga K c) (.type "object") = some true
  self : PySem.W.kitOne K (.ref (He.ga K c)) (.ref (He.ga K c)) = some true
  no : ∀ T ∈ ["NoneType", "bool", "int", "str", "list", "tuple", "dict"], PySem.W.kitOne K (.type T) (.ref (He.ga K c)) = some false
def gAddI : G2 := fun x y G P => match x, y with
  | .d (.int a), .d (.int b) => P (.d (.int (a + b))) G
  | _, _ => False
section
variable {X : Cx} {W : WX} {k n : Nat} {f : Addr} {fd : FuncData} {ps ks : List Str} {sp : SpU} {x c : Str} {p p2 pos : Pos} {e : Expr} {es : List Expr} {α : WA} {φ : WE} {gU : List U → List U → List U}
/-- a def called from somewhere below the running body -/
theorem run_fnA {A : Around} {pins : List (Addr × Obj)} {σ : St} {H : Hp} {s : Shared} {Q : VK} {us ws : List Value} {vs zs : List V} {m : MM} {G : GH} {uu uw : List U} {P : PU} {px : PX} (F : FnG X.prog X.w X.K X.mg X.base k f fd ps sp) (sb : Sub X k A) (hgd : A.guards = some []) (hb : KbU X.K fd ps n ks gU) (tk : Takes X W)
    (I : Inv X pins σ H s) (r : Vals vs us) (rz : Vals zs ws) (M : Mem X.K m G H) (ru : RUs X.K m G H vs uu) (rw' : RUs X.K m G H zs uw) (l1 : uu.length = n) (l2 : uw.length = ks.length) (h : sp (gU uu uw) G P px) (hx : OkX X.K W m G H σ px)
    (q : ∀ (u : U) (G' : GH) (v : V) (m' : MM) (H' : Hp), P u G' → Ext m G H m' G' H' → Mem X.K m' G' H' → RU X.K m' G' H' v u → Q v H') :
    wpAny (model X.prog X.w) A (call (.ref f) us (ks.zip ws)) (EP X pins σ Q) X.xe s := by
  obtain ⟨g, gV, b1, b2, b3⟩ := hb.to
  have a1 := ru.length
  have a2 := rw'.length
  have a3 := r.length
  have a4 := rz.length
  have e0 : Env0 X.prog X.w X.K X.mg X.base A X.stack s H := by
    have e := I.env0
    exact ⟨by rw [sb.fr]; exact e.frames, e.mod, e.bs, e.bsz, e.funs, e.frf, e.hok, e.bare⟩
  refine wpAny_call (codeAny_mono (F.run A X.stack s H ⟨us, ks.zip ws⟩ (g us ws) (gV vs zs) Q (fun c d H' => W c d σ H') sb.room hgd e0 (b1 s us ws I.kIn (by omega) (by omega)) (b2 r rz) ⟨m, G, _, P, px, M, b3 (by omega) (by omega) ru rw', h, q, hx⟩) fun r s' hq => ?_)
  cases r with
  | error e => exact tk _ _ (XE.of_call I (fun _ _ _ z => z) hq)
  | ok fl =>
    cases fl with
    | ret u => exact I.after hq
    | next => exact False.elim hq
    | brk => exact False.elim hq
    | cont => exact False.elim hq
/-- len(x), x an instance of c with an own __len__ -/
def eLenC (c : Str) (sp : SpU) (gU : List U → List U → List U) (α : WA) : WE := fun ss G P p => α ss G (fun us G1 => match us with
  | [.r i] => (match G1[i]? with
    | some (.ins d fs) => d = c ∧ sp (gU [.r i] []) G1 (fun u G2 => match u with
      | .d (.int z) => (0 ≤ z ∧ z < 2 ^ 63) ∧ P (.d (.int z)) G2
      | _ => False) p
    | _ => False)
  | _ => False) p
theorem r_lenC (hs : PySem.W.findIn X.K (.ref (He.ga X.K c)) "__len__" = some (some (.ref f))) (hf : PySem.W.isFn X.K (.ref f) = true) (F : FnG X.prog X.w X.K X.mg X.base k f fd ps sp) (hr : Room (k + 1) X.A) (hgd : X.A.guards = some []) (hb : KbU X.K fd ps 1 [] gU) (tk : Takes X W)
    (hm : X.mg "len" = none) (ha : PA X [e] (tA X.K W α)) (hv : bootBuiltins "len" = some (.builtin "len") := by decide +kernel) (hg : Gl X "len" := by rfl) (he : starEach [e] X.env = (false, eval e X.env) :: starEach [] X.env := by rfl) (hpl : (backTo pos (starEach ([] : List Expr) X.env)).any (·.1) = false := by rfl) :
    PE X (.Call (.Name "len" p) [e] [] pos) (tE X.K W (eLenC c sp gU α)) := by
  refine ⟨fun pins s σ H Q I ⟨m, G, ss, P, px, M, S, h, hx, q⟩ => ?_⟩
  refine wpAny_Call_Name_kw (ld_blt I hg hm hv ?_ (by decide) (by decide))
  refine PyProof.Rows.callWith_builtin1 (thn (ha.run pos pins s σ H (fun vs H1 => ∃ m1 G1 i pp fs, vs = [V.ref pp.1] ∧ m1[i]? = some pp ∧ G1[i]? = some (.ins c fs) ∧ Mem X.K m1 G1 H1 ∧ Ext m G H m1 G1 H1 ∧ sp (gU [.r i] []) G1 (fun u G2 => match u with
      | .d (.int z) => (0 ≤ z ∧ z < 2 ^ 63) ∧ P (.d (.int z)) G2
      | _ => False) px) I ⟨m, G, ss, _, px, M, S, h, hx, fun us G1 vs m1 H1 h1 e1 M1 r1 => ?_⟩) fun us s1 ⟨vs, H1, I1, r1, m1, G1, i, pp, fs, ev, hp, hG, M1, e1, h1⟩ => ?_) he hpl
  · split at h1
    · rename_i i
      split at h1
      · rename_i d fs hG
        obtain ⟨rfl, h1⟩ := h1
        cases r1 with
        | cons a b =>
          cases b
          obtain ⟨pp, hp, rfl⟩ := a
          exact ⟨m1, G1, i, pp, fs, rfl, hp, hG, M1, e1, h1⟩
      · exact h1.elim
    · exact h1.elim
  · subst ev
    obtain ⟨u, rfl, rv⟩ := vals1 r1
    cases rv
    obtain ⟨es, h2, h3, h4⟩ := M1.ok i pp _ hp hG
    obtain ⟨mA, O, _⟩ := ins_get I1.hok h2
    obtain ⟨od, J, _⟩ := O.look
    obtain ⟨m0, hF⟩ := I1.fr
    refine PySem.W.len_K hF I1.ok.mod.kin J hs hf ?_
    refine wpAny_mono (run_fnA (A := X.A.in1) (us := [.ref pp.1]) (vs := [.ref pp.1]) (ks := []) (ws := []) (zs := []) (uu := [.r i]) (Q := fun v H' => ∃ z, v = .int z ∧ (0 ≤ z ∧ z < 2 ^ 63) ∧ Q (.int z) H') F ⟨hr.in1, rfl⟩ hgd hb tk I1 r1 .nil M1 (.cons ⟨pp, hp, rfl⟩ .nil) .nil rfl rfl h1 (hx.ext e1) fun u G' v m' H' pu e' M' r' => ?_) (fun w s' z => ?_) fun _ _ x => x
    · split at pu
      · cases r'
        exact ⟨_, rfl, pu.1, q _ G' _ m' H' pu.2 (e1.trans e') M' (Rep.int _)⟩
      · exact pu.elim
    · obtain ⟨v, H', I', rv', i0, rfl, hz, q'⟩ := z
      obtain ⟨t, rfl⟩ := rv'
      exact ⟨hz, .int i0, H', I'.tok _, ⟨_, rfl⟩, q'⟩

/-! ### == of instances -/
/-- x == y, both instances of c, by c's own __eq__, which gives a truth value -/
def gEqC (c : Str) (sp : SpU) (gU : List U → List U → List U) : G2 := fun x y G P => match x, y with
  | .r i, .r j => (match G[i]?, G[j]? with
    | some (.ins d _), some (.ins d' _) => d = c ∧ d' = c ∧ sp (gU [.r i, .r j] []) G (fun u G2 => match u with
      | .d (.bool b) => P (.d (.bool b)) G2
      | _ => False) noX
    | _, _ => False)
  | _, _ => False
theorem k_eqC (hs : PySem.W.findIn X.K (.ref (He.ga X.K c)) "__eq__" = some (some (.ref f))) (hf : PySem.W.isFn X.K (.ref f) = true) (F : FnG X.prog X.w X.K X.mg X.base k f fd ps sp) (hr : Room k X.A) (hgd : X.A.guards = some []) (hb : KbU X.K fd ps 2 [] gU) (tk : Takes X W) :
    OpR X (compareOp .Eq) (rG2 X.K (gEqC c sp gU)) := by
  intro pins s σ H x y v u Q I rx ry ⟨m, G, a, b, P, M, ra, rb, hg, q⟩
  unfold gEqC at hg
  split at hg
  · rename_i i j
    split at hg
    · rename_i d fs d' gs hGi hGj
      obtain ⟨rfl, rfl, hg⟩ := hg
      obtain ⟨pp, hp, rfl⟩ := ra
      obtain ⟨pq, hq, rfl⟩ := rb
      cases rx
      cases ry
      obtain ⟨es, h2, h3, h4⟩ := M.ok i pp _ hp hGi
      obtain ⟨es', h2', h3', h4'⟩ := M.ok j pq _ hq hGj
      obtain ⟨mA, O, _⟩ := ins_get I.hok h2
      obtain ⟨mB, O', _⟩ := ins_get I.hok h2'
      obtain ⟨od, J, _⟩ := O.look
      obtain ⟨od', J', _⟩ := O'.look
      obtain ⟨m0, hF⟩ := I.fr
      show wpAny (model X.prog X.w) X.A (richCompare .Eq (.ref pp.1) (.ref pq.1)) (EP X pins σ Q) X.xe s
      refine PySem.W.cmp_K (op := .Eq) (tb := .ref _) hr.units0 hF I.ok.mod.kin J J'.type (by simp [PySem.W.notFirst]) hs hf ?_
      refine wpAny_mono (run_fnA (A := X.A) (us := [.ref pp.1, .ref pq.1]) (vs := [.ref pp.1, .ref pq.1]) (ks := []) (ws := []) (zs := []) (uu := [.r i, .r j]) (W := W) (Q := fun v H' => ∃ z, v = .bl z ∧ Q (.bl z) H') F ⟨hr, rfl⟩ hgd hb tk I (.cons rfl (.cons rfl .nil)) .nil M (.cons ⟨pp, hp, rfl⟩ (.cons ⟨pq, hq, rfl⟩ .nil)) .nil rfl rfl hg (fun _ _ _ _ _ _ z => z.elim) fun u G' v m' H' pu e' M' r' => ?_) (fun w s' z => ?_) fun _ _ x => x
      · split at pu
        · cases r'
          exact ⟨_, rfl, q _ G' _ m' H' pu e' M' (Rep.bl _)⟩
        · exact pu.elim
      · obtain ⟨v, H', I', rv', b, rfl, q'⟩ := z
        cases rv'
        exact ⟨.bl b, H', I', rfl, q'⟩
    · exact hg.elim
  · exact hg.elim

/-! ### isinstance of own classes -/
def eIsC (c : Str) (a : WE) : WE := fun ss G P p => a ss G (fun x G1 => match x with
  | .d _ => P (.d (.bool false)) G1
  | .r n => (match G1[n]? with
    | some (.ins d _) => d = c ∧ P (.d (.bool true)) G1
    | _ => False)
  | _ => False) p
theorem r_isC (K0 : InsK X.K c) (h1 : X.mg "isinstance" = none) (h2 : X.mg c = some (.ref (He.ga X.K c))) (hk : PySem.W.keepIn X.K (.ref (He.ga X.K c)) = true) (ha : PE X e (tE X.K W φ)) (hg1 : Gl X "isinstance" := by rfl) (hg2 : Gl X c := by rfl) (hn : c ≠ "__name__" := by decide) (hdb : (c == ("__debug__" : Str)) = false := by decide)
    (he : starEach [e, .Name c p2] X.env = (false, eval e X.env) :: starEach [.Name c p2] X.env := by rfl) (he2 : starEach [Expr.Name c p2] X.env = (false, eval (.Name c p2) X.env) :: starEach [] X.env := by rfl) (hpl : (backTo pos (starEach [Expr.Name c p2] X.env)).any (·.1) = false := by rfl) :
    PE X (.Call (.Name "isinstance" p) [e, .Name c p2] [] pos) (tE X.K W (eIsC c φ)) :=
  (pe_callB call_isZ hg1 h1 (by decide +kernel) (pa_cons ha (pa_cons (pe_glob (v := .ref (He.ga X.K c)) hg2 h2 rfl hdb) pa_nil he2) he) (by decide) (by decide) he hpl).imp fun σ H Q ⟨m, G, ss, P, px, M, S, h, hx, q⟩ => by
    refine ⟨m, G, ss, _, px, M, S, h, hx, fun u G1 v m1 H1 p1 e1 M1 r1 => ?_⟩
    split at p1
    · rename_i x
      exact ⟨v, .ref _, _, _, false, rfl, .own _, tyX_of r1, K0.no (tyName x) (by cases x <;> simp [tyName]), q _ G1 _ m1 H1 p1 e1 M1 (Rep.bl _)⟩
    · rename_i i
      split at p1
      · rename_i d fs hG
        obtain ⟨rfl, p1⟩ := p1
        obtain ⟨pp, hp, rfl⟩ := r1
        obtain ⟨es, h2, h3, h4⟩ := M1.ok i pp _ hp hG
        exact ⟨_, .ref _, _, _, true, rfl, .own _, .inl (.base (.ins h2 K0.cls K0.ha K0.hn K0.htk K0.hm)), K0.self, q _ G1 _ m1 H1 p1 e1 M1 (Rep.bl _)⟩
      · exact p1.elim
    · exact p1.elim

/-! ### try .. finally, when nothing is raised -/
def sFin (ψ χ : WS) : WS := fun ss G C => ψ ss G { nx := fun ss1 G1 => χ ss1 G1 { C with ex := fun _ _ _ => False }, rt := fun _ _ => False }
theorem s_fin {body : List Stmt} {f0 : Stmt} {fs : List Stmt} {ψ χ : WS} (hb : PSs X.nox body (tS X.K W0 ψ)) (hf : PSs X.nox (f0 :: fs) (tS X.K W0 χ)) : PS X (.Try body [] [] (f0 :: fs) pos) (tS X.K W (sFin ψ χ)) := by
  refine ⟨fun pins s σ H D I ⟨m, G, ss, C, M, S, h, o⟩ => ?_⟩
  refine wpAny_Try_finally (wpAny_mono (hb.run pins s σ H { nx := fun σ1 H1 => ∃ m1 G1 ss1, Mem X.K m1 G1 H1 ∧ StOk X.K m1 G1 H1 σ1 ss1 ∧ Ext m G H m1 G1 H1 ∧ χ ss1 G1 { C with ex := fun _ _ _ => False }, rt := fun _ _ => False } (I.wish _) ⟨m, G, ss, _, M, S, h, ⟨fun ss1 G1 σ1 m1 H1 p e M1 S1 => ⟨m1, G1, ss1, M1, S1, e, p⟩, fun _ _ _ _ _ z => z.elim, fun _ _ _ _ _ z => z.elim, fun _ _ _ _ _ z => z.elim, fun _ _ _ _ _ _ _ _ z => z.elim⟩⟩) (fun fl s1 q => ?_) fun _ _ z => False.elim z)
  cases fl with
  | ret u => obtain ⟨_, _, _, _, _, z⟩ := q; exact z.elim
  | brk => obtain ⟨_, _, _, z⟩ := q; exact z.elim
  | cont => obtain ⟨_, _, _, z⟩ := q; exact z.elim
  | next =>
    obtain ⟨σ1, H1, I1, m1, G1, ss1, M1, S1, e1, hχ⟩ := q
    refine wpAny_execs_nil ?_
    refine wpAny_mono (hf.run pins s1 σ1 H1 D I1 ⟨m1, G1, ss1, _, M1, S1, hχ, ⟨fun ss2 G2 σ2 m2 H2 p e M2 S2 => o.nx ss2 G2 σ2 m2 H2 p (e1.trans e) M2 S2, fun u G2 v m2 H2 p e M2 r => o.rt u G2 v m2 H2 p (e1.trans e) M2 r, fun ss2 G2 σ2 m2 H2 p e M2 S2 => o.bk ss2 G2 σ2 m2 H2 p (e1.trans e) M2 S2, fun ss2 G2 σ2 m2 H2 p e M2 S2 => o.ct ss2 G2 σ2 m2 H2 p (e1.trans e) M2 S2, fun _ _ _ _ _ _ _ _ z => z.elim⟩⟩) (fun g s2 z => ?_) fun _ _ z => False.elim z
    have z' := z.unwish
    cases g with
    | next => exact z'
    | ret u => exact z'
    | brk => exact z'
    | cont => exact z'

/-! ### in place -/
theorem k_iadd : OpR X (inplaceOp .Add) (rG2 X.K gAddI) := lift_int0 (d := fun i j => .int (i + j)) (fun _ _ _ _ => .int _) (fun x y G P h => by
  unfold gAddI at h
  split at h
  · exact ⟨_, _, rfl, rfl, h⟩
  · exact h.elim) iop_add
theorem k_isub : OpR X (inplaceOp .Sub) (rG2 X.K gSub) := lift_int0 (d := fun i j => .int (i - j)) (fun _ _ _ _ => .int _) (fun x y G P h => by
  unfold gSub at h
  split at h
  · exact ⟨_, _, rfl, rfl, h⟩
  · exact h.elim) iop_sub
end
end R
/-! ## part RS -/
/-! The layer R: how arguments come to parameters; the head's facts; the end. -/
namespace R
open PySem PySem.Spec
open PyProof.Rows hiding St
open L2
theorem vals_app : ∀ {vs ws : List V} {us xs : List Value}, Vals vs us → Vals ws xs → Vals (vs ++ ws) (us ++ xs)
  | _, _, _, _, .nil, s => s
  | _, _, _, _, .cons h r, s => .cons h (vals_app r s)
section
variable {K : PySem.W.Frag} {x qual : Str} {params : Arguments} {body : List Stmt} {scope : Scope} {kws : List (Str × V)} {f : Addr} {fd : FuncData} {ps ks : List Str}
/-- every parameter by place -/
theorem KbU.pos (n : Nat) (hn : n = ps.length) (F : FunD K x qual params body scope [] kws f fd)
    (h : ∀ (kV doc pm : Value) (an : Option Addr) (cdv ct : Value) (us : List Value), us.length = ps.length → bindArgs (PySem.W.fnOf x qual params body scope .none kV doc pm an cdv ct) ⟨us, []⟩ = pure (ps.zip us)) : KbU K fd ps n [] fun us _ => us :=
by
  refine ⟨⟨fun us _ => us, fun vs _ => vs, fun s us ws X l1 l2 => ?_, fun r _ => r, fun _ _ r _ => r⟩⟩
  cases ws with
  | nil => exact FunD.bindsA F h s us (l1.trans hn)
  | cons _ _ => cases l2
/-- n by place, the keyword-only ones by name, all of them -/
theorem KbU.kw (n : Nat) (hk : kws ≠ []) (F : FunD K x qual params body scope [] kws f fd)
    (h : ∀ (D : Addr) (doc pm : Value) (an : Option Addr) (cdv ct : Value) (us ws : List Value), us.length = n → ws.length = ks.length → bindArgs (PySem.W.fnOf x qual params body scope .none (.ref D) doc pm an cdv ct) ⟨us, ks.zip ws⟩ = pure (ps.zip (us ++ ws))) : KbU K fd ps n ks fun us ws => us ++ ws := by
  obtain ⟨mv, B⟩ := FunD.kbinds0 (ps := ps) F n ks [] (fun a b c => a ++ b ++ c) hk (fun _ hq => nomatch hq) (fun a b c => vals_app (vals_app a b) c) fun D doc pm an cdv ct us mv ws l1 l2 l3 => by
    cases mv with
    | nil =>
      have e := h D doc pm an cdv ct us ws l1 l3
      show bindArgs _ _ = pure (ps.zip (us ++ [] ++ ws))
      rw [List.append_nil]
      exact e
    | cons _ _ => cases l2
  refine ⟨⟨_, _, fun s us ws X l1 l2 => B.to s us ws X l1 l2, fun r1 r2 => B.rel r1 r2, fun l1 l2 r1 r2 => ?_⟩⟩
  show RUs K _ _ _ (_ ++ [] ++ _) _
  rw [List.append_nil]
  exact r1.app r2
/-- n by place, the keyword-only ones left out -/
theorem KbU.dfl (n : Nat) (us0 : List U) (hk : kws ≠ []) (F : FunD K x qual params body scope [] kws f fd) (hr : ∀ (m : MM) (G : GH) (H : Hp), RUs K m G H (kws.map (·.2)) us0)
    (h : ∀ (D : Addr) (doc pm : Value) (an : Option Addr) (cdv ct : Value) (us mv : List Value), us.length = n → mv.length = kws.length → KwChain D ((kws.map (·.1)).zip mv) (bindArgs (PySem.W.fnOf x qual params body scope .none (.ref D) doc pm an cdv ct) ⟨us, []⟩) (ps.zip (us ++ mv))) : KbU K fd ps n [] fun us _ => us ++ us0 := by
  obtain ⟨mv, B⟩ := FunD.kbinds0 (ps := ps) F n [] kws (fun a b c => a ++ b ++ c) hk (fun _ hq => hq) (fun a b c => vals_app (vals_app a b) c) fun D doc pm an cdv ct us mv ws l1 l2 l3 => by
    cases ws with
    | nil =>
      have e := h D doc pm an cdv ct us mv l1 l2
      show KwChain D _ _ (ps.zip (us ++ mv ++ []))
      rw [List.append_nil]
      exact e
    | cons _ _ => cases l3
  refine ⟨⟨_, _, fun s us ws X l1 l2 => B.to s us ws X l1 l2, fun r1 r2 => B.rel r1 r2, fun {m G H vs zs us ws} l1 l2 r1 r2 => ?_⟩⟩
  cases r2 with
  | nil =>
    show RUs K _ _ _ (_ ++ _ ++ []) _
    rw [List.append_nil]
    exact r1.app (hr _ _ _)
  | cons _ _ => cases l2
end

/-! ### the head's facts -/
/-- further facts of the written part -/
def smB (K : PySem.W.Frag) : Bool := match K.lookup sysModules with
  | some o => decide (o.cls = .type "dict")
  | none => false
theorem smB_ok {K : PySem.W.Frag} (h : smB K = true) : SM K := by
  unfold smB at h
  split at h
  · rename_i o e
    exact ⟨o, e, of_decide_eq_true h⟩
  · cases h
def insB (K : PySem.W.Frag) (c : Str) : Bool :=
  He.eqO (PySem.W.findIn K (.ref (He.ga K c)) "__class__") (some (some (.builtin "object.__class__"))) && (decide (PySem.W.specialIn K (.builtin "object.__class__") "__get__" = some (some (.builtin "getset_descriptor.__get__"))) && (decide (PySem.W.takesIn K (.builtin "object.__class__") = some true) &&
    (decide (PySem.W.mroIn K (He.ga K c) (.type "object") = some true) && (decide (PySem.W.kitOne K (.ref (He.ga K c)) (.ref (He.ga K c)) = some true) && ["NoneType", "bool", "int", "str", "list", "tuple", "dict"].all fun T => decide (PySem.W.kitOne K (.type T) (.ref (He.ga K c)) = some false)))))
theorem insB_ok {K : PySem.W.Frag} {c : Str} (C : Cls K (He.ga K c)) (h : insB K c = true) : InsK K c := by
  unfold insB at h
  obtain ⟨h1, h⟩ := He.ba h
  obtain ⟨h2, h⟩ := He.ba h
  obtain ⟨h3, h⟩ := He.ba h
  obtain ⟨h4, h⟩ := He.ba h
  obtain ⟨h5, h6⟩ := He.ba h
  exact ⟨C, He.eqO_ok h1, of_decide_eq_true h2, of_decide_eq_true h3, of_decide_eq_true h4, of_decide_eq_true h5, fun T hT => of_decide_eq_true (List.all_eq_true.mp h6 T hT)⟩
/-- an own special method -/
def spcB (K : PySem.W.Frag) (c n : Str) : Bool := He.eqO (PySem.W.findIn K (.ref (He.ga K c)) n) (some (some (.ref (He.ma K (He.ga K c) n)))) && PySem.W.isFn K (.ref (He.ma K (He.ga K c) n))
theorem spcB_ok {K : PySem.W.Frag} {c n : Str} (h : spcB K c n = true) : PySem.W.findIn K (.ref (He.ga K c)) n = some (some (.ref (He.ma K (He.ga K c) n))) ∧ PySem.W.isFn K (.ref (He.ma K (He.ga K c) n)) = true := ⟨He.eqO_ok (He.ba h).1, (He.ba h).2⟩
/-- an empty tuple of the written part -/
def tup0B (K : PySem.W.Frag) (a : Addr) : Bool := match K.lookup a with
  | some ⟨.type c, _, .seq its _, _⟩ => decide (c = "tuple") && decide (its.toList = [])
  | _ => false
theorem tup0B_ok {K : PySem.W.Frag} {a : Addr} (h : tup0B K a = true) : SqT K (fun _ => none) a [] := by
  unfold tup0B at h
  split at h
  · rename_i c d its n sl e
    obtain ⟨h1, h2⟩ := He.ba h
    have e1 := of_decide_eq_true h1
    have e2 := of_decide_eq_true h2
    have sz : its.size = 0 := by rw [← Array.length_toList, e2]; rfl
    refine .inr ⟨_, its, n, e, by rw [e1], rfl, by rw [sz]; exact Nat.zero_le _, ?_⟩
    rw [e2]
    exact .nil
  · cases h
/-- a keyword-only default, if it is an object -/
def kwdAt (f : Str × Option Str) (x : Str) (K : PySem.W.Frag) : Addr := match K.lookup (He.fAd K f) with
  | some ⟨_, _, .func fd, _⟩ => (match fd.kwdefaults with
    | .ref D => (match PySem.W.nsIn K D x with
      | some (some (.ref a)) => a
      | _ => 0)
    | _ => 0)
  | _ => 0
abbrev Ex : Type := PySem.W.Frag → Bool
def obsR (ex : Ex) (fa : List He.Fa) (fn : List He.DefD) (K : PySem.W.Frag) : Bool × He.AlD := (ex K, He.obsD fa fn K)
def valR (fn : List He.DefD) : Bool × He.AlD := (true, He.valD fn)
def SaysR (ex : Ex) (fa : List He.Fa) (fn : List He.DefD) (K : PySem.W.Frag) : Prop := ex K = true ∧ He.SaysD fa fn K
def obsRG (n : Nat) (ex : Ex) (fa : List He.Fa) (fn : List He.DefD) (g : Addr → Option Obj) : Bool × He.AlD := obsR ex fa fn (He.frG g (sysModules :: He.asD g n))
def hookR (n : Nat) (ex : Ex) (fa : List He.Fa) (fn : List He.DefD) : PySem.W.Hook where
  α := Bool × He.AlD
  obs := fun s => obsRG n ex fa fn s.heap.get?
  val := fun _ => valR fn
  says := fun _ h => ∃ K : PySem.W.Frag, K.In h ∧ SaysR ex fa fn K
  of := fun _ _ e => ⟨_, He.frG_in, congrArg (fun z : Bool × He.AlD => z.1) e, congrArg (fun z : Bool × He.AlD => z.2) e⟩
  keeps := fun _ _ _ ⟨K, hK, c⟩ k => ⟨K, PySem.W.Frag.In.keeps hK k, c⟩
theorem obsRG_eq {n : Nat} {ex : Ex} {fa : List He.Fa} {fn : List He.DefD} {g : Addr → Option Obj} {s : Shared} (h : ∀ a, g a = s.heap.get? a) : obsRG n ex fa fn g = (hookR n ex fa fn).obs s := by
  have e : g = s.heap.get? := funext h
  rw [e] <;> rfl

/-! ### the end -/
section
variable {P : Program} {w : World} {K : PySem.W.Frag} {mg mb : Str → Option Value} {k : Nat} {fa a : Addr} {fd : FuncData} {x : Str} {sp : SpU} {s₁ : Shared} {vs : List Value} {ns : List Int}
/-- what the law's def is asked: the script as it stands, True wanted, nothing raised -/
abbrev LawSp (sp : SpU) (ns : List Int) : Prop := sp [.k (.list (ns.map PyData.int))] [] (fun u _ => u = .d (.bool true)) noX
theorem repK_ints (K : PySem.W.Frag) (H : Hp) {b : Addr} {ns : List Int} (h : (∃ o, H b = some (.frz o (.lst (ns.map V.int)))) ∨ SqL K (fun _ => none) b (ns.map V.int)) : RepK K H (.ref b) (.list (ns.map PyData.int)) := by
  refine .lst h (by simp) fun i v y hv hy => ?_
  rw [List.getElem?_map] at hv hy
  cases hn : ns[i]? with
  | none => rw [hn] at hv; cases hv
  | some n =>
    rw [hn] at hv hy
    cases hv; cases hy
    exact .int n
/-- from a heap where nothing but perhaps the script is tracked -/
theorem law_core {H : Hp} (KX : K.In s₁.heap) (hns : s₁.heap.Ns mainGlobals mg) (hb : s₁.heap.Ns builtinsNs mb) (hbb : ∀ x : Str, x ≠ "__name__" → mb x = bootBuiltins x) (hlim : s₁.heap.NoLimit) (hg : s₁.gens = #[]) (hr : Room k callerA)
    (F : ∀ base : Heap, K.In base → base.Ns mainGlobals mg → FnG P w K mg base k fa fd [x] sp) (hbind : ∀ (s : Shared) (u : Value), BindsTo s fd ⟨[u], []⟩ [(x, u)]) (hsp : LawSp sp ns)
    (hrep : RepK K H (.ref a) (.list (ns.map PyData.int))) (hok : HOk P w H s₁.heap) (hone : ∀ b u, H b = some u → b = a ∧ ∃ o xs, u = .frz o (.lst xs) ∧ K.lookup a = none ∧ ∀ ob, s₁.heap.get? a = some ob → ∀ es ep, ob.data ≠ .dict es ep) :
    codeAny (model P w) callerA (.call (.ref fa) ⟨[.ref a], []⟩) (fun r s' => r = .ok (.ret (.bool true)) ∧ OldK s₁.heap s'.heap ∧ s'.os = s₁.os ∧ AllBare s'.gens) s₁ := by
  have free : ∀ {b : Addr} {o : Obj}, s₁.heap.get? b = some o → (∃ es ep, o.data = .dict es ep) → H b = none := fun {b o} e ⟨es, ep, d⟩ => by
    cases q : H b with
    | none => rfl
    | some u =>
      obtain ⟨rfl, _, _, _, _, hd⟩ := hone b u q
      exact absurd d (hd o e es ep)
  have nsB : ∀ {b : Addr} {m : Str → Option Value}, s₁.heap.Ns b m → (hidT s₁.heap H).Ns b m := fun {b m} ⟨o, es, ep, e, d, r⟩ => ⟨o, es, ep, hidT_get e (free e ⟨es, ep, d⟩), d, r⟩
  have kB : K.In (hidT s₁.heap H) := fun b o e => hidT_get (KX b o e) (by
    cases q : H b with
    | none => rfl
    | some u =>
      obtain ⟨rfl, _, _, _, hk, _⟩ := hone b u q
      rw [hk] at e; cases e)
  have md : Mod K mg (hidT s₁.heap H) := ⟨kB, nsB hns, ⟨mb, nsB hb, hbb⟩, let ⟨mc, h1, h2⟩ := hlim; ⟨mc, nsB h1, h2⟩⟩
  have e0 : Env0 P w K mg (hidT s₁.heap H) callerA [] s₁ H := ⟨rfl, md, fun b o e => of_hidT e, Nat.le_of_eq (hidT_size _ _), trivial, fun b z => absurd (show b ∈ ([] : List Addr) from z) (by simp), hok, .of_eq hg⟩
  have M0 : Mem K [] [] H := ⟨rfl, fun n p o h => by simp at h, fun i j p q o o' h => by simp at h⟩
  refine codeAny_mono ((F _ kB (nsB hns)).run callerA [] s₁ H ⟨[.ref a], []⟩ [.ref a] [.ref a] (fun v _ => v = .bl true) (fun _ _ _ => False) hr rfl e0 (hbind s₁ (.ref a)) (.cons rfl .nil) ⟨[], [], [.k (.list (ns.map PyData.int))], _, _, M0, .cons hrep .nil, hsp, fun u G' v m' H' pu e M r => ?_, fun _ _ _ _ _ _ z => z.elim⟩) fun r s' h => ?_
  · subst pu
    cases r
    rfl
  · cases r with
    | error e =>
      obtain ⟨_, _, _, _, _, _, _, _, _, _, _, _, z⟩ := h
      exact z.elim
    | ok fl =>
      cases fl with
      | next => exact False.elim h
      | brk => exact False.elim h
      | cont => exact False.elim h
      | ret u =>
        obtain ⟨v, H', os, bare, un, hok', r', rfl⟩ := h
        obtain rfl : u = Value.bool true := r'
        refine ⟨rfl, OldK.of_keep fun b o e => ?_, os, bare⟩
        cases q : H b with
        | none => exact un.keep b o e q (fun z => absurd (show b ∈ ([] : List Addr) from z) (by simp)) (by simp)
        | some u =>
          obtain ⟨rfl, ob, xs, rfl, _, _⟩ := hone b u q
          obtain ⟨e1, _⟩ := hok b _ q
          obtain ⟨e2, _⟩ := hok' b _ (un.frzs b ob _ q)
          rw [e] at e1; cases e1
          exact e2
theorem law_callG (KX : K.In s₁.heap) (hns : s₁.heap.Ns mainGlobals mg) (hb : s₁.heap.Ns builtinsNs mb) (hbb : ∀ x : Str, x ≠ "__name__" → mb x = bootBuiltins x) (hlim : s₁.heap.NoLimit) (hg : s₁.gens = #[]) (hr : Room k callerA)
    (ha : s₁.heap.get? a = some { cls := .type "list", data := .seq vs.toArray }) (hi : IntsAre vs ns) (hl : ns.length ≤ sizeLine) (F : ∀ base : Heap, K.In base → base.Ns mainGlobals mg → FnG P w K mg base k fa fd [x] sp) (hbind : ∀ (s : Shared) (u : Value), BindsTo s fd ⟨[u], []⟩ [(x, u)]) (hsp : LawSp sp ns) :
    codeAny (model P w) callerA (.call (.ref fa) ⟨[.ref a], []⟩) (fun r s' => r = .ok (.ret (.bool true)) ∧ OldK s₁.heap s'.heap ∧ s'.os = s₁.os ∧ AllBare s'.gens) s₁ := by
  have rv := vals_ints hi
  have lv := hi.length
  cases hk : K.lookup a with
  | some o =>
    have e := (KX a o hk).symm.trans ha
    cases e
    exact law_core (H := fun _ => none) KX hns hb hbb hlim hg hr F hbind hsp (repK_ints K _ (.inr (.inr ⟨_, vs.toArray, _, hk, rfl, rfl, rfl, by rw [List.size_toArray, lv]; exact hl, by simpa using rv⟩))) (fun b u z => nomatch (show (none : Option HO) = some u from z)) fun b u z => nomatch (show (none : Option HO) = some u from z)
  | none =>
    have one : ∀ b u, (if b = a then some (HO.frz { cls := .type "list", data := .seq vs.toArray } (.lst (ns.map V.int))) else none) = some u → b = a ∧ u = .frz { cls := .type "list", data := .seq vs.toArray } (.lst (ns.map V.int)) := fun b u z => by
      by_cases hb : b = a
      · rw [if_pos hb] at z
        cases z
        exact ⟨hb, rfl⟩
      · rw [if_neg hb] at z
        cases z
    refine law_core (H := fun b => if b = a then some (.frz { cls := .type "list", data := .seq vs.toArray } (.lst (ns.map V.int))) else none) KX hns hb hbb hlim hg hr F hbind hsp (repK_ints K _ (.inl ⟨_, if_pos rfl⟩)) (fun b u z => ?_) fun b u z => ?_
    · obtain ⟨rfl, rfl⟩ := one b u z
      exact ⟨ha, by rw [List.length_map]; exact hl, vs, _, rv, ha⟩
    · obtain ⟨rfl, rfl⟩ := one b u z
      refine ⟨rfl, _, _, rfl, hk, fun ob e es ep d => ?_⟩
      rw [ha] at e; cases e
      cases (show Data.seq vs.toArray _ = Data.dict es ep from d)
end
theorem walk_G {l : PySem.W.OpenLaw} {n k : Nat} {q : Program} {loose : List Str} {XP : (Str → Option Value) → Heap → Prop} {YP : World → Heap → Prop} {d : DefRec} {x : Str} (hn : l.most = some n) (hn2 : n ≤ sizeLine) (hdf : d.params.defaults = []) (hr : Room k callerA)
    (F : ∀ (w : World) (mg : Str → Option Value) (fa : Addr) (h : Heap), YP w h → h.Ns mainGlobals mg → mg d.name = some (.ref fa) → ∃ (K : PySem.W.Frag) (fd : FuncData) (sp : SpU), K.In h ∧ (∀ (s : Shared) (u : Value), BindsTo s fd ⟨[u], []⟩ [(x, u)]) ∧ (∀ ns : List Int, ns.length ≤ n → LawSp sp ns) ∧
      ∀ base : Heap, K.In base → base.Ns mainGlobals mg → FnG l.prog w K mg base k fa fd [x] sp) : PySem.W.WalkO q loose XP YP l.row.toRowW d [] (fun f vs => PySem.call f vs) := by
  refine Att.attach_call hn hdf fun w s₀ s₁ mg mb fa o pm cd doc a vs ns G Y ho hd hcd hmg hobj hints hlen hg => ?_
  obtain ⟨K, fd, sp, KX, hb, hsp, hF⟩ := F w mg fa _ Y G.T.g hmg
  exact law_callG KX G.T.g G.T.b G.T.builtins G.T.nolimit hg hr hobj hints (Nat.le_trans hlen hn2) hF hb (hsp ns hlen)
end R
/-! ## part RT -/
/-! The layer R: what the printed walks use. -/
namespace R
open PySem PySem.Spec
open PyProof.Rows hiding St
open L2
/-! ### constants of the module -/
def CStr (mg : Str → Option Value) (x z : Str) : Prop := ∃ t, mg x = some (.str z t)
def CInt (mg : Str → Option Value) (x : Str) (i : Int) : Prop := ∃ t, mg x = some (.int i t)
/-- an object of the module's own that never changes -/
def CTup (K : PySem.W.Frag) (mg : Str → Option Value) (x : Str) (d : PyData) : Prop := ∃ a, mg x = some (.ref a) ∧ ∀ H, RepK K H (.ref a) d
def eK (x : PyData) : WE := fun _ G P _ => P (.k x) G
def eVal (e : WE) : WE := eScope (eFrz e)
def eDict0 : WE := fun _ G P _ => P (.r G.length) (G ++ [.dct []])
def eRev (e : WE) : WE := fun ss G P p => e ss G (fun u G1 => match u with
  | .d (.list xs) => P (.d (.list xs.reverse)) G1
  | _ => False) p
section
variable {X : Cx} {W : WX} {x z : Str} {pos p1 p2 p3 : Pos} {e : Expr} {φ : WE} {st : Stmt} {k : Nat}
theorem r_gstr (c : CStr X.mg x z) (hg : Gl X x := by rfl) (hd : (x == ("__debug__" : Str)) = false := by decide) : PE X (.Name x pos) (tE X.K W (eC (.str z))) := let ⟨_, h⟩ := c; r_glob (v := .str z) h ⟨_, rfl⟩ (fun _ _ => .str z) hg hd
theorem r_gint {i : Int} (c : CInt X.mg x i) (hg : Gl X x := by rfl) (hd : (x == ("__debug__" : Str)) = false := by decide) : PE X (.Name x pos) (tE X.K W (eC (.int i))) := let ⟨_, h⟩ := c; r_glob (v := .int i) h ⟨_, rfl⟩ (fun _ _ => .int i) hg hd
theorem r_gtup {d : PyData} (c : CTup X.K X.mg x d) (hg : Gl X x := by rfl) (hd : (x == ("__debug__" : Str)) = false := by decide) : PE X (.Name x pos) (tE X.K W (eK d)) := let ⟨a, h, r⟩ := c; (pe_glob (v := .ref a) hg h rfl hd).imp fun σ H Q ⟨m, G, ss, P, p, M, S, h, hx, q⟩ => q _ G _ m H h Ext.refl M (r H)
theorem e_val (he : PE X e (tE X.K W φ)) : PE X e (tE X.K W (eVal φ)) := e_scope (e_frz he)
theorem r_dict0 : PE X (.Dict [] [] pos) (tE X.K W eDict0) := pe_dnewT.imp fun σ H Q ⟨m, G, ss, P, p, M, S, h, hx, q⟩ a ha => by
  have k : ∀ b y, H b = some y → upd H a (.dT []) b = some y := fun b y e => by rw [upd_ne (ne_of_none e ha)]; exact e
  have e2 : Ext m G H (m ++ [(a, 0)]) (G ++ [.dct []]) (upd H a (.dT [])) := Ext.alloc M.len ha k
  have M2 : Mem X.K (m ++ [(a, 0)]) (G ++ [.dct []]) (upd H a (.dT [])) := M.alloc (p := (a, 0)) ha k ⟨[], .nil, .inr ⟨[], upd_same, rfl, rfl⟩⟩
  exact q _ _ _ _ _ h e2 M2 ⟨(a, 0), by rw [← M.len, List.getElem?_append_right (Nat.le_refl _)]; simp, rfl⟩
theorem Reps.rev {K : PySem.W.Frag} {H : Hp} {L : Addr → Prop} : ∀ {vs : List V} {xs : List PyData}, Reps K H L vs xs → Reps K H L vs.reverse xs.reverse
  | _, _, .nil => .nil
  | _, _, .cons h r => by
    rw [List.reverse_cons, List.reverse_cons]
    exact (Reps.rev r).app (.cons h .nil)
theorem r_rev (he : PE X e (tE X.K W φ)) : PE X (.Subscript e (.Slice none none (some (.UnaryOp .USub (.Constant (.int 1) k p1) p2)) p3) pos) (tE X.K W (eRev φ)) := (pe_revL he).imp fun σ H Q ⟨m, G, ss, P, p, M, S, h, hx, q⟩ => by
  refine ⟨m, G, ss, _, p, M, S, h, hx, fun u G1 v m1 H1 h1 e1 M1 r1 => ?_⟩
  split at h1
  · cases r1 with
    | @lst _ vs _ hh n r =>
      refine ⟨_, _, rfl, .of hh, fun a ha => ?_⟩
      have e := Ext.fresh (m := m1) (G := G1) (o := .lst vs.reverse) ha
      exact q _ G1 _ m1 _ h1 (e1.trans e) (M1.fresh ha) (Rep.lst upd_same (Lv.notFree M1 ha) (Reps.go (M1.go e) r).rev)
  · exact h1.elim
/-- name = [..]: what is stored changes no more -/
theorem asgF_of {i : Nat} {T : TE} (h : PS X st (tAsg T (gName i))) (hT : ∀ σ H Q, tE X.K W φ σ H Q → T σ H Q) : PS X st (tS X.K W (sAsg (eVal φ) (gdName i))) := by
  refine ⟨fun pins s σ H D I ⟨m, G, ss, C, M, S, hh, o⟩ => ?_⟩
  refine wpAny_mono (h.run pins s σ H { D with nx := fun σ1 H1 => ∃ m1 G1 u v, σ1 = σ.set i (some v) ∧ Mem X.K m1 G1 H1 ∧ Ext m G H m1 G1 H1 ∧ RU X.K m1 G1 H1 v u ∧ frzU u G1 fun u G2 => ∃ G', Left G.length u G2 G' ∧ C.nx (ss.set i (some u)) G' } I
    (hT σ H _ ⟨m, G, ss, _, _, M, S, hh, o.okX M S, fun u G1 v m1 H1 p1 e1 M1 r1 => ⟨m1, G1, u, v, rfl, M1, e1, r1, p1⟩⟩)) (fun f s1 q => ?_) fun _ _ z => z
  cases f with
  | next =>
    obtain ⟨σ1, H1, I1, m1, G1, u, v, rfl, M1, e1, r1, hf⟩ := q
    obtain ⟨H2, u', G2, I2, M2, e2, r2, G', l, p2⟩ := frz_run I1 M1 r1 hf
    obtain ⟨m3, e3, M3, r3⟩ := l.ok M (e1.trans e2) M2 r2
    exact ⟨_, H2, I2, o.nx _ G' _ m3 H2 p2 e3 M3 ((S.ext M e3).set r3 i)⟩
  | ret u => exact q
  | brk => exact q
  | cont => exact q
theorem s_setLcF {tg iter elt : Expr} {γ : WG} {ifs : List Expr} {scope : Scope} {own : List (Str × Nat)} {ι : WI} {τ : WT} {ε : WE} (i : Nat) {y : Str} {py spos : Pos} (hc : X.calm = true) (hN : X.N.Nodup) (ok : BlkOk X.N X.env.scope scope own) (hi : PI X tg iter (tI X.K W ι)) (hg : Blk X scope fun B => PG B tg (tGc X.K (own.map (·.2)) γ))
    (ht : Blk X scope fun B => PTs B ifs (tT X.K W0 τ)) (he : Blk X scope fun B => PE B elt (tE X.K W0 ε)) (hy : X.N[i]? = some y := by rfl) (hyl : X.env.scope.names.lookup y = some .local := by rfl) (hsw : swapsWith (.ListComp elt [⟨tg, iter, ifs, 0⟩] scope pos) (some (.Name y py)) spos.line X.env = pure true := by rfl) (hs : ∀ x, foldedSetIterable iter X.env x = pure x := by intro _; rfl) :
    PS X (.Assign [.Name y py] (.ListComp elt [⟨tg, iter, ifs, 0⟩] scope pos) spos) (tS X.K W (sAsg (eVal (eLc ι γ τ ε (own.map (·.2)))) (gdName i))) := asgF_of (ps_setLc hc hN hy hyl hsw hi ok hg ht he hs) fun _ _ _ h => lc_of h
end

/-! ### defs, methods, classes that are called -/
section
variable {P : Program} {w : World} {K : PySem.W.Frag} {mg : Str → Option Value} {base : Heap}
def uPos : List U → List U → List U := fun us _ => us
/-- a def of the module -/
structure CallD (P : Program) (w : World) (K : PySem.W.Frag) (mg : Str → Option Value) (base : Heap) (k : Nat) (x : Str) (n : Nat) (sp : SpU) : Prop where
  ex : ∃ (f : Addr) (fd : FuncData) (ps : List Str), FnG P w K mg base k f fd ps sp ∧ KbU K fd ps n [] uPos ∧ mg x = some (.ref f) ∧ PySem.W.keepIn K (.ref f) = true
/-- a method of a class -/
structure CallM (P : Program) (w : World) (K : PySem.W.Frag) (mg : Str → Option Value) (base : Heap) (k : Nat) (c mt : Str) (n : Nat) (sp : SpU) : Prop where
  cls : Cls K (He.ga K c)
  ex : ∃ (f : Addr) (fd : FuncData) (ps : List Str), FnG P w K mg base k f fd ps sp ∧ KbU K fd ps n [] uPos ∧ Meth K (He.ga K c) mt f
/-- a class: its __init__, n by place, keywords ks -/
structure CallC (P : Program) (w : World) (K : PySem.W.Frag) (mg : Str → Option Value) (base : Heap) (k : Nat) (c : Str) (n : Nat) (ks : List Str) (gU : List U → List U → List U) (sp : SpU) : Prop where
  at_ : mg c = some (.ref (He.ga K c))
  ex : ∃ (f : Addr) (fd : FuncData) (ps : List Str), FnG P w K mg base k f fd ps sp ∧ KbU K fd ps n ks gU ∧ Mk K (He.ga K c) f
/-- a special method: __len__, __eq__ -/
structure CallS (P : Program) (w : World) (K : PySem.W.Frag) (mg : Str → Option Value) (base : Heap) (k : Nat) (c mt : Str) (n : Nat) (sp : SpU) : Prop where
  ex : ∃ (f : Addr) (fd : FuncData) (ps : List Str), FnG P w K mg base k f fd ps sp ∧ KbU K fd ps n [] uPos ∧ PySem.W.findIn K (.ref (He.ga K c)) mt = some (some (.ref f)) ∧ PySem.W.isFn K (.ref f) = true
end
section
variable {X : Cx} {W : WX} {k j n : Nat} {x c mt : Str} {sp : SpU} {p pos apos : Pos} {e o : Expr} {es : List Expr} {kws : List Keyword} {α κ : WA} {φ : WE} {ks : List Str} {gU : List U → List U → List U}
theorem r_callD (c : CallD X.prog X.w X.K X.mg X.base j x n sp) (hj : j ≤ k) (hr : Room k X.A) (hgd : X.A.guards = some []) (tk : Takes X W) (ha : PA X (e :: es) (tA X.K W α)) (hg : Gl X x := by rfl) (hdb : (x == ("__debug__" : Str)) = false := by decide)
    (he : starEach (e :: es) X.env = (false, eval e X.env) :: starEach es X.env := by rfl) (hpl : (backTo pos (starEach es X.env)).any (·.1) = false := by rfl) : PE X (.Call (.Name x p) (e :: es) [] pos) (tE X.K W (eCall sp n uPos α aNil 0)) :=
  let ⟨_, _, _, F, hb, hm, hk⟩ := c.ex; r_call (F.mono hj) hr hgd hm hk hb tk ha hg hdb he hpl
theorem r_callD0 (c : CallD X.prog X.w X.K X.mg X.base j x n sp) (hj : j ≤ k) (hr : Room k X.A) (hgd : X.A.guards = some []) (tk : Takes X W) (hg : Gl X x := by rfl) (hdb : (x == ("__debug__" : Str)) = false := by decide) : PE X (.Call (.Name x p) [] [] pos) (tE X.K W (eCall sp n uPos aNil aNil 0)) :=
  let ⟨_, _, _, F, hb, hm, hk⟩ := c.ex; r_call0 (F.mono hj) hr hgd hm hk hb tk hg hdb
theorem r_callM {pl : Sem Bool} (d : CallM X.prog X.w X.K X.mg X.base j c mt n sp) (hj : j ≤ k) (hr : Room k X.A) (hgd : X.A.guards = some []) (tk : Takes X W) (ho : PE X o (tE X.K W φ)) (ha : PA X (e :: es) (tA X.K W α)) (hst : starEach (e :: es) X.env = (false, eval e X.env) :: starEach es X.env := by rfl) (hpl : (backTo pos (starEach es X.env)).any (·.1) = false := by rfl)
    (ht : eval (.Call (.Attribute o mt apos) (e :: es) [] pos) X.env = (do
      let ov ← eval o X.env
      standAt apos.atName
      let (f, first) ← holding [ov] (getMethod ov mt pl)
      callWith pos f first (backTo pos (starEach (e :: es) X.env)) (backToKw pos (keywordEach [] X.env))) := by rfl) : PE X (.Call (.Attribute o mt apos) (e :: es) [] pos) (tE X.K W (eMethC c mt sp n uPos φ α)) :=
  let ⟨_, _, _, F, hb, hm⟩ := d.ex; r_methC d.cls hm (F.mono hj) hr hgd hb tk ho ha hst hpl ht
theorem r_callM0 {pl : Sem Bool} (d : CallM X.prog X.w X.K X.mg X.base j c mt n sp) (hj : j ≤ k) (hr : Room k X.A) (hgd : X.A.guards = some []) (tk : Takes X W) (ho : PE X o (tE X.K W φ))
    (ht : eval (.Call (.Attribute o mt apos) [] [] pos) X.env = (do
      let ov ← eval o X.env
      standAt apos.atName
      let (f, first) ← holding [ov] (getMethod ov mt pl)
      callWith pos f first (backTo pos (starEach [] X.env)) (backToKw pos (keywordEach [] X.env))) := by rfl) : PE X (.Call (.Attribute o mt apos) [] [] pos) (tE X.K W (eMethC c mt sp n uPos φ aNil)) :=
  let ⟨_, _, _, F, hb, hm⟩ := d.ex; r_methC0 d.cls hm (F.mono hj) hr hgd hb tk ho ht
theorem r_callS (d : CallS X.prog X.w X.K X.mg X.base j c "__len__" 1 sp) (hj : j ≤ k) (hr : Room (k + 1) X.A) (hgd : X.A.guards = some []) (tk : Takes X W) (hm : X.mg "len" = none) (ha : PA X [e] (tA X.K W α)) (hv : bootBuiltins "len" = some (.builtin "len") := by decide +kernel) (hg : Gl X "len" := by rfl)
    (he : starEach [e] X.env = (false, eval e X.env) :: starEach [] X.env := by rfl) (hpl : (backTo pos (starEach ([] : List Expr) X.env)).any (·.1) = false := by rfl) : PE X (.Call (.Name "len" p) [e] [] pos) (tE X.K W (eLenC c sp uPos α)) :=
  let ⟨_, _, _, F, hb, h1, h2⟩ := d.ex; r_lenC h1 h2 (F.mono hj) hr hgd hb tk hm ha hv hg he hpl
theorem k_eqS (d : CallS X.prog X.w X.K X.mg X.base j c "__eq__" 2 sp) (hj : j ≤ k) (hr : Room k X.A) (hgd : X.A.guards = some []) : OpR X (compareOp .Eq) (rG2 X.K (gEqC c sp uPos)) := by
  obtain ⟨_, _, _, F, hb, h1, h2⟩ := d.ex
  exact k_eqC (W := W0) h1 h2 (F.mono hj) hr hgd hb takes0
theorem r_callC (d : CallC X.prog X.w X.K X.mg X.base j c n [] gU sp) (hj : j ≤ k) (hr : Room (k + 1) X.A) (hgd : X.A.guards = some []) (tk : Takes X W) (ha : PA X (e :: es) (tA X.K W α)) (hg : Gl X c := by rfl) (hdb : (c == ("__debug__" : Str)) = false := by decide)
    (he : starEach (e :: es) X.env = (false, eval e X.env) :: starEach es X.env := by rfl) (hpl : (backTo pos (starEach es X.env)).any (·.1) = false := by rfl) : PE X (.Call (.Name c p) (e :: es) [] pos) (tE X.K W (eMake c sp n gU α aNil 0)) :=
  let ⟨_, _, _, F, hb, M⟩ := d.ex; r_make M (F.mono hj) hr hgd d.at_ hb tk ha hg hdb he hpl
theorem r_callCK (d : CallC X.prog X.w X.K X.mg X.base j c n ks gU sp) (hj : j ≤ k) (hr : Room (k + 1) X.A) (hgd : X.A.guards = some []) (tk : Takes X W) (ha : PA X (e :: es) (tA X.K W α)) (hkw : PK X kws (tA X.K W κ)) (hall : (backToKw pos (keywordEach kws X.env)).all (·.1.isSome) = true := by rfl) (hks : (backToKw pos (keywordEach kws X.env)).filterMap (·.1) = ks := by rfl)
    (hg : Gl X c := by rfl) (hdb : (c == ("__debug__" : Str)) = false := by decide) (he : starEach (e :: es) X.env = (false, eval e X.env) :: starEach es X.env := by rfl) (hpl : ((backTo pos (starEach (e :: es) X.env)).any (·.1) || (backToKw pos (keywordEach kws X.env)).any (·.1.isNone)) = false := by rfl) :
    PE X (.Call (.Name c p) (e :: es) kws pos) (tE X.K W (eMake c sp n gU α κ ks.length)) :=
  let ⟨_, _, _, F, hb, M⟩ := d.ex; r_makeK M (F.mono hj) hr hgd d.at_ hb tk ha hkw hall hks hg hdb he hpl
end
end R
/-! ## part RU -/
/-! The layer R: sets whose members are tuples of flat keys (few of them). The table's theory is the library's (HandS.TupSets, said there of tuples of ints); what is asked of the members is said anew here. -/
namespace R
open PySem PySem.Spec
open PyProof.Rows hiding St
open L2
/-! ### members -/
section
variable {P : Program} {w : World} {A : Around} {E : Value → Shared → Prop} {s : Shared}
abbrev MT (P : Program) (w : World) (h : Heap) (k : List Key) (b : Addr) : Prop := IsTupleKey (mixKind P w) h k b
abbrev mh (P : Program) (w : World) (k : List Key) : Int := tupleKeyHash (mixKind P w) k
def Plain (v : Value) : Prop := (∃ i t, v = .int i t) ∨ ∃ z t, v = .str z t
theorem plain_items {k : List Key} {vs : List Value} (h : ItemsAre (mixKind P w) k vs) : ∀ v ∈ vs, Plain v := by
  induction h with
  | nil => intro v hv; cases hv
  | @cons k0 u ks us h1 _ ih =>
    intro v hv
    rcases List.mem_cons.mp hv with rfl | hv
    · rcases keyIs_shape h1 with ⟨i, t, _, rfl⟩ | ⟨z, t, _, rfl⟩
      · exact .inl ⟨i, t, rfl⟩
      · exact .inr ⟨z, t, rfl⟩
    · exact ih v hv
theorem plain_ofA {v : Value} (h : Plain v) (n : Nat) : ofAClassStatement n v = pure false := by
  rcases h with ⟨i, t, rfl⟩ | ⟨z, t, rfl⟩ <;> cases n <;> rfl
theorem plain_hash {v : Value} (h : Plain v) (n : Nat) : ∃ b, hashByValue n v = pure b := by
  rcases h with ⟨i, t, rfl⟩ | ⟨z, t, rfl⟩
  · exact ⟨true, by cases n <;> rfl⟩
  · exact ⟨false, by cases n <;> simp [hashByValue]⟩
theorem mt_ofA {k : List Key} {b : Addr} {Q : Bool → Shared → Prop} (hk : MT P w s.heap k b) (q : Q false s) : wpAny (model P w) A (ofAClassStatement 8 (.ref b)) Q E s := by
  have hT := hk.typeIs
  obtain ⟨o, its, n, ho, _, hd, hi⟩ := hk
  have all := plain_items hi
  unfold ofAClassStatement
  refine wpAny_bind (wpAny_typeOf hT ?_)
  dsimp only
  simp only [show (("tuple" : String) == "tuple") = true by decide, if_true, Bool.not_true, Bool.false_eq_true, if_false]
  show wpAny _ _ (seqItems? (.ref b) >>= _) _ _ s
  refine wpAny_bind (wpAny_seqItems ho hd (wpAny_bind ?_))
  show wpAny _ _ (forIn its _ _) _ _ s
  rw [← Array.forIn_toList]
  refine wpAny_forIn_list _ (fun rest r z => r.1 = none ∧ z = s ∧ ∀ v ∈ rest, Plain v) _ ?_ ?_ _ _ ⟨rfl, rfl, all⟩
  · rintro v rest r z ⟨_, rfl, ha⟩
    rw [plain_ofA (ha v List.mem_cons_self)]
    refine wpAny_bind (wpAny_pure ?_)
    simp only [Bool.false_eq_true, if_false]
    exact wpAny_pure ⟨rfl, rfl, fun u hu => ha u (List.mem_cons_of_mem _ hu)⟩
  · rintro ⟨r1, r2⟩ z ⟨hr, rfl, _⟩
    cases (show r1 = none from hr)
    exact wpAny_pure q
theorem mt_hash {k : List Key} {b : Addr} {Q : Bool → Shared → Prop} (hk : MT P w s.heap k b) (q : ∀ r, Q r s) : wpAny (model P w) A (hashByValue 8 (.ref b)) Q E s := by
  have hT := hk.typeIs
  obtain ⟨o, its, n, ho, _, hd, hi⟩ := hk
  have all := plain_items hi
  unfold hashByValue
  refine wpAny_bind (wpAny_specialOf hT F.slot_tuple_hash.lookup ?_)
  show wpAny _ _ (seqItems? (.ref b) >>= _) _ _ s
  refine wpAny_bind (wpAny_seqItems ho hd (wpAny_bind ?_))
  show wpAny _ _ (forIn its _ _) _ _ s
  rw [← Array.forIn_toList]
  refine wpAny_forIn_list _ (fun rest r z => z = s ∧ ∀ v ∈ rest, Plain v) _ ?_ ?_ _ _ ⟨rfl, all⟩
  · rintro v rest r z ⟨rfl, ha⟩
    obtain ⟨b, hb⟩ := plain_hash (ha v List.mem_cons_self) 7
    rw [hb]
    refine wpAny_bind (wpAny_pure ?_)
    cases b with
    | true =>
      simp only [Bool.not_true, Bool.false_eq_true, if_false]
      exact wpAny_pure ⟨rfl, fun u hu => ha u (List.mem_cons_of_mem _ hu)⟩
    | false =>
      simp only [Bool.not_false, if_true]
      exact wpAny_pure (wpAny_pure (q _))
  · rintro ⟨r1, r2⟩ z ⟨rfl, _⟩
    cases r1 <;> exact wpAny_pure (q _)
theorem mt_seen {k : List Key} {b : Addr} {Q : Bool → Shared → Prop} (hk : MT P w s.heap k b) {ys : List Value} (hy : ∀ y ∈ ys, ∃ k' c, y = Value.ref c ∧ MT P w s.heap k' c) (q : Q false s) : wpAny (model P w) A (searchCouldBeSeen (.ref b) ys) Q E s := by
  unfold searchCouldBeSeen
  refine wpAny_bind (wpAny_forIn_list _ (fun rest r z => r.1 = none ∧ z = s ∧ ∀ y ∈ rest, ∃ k' c, y = Value.ref c ∧ MT P w s.heap k' c) _ ?_ ?_ _ _ ⟨rfl, rfl, hy⟩)
  · rintro v rest r z ⟨_, rfl, ha⟩
    obtain ⟨k', c, rfl, hc⟩ := ha v List.mem_cons_self
    have more : ∀ y ∈ rest, ∃ k' c, y = Value.ref c ∧ MT P w z.heap k' c := fun u hu => ha u (List.mem_cons_of_mem _ hu)
    dsimp only
    by_cases hv : (b == c || (carriedByValue (.ref b) && carriedByValue (.ref c))) = true
    · exact wp_if_pos hv (wpAny_pure ⟨rfl, rfl, more⟩)
    · refine wp_if_neg hv (wpAny_bind (wpAny_eqIsQuiet_tuple hk ?_))
      simp only [Bool.not_true, Bool.false_eq_true, if_false]
      refine wpAny_bind (wpAny_eqIsQuiet_tuple hc ?_)
      simp only [Bool.not_true, Bool.false_eq_true, if_false]
      refine wpAny_bind (mt_ofA hk ?_)
      simp only [Bool.false_eq_true, if_false]
      refine wpAny_bind (mt_ofA hc ?_)
      simp only [Bool.false_eq_true, if_false]
      exact wpAny_pure ⟨rfl, rfl, more⟩
  · rintro ⟨r1, r2⟩ z ⟨hr, rfl, _⟩
    cases (show r1 = none from hr)
    exact wpAny_pure q

/-! ### the set's object -/
def mrows (P : Program) (w : World) (L : List (Addr × List Key)) : List (Int × Value) := L.map fun p => (mh P w p.2, Value.ref p.1)
structure Tt (P : Program) (w : World) (h : Heap) (a : Addr) (L : List (Addr × List Key)) (o : Obj) (es : Array (Int × Value)) (ep : Nat) (t : SetTable) : Prop where
  ob : h.get? a = some o
  ex : o.ExactSet
  dt : o.data = .set es ep t
  rows : es.toList = mrows P w L
  tab : L2.TabOk t (L.map fun p => mh P w p.2)
  nd : (L.map (·.2)).Nodup
  led : w.params.followText "set-order" = true ∨ t.led = true
  room : L.length * 5 < t.mask * 3
  few : L.length < 64
variable {a : Addr} {L : List (Addr × List Key)} {o : Obj} {es : Array (Int × Value)} {ep : Nat} {t : SetTable}
theorem mrows_len (P : Program) (w : World) (L : List (Addr × List Key)) : (mrows P w L).length = L.length := List.length_map ..
theorem Tt.sz (R : Tt P w s.heap a L o es ep t) : es.size = L.length := by
  rw [← Array.length_toList, R.rows, mrows_len]
theorem Tt.psz (R : Tt P w s.heap a L o es ep t) : t.place.size = L.length := by
  have h := R.tab.sz
  rwa [List.length_map] at h
theorem fits_of (h1 : t.dummies = #[]) (h2 : t.place.size = es.size) (h3 : es.size ≤ t.mask) : t.fits es.size = true := by
  unfold SetTable.fits SetTable.fill
  rw [h1, Bool.and_eq_true, beq_iff_eq, decide_eq_true_eq]
  exact ⟨h2, by show t.place.size + 0 ≤ t.mask; omega⟩
theorem Tt.fits (R : Tt P w s.heap a L o es ep t) : t.fits es.size = true := fits_of R.tab.dm (by rw [R.psz, R.sz]) (by rw [R.sz]; have := R.room; omega)
theorem Tt.at_ (R : Tt P w s.heap a L o es ep t) {i : Nat} {p : Addr × List Key} (h : L[i]? = some p) : es[i]? = some (mh P w p.2, Value.ref p.1) := by
  rw [← Array.getElem?_toList, R.rows]
  unfold mrows
  rw [List.getElem?_map, h]; rfl
/-- the c-th step of the way of h -/
abbrev stp (t : SetTable) (h : Int) (c : Nat) : SetTable.Probe := nth t.mask (runAt t.mask (SetTable.bits h % (t.mask + 1)) (SetTable.bits h)) c
theorem nth_dummy (m : Nat) : ∀ (n : Nat) (p : SetTable.Probe), p.dummy = none → (nth m p n).dummy = none
  | 0, _, h => h
  | n + 1, p, h => nth_dummy m n (adv m p) (by unfold adv; split <;> exact h)
theorem stp_more (t : SetTable) (h : Int) (c q : Nat) : nth t.mask (stp t h c) q = stp t h (c + q) := (nth_add t.mask c _ q).symm
/-- the search goes on from the c-th step -/
theorem seek (R : Tt P w s.heap a L o es ep t) (tup : ∀ p ∈ L, MT P w s.heap p.2 p.1) {x : Addr} {k : List Key} (hx : MT P w s.heap k x) (hu : A.units < cLine) {N : Nat} (hNf : N < 10 * SetTable.turns t.mask) (hN : (stp t (mh P w k) N).j ∉ t.place.toList) (hb : ∀ c, c < N → (stp t (mh P w k) c).j ∈ t.place.toList)
    {Q : SetFound → Shared → Prop} (hin : k ∈ L.map (·.2) → Q (.there none) s) (hout : k ∉ L.map (·.2) → Q (.free (stp t (mh P w k) N).j false) s) :
    ∀ (f c : Nat) (st : Option SetTable.Probe), st.getD (t.probeStart (mh P w k)) = stp t (mh P w k) c → c ≤ N → N - c < f → (∀ (i : Nat) p, L[i]? = some p → p.2 = k → ∃ c', c ≤ c' ∧ c' < N ∧ t.place.toList[i]? = some (stp t (mh P w k) c').j) → wpAny (model P w) A (setSearchFrom a (.ref x) (mh P w k) true f st) Q E s
  | 0, _, _, _, _, hf, _ => absurd hf (Nat.not_lt_zero _)
  | f + 1, c, st, hst, hc, hf, hre => by
    rw [setSearchFrom_succ]
    refine wpAny_bind (wpAny_setState_of R.ob R.dt R.fits ?_)
    dsimp only
    refine wp_if_neg (by unfold SetTable.gaveWay; rw [mask_odd R.tab.mok]; decide) ?_
    try refine wpAny_bind (wpAny_pure ?_)
    have hash : ∀ (i : Nat) p, L[i]? = some p → (fun i => (es[i]?.map (·.1)).getD 0) i = mh P w p.2 := fun i p hp => by
      show (es[i]?.map (·.1)).getD 0 = _
      rw [R.at_ hp]; rfl
    have spec := go_spec t R.tab.ris R.tab.dm (fun i => (es[i]?.map (·.1)).getD 0) (mh P w k) (10 * SetTable.turns t.mask) (N - c) (stp t (mh P w k) c) (nth_dummy _ _ _ rfl) (by omega) (fun q hq => by rw [stp_more]; exact hb (c + q) (by omega)) (by rw [stp_more, show c + (N - c) = N by omega]; exact hN)
    rcases spec with ⟨q, i, hq, hi, hh, hno, hpr⟩ | ⟨hno, hpr⟩
    · have pr : t.probe (fun i => (es[i]?.map (·.1)).getD 0) (mh P w k) (st.getD (t.probeStart (mh P w k))) = some (.candidate (stp t (mh P w k) (c + q)).j i (stp t (mh P w k) (c + (q + 1)))) := by
        rw [hst, ← stp_more, ← stp_more]; exact hpr
      rw [pr]
      dsimp only
      rw [stp_more] at hi
      have hil : i < L.length := by
        have h1 := (List.getElem?_eq_some_iff.mp hi).1
        rw [Array.length_toList, R.psz] at h1
        exact h1
      obtain ⟨p, hp⟩ : ∃ p, L[i]? = some p := ⟨_, List.getElem?_eq_getElem hil⟩
      have hpm := List.mem_of_getElem? hp
      have sl : t.slot (stp t (mh P w k) (c + q)).j = .live i := slot_live R.tab.ris hi
      have rest : wpAny (model P w) A (searchRest a (.ref x) (mh P w k) true f es t (stp t (mh P w k) (c + q)).j i (stp t (mh P w k) (c + (q + 1)))) Q E s := by
        unfold searchRest
        rw [R.at_ hp]
        dsimp only
        refine wpAny_bind (wpAny_holding (wpAny_eqBool_tuple hu (tup p hpm) hx (wpAny_bind (wpAny_setState_of R.ob R.dt R.fits ?_))))
        dsimp only
        by_cases e : p.2 = k
        · exact wp_if_pos (by simp [e]) (wpAny_pure (hin (List.mem_map.mpr ⟨p, hpm, e⟩)))
        · refine wp_if_neg (by simp [e]) ?_
          try refine wpAny_bind (wpAny_pure ?_)
          rw [show t.sameMemory t.moves t.mask = some true by unfold SetTable.sameMemory; rw [if_pos (beq_self_eq_true _)]]
          dsimp only
          simp only [if_true, sl, R.at_ hp]
          refine wpAny_bind (wpAny_isSame_ref_self (wpAny_bind (wpAny_pure ?_)))
          simp only [if_true]
          refine wp_if_neg (by simp [e]) (seek R tup hx hu hNf hN hb hin hout f (c + (q + 1)) _ rfl (by omega) (by omega) fun j r hj hr => ?_)
          obtain ⟨c', a1, a2, a3⟩ := hre j r hj hr
          refine ⟨c', ?_, a2, a3⟩
          rcases Nat.lt_trichotomy c' (c + q) with z | z | z
          · exact absurd ((hash j r hj).trans (congrArg (mh P w) hr)) (hno (c' - c) j (by omega) (by rw [stp_more, show c + (c' - c) = c' by omega]; exact a3))
          · rw [z] at a3
            have s0 := (slot_live R.tab.ris a3).symm.trans sl
            injection s0 with s0
            rw [s0, hp] at hj
            exact absurd ((congrArg Prod.snd (Option.some.inj hj)).trans hr) e
          · omega
      by_cases hl : t.led = true
      · refine wp_if_neg (by simp [hl]) ?_
        try refine wpAny_bind (wpAny_pure ?_)
        exact rest
      · refine wp_if_pos (by simp [hl]) (wpAny_bind (mt_seen hx (fun y hy => ?_) ?_))
        · obtain ⟨e, he, ee⟩ := List.mem_map.mp hy
          have he1 : e ∈ es ∧ e.1 = mh P w k := by simpa using he
          have he2 : e ∈ es.toList := by simpa using he1.1
          rw [R.rows] at he2
          obtain ⟨p2, hp2, rfl⟩ := List.mem_map.mp he2
          exact ⟨p2.2, p2.1, ee.symm, tup p2 hp2⟩
        · refine wp_if_neg (by decide) ?_
          try refine wpAny_bind (wpAny_pure ?_)
          exact rest
    · have pr : t.probe (fun i => (es[i]?.map (·.1)).getD 0) (mh P w k) (st.getD (t.probeStart (mh P w k))) = some (.empty (stp t (mh P w k) N).j none) := by
        have e2 := hpr
        rw [stp_more, show c + (N - c) = N by omega] at e2
        rw [hst]
        exact e2
      rw [pr]
      dsimp only
      refine wpAny_pure (hout fun hm => ?_)
      obtain ⟨r, hr, er⟩ := List.mem_map.mp hm
      obtain ⟨j, hj⟩ := List.getElem?_of_mem hr
      obtain ⟨c', a1, a2, a3⟩ := hre j r hj er
      exact hno (c' - c) j (by omega) (by rw [stp_more, show c + (c' - c) = c' by omega]; exact a3) ((hash j r hj).trans (congrArg (mh P w) er))
/-- adding asks where -/
theorem seek0 (R : Tt P w s.heap a L o es ep t) (tup : ∀ p ∈ L, MT P w s.heap p.2 p.1) {x : Addr} {k : List Key} (hx : MT P w s.heap k x) (hu : A.units < cLine) {Q : SetFound → Shared → Prop} (hin : k ∈ L.map (·.2) → Q (.there none) s)
    (hout : ∀ N, k ∉ L.map (·.2) → (stp t (mh P w k) N).j ∉ t.place.toList → (∀ c, c < N → (stp t (mh P w k) c).j ∈ t.place.toList) → Q (.free (stp t (mh P w k) N).j false) s) : wpAny (model P w) A (setSearch a (.ref x) (mh P w k) true) Q E s := by
  have rm := R.room
  obtain ⟨N, hNf, hN, hb⟩ := R.tab.first (by rw [List.length_map]; omega) (mh P w k)
  have few : 10 * SetTable.turns t.mask ≤ 1420 := by
    unfold SetTable.turns
    rcases R.tab.mok with e | e | e <;> omega
  unfold setSearch
  refine seek R tup hx hu hNf hN hb hin (fun hn => hout N hn hN hb) 100000 0 none rfl (Nat.zero_le _) (by omega) fun i p hp hk => ?_
  have il : i < t.place.toList.length := by
    rw [Array.length_toList, R.psz]
    exact (List.getElem?_eq_some_iff.mp hp).1
  have hj := List.getElem?_eq_getElem il
  obtain ⟨c, hc, e⟩ := R.tab.before hN (h := mh P w k) (i := i) (by rw [List.getElem?_map, hp, ← hk]; rfl) hj
  exact ⟨c, Nat.zero_le _, hc, hj.trans (congrArg some e.symm)⟩
theorem mt_other {h h' : Heap} {k : List Key} {b : Addr} (hb : MT P w h k b) (ho : h.get? a = some o) (hd : o.data = .set es ep t) (hs : Heap.SameBut a h h') : MT P w h' k b := by
  obtain ⟨o', its, n, ho', hc, hd', hi⟩ := hb
  refine ⟨o', its, n, (hs.2 b fun e => ?_).trans ho', hc, hd', hi⟩
  rw [e, ho] at ho'
  cases ho'
  rw [hd] at hd'
  cases hd'
/-- the rows in another order -/
theorem rows_in {order : Array Nat} (hr : es.toList = mrows P w L) (hp : order.toList.Perm (List.range L.length)) :
    ∃ L2, (order.filterMap (es[·]?)).toList = mrows P w L2 ∧ L2.Perm L ∧ (L2.map fun p => mh P w p.2) = order.toList.map fun i => (es.map (·.1)).getD i 0 := by
  have one : ∀ (i : Nat) (p : Addr × List Key), L[i]? = some p → es[i]? = some (mh P w p.2, Value.ref p.1) := fun i p h => by
    rw [← Array.getElem?_toList, hr]
    unfold mrows
    rw [List.getElem?_map, h]; rfl
  have go : ∀ l : List Nat, (∀ i ∈ l, i < L.length) → (l.filterMap fun i => es[i]?) = mrows P w (l.filterMap fun i => L[i]?) ∧ ((l.filterMap fun i => L[i]?).map fun p => mh P w p.2) = l.map fun i => (es.map (·.1)).getD i 0 := fun l => by
    induction l with
    | nil => intro _; exact ⟨rfl, rfl⟩
    | cons i l ih =>
      intro hl
      obtain ⟨e1, e2⟩ := ih fun j hj => hl j (List.mem_cons_of_mem _ hj)
      obtain ⟨y, hi⟩ : ∃ y, L[i]? = some y := ⟨_, List.getElem?_eq_getElem (hl i List.mem_cons_self)⟩
      have hs := one i _ hi
      refine ⟨?_, ?_⟩
      · rw [List.filterMap_cons_some hs, List.filterMap_cons_some hi, e1]; rfl
      · rw [List.filterMap_cons_some hi, List.map_cons, List.map_cons, e2]
        have e3 : (es.map (·.1))[i]? = some (mh P w y.2) := by rw [Array.getElem?_map, hs]; rfl
        simp [Array.getD_eq_getD_getElem?, e3]
  obtain ⟨e1, e2⟩ := go order.toList fun i hi => List.mem_range.mp (hp.mem_iff.mp hi)
  refine ⟨_, by rw [Array.toList_filterMap]; exact e1, ?_, e2⟩
  have h := hp.filterMap fun i => L[i]?
  rwa [List.filterMap_getElem?_range_length] at h
/-- the table laid anew, larger -/
theorem relay (ho : s.heap.get? a = some o) (hex : o.ExactSet) (hd : o.data = .set es ep t) (hrows : es.toList = mrows P w L) (hz : t.place.size = es.size) (hm : t.dummies = #[]) (hfl : es.size ≤ t.mask) (nd : (L.map (·.2)).Nodup) (ld : w.params.followText "set-order" = true ∨ t.led = true) (few : L.length < 64)
    {wanted M : Nat} (hw : SetTable.sizeAbove wanted - 1 = M) (hM : MaskOk M) (hw2 : SetTable.sizeAbove wanted ≤ 128) (hn : L.length * 5 < M * 3) {Q : Unit → Shared → Prop} (q : ∀ h' L' o' es' ep' t', Heap.SameBut a s.heap h' → Tt P w h' a L' o' es' ep' t' → L'.Perm L → Q () { s with heap := h' }) : wpAny (model P w) A (setRelay a wanted) Q E s := by
  have hsl : es.size = L.length := by rw [← Array.length_toList, hrows, mrows_len]
  obtain ⟨t', order, e, hp, T, em, el, _, ed⟩ := relaid_ok t (hs := es.map (·.1)) (wanted := wanted) hw hM (by rw [Array.size_map, hsl]; omega)
  rw [Array.size_map, hsl] at hp
  obtain ⟨L2, r1, r2, r3⟩ := rows_in hrows hp
  rw [← r3] at T
  have hs2 : (order.filterMap (es[·]?)).size = es.size := by rw [← Array.length_toList, r1, mrows_len, r2.length_eq, hsl]
  rw [setRelay_eq]
  refine wpAny_bind (wpAny_setState_of ho hd (fits_of hm hz hfl) ?_)
  dsimp only
  refine wp_if_neg (by rw [sizeLine_eq]; omega) ?_
  try refine wpAny_bind (wpAny_pure ?_)
  rw [e]
  dsimp only
  refine wpAny_bind (wp_if_neg (by rw [hs2]; simp) ?_)
  try refine wpAny_bind (wpAny_pure ?_)
  refine wpAny_pure ?_
  dsimp only
  refine wpAny_storeSet_of ho hd ?_ (by rw [hs2, hsl, sizeLine_eq]; omega)
  exact q _ L2 _ _ (ep + 1) t' (Heap.SameBut.update ..) ⟨store_at ho hd, ⟨hex.1, hex.2.1, hex.2.2⟩, rfl, r1, T, (r2.map (·.2)).nodup_iff.mpr nd, by rw [el]; exact ld, by rw [r2.length_eq, em]; exact hn, by rw [r2.length_eq]; exact few⟩ r2
/-- ADDING -/
theorem tadd (R : Tt P w s.heap a L o es ep t) (tup : ∀ p ∈ L, MT P w s.heap p.2 p.1) {x : Addr} {k : List Key} (hx : MT P w s.heap k x) (hu : A.units < cLine) (hfew : L.length + 1 < 64) {Q : Bool → Shared → Prop}
    (q : ∀ b h' L' o' es' ep' t', Heap.SameBut a s.heap h' → Tt P w h' a L' o' es' ep' t' → (k ∈ L.map (·.2) → L' = L) → (k ∉ L.map (·.2) → L'.Perm ((x, k) :: L)) → Q b { s with heap := h' }) : wpAny (model P w) A (setAddHashed a (.ref x) (mh P w k)) Q E s := by
  have hsl := R.sz
  have rm := R.room
  unfold setAddHashed
  refine wpAny_holding ?_
  rw [show (100000 : Nat) = 99999 + 1 from rfl, setAddHashedIn_succ]
  refine wpAny_bind (wpAny_setState_of R.ob R.dt R.fits ?_)
  dsimp only
  refine wp_if_neg (by simp [byScan, Value.scannable]) ?_
  try refine wpAny_bind (wpAny_pure ?_)
  refine wpAny_bind (seek0 R tup hx hu (fun hm => ?_) fun N hm hN hb => ?_)
  · exact wpAny_pure (q false s.heap L o es ep t (Heap.SameBut.refl a s.heap) R (fun _ => rfl) fun z => absurd hm z)
  · dsimp only
    refine wpAny_bind (wpAny_setState_of R.ob R.dt R.fits ?_)
    dsimp only
    obtain ⟨q1, q2, q3, q4, q5, q6, q7, q8, q9⟩ := R.tab.put (h := mh P w k) (K := N) hN hb
    have hj : (stp t (mh P w k) N).j = way t.mask (mh P w k) N := rfl
    rw [hj]
    generalize way t.mask (mh P w k) N = j0 at *
    generalize hpt : t.put j0 = pt at q1 q3 q4 q5 q6 q7 q8 q9 ⊢
    obtain ⟨t1, p⟩ := pt
    dsimp only at q1 q3 q4 q5 q6 q7 q8 q9 ⊢
    subst q1
    generalize SetTable.below t.place j0 = p at *
    have pm : (L.take p ++ (x, k) :: L.drop p).Perm ((x, k) :: L) := put_perm L p (x, k)
    have hlen : (L.take p ++ (x, k) :: L.drop p).length = L.length + 1 := pm.length_eq
    have hin : (SetTable.insertAt es p (mh P w k, Value.ref x)).toList = mrows P w (L.take p ++ (x, k) :: L.drop p) := by
      rw [SetTable.toList_insertAt, R.rows]
      unfold mrows
      rw [List.map_append, List.map_cons, List.map_take, List.map_drop]
    have hhs : (L.take p ++ (x, k) :: L.drop p).map (fun p => mh P w p.2) = (L.map fun p => mh P w p.2).take p ++ mh P w k :: (L.map fun p => mh P w p.2).drop p := by
      rw [List.map_append, List.map_cons, List.map_take, List.map_drop]
    rw [← hhs] at q3
    have nd1 : ((L.take p ++ (x, k) :: L.drop p).map (·.2)).Nodup := (pm.map (·.2)).nodup_iff.mpr (by
      rw [List.map_cons]
      exact List.nodup_cons.mpr ⟨hm, R.nd⟩)
    have hes : (SetTable.insertAt es p (mh P w k, Value.ref x)).size = L.length + 1 := by rw [← Array.length_toList, hin, mrows_len, hlen]
    generalize SetTable.insertAt es p (mh P w k, Value.ref x) = es1 at hin hes ⊢
    generalize L.take p ++ (x, k) :: L.drop p = L1 at pm hlen q3 nd1 hin
    -- whatever is said of the members' hashes
    have rest : ∀ b : Bool, wpAny (model P w) A (do
        let t2 := if b = true then t1 else { t1 with plain := false }
        storeSet a es1 t2
        if !false && t2.tooFull then setRelay a (SetTable.grown (es.size + 1))
        return true : Sem Bool) Q E s := fun b => by
      obtain ⟨t2, ht2⟩ : ∃ t2, t2 = (if b = true then t1 else { t1 with plain := false } : SetTable) := ⟨_, rfl⟩
      have T2 : L2.TabOk t2 (L1.map fun p => mh P w p.2) := by
        rw [ht2]
        split
        · exact q3
        · exact ⟨q3.ris, q3.dm, q3.sz, q3.mok, q3.bd, q3.reach⟩
      have m2 : t2.mask = t.mask := by rw [ht2, ← q4]; split <;> rfl
      have l2 : t2.led = t.led := by rw [ht2, ← q5]; split <;> rfl
      have f2 : t2.fill = L.length + 1 := by
        rw [List.length_map] at q9
        rw [ht2, ← q9]; split <;> rfl
      show wpAny _ _ (do
        storeSet a es1 (if b = true then t1 else { t1 with plain := false })
        if !false && (if b = true then t1 else { t1 with plain := false } : SetTable).tooFull then setRelay a (SetTable.grown (es.size + 1))
        return true) Q E s
      rw [← ht2]
      refine wpAny_bind (wpAny_storeSet_of R.ob R.dt ?_ (by rw [hes, sizeLine_eq]; omega))
      have sb : Heap.SameBut a s.heap (s.heap.update a (Obj.putSet es1 t2)) := Heap.SameBut.update ..
      obtain ⟨o1, ho1, ex1, dt1⟩ : ∃ o1, (s.heap.update a (Obj.putSet es1 t2)).get? a = some o1 ∧ o1.ExactSet ∧ o1.data = .set es1 (ep + 1) t2 := ⟨_, store_at (es' := es1) (t' := t2) R.ob R.dt, ⟨R.ex.1, R.ex.2.1, R.ex.2.2⟩, rfl⟩
      generalize s.heap.update a (Obj.putSet es1 t2) = h1 at sb ho1 ⊢
      have ld1 : w.params.followText "set-order" = true ∨ t2.led = true := by rw [l2]; exact R.led
      have full : t2.tooFull = decide ((L.length + 1) * 5 ≥ t.mask * 3) := by
        unfold SetTable.tooFull
        rw [f2, m2]
      by_cases hf : (L.length + 1) * 5 ≥ t.mask * 3
      · have c1 : (!false && t2.tooFull) = true := by rw [full]; simpa using hf
        first
          | (refine wpAny_bind (wp_if_pos c1 ?_); rw [hsl])
          | (refine wp_if_pos c1 (wpAny_bind ?_); rw [hsl])
        have two : (t.mask = 7 ∧ L.length = 4) ∨ (t.mask = 31 ∧ L.length = 18) := by
          rcases R.tab.mok with e | e | e
          · exact .inl ⟨e, by rw [e] at hf rm; omega⟩
          · exact .inr ⟨e, by rw [e] at hf rm; omega⟩
          · exfalso
            rw [e] at hf
            omega
        have z1 : t2.place.size = es1.size := by
          have h := T2.sz
          rw [List.length_map, hlen] at h
          rw [h, hes]
        have go : ∀ M, SetTable.sizeAbove (SetTable.grown (L.length + 1)) - 1 = M → MaskOk M → SetTable.sizeAbove (SetTable.grown (L.length + 1)) ≤ 128 → (L.length + 1) * 5 < M * 3 →
            wpAny (model P w) A (setRelay a (SetTable.grown (L.length + 1))) (fun _ s' => wpAny (model P w) A (pure true) Q E s') E { s with heap := h1 } := fun M a1 a2 a3 a4 =>
          relay (s := { s with heap := h1 }) ho1 ex1 dt1 hin z1 T2.dm (by rw [hes, m2]; rcases two with ⟨e, e2⟩ | ⟨e, e2⟩ <;> omega) nd1 ld1 (by rw [hlen]; exact hfew) a1 a2 a3 (by rw [hlen]; exact a4) fun h2 L2 o2 es2 ep2 t3 sb2 R2 pm2 =>
            wpAny_pure (q true h2 L2 o2 es2 ep2 t3 (sb.trans sb2) R2 (fun z => absurd z hm) fun _ => pm2.trans pm)
        rcases two with ⟨_, e2⟩ | ⟨_, e2⟩
        · exact go 31 (by rw [e2, size_20]) (.inr (.inl rfl)) (by rw [e2, size_20]; decide) (by omega)
        · exact go 127 (by rw [e2, size_76]) (.inr (.inr rfl)) (by rw [e2, size_76]; decide) (by omega)
      · have c1 : ¬ (!false && t2.tooFull) = true := by rw [full]; simpa using hf
        first
          | refine wpAny_bind (wp_if_neg c1 (wpAny_pure ?_))
          | refine wp_if_neg c1 (wpAny_bind (wpAny_pure ?_))
          | refine wp_if_neg c1 ?_
        exact wpAny_pure (q true h1 L1 _ es1 (ep + 1) t2 sb ⟨ho1, ex1, dt1, hin, T2, nd1, ld1, by rw [hlen, m2]; omega, by rw [hlen]; exact hfew⟩ (fun z => absurd z hm) fun _ => pm)
    by_cases hp1 : t1.plain = true
    · first
        | exact wpAny_bind (wp_if_pos hp1 (mt_hash hx fun r => rest r))
        | exact wp_if_pos hp1 (wpAny_bind (mt_hash hx fun r => rest r))
    · first
        | exact wpAny_bind (wp_if_neg hp1 (wpAny_pure (rest true)))
        | exact wp_if_neg hp1 (wpAny_bind (wpAny_pure (rest true)))
end
end R
/-! ## part RV -/
/-! The layer R: len({.. for ..}), the members flat keys or tuples of flat keys. -/
namespace R
open PySem PySem.Spec
open PyProof.Rows hiding St
open L2
def set0 (w : World) : Obj := { cls := .type "set", dict := none, data := .set #[] 0 (.fresh 0 0 (!w.params.followText "set-order")) }
/-- k is among ks -/
def memB {κ : Type} [DecidableEq κ] (ks : List κ) (k : κ) : Bool := ks.any fun j => decide (j = k)
theorem memB_iff {κ : Type} [DecidableEq κ] {ks : List κ} {k : κ} : memB ks k = true ↔ k ∈ ks := by
  unfold memB
  rw [List.any_eq_true]
  exact ⟨fun ⟨j, h1, h2⟩ => of_decide_eq_true h2 ▸ h1, fun h => ⟨k, h, decide_eq_true rfl⟩⟩
def SetFO (w : World) (a : Addr) : HO := .ext fun h => h.get? a = some (set0 w)
def SetTO (P : Program) (w : World) (a : Addr) (L : List (Addr × List Key)) : HO := .ext fun h => ∃ o es ep t, Tt P w h a L o es ep t
section
variable {X : Cx} {pins : List (Addr × Obj)} {σ : St} {H : Hp} {s : Shared}
theorem Tt.move {P : Program} {w : World} {h h' : Heap} {a : Addr} {L : List (Addr × List Key)} {o : Obj} {es : Array (Int × Value)} {ep : Nat} {t : SetTable} (R : Tt P w h a L o es ep t) (k : ∀ o, h.get? a = some o → h'.get? a = some o) : Tt P w h' a L o es ep t := { R with ob := k o R.ob }
theorem setTO_ok {P : Program} {w : World} {H : Hp} {h : Heap} {a : Addr} {L : List (Addr × List Key)} {o : Obj} {es : Array (Int × Value)} {ep : Nat} {t : SetTable} (R : Tt P w h a L o es ep t) : ObjOk P w H h a (SetTO P w a L) :=
  ⟨⟨o, es, ep, t, R⟩, ⟨o, R.ob⟩, fun h1 h2 ⟨o, es, ep, t, R⟩ k => ⟨o, es, ep, t, R.move k⟩⟩
theorem tt0 {P : Program} {w : World} {h : Heap} {a : Addr} (e : h.get? a = some (set0 w)) : Tt P w h a [] (set0 w) #[] 0 (.fresh 0 0 (!w.params.followText "set-order")) :=
  { ob := e, ex := ⟨rfl, rfl, rfl⟩, dt := rfl, rows := rfl, tab := ⟨List.Pairwise.nil, rfl, rfl, .inl rfl, fun x hx => by simp [SetTable.fresh] at hx, fun i h j hi => by simp at hi⟩, nd := List.nodup_nil, led := by
      show _ ∨ (!w.params.followText "set-order") = true
      cases w.params.followText "set-order"
      · exact .inr rfl
      · exact .inl rfl, room := by show [].length * 5 < 7 * 3; decide, few := by decide }
theorem flat0 {P : Program} {w : World} {h : Heap} {a : Addr} (e : h.get? a = some (set0 w)) : h.SetOf (mixKind P w) a (memB ([] : List Key)) 0 :=
  ⟨_, #[], 0, _, e, ⟨rfl, rfl, rfl⟩, rfl, (fun e he => by simp at he), (fun k => by simp [memB]), (by decide), (by rfl), rfl⟩
/-- the set at D has these members -/
def SetW (X : Cx) (D : Addr) (seen : List PyData) (H : Hp) : Prop :=
  (seen = [] ∧ H D = some (SetFO X.w D)) ∨
  (∃ ks : List Key, ks ≠ [] ∧ seen = ks.map kD ∧ H D = some (SetK X.prog X.w D (memB ks) ks.length)) ∨
  ∃ L : List (Addr × List Key), L ≠ [] ∧ (L.map fun p => tD p.2).Perm seen ∧ H D = some (SetTO X.prog X.w D L) ∧ ∀ p ∈ L, H p.1 = some (.tup (p.2.map kV))
def addD (seen : List PyData) (x : PyData) : List PyData := if (seen.any fun z => keyEq z x) = true then seen else x :: seen
theorem SetW.mut {D : Addr} {seen : List PyData} (h : SetW X D seen H) : Mut (H D) := by
  rcases h with ⟨_, e⟩ | ⟨_, _, _, e⟩ | ⟨_, _, _, e, _⟩ <;> (rw [e]; trivial)
theorem any_kD (ks : List Key) (k : Key) : ((ks.map kD).any fun z => keyEq z (kD k)) = memB ks k := by
  induction ks with
  | nil => rfl
  | cons j ks ih =>
    rw [List.map_cons, List.any_cons, ih, kD_eq]
    rfl
theorem any_tD (ks : List (List Key)) (k : List Key) : ((ks.map tD).any fun z => keyEq z (tD k)) = memB ks k := by
  induction ks with
  | nil => rfl
  | cons j ks ih =>
    rw [List.map_cons, List.any_cons, ih, tD_eq]
    rfl
def addK (ks : List Key) (k : Key) : List Key := if memB ks k = true then ks else k :: ks
theorem flat_step (ks : List Key) (k : Key) : (fun j => memB ks j || decide (j = k)) = memB (addK ks k) := by
  funext j
  unfold addK
  by_cases hk : memB ks k = true
  · rw [if_pos hk]
    by_cases hj : j = k
    · subst hj; rw [hk]; rfl
    · rw [decide_eq_false hj, Bool.or_false]
  · rw [if_neg hk]
    unfold memB
    rw [List.any_cons, Bool.or_comm]
    congr 1
    by_cases hj : j = k
    · rw [decide_eq_true hj, decide_eq_true hj.symm]
    · rw [decide_eq_false hj, decide_eq_false fun z => hj z.symm]
theorem x_setAdd {E : Value → Shared → Prop} {D : Addr} {y : V} {x : PyData} {u : Value} {seen : List PyData} {Q : Value → Shared → Prop} (hu : X.A.units + 64 < cLine) (I : Inv X pins σ H s) (hW : SetW X D seen H) (ky : KeyV H y x) (same : ∀ z ∈ seen, isTupD z = isTupD x) (few : seen.length + 1 < 64) (ry : RelV y u)
    (q : ∀ s' o, Inv X pins σ (upd H D o) s' → SetW X D (addD seen x) (upd H D o) → Q .none s') : wpAny (model X.prog X.w) X.A (call (.builtin "set.add") [.ref D, u]) Q E s := by
  have mu := hW.mut
  cases ky with
  | k k =>
    -- flat
    have go : ∀ ks : List Key, seen = ks.map kD → s.heap.SetOf (mixKind X.prog X.w) D (memB ks) ks.length → wpAny (model X.prog X.w) X.A (call (.builtin "set.add") [.ref D, u]) Q E s := fun ks e hS => by
      have big : (64 : Nat) ≤ scanBound := by decide
      refine call_set_add (kV_is ry) (key_scan ry) hS (by rw [e, List.length_map] at few; omega) fun h' sb new => ?_
      have he : ∃ o, h'.get? D = some o := by
        obtain ⟨o, _, _, _, ho, _⟩ := new
        exact ⟨o, ho⟩
      have n' : h'.SetOf (mixKind X.prog X.w) D (memB (addK ks k)) (addK ks k).length := by
        rw [flat_step] at new
        have e2 : (if memB ks k = true then ks.length else ks.length + 1) = (addK ks k).length := by
          unfold addK
          split <;> rfl
        rw [← e2]
        exact new
      refine q _ _ (I.write (e := D) (t' := s.toks + 1) mu (.inl rfl) (fun b v hb hv => (sb.2 b hb).trans hv) he (setK_new n')) (.inr (.inl ⟨addK ks k, ?_, ?_, upd_same⟩))
      · unfold addK
        split
        · rename_i hk
          intro z
          rw [z] at hk; cases hk
        · exact List.cons_ne_nil _ _
      · unfold addD addK
        rw [e, any_kD]
        split <;> simp
    rcases hW with ⟨e, h⟩ | ⟨ks, _, e, h⟩ | ⟨L, hn, pm, h, _⟩
    · exact go [] e (flat0 (I.hok D _ h).1)
    · exact go ks e (setK_get I h)
    · exfalso
      cases L with
      | nil => exact hn rfl
      | cons p L =>
        have h1 := same (tD p.2) (pm.mem_iff.mp (by simp))
        have h1 : true = isTupD (kD k) := h1
        cases k <;> cases h1
  | @t b k hb =>
    obtain rfl : u = Value.ref b := ry
    have go : ∀ (L : List (Addr × List Key)) {o : Obj} {es : Array (Int × Value)} {ep : Nat} {t : SetTable}, (L.map fun p => tD p.2).Perm seen → Tt X.prog X.w s.heap D L o es ep t → (∀ p ∈ L, H p.1 = some (.tup (p.2.map kV))) → wpAny (model X.prog X.w) X.A (call (.builtin "set.add") [.ref D, .ref b]) Q E s := fun L {o es ep t} pm R tr => by
      have hT : s.TypeIs (.ref D) "set" := ⟨o, R.ob, R.ex.1⟩
      have hk : MT X.prog X.w s.heap k b := key_of I.hok hb
      have lenL : L.length = seen.length := by rw [← pm.length_eq, List.length_map]
      have neD : ∀ {c : Addr} {xs : List V}, H c = some (.tup xs) → c ≠ D := fun {c xs} e z => by
        rw [z] at e
        rw [e] at mu
        exact mu
      refine wpAny_call_entry F.slot_set_add hT F.entry_set_add ?_ (F.args_set_add_2 _ _)
      unfold Builtin.«set.add» Builtin.Frozenset.oneOther
      simp only [List.isEmpty_nil, bind_assoc]
      unfold Builtin.Frozenset.addrOf setAdd
      refine wpAny_bind (wpAny_pure ?_)
      try dsimp only
      refine wpAny_bind (wpAny_pure ?_)
      try dsimp only
      refine wpAny_bind (wpAny_holding (wpAny_bind (wpAny_pyHash_tuple (show X.A.in1.units < cLine from by show X.A.units + 1 < cLine; omega) hk ?_)))
      refine tadd (s := { s with toks := s.toks + (k.length + 1) }) R (fun p hp => key_of I.hok (tr p hp)) hk (show X.A.in1.units < cLine from by show X.A.units + 1 < cLine; omega) (by omega) fun bb h' L' o' es' ep' t' sb R' e1 e2 => ?_
      refine wpAny_pure ⟨_, rfl, q { s with heap := h', toks := s.toks + (k.length + 1) } (SetTO X.prog X.w D L') (I.write (e := D) mu (.inl rfl) (fun b v hb hv => (sb.2 b hb).trans hv) ⟨_, R'.ob⟩ (setTO_ok R')) (.inr (.inr ⟨L', ?_, ?_, upd_same, fun p hp => ?_⟩))⟩
      · by_cases hm : k ∈ L.map (·.2)
        · rw [e1 hm]
          intro z
          rw [z] at hm; cases hm
        · intro z
          have := (e2 hm).length_eq
          rw [z] at this; cases this
      · unfold addD
        have an : (seen.any fun z => keyEq z (tD k)) = memB (L.map (·.2)) k := by
          rw [← any_tD, List.map_map]
          exact (pm.any_eq (f := fun z => keyEq z (tD k))).symm
        rw [an]
        by_cases hm : k ∈ L.map (·.2)
        · rw [e1 hm, if_pos (memB_iff.mpr hm)]; exact pm
        · rw [if_neg fun z => hm (memB_iff.mp z)]
          exact ((e2 hm).map (fun p : Addr × List Key => tD p.2)).trans (List.Perm.cons (tD k) pm)
      · have hp' : p = (b, k) ∨ p ∈ L := by
          by_cases hm : k ∈ L.map (·.2)
          · rw [e1 hm] at hp; exact .inr hp
          · exact List.mem_cons.mp ((e2 hm).mem_iff.mp hp)
        rcases hp' with rfl | hp'
        · rw [upd_ne (neD hb)]; exact hb
        · rw [upd_ne (neD (tr p hp'))]; exact tr p hp'
    rcases hW with ⟨e, h⟩ | ⟨ks, hn, e, h⟩ | ⟨L, hn, pm, h, tr⟩
    · subst e
      exact go [] (List.Perm.refl _) (tt0 (I.hok D _ h).1) fun p hp => nomatch hp
    · exfalso
      cases ks with
      | nil => exact hn rfl
      | cons j ks =>
        have h1 := same (kD j) (by rw [e]; simp)
        have h1 : isTupD (kD j) = true := h1
        cases j <;> cases h1
    · obtain ⟨o, es, ep, t, R⟩ := (I.hok D _ h).1
      exact go L pm R tr
end

/-! ### the comprehension -/
section
variable {X : Cx}
def ElS (X : Cx) (elt : Expr) (env : Env) (D : Addr) (Q : Shared → Prop) (N : Value → Shared → Prop) (s : Shared) : Prop := wpAny (model X.prog X.w) X.A (eval elt env) (fun x s4 => wpAny (model X.prog X.w) X.A (call (.builtin "set.add") [.ref D, x]) (fun _ s5 => Q s5) N s4) N s
theorem kind_set {elt tg iter : Expr} {ifs : List Expr} {scope : Scope} {pos : Pos} : Kind X (.SetComp elt [⟨tg, iter, ifs, 0⟩] scope pos) tg ifs (newSet (.type "set")) (set0 X.w) (fun a => SetFO X.w a) (ElS X elt) where
  made := fun h => PpSet.newSet_ok h
  fits := fun _ => ⟨Heap.get?_push_size _ rfl, ⟨_, Heap.get?_push_size _ rfl⟩, fun h1 h2 e k => k _ e⟩
  start := fun h0 h => PpSet.codeAny_compStart_set h0 h
  loop := fun J turn n h => PpSet.compLoopS_any J turn n h
def telS (X : Cx) (te : TE) : Addr → St → Hp → (Hp → Prop) → Prop := fun D σ H Nx => te σ H fun y H4 => ∃ x seen, SetW X D seen H4 ∧ KeyV H4 y x ∧ (∀ z ∈ seen, isTupD z = isTupD x) ∧ seen.length + 1 < 64 ∧ ∀ o, SetW X D (addD seen x) (upd H4 D o) → Nx (upd H4 D o)
theorem pe_scw {elt tg iter : Expr} {ifs : List Expr} {scope : Scope} {own : List (Str × Nat)} {pos : Pos} {wi : TI} {g : TG} {tt : TT} {te : TE} (hu : X.A.units + 64 < cLine) (hc : X.calm = true) (hN : X.N.Nodup) (hi : PI X tg iter wi) (ok : BlkOk X.N X.env.scope scope own) (hg : Blk X scope fun B => PG B tg g)
    (ht : Blk X scope fun B => PTs B ifs tt) (he : Blk X scope fun B => PE B elt te) (hs : ∀ x, foldedSetIterable iter X.env x = pure x) : PE X (.SetComp elt [⟨tg, iter, ifs, 0⟩] scope pos) (tComp wi g tt (telS X te) (fun a => SetFO X.w a) (own.map (·.2))) := by
  refine ⟨fun pins s σ H Q I h => ?_⟩
  rw [PpSet.eval_SetComp]
  refine comp_core kind_set rfl hc hN I hi ok hg ht (fun s0 H0 C cl fp pins s σ D H Nx N I h => ?_) (fun h q => wpAny_mono h (fun _ _ h => wpAny_mono h (fun _ _ h => q _ h) fun _ _ z => z) fun _ _ z => z) hs h fun D C s' m H' I' q hn f => ⟨m, hn, fun h2 sb => ⟨.ref D, H', I'.turned (t' := s'.toks) (fun b o hb e => (sb.2 b hb).trans e) f.1 f.2.1 f.2.2.2.1 f.2.2.2.2.1 f.2.2.2.2.2, rfl, q⟩⟩
  exact thnF ((he s0 H0 C cl fp).run pins s σ H _ I h) fun v s4 ⟨y, H4, I4, r4, x, seen, w4, ky, same, few, nx⟩ => x_setAdd (X := X.blk s0 H0 scope (compEnvC scope cl C X.env) fp) hu I4 w4 ky same few r4 fun s5 o I5 w5 => ⟨σ, _, I5, Know.refl _ _, nx o w5⟩
def scL (n : Nat) (cur : Cur) (all : List U) (γ : WG) (τ : WT) (ε : WE) (base : SS) : List U → List PyData → GH → (List PyData → GH → Prop) → Prop
  | [], seen => fun G P => cur G = some all ∧ P seen G
  | u :: us, seen => fun G P => cur G = some all ∧ γ u base G fun ss1 G1 => τ ss1 G1 (fun b G2 => if b = true then ε ss1 G2 (fun y G3 => match y with
      | .d x => G3[n]? = G[n]? ∧ keyOk x = true ∧ (∀ z ∈ seen, isTupD z = isTupD x) ∧ seen.length + 1 < 64 ∧ ∀ φ L, scL n cur all γ τ ε base us (addD seen x) (G3.set n (.opq φ L)) P
      | _ => False) noX else G2[n]? = G[n]? ∧ scL n cur all γ τ ε base us seen G2 P) noX
def eLenSc (ι : WI) (γ : WG) (τ : WT) (ε : WE) (ws : List Nat) : WE := fun ss G P p => ι ss G (fun cur G1 => match cur G1 with
  | some us => ∀ φ, scL G1.length cur us γ τ ε (wipeU ss ws) us [] (G1 ++ [.opq φ []]) fun seen G2 => P (.d (.int seen.length)) G2
  | none => False) p
theorem scL_cur {n : Nat} {cur : Cur} {all : List U} {γ : WG} {τ : WT} {ε : WE} {base : SS} {us : List U} {seen : List PyData} {G : GH} {P : List PyData → GH → Prop} (h : scL n cur all γ τ ε base us seen G P) : cur G = some all := by
  cases us <;> exact h.1
/-- the object φ, its tuples L, has these members -/
def Wit (X : Cx) (D : Addr) (seen : List PyData) (φ : Heap → Prop) (L : List (Addr × List Key)) : Prop :=
  (seen = [] ∧ HO.ext φ = SetFO X.w D) ∨ (∃ ks : List Key, ks ≠ [] ∧ seen = ks.map kD ∧ HO.ext φ = SetK X.prog X.w D (memB ks) ks.length) ∨ (L ≠ [] ∧ (L.map fun p => tD p.2).Perm seen ∧ HO.ext φ = SetTO X.prog X.w D L)
theorem wit_w {D : Addr} {seen : List PyData} {φ : Heap → Prop} {L : List (Addr × List Key)} {H : Hp} (w : Wit X D seen φ L) (h : H D = some (.ext φ)) (t : ∀ q ∈ L, H q.1 = some (.tup (q.2.map kV))) : SetW X D seen H := by
  rcases w with ⟨e, f⟩ | ⟨ks, n, e, f⟩ | ⟨n, p, f⟩
  · exact .inl ⟨e, by rw [h, f]⟩
  · exact .inr (.inl ⟨ks, n, e, by rw [h, f]⟩)
  · exact .inr (.inr ⟨L, n, p, by rw [h, f], t⟩)
theorem w_wit {D : Addr} {seen : List PyData} {H : Hp} (w : SetW X D seen H) : ∃ φ L, Wit X D seen φ L ∧ H D = some (.ext φ) ∧ ∀ q ∈ L, H q.1 = some (.tup (q.2.map kV)) := by
  rcases w with ⟨e, h⟩ | ⟨ks, n, e, h⟩ | ⟨L, n, p, h, t⟩
  · exact ⟨_, [], .inl ⟨e, rfl⟩, h, fun q hq => nomatch hq⟩
  · exact ⟨_, [], .inr (.inl ⟨ks, n, e, rfl⟩), h, fun q hq => nomatch hq⟩
  · exact ⟨_, L, .inr (.inr ⟨n, p, rfl⟩), h, t⟩
variable {W : WX} {tg iter elt : Expr} {pos p : Pos} {γ : WG} {ws : List Nat} {ι : WI} {τ : WT} {ε : WE}
theorem keyV_flat {H : Hp} {y : V} {x : PyData} (k : KeyV H y x) : True := trivial
theorem sc_of {σ : St} {H : Hp} {Q : VK} {PP : List PyData → GH → Prop} {m : MM} {G : GH} {ss : SS} {px : PX} (M : Mem X.K m G H) (S : StOk X.K m G H σ ss) (h : ι ss G (fun cur G1 => match cur G1 with
  | some us => ∀ φ, scL G1.length cur us γ τ ε (wipeU ss ws) us [] (G1 ++ [.opq φ []]) PP
  | none => False) px) (hx : OkX X.K W m G H σ px)
    (q : ∀ D seen G' m' H', PP seen G' → Ext m G H m' G' H' → Mem X.K m' G' H' → SetW X D seen H' → Q (.ref D) H') : tComp (tI X.K W ι) (tGc X.K ws γ) (tT X.K W0 τ) (telS X (tE X.K W0 ε)) (fun a => SetFO X.w a) ws σ H Q := by
  refine ⟨m, G, ss, _, px, M, S, h, hx, fun cur G1 J m1 H1 p1 e1 M1 it D hD => ?_⟩
  split at p1
  · rename_i us hcur
    have hl := M1.len
    have k0 : ∀ a x, H1 a = some x → (upd H1 D (SetFO X.w D)) a = some x := fun a x e => by
      rw [upd_ne (ne_of_none e hD)]; exact e
    have e2 : Ext m1 G1 H1 (m1 ++ [(D, D)]) (G1 ++ [.opq (fun h => h.get? D = some (set0 X.w)) []]) (upd H1 D (SetFO X.w D)) := Ext.alloc hl hD k0
    have M2 : Mem X.K (m1 ++ [(D, D)]) (G1 ++ [.opq (fun h => h.get? D = some (set0 X.w)) []]) (upd H1 D (SetFO X.w D)) := M1.alloc hD k0 ⟨upd_same, fun q hq => nomatch hq⟩
    have S2 := ((S.ext M e1).ext M1 e2).wipe ws
    have hDm : ∀ {m' : MM} {G' : GH} {H' : Hp}, Ext (m1 ++ [(D, D)]) (G1 ++ [.opq (fun h => h.get? D = some (set0 X.w)) []]) (upd H1 D (SetFO X.w D)) m' G' H' → m'[G1.length]? = some (D, D) := fun e => by
      obtain ⟨l, rfl⟩ := e.pre
      rw [List.getElem?_append_left (by rw [List.length_append, hl]; simp), ← hl, List.getElem?_append_right (Nat.le_refl _)]
      simp
    have g0 : (G1 ++ [MO.opq (fun h => h.get? D = some (set0 X.w)) []])[G1.length]? = some (.opq (fun h => h.get? D = some (set0 X.w)) []) := by
      rw [List.getElem?_append_right (Nat.le_refl _)]; simp
    refine ⟨fun i k H' => k = us.length - i ∧ ∃ m' G' seen φ L, Mem X.K m' G' H' ∧ Ext (m1 ++ [(D, D)]) (G1 ++ [.opq (fun h => h.get? D = some (set0 X.w)) []]) (upd H1 D (SetFO X.w D)) m' G' H' ∧ G'[G1.length]? = some (.opq φ L) ∧ Wit X D seen φ L ∧ scL G1.length cur us γ τ ε (wipeU ss ws) (us.drop i) seen G' PP,
      ⟨us.length - 0, rfl, _, _, [], _, [], M2, Ext.refl, g0, .inl ⟨rfl, rfl⟩, p1 _⟩, ?_⟩
    rintro i k H' ⟨rfl, m', G', seen, φ, L, M', e', hG', wt, h'⟩
    have hcur' := scL_cur h'
    have ee := e2.trans e'
    cases hu : us[i]? with
    | none =>
      have hi : us.length ≤ i := List.getElem?_eq_none_iff.mp hu
      rw [List.drop_eq_nil_of_le hi] at h'
      obtain ⟨o1, o2⟩ := M'.ok _ _ _ (hDm e') hG'
      exact .inl ⟨it.stop m' G' H' us i ee M' hcur' hi, q D seen G' m' H' h'.2 (e1.trans ee) M' (wit_w wt o1 o2)⟩
    | some u =>
      have hi := (List.getElem?_eq_some_iff.mp hu).1
      have hd : us.drop i = u :: us.drop (i + 1) := by
        rw [List.drop_eq_getElem_cons hi]
        rw [List.getElem?_eq_getElem hi] at hu
        cases hu; rfl
      rw [hd] at h'
      obtain ⟨_, h'⟩ := h'
      obtain ⟨g1, g2⟩ := it.go m' G' H' us i u ee M' hcur' hu
      refine .inr ⟨g1, fun H2 => ∃ m' G' seen φ L, Mem X.K m' G' H2 ∧ Ext (m1 ++ [(D, D)]) (G1 ++ [.opq (fun h => h.get? D = some (set0 X.w)) []]) (upd H1 D (SetFO X.w D)) m' G' H2 ∧ G'[G1.length]? = some (.opq φ L) ∧ Wit X D seen φ L ∧ scL G1.length cur us γ τ ε (wipeU ss ws) (us.drop (i + 1)) seen G' PP,
        fun H2 z => ⟨us.length - (i + 1), by omega, rfl, z⟩, fun x H2 y => ?_⟩
      obtain ⟨y1, y2, y3⟩ := g2 x H2 y
      refine ⟨m', G', _, u, _, y2, (S2.ext M2 e').ext M' y1, y3, h', fun ss3 G3 σ3 m3 H3 p3 e3 M3 S3 w3 => ⟨by rw [w3, wipe_wipe], m3, G3, ss3, _, _, M3, S3, p3, fun _ _ _ _ _ _ z => z.elim, fun b G4 m4 H4 p4 e4 M4 => ?_⟩⟩
      have e34 := ((e'.trans y1).trans e3).trans e4
      split at p4
      · rename_i hb
        show if b = true then _ else _
        rw [if_pos hb]
        refine ⟨m4, G4, ss3, _, _, M4, S3.ext M3 e4, p4, fun _ _ _ _ _ _ z => z.elim, fun yv G5 v5 m5 H5 p5 e5 M5 r5 => ?_⟩
        have e35 := e34.trans e5
        split at p5
        · rename_i xd
          obtain ⟨hsame, hk, kk, few, nx⟩ := p5
          have hm5 := hDm e35
          rw [hG'] at hsame
          obtain ⟨o1, o2⟩ := M5.ok _ _ _ hm5 hsame
          refine ⟨xd, seen, wit_w wt o1 o2, keyV_of r5 hk, kk, few, fun o w' => ?_⟩
          obtain ⟨φ', L', wt', d1, d2⟩ := w_wit w'
          have eo : o = .ext φ' := by
            rw [upd_same] at d1
            exact Option.some.inj d1
          subst eo
          have e6 : Ext m5 G5 H5 m5 (G5.set G1.length (.opq φ' L')) (upd H5 D (.ext φ')) := Ext.write hm5 hsame rfl fun a ha => upd_ne ha
          have M6 : Mem X.K m5 (G5.set G1.length (.opq φ' L')) (upd H5 D (.ext φ')) := M5.write hm5 hsame rfl (fun a ha => upd_ne ha) ⟨upd_same, d2⟩
          exact ⟨m5, _, addD seen xd, φ', L', M6, e35.trans e6, List.getElem?_set_self (List.getElem?_eq_some_iff.mp hsame).1, wt', nx φ' L'⟩
        · exact p5.elim
      · rename_i hb
        show if b = true then _ else _
        rw [if_neg hb]
        exact ⟨m4, G4, seen, φ, L, M4, e34, p4.1.trans hG', wt, p4.2⟩
  · exact p1.elim
theorem w_len {pins : List (Addr × Obj)} {s : Shared} {σ : St} {H : Hp} {D : Addr} {seen : List PyData} {E : Value → Shared → Prop} {Q : Value → Shared → Prop} (I : Inv X pins σ H s) (w : SetW X D seen H) (q : ∀ s' t, Inv X pins σ H s' → Q (.int seen.length t) s') : wpAny (model X.prog X.w) X.A (call (.builtin "len") [.ref D]) Q E s := by
  have go : ∀ {o : Obj} {es : Array (Int × Value)} {ep : Nat} {t : SetTable}, s.heap.get? D = some o → o.ExactSet → o.data = .set es ep t → t.fits es.size = true → es.size = seen.length → seen.length < 4096 → wpAny (model X.prog X.w) X.A (call (.builtin "len") [.ref D]) Q E s := fun {o es ep t} ho hx hd hf hn hz => by
    refine call_len_set ho hx hd hf (by rw [hn]; omega) ?_
    rw [hn]
    exact q _ _ (I.tok _)
  rcases w with ⟨e, h⟩ | ⟨ks, _, e, h⟩ | ⟨L, _, pm, h, _⟩
  · subst e
    exact go (I.hok D _ h).1 ⟨rfl, rfl, rfl⟩ rfl (by rfl) rfl (by decide)
  · obtain ⟨o, es, ep, t, ho, hx, hd, _, _, hz, hf, hn⟩ := setK_get I h
    have hz : es.size < 4096 := hz
    exact go ho hx hd hf (by rw [hn, e, List.length_map]) (by rw [e, List.length_map, ← hn]; exact hz)
  · obtain ⟨o, es, ep, t, R⟩ := (I.hok D _ h).1
    have hl : L.length = seen.length := by rw [← pm.length_eq, List.length_map]
    have := R.few
    exact go R.ob R.ex R.dt R.fits (by rw [R.sz, hl]) (by omega)
theorem r_lenSc {ifs : List Expr} {scope : Scope} {own : List (Str × Nat)} {cpos : Pos} (hu : X.A.units + 64 < cLine) (hc : X.calm = true) (hN : X.N.Nodup) (hm : X.mg "len" = none) (ok : BlkOk X.N X.env.scope scope own) (hi : PI X tg iter (tI X.K W ι)) (hg : Blk X scope fun B => PG B tg (tGc X.K (own.map (·.2)) γ))
    (ht : Blk X scope fun B => PTs B ifs (tT X.K W0 τ)) (he : Blk X scope fun B => PE B elt (tE X.K W0 ε)) (hs : ∀ x, foldedSetIterable iter X.env x = pure x := by intro _; rfl) (hv : bootBuiltins "len" = some (.builtin "len") := by decide +kernel) (hgl : Gl X "len" := by rfl)
    (hst : starEach [Expr.SetComp elt [⟨tg, iter, ifs, 0⟩] scope cpos] X.env = (false, eval (.SetComp elt [⟨tg, iter, ifs, 0⟩] scope cpos) X.env) :: starEach [] X.env := by rfl) (hpl : (backTo pos (starEach ([] : List Expr) X.env)).any (·.1) = false := by rfl) :
    PE X (.Call (.Name "len" p) [.SetComp elt [⟨tg, iter, ifs, 0⟩] scope cpos] [] pos) (tE X.K W (eLenSc ι γ τ ε (own.map (·.2)))) := by
  refine ⟨fun pins s σ H Q I ⟨m, G, ss, P, px, M, S, h, hx, q⟩ => ?_⟩
  refine wpAny_Call_Name_kw (ld_blt I hgl hm hv ?_ (by decide) (by decide))
  have pc := pe_scw (pos := cpos) hu hc hN hi ok hg ht he hs
  have h1 := sc_of (X := X) (Q := fun v H1 => ∃ D seen G' m', v = .ref D ∧ SetW X D seen H1 ∧ P (.d (.int seen.length)) G' ∧ Ext m G H m' G' H1 ∧ Mem X.K m' G' H1) M S h hx fun D seen G' m' H' p e M' w => ⟨D, seen, G', m', rfl, w, p, e, M'⟩
  refine PyProof.Rows.callWith_builtin1 (thn ((pa_cons pc pa_nil hst).run pos pins s σ H (fun vs H1 => ∃ D seen G' m', vs = [.ref D] ∧ SetW X D seen H1 ∧ P (.d (.int seen.length)) G' ∧ Ext m G H m' G' H1 ∧ Mem X.K m' G' H1) I ?_) fun us s1 ⟨vs, H1, I1, r1, D, seen, G', m', ev, w, pp, e, M'⟩ => ?_) hst hpl
  · show tComp _ _ _ _ _ _ σ H _
    have conv : (fun v H1 => ∃ D seen G' m', v = V.ref D ∧ SetW X D seen H1 ∧ P (.d (.int seen.length)) G' ∧ Ext m G H m' G' H1 ∧ Mem X.K m' G' H1) = (fun v H1 => tNil σ H1 fun vs H2 => (∃ D seen G' m', v :: vs = [V.ref D] ∧ SetW X D seen H2 ∧ P (.d (.int seen.length)) G' ∧ Ext m G H m' G' H2 ∧ Mem X.K m' G' H2)) := by
      funext v H1
      apply propext
      constructor
      · rintro ⟨D, seen, G', m', rfl, r⟩; exact ⟨D, seen, G', m', rfl, r⟩
      · rintro ⟨D, seen, G', m', e, r⟩; cases e; exact ⟨D, seen, G', m', rfl, r⟩
    rw [conv] at h1
    exact h1
  · subst ev
    obtain ⟨u, rfl, rv⟩ := vals1 r1
    cases rv
    exact w_len I1 w fun s' t J => ⟨.int seen.length, H1, J, ⟨t, rfl⟩, q _ G' _ m' H1 pp e M' (Rep.int _)⟩
end
end R
/-! ## part RX -/
/-! The layer R: what readings come to, for the plain laws. -/
namespace R
open PySem PySem.Spec
open PyProof.Rows hiding St
open L2
theorem set_last {G : GH} {o o' : MO} : (G ++ [o]).set G.length o' = G ++ [o'] := by
  rw [List.set_append]; simp
theorem get_last {G : GH} {o : MO} : (G ++ [o])[G.length]? = some o := by
  rw [List.getElem?_append_right (Nat.le_refl _)]; simp
theorem get_front {G : GH} {o o' : MO} {n : Nat} (h : G[n]? = some o) : (G ++ [o'])[n]? = some o := by
  rw [List.getElem?_append_left (List.getElem?_eq_some_iff.mp h).1]; exact h
theorem set_front {G : GH} {o' x : MO} {n : Nat} (h : n < G.length) : (G ++ [o']).set n x = G.set n x ++ [o'] := by
  rw [List.set_append, if_pos h]
theorem left_drop {G T : GH} (hG : Closed G) {x : PyData} : Left G.length (.d x) (G ++ T) G := .inr ⟨⟨T, rfl⟩, rfl, hG, Nat.le_refl _⟩
theorem left_same {n : Nat} {u : U} {G : GH} : Left n u G G := .inl rfl
/-- an item that changes nothing: what it gives, or that it is left out -/
def PureEl (γ : WG) (τ : WT) (ε : WE) (base : SS) (u : U) (o : Option U) : Prop := ∀ (G : GH) (Q : U → GH → Prop) (L : GH → Prop), (match o with
  | some y => Q y G
  | none => L G) → γ u base G fun ss1 G1 => τ ss1 G1 (fun b G2 => if b = true then ε ss1 G2 Q noX else L G2) noX
theorem lcL_pure {γ : WG} {τ : WT} {ε : WE} {base : SS} {cur : Cur} {all : List U} (hc : ∀ G, cur G = some all) {g : U → Option U} : ∀ {us : List U} {G : GH} {acc : List U} {P : GH → Prop}, (∀ u ∈ us, PureEl γ τ ε base u (g u)) → acc.length + us.length < sizeLine →
    P (G ++ [.lst (acc ++ us.filterMap g)]) → lcL G.length cur all γ τ ε base us (G ++ [.lst acc]) P
  | [], G, acc, P, _, _, h => by
    rw [List.filterMap_nil, List.append_nil] at h
    exact ⟨hc _, h⟩
  | u :: us, G, acc, P, he, hz, h => by
    refine ⟨hc _, he u List.mem_cons_self _ _ _ ?_⟩
    rw [List.length_cons] at hz
    cases hu : g u with
    | none =>
      rw [List.filterMap_cons_none hu] at h
      exact lcL_pure hc (fun v hv => he v (List.mem_cons_of_mem _ hv)) (by omega) h
    | some y =>
      rw [List.filterMap_cons_some hu] at h
      show (match (G ++ [MO.lst acc])[G.length]? with
        | some (.lst acc) => acc.length < sizeLine ∧ lcL G.length cur all γ τ ε base us ((G ++ [MO.lst _]).set G.length (.lst (acc ++ [y]))) P
        | _ => False)
      rw [get_last]
      refine ⟨by omega, ?_⟩
      rw [set_last]
      refine lcL_pure hc (fun v hv => he v (List.mem_cons_of_mem _ hv)) (by rw [List.length_append, List.length_singleton]; omega) ?_
      rw [List.append_assoc]
      exact h
/-- a list comprehension that changes nothing, its value -/
theorem val_lc {ι : WI} {γ : WG} {τ : WT} {ε : WE} {ws : List Nat} {ss : SS} {G : GH} {P : PU} {p : PX} (hG : Closed G) (us : List U) (g : U → Option U) (xs : List PyData) (hι : ∀ R : Cur → GH → Prop, (∀ cur : Cur, (∀ G, cur G = some us) → R cur G) → ι ss G R p)
    (he : ∀ u ∈ us, PureEl γ τ ε (wipeU ss ws) u (g u)) (hx : us.filterMap g = xs.map .d) (hz : us.length < sizeLine) (h : P (.d (.list xs)) G) : eVal (eLc ι γ τ ε ws) ss G P p := by
  refine hι _ fun cur hc => ?_
  show (match cur G with
    | some us => lcL G.length cur us γ τ ε (wipeU ss ws) us (G ++ [.lst []]) _
    | none => False)
  rw [hc G]
  refine lcL_pure hc he (by simpa using hz) ?_
  show frzU (.r G.length) (G ++ [MO.lst ([] ++ us.filterMap g)]) _
  unfold frzU
  simp only [get_last]
  rw [List.nil_append, hx, dataOf_map]
  simp only [set_last]
  exact ⟨G, left_drop hG, h⟩
abbrev Cnd (G : GH) (Q : PU) (p : PX) : Cn := { nx := fun _ G1 => ∃ G', Left G.length (.d .none) G1 G' ∧ Q (.d .none) G', rt := fun u G1 => ∃ G', Left G.length u G1 G' ∧ Q u G', ex := fun x _ G' => p x G' }
/-- the value of all([..]) -/
theorem all_val {xs : List PyData} {bs : List Bool} {G : GH} {P : PU} (h : xs = bs.map .bool) (q : P (.d (.bool (bs.all id))) G) : gAll [.d (.list xs)] G P := by
  subst h
  show (match boolsOf (bs.map PyData.bool) with
    | some bs => P (.d (.bool (bs.all id))) G
    | none => False)
  rw [boolsOf_map]
  exact q
theorem some_map {α : Type} (l : List α) (f : α → U) (g : U → Option U) (h : α → PyData) (e : ∀ a, g (f a) = some (.d (h a))) : (l.map f).filterMap g = (l.map h).map .d := by
  induction l with
  | nil => rfl
  | cons a l ih =>
    rw [List.map_cons, List.filterMap_cons_some (e a), ih]; rfl
end R
/-! ## part RY -/
/-! The layer R: data of texts, whole numbers and None, and rows of such, for the plain laws. -/
namespace R
open PySem PySem.Spec
open PyProof.Rows hiding St
mutual
/-- texts, whole numbers, None, and rows of such -/
def nz : PyData → Bool
  | .str _ => true
  | .int _ => true
  | .none => true
  | .tuple xs => nzAll xs
  | .list xs => nzAll xs
  | _ => false
def nzAll : List PyData → Bool
  | [] => true
  | x :: xs => nz x && nzAll xs
end
theorem nzAll_iff {xs : List PyData} : nzAll xs = true ↔ ∀ x ∈ xs, nz x = true := by
  induction xs with
  | nil => simp [nzAll]
  | cons x xs ih => simp [nzAll, ih]
mutual
theorem nz_plain : ∀ d : PyData, nz d = true → d.plain = true
  | .str _, _ => by simp [PyData.plain]
  | .int _, _ => by simp [PyData.plain]
  | .none, _ => by simp [PyData.plain]
  | .tuple xs, h => by simp only [nz] at h; simp only [PyData.plain]; exact nzAll_plain xs h
  | .list xs, h => by simp only [nz] at h; simp only [PyData.plain]; exact nzAll_plain xs h
  | .bool _, h => by simp [nz] at h
  | .dict _, h => by simp [nz] at h
theorem nzAll_plain : ∀ xs : List PyData, nzAll xs = true → PyData.plainAll xs = true
  | [], _ => by simp [PyData.plainAll]
  | x :: xs, h => by
    simp only [nzAll, Bool.and_eq_true] at h
    simp only [PyData.plainAll, nz_plain x h.1, nzAll_plain xs h.2, Bool.and_self]
end
mutual
theorem nz_eqv : ∀ d e : PyData, nz d = true → nz e = true → (PyData.eqv d e = true ↔ d = e)
  | .tuple xs, .tuple ys, h, k => by
    simp only [nz] at h k
    simp only [PyData.eqv, PyData.tuple.injEq]
    exact nzAll_eqv xs ys h k
  | .list xs, .list ys, h, k => by
    simp only [nz] at h k
    simp only [PyData.eqv, PyData.list.injEq]
    exact nzAll_eqv xs ys h k
  | .str a, e, h, k => by cases e <;> simp [nz, PyData.eqv] at h k ⊢
  | .int a, e, h, k => by cases e <;> simp [nz, PyData.eqv] at h k ⊢
  | .none, e, h, k => by cases e <;> simp [nz, PyData.eqv] at h k ⊢
  | .tuple xs, .str _, h, k => by simp [PyData.eqv]
  | .tuple xs, .int _, h, k => by simp [PyData.eqv]
  | .tuple xs, .none, h, k => by simp [PyData.eqv]
  | .tuple xs, .list _, h, k => by simp [PyData.eqv]
  | .tuple xs, .bool _, h, k => by simp [nz] at k
  | .tuple xs, .dict _, h, k => by simp [nz] at k
  | .list xs, .str _, h, k => by simp [PyData.eqv]
  | .list xs, .int _, h, k => by simp [PyData.eqv]
  | .list xs, .none, h, k => by simp [PyData.eqv]
  | .list xs, .tuple _, h, k => by simp [PyData.eqv]
  | .list xs, .bool _, h, k => by simp [nz] at k
  | .list xs, .dict _, h, k => by simp [nz] at k
  | .bool _, _, h, _ => by simp [nz] at h
  | .dict _, _, h, _ => by simp [nz] at h
theorem nzAll_eqv : ∀ xs ys : List PyData, nzAll xs = true → nzAll ys = true → (PyData.eqvAll xs ys = true ↔ xs = ys)
  | [], [], _, _ => by simp [PyData.eqvAll]
  | [], _ :: _, _, _ => by simp [PyData.eqvAll]
  | _ :: _, [], _, _ => by simp [PyData.eqvAll]
  | x :: xs, y :: ys, h, k => by
    simp only [nzAll, Bool.and_eq_true] at h k
    simp only [PyData.eqvAll, Bool.and_eq_true, List.cons.injEq, nz_eqv x y h.1 k.1, nzAll_eqv xs ys h.2 k.2]
end
theorem nz_eqv_no {d e : PyData} (h : nz d = true) (k : nz e = true) : PyData.eqv d e = false ↔ d ≠ e := by
  rw [← Bool.not_eq_true, nz_eqv d e h k]
/-- the two are nice and one is not deep -/
theorem eqOk_nz {d e : PyData} (h : nz d = true) (k : nz e = true) (z : min d.depth e.depth ≤ 50) : EqOk d e := ⟨nz_plain d h, nz_plain e k, z⟩
theorem inOk_nz {d : PyData} {ys : List PyData} (h : nz d = true) (k : nzAll ys = true) (z : min (PyData.depthAll ys) d.depth ≤ 50) : InOk d ys := ⟨nzAll_plain ys k, nz_plain d h, z⟩
theorem eqOk_str {a : Str} {e : PyData} : EqOk (.str a) e ↔ e.plain = true := ⟨fun h => h.2.1, fun h => ⟨by simp [PyData.plain], h, by simp [PyData.depth]⟩⟩
theorem eqOk_int {a : Int} {e : PyData} : EqOk (.int a) e ↔ e.plain = true := ⟨fun h => h.2.1, fun h => ⟨by simp [PyData.plain], h, by simp [PyData.depth]⟩⟩
theorem eqOk_str' {a : Str} {e : PyData} : EqOk e (.str a) ↔ e.plain = true := ⟨fun h => h.1, fun h => ⟨h, by simp [PyData.plain], by simp [PyData.depth]⟩⟩
theorem eqOk_int' {a : Int} {e : PyData} : EqOk e (.int a) ↔ e.plain = true := ⟨fun h => h.1, fun h => ⟨h, by simp [PyData.plain], by simp [PyData.depth]⟩⟩
theorem inOk_str {a : Str} {ys : List PyData} : InOk (.str a) ys ↔ PyData.plainAll ys = true := ⟨fun h => h.1, fun h => ⟨h, by simp [PyData.plain], by simp [PyData.depth]⟩⟩
theorem eqv_str {a b : Str} : PyData.eqv (.str a) (.str b) = decide (a = b) := by
  rw [Bool.eq_iff_iff, nz_eqv _ _ rfl rfl, decide_eq_true_eq, PyData.str.injEq]
theorem eqv_int {a b : Int} : PyData.eqv (.int a) (.int b) = decide (a = b) := by
  rw [Bool.eq_iff_iff, nz_eqv _ _ rfl rfl, decide_eq_true_eq, PyData.int.injEq]
theorem any_nz {ys : List PyData} {x : PyData} (k : nzAll ys = true) (h : nz x = true) : (ys.any fun y => PyData.eqv y x) = true ↔ x ∈ ys := by
  rw [List.any_eq_true]
  constructor
  · rintro ⟨y, hy, e⟩
    rw [nz_eqv y x (nzAll_iff.mp k y hy) h] at e
    exact e ▸ hy
  · exact fun hx => ⟨x, hx, (nz_eqv x x h h).mpr rfl⟩
theorem depthAll_le {n : Nat} : ∀ {xs : List PyData}, (∀ x ∈ xs, x.depth ≤ n) → PyData.depthAll xs ≤ n
  | [], _ => by simp [PyData.depthAll]
  | x :: xs, h => by
    rw [PyData.depthAll]
    exact Nat.max_le.mpr ⟨h x List.mem_cons_self, depthAll_le fun y hy => h y (List.mem_cons_of_mem _ hy)⟩
theorem depth_row {n : Nat} {xs : List PyData} (h : ∀ x ∈ xs, x.depth ≤ n) : (PyData.tuple xs).depth ≤ n + 1 ∧ (PyData.list xs).depth ≤ n + 1 := by
  simp only [PyData.depth]
  exact ⟨Nat.succ_le_succ (depthAll_le h), Nat.succ_le_succ (depthAll_le h)⟩
end R
/-! ## part RZ -/
/-! The layer R: what an expression is worth where it changes nothing. -/
namespace R
open PySem PySem.Spec
open PyProof.Rows hiding St
open L2
/-- an expression that changes nothing, and its value -/
def Ev (e : WE) (ss : SS) (G : GH) (u : U) : Prop := ∀ (P : PU) (p : PX), P u G → e ss G P p
def Et (c : WT) (ss : SS) (G : GH) (b : Bool) : Prop := ∀ (P : Bool → GH → Prop) (p : PX), P b G → c ss G P p
def Ea (a : WA) (ss : SS) (G : GH) (us : List U) : Prop := ∀ (P : List U → GH → Prop) (p : PX), P us G → a ss G P p
def Eo (o : WO) (ss : SS) (G : GH) (i : Option Int) : Prop := ∀ (P : Option Int → GH → Prop) (p : PX), P i G → o ss G P p
def Eg (g : G2) (x y : U) (G : GH) (z : U) : Prop := ∀ P : PU, P z G → g x y G P
def En (g : Gn) (us : List U) (G : GH) (z : U) : Prop := ∀ P : PU, P z G → g us G P
def Ei (ι : WI) (ss : SS) (G : GH) (us : List U) : Prop := ∀ (R : Cur → GH → Prop) (p : PX), (∀ cur : Cur, (∀ G', cur G' = some us) → R cur G) → ι ss G R p
def Pat (γ : WG) (u : U) (ss : SS) (G : GH) (ss' : SS) : Prop := ∀ P : SS → GH → Prop, P ss' G → γ u ss G P
section
variable {ss ss' : SS} {G : GH} {u v x y z w : U} {us : List U} {a b c e o : WE} {t t' : WT} {α : WA} {g g' : G2} {n i j : Nat} {ι : WI} {γ : WG} {C : Cn} {φ ψ : WS} {p q : Bool}
theorem ev_var (h : ss[i]? = some (some u)) : Ev (eVar i) ss G u := fun P p q => by
  show (match ss[i]? with
    | some (some u) => P u G
    | _ => False)
  rw [h]; exact q
theorem ev_c {d : PyData} : Ev (eC d) ss G (.d d) := fun _ _ q => q
theorem ev_k {d : PyData} : Ev (eK d) ss G (.k d) := fun _ _ q => q
theorem ev_op (ha : Ev a ss G x) (hb : Ev b ss G y) (hg : Eg g x y G z) : Ev (eOp g a b) ss G z := fun P p q => ha _ _ (hb _ _ (hg _ q))
theorem ev_if (ht : Et t ss G p) (ha : p = true → Ev a ss G u) (hb : p = false → Ev b ss G u) : Ev (eIf t a b) ss G u := fun P r q => ht _ _ (by
  cases p
  · exact hb rfl _ _ q
  · exact ha rfl _ _ q)
theorem ev_and (ha : Ev a ss G (.d (.bool p))) (hb : p = true → Ev b ss G (.d (.bool q))) : Ev (eAnd a b) ss G (.d (.bool (p && q))) := fun P r k => ha _ _ (by
  cases p
  · exact k
  · exact hb rfl _ _ k)
theorem ev_or (ha : Ev a ss G (.d (.bool p))) (hb : p = false → Ev b ss G (.d (.bool q))) : Ev (eOr a b) ss G (.d (.bool (p || q))) := fun P r k => ha _ _ (by
  cases p
  · exact hb rfl _ _ k
  · exact k)
theorem ev_not (ha : Ev a ss G (.d (.bool p))) : Ev (eNot a) ss G (.d (.bool (!p))) := fun P r k => ha _ _ k
theorem ev_chain (ha : Ev a ss G x) (hb : Ev b ss G y) (hg : Eg g x y G (.d (.bool p))) (hc : p = true → Ev c ss G z) (hh : p = true → Eg g' y z G (.d (.bool q))) : Ev (eChain g g' a b c) ss G (.d (.bool (p && q))) := fun P r k => ha _ _ (hb _ _ (hg _ (by
  cases p
  · exact k
  · exact hc rfl _ _ (hh rfl _ k))))
theorem et_test (ha : Ev a ss G (.d (.bool p))) : Et (cTest a) ss G p := fun P r k => ha _ _ k
theorem et_not (ha : Et t ss G p) : Et (cNot t) ss G (!p) := fun P r k => ha _ _ k
theorem et_and (ha : Et t ss G p) (hb : p = true → Et t' ss G q) : Et (cAnd t t') ss G (p && q) := fun P r k => ha _ _ (by
  cases p
  · exact k
  · exact hb rfl _ _ k)
theorem et_or (ha : Et t ss G p) (hb : p = false → Et t' ss G q) : Et (cOr t t') ss G (p || q) := fun P r k => ha _ _ (by
  cases p
  · exact hb rfl _ _ k
  · exact k)
theorem et_as (h : Et t ss G p) (e : p = q) : Et t ss G q := e ▸ h
theorem ev_as (h : Ev e ss G u) (k : u = v) : Ev e ss G v := k ▸ h
theorem ea_nil : Ea aNil ss G [] := fun _ _ q => q
theorem ea_cons (ha : Ev a ss G u) (hb : Ea α ss G us) : Ea (aCons a α) ss G (u :: us) := fun P p q => ha _ _ (hb _ _ q)
theorem ev_tup {xs : List PyData} (ha : Ea α ss G us) (hd : dataOf us = some xs) (hz : us.length ≤ 1000) : Ev (eTup α) ss G (.d (.tuple xs)) := fun P p q => ha _ _ ⟨by have := sizeLine_eq; omega, by rw [hd]; exact q⟩
theorem ev_lst {xs : List PyData} (ha : Ea α ss G us) (hd : dataOf us = some xs) (hz : us.length ≤ 1000) : Ev (eLst α) ss G (.d (.list xs)) := fun P p q => ha _ _ ⟨by have := sizeLine_eq; omega, by rw [hd]; exact q⟩
theorem ev_fld {T : Tab} {f c : Str} {fs : List (Str × U)} (ha : Ev o ss G (.r n)) (hG : G[n]? = some (.ins c fs)) (hb : Bears T c f = true) (hf : fs.lookup f = some u) : Ev (eFld T o f) ss G u := fun P p q => ha _ _ (by
  show (match G[n]? with
    | some (.ins c fs) => Bears T c f = true ∧ match fs.lookup f with
      | some u => P u G
      | none => False
    | _ => False)
  rw [hG]
  refine ⟨hb, ?_⟩
  rw [hf]; exact q)
theorem ev_call {sp : SpU} (ha : Ea α ss G us) (hn : us.length = n) (hs : ∀ (P : PU) (p : PX), P u G → sp us G P p) : Ev (eCall sp n uPos α aNil 0) ss G u := fun P p q => ha _ _ ⟨hn, rfl, hs _ _ q⟩
theorem wp_call {sp : SpU} {P : PU} {p : PX} (ha : Ea α ss G us) (hn : us.length = n) (hs : sp us G P p) : eCall sp n uPos α aNil 0 ss G P p := ha _ _ ⟨hn, rfl, hs⟩
theorem wp_meth {sp : SpU} {c mt : Str} {fs : List (Str × U)} {P : PU} {p : PX} (ho : Ev o ss G (.r i)) (hG : G[i]? = some (.ins c fs)) (hm : fs.lookup mt = none) (ha : Ea α ss G us) (hn : us.length + 1 = n) (hs : sp (.r i :: us) G P p) : eMethC c mt sp n uPos o α ss G P p := ho _ _ (by
  show (match G[i]? with
    | some (.ins d fs) => d = c ∧ fs.lookup mt = none ∧ α ss G (fun us G2 => us.length + 1 = n ∧ sp (uPos (.r i :: us) []) G2 P p) p
    | _ => False)
  rw [hG]
  exact ⟨rfl, hm, ha _ _ ⟨hn, hs⟩⟩)
theorem ev_meth {sp : SpU} {c mt : Str} {fs : List (Str × U)} (ho : Ev o ss G (.r i)) (hG : G[i]? = some (.ins c fs)) (hm : fs.lookup mt = none) (ha : Ea α ss G us) (hn : us.length + 1 = n) (hs : ∀ (P : PU) (p : PX), P u G → sp (.r i :: us) G P p) : Ev (eMethC c mt sp n uPos o α) ss G u := fun P p q => wp_meth ho hG hm ha hn (hs _ _ q)
theorem ev_isB {T : String} {d : PyData} (ha : Ev a ss G (.d d)) : Ev (eIsB T a) ss G (.d (.bool (isB T d))) := fun P p q => ha _ _ q
theorem ev_isT {l : List PyData} (ha : Ev a ss G (.d (.tuple l))) : Ev (eIsB "tuple" a) ss G (.d (.bool true)) := ev_isB ha
theorem ev_isS {s : Str} (ha : Ev a ss G (.d (.str s))) : Ev (eIsB "str" a) ss G (.d (.bool true)) := ev_isB ha
theorem ev_isI {k : Int} (ha : Ev a ss G (.d (.int k))) : Ev (eIsB "int" a) ss G (.d (.bool true)) := ev_isB ha
theorem ev_isIb {k : Int} (ha : Ev a ss G (.d (.int k))) : Ev (eIsB "bool" a) ss G (.d (.bool false)) := ev_isB ha
theorem ev_isC {c : Str} {fs : List (Str × U)} (ha : Ev a ss G (.r n)) (hG : G[n]? = some (.ins c fs)) : Ev (eIsC c a) ss G (.d (.bool true)) := fun P p q => ha _ _ (by
  show (match G[n]? with
    | some (.ins d _) => d = c ∧ P (.d (.bool true)) G
    | _ => False)
  rw [hG]; exact ⟨rfl, q⟩)
theorem ev_callB {g : Gn} (ha : Ea α ss G us) (hg : En g us G u) : Ev (eCallB g α) ss G u := fun P p q => ha _ _ (hg _ q)
theorem ev_methB {T : String} {g : Gm} (ho : Ev o ss G x) (ht : tyU T x G) (ha : Ea α ss G us) (hg : ∀ P : PU, P u G → g x us G P) : Ev (eMeth T g o α) ss G u := fun P p q => ho _ _ ⟨ht, ha _ _ (hg _ q)⟩
theorem eo_none : Eo oNone ss G none := fun _ _ q => q
theorem eo_some {k : Int} (ha : Ev a ss G (.d (.int k))) : Eo (oSome a) ss G (some k) := fun _ _ q => ha _ _ q
theorem ev_sl {l h : WO} {lo hi : Option Int} (ha : Ev a ss G x) (hl : Eo l ss G lo) (hh : Eo h ss G hi) (hg : ∀ P : PU, P z G → gSl x lo hi G P) : Ev (eSl a l h) ss G z := fun P p q => ha _ _ (hl _ _ (hh _ _ (hg _ q)))
theorem ev_val {d : PyData} (ha : Ev e ss G (.d d)) : Ev (eVal e) ss G (.d d) := fun P p q => ha _ _ ⟨G, left_same, q⟩
/-! ### operators -/
theorem g_addI {k l : Int} : Eg gAdd (.d (.int k)) (.d (.int l)) G (.d (.int (k + l))) := fun _ q => q
theorem g_addS {k l : Str} (h : k.length + l.length ≤ sizeLine) : Eg gAdd (.d (.str k)) (.d (.str l)) G (.d (.str (k ++ l))) := fun _ q => ⟨h, q⟩
theorem g_addT {k l : List PyData} (h : k.length + l.length ≤ sizeLine) : Eg gAdd (.d (.tuple k)) (.d (.tuple l)) G (.d (.tuple (k ++ l))) := fun _ q => ⟨h, q⟩
theorem g_addL {k l : List PyData} (h : k.length + l.length ≤ sizeLine) : Eg gAdd (.d (.list k)) (.d (.list l)) G (.d (.list (k ++ l))) := fun _ q => ⟨h, q⟩
theorem g_sub {k l : Int} : Eg gSub (.d (.int k)) (.d (.int l)) G (.d (.int (k - l))) := fun _ q => q
theorem g_mod {k l : Int} (h : 0 < l) : Eg gMod (.d (.int k)) (.d (.int l)) G (.d (.int (k % l))) := fun _ q => ⟨h, q⟩
theorem g_fdiv {k l : Int} (h : CDivW k l) : Eg gFdiv (.d (.int k)) (.d (.int l)) G (.d (.int (k / l))) := fun _ q => ⟨h, q⟩
theorem g_mul {k l : Int} (h : CMulW k l) : Eg gMul (.d (.int k)) (.d (.int l)) G (.d (.int (k * l))) := fun _ q => ⟨h, q⟩
theorem g_cmp {f : Int → Int → Bool} {k l : Int} : Eg (gCmpI f) (.d (.int k)) (.d (.int l)) G (.d (.bool (f k l))) := fun _ q => q
theorem g_ltI {k l : Int} : Eg gLt (.d (.int k)) (.d (.int l)) G (.d (.bool (decide (k < l)))) := fun _ q => q
theorem g_ltS {k l : Str} : Eg gLt (.d (.str k)) (.d (.str l)) G (.d (.bool (decide (k.cps.toList < l.cps.toList)))) := fun _ q => q
theorem g_eq {k l : PyData} (h : EqOk k l) : Eg gEq (.d k) (.d l) G (.d (.bool (PyData.eqv k l))) := fun _ q => ⟨h, q⟩
theorem g_ne {k l : PyData} (h : EqOk k l) : Eg gNe (.d k) (.d l) G (.d (.bool (!PyData.eqv k l))) := fun _ q => ⟨h, q⟩
theorem g_eqS {k l : Str} : Eg gEq (.d (.str k)) (.d (.str l)) G (.d (.bool (decide (k = l)))) := eqv_str ▸ g_eq (eqOk_nz rfl rfl (by simp [PyData.depth]))
theorem g_neS {k l : Str} : Eg gNe (.d (.str k)) (.d (.str l)) G (.d (.bool (!decide (k = l)))) := eqv_str ▸ g_ne (eqOk_nz rfl rfl (by simp [PyData.depth]))
theorem g_eqI {k l : Int} : Eg gEq (.d (.int k)) (.d (.int l)) G (.d (.bool (decide (k = l)))) := eqv_int ▸ g_eq (eqOk_nz rfl rfl (by simp [PyData.depth]))
theorem g_neI {k l : Int} : Eg gNe (.d (.int k)) (.d (.int l)) G (.d (.bool (!decide (k = l)))) := eqv_int ▸ g_ne (eqOk_nz rfl rfl (by simp [PyData.depth]))
theorem g_isN {k : PyData} : Eg gIs (.d k) (.d .none) G (.d (.bool (isNone (.d k)))) := fun P q => by
  cases k <;> exact q
theorem g_ixT {l : List PyData} {k : Int} {d : PyData} (h : atI l k = some d) : Eg gIx (.d (.tuple l)) (.d (.int k)) G (.d d) := fun P q => by
  show (match atI l k with
    | some z => P (.d z) G
    | none => False)
  rw [h]; exact q
theorem g_ixL {l : List PyData} {k : Int} {d : PyData} (h : atI l k = some d) : Eg gIx (.d (.list l)) (.d (.int k)) G (.d d) := fun P q => by
  show (match atI l k with
    | some z => P (.d z) G
    | none => False)
  rw [h]; exact q
theorem g_ixK {l : List PyData} {k : Int} {d : PyData} (h : atI l k = some d) : Eg gIx (.k (.list l)) (.d (.int k)) G (flatU d) := fun P q => by
  show (match atI l k with
    | some z => P (flatU z) G
    | none => False)
  rw [h]; exact q
theorem g_ixS {s : Str} {k : Int} {c} (hz : s.length ≤ 1000) (h : atI s.cps.toList k = some c) : Eg gIx (.d (.str s)) (.d (.int k)) G (.d (.str ⟨#[c]⟩)) := fun P q => by
  refine ⟨by have := sizeLine_eq; omega, ?_⟩
  rw [h]; exact q
theorem g_ixD {ds : List (PyData × PyData)} {k d : PyData} (hk : keyAsk true ds k) (h : lookD ds k = some d) : Eg gIx (.d (.dict ds)) (.d k) G (.d d) := fun P q => by
  have : keyAsk true ds k ∧ match lookD ds k with
    | some z => P (.d z) G
    | none => False := ⟨hk, by rw [h]; exact q⟩
  cases k <;> exact this
theorem g_ixR {l : List U} {k : Int} (hG : G[n]? = some (.lst l)) (h : atI l k = some u) : Eg gIx (.r n) (.d (.int k)) G u := fun P q => by
  show (match G[n]? with
    | some (.lst us) => match atI us k with
      | some z => P z G
      | none => False
    | some (.dct ds) => keyAsk false ds (.int k) ∧ match lookD ds (.int k) with
      | some z => P z G
      | none => False
    | _ => False)
  rw [hG]
  show (match atI l k with
      | some z => P z G
      | none => False)
  rw [h]; exact q
theorem g_inT {k : PyData} {ys : List PyData} {neg : Bool} (h : InOk k ys) : Eg (gInB neg) (.d k) (.d (.tuple ys)) G (.d (.bool (neg != ys.any fun y => PyData.eqv y k))) := fun P q => by
  cases k <;> exact ⟨h, q⟩
theorem g_inL {k : PyData} {ys : List PyData} {neg : Bool} (h : InOk k ys) : Eg (gInB neg) (.d k) (.d (.list ys)) G (.d (.bool (neg != ys.any fun y => PyData.eqv y k))) := fun P q => by
  cases k <;> exact ⟨h, q⟩
theorem g_inK {k : PyData} {ys : List PyData} {neg : Bool} (h : InOk k ys) : Eg (gInB neg) (.d k) (.k (.tuple ys)) G (.d (.bool (neg != ys.any fun y => PyData.eqv y k))) := fun P q => by
  cases k <;> exact ⟨h, q⟩
theorem g_inD {k : PyData} {ds : List (PyData × PyData)} {neg : Bool} (h : keyAsk true ds k) : Eg (gInB neg) (.d k) (.d (.dict ds)) G (.d (.bool (neg != (lookD ds k).isSome))) := fun P q => by
  cases k <;> exact ⟨h, q⟩
theorem any_strs {ys : List Str} {k : Str} : ((ys.map PyData.str).any fun y => PyData.eqv y (.str k)) = decide (k ∈ ys) := by
  rw [List.any_map, Bool.eq_iff_iff, List.any_eq_true, decide_eq_true_eq]
  constructor
  · rintro ⟨y, hy, e⟩
    have := (nz_eqv (.str y) (.str k) rfl rfl).mp e
    cases this
    exact hy
  · exact fun h => ⟨k, h, (nz_eqv (.str k) (.str k) rfl rfl).mpr rfl⟩
theorem plain_strs {ys : List Str} : PyData.plainAll (ys.map PyData.str) = true := nzAll_plain _ (nzAll_iff.mpr (by
  intro x hx
  obtain ⟨y, _, rfl⟩ := List.mem_map.mp hx
  rfl))
theorem g_inTs {k : Str} {ys : List Str} : Eg gIn (.d (.str k)) (.d (.tuple (ys.map .str))) G (.d (.bool (decide (k ∈ ys)))) := fun P q => by
  refine g_inT (inOk_str.mpr plain_strs) P ?_
  rw [any_strs]
  cases h : decide (k ∈ ys) <;> rw [h] at q <;> exact q
theorem g_ninTs {k : Str} {ys : List Str} : Eg gNotIn (.d (.str k)) (.d (.tuple (ys.map .str))) G (.d (.bool (!decide (k ∈ ys)))) := fun P q => by
  refine g_inT (inOk_str.mpr plain_strs) P ?_
  rw [any_strs]
  cases h : decide (k ∈ ys) <;> rw [h] at q <;> exact q
theorem g_inLs {k : Str} {ys : List Str} : Eg gIn (.d (.str k)) (.d (.list (ys.map .str))) G (.d (.bool (decide (k ∈ ys)))) := fun P q => by
  refine g_inL (inOk_str.mpr plain_strs) P ?_
  rw [any_strs]
  cases h : decide (k ∈ ys) <;> rw [h] at q <;> exact q
theorem n_lenT {l : List PyData} : En gLen [.d (.tuple l)] G (.d (.int l.length)) := fun _ q => q
theorem n_lenL {l : List PyData} : En gLen [.d (.list l)] G (.d (.int l.length)) := fun _ q => q
theorem n_lenS {s : Str} (h : s.length ≤ sizeLine) : En gLen [.d (.str s)] G (.d (.int s.length)) := fun _ q => ⟨h, q⟩
theorem n_lenR {l : List U} (h : G[n]? = some (.lst l)) : En gLen [.r n] G (.d (.int l.length)) := fun P q => by
  show (match G[n]? with
    | some (.lst us) => P (.d (.int us.length)) G
    | _ => False)
  rw [h]; exact q
theorem n_tupL {l : List PyData} : En gTuple [.d (.list l)] G (.d (.tuple l)) := fun _ q => q
theorem n_all {bs : List Bool} : En gAll [.d (.list (bs.map .bool))] G (.d (.bool (bs.all id))) := fun P q => all_val rfl q
theorem s_T {l : List PyData} {lo hi : Option Int} : ∀ P : PU, P (.d (.tuple (cutD l lo hi))) G → gSl (.d (.tuple l)) lo hi G P := fun _ q => q
theorem s_L {l : List PyData} {lo hi : Option Int} : ∀ P : PU, P (.d (.list (cutD l lo hi))) G → gSl (.d (.list l)) lo hi G P := fun _ q => q
theorem s_S {s : Str} {lo hi : Option Int} (h : s.length ≤ sizeLine) : ∀ P : PU, P (.d (.str (cutS s lo hi))) G → gSl (.d (.str s)) lo hi G P := fun _ q => ⟨h, q⟩
/-! ### patterns and runs -/
theorem pat_name : Pat (gdName i) u ss G (ss.set i (some u)) := fun _ q => q
theorem pat2 {d d' : PyData} : Pat (gdTup 2 (gdCons (gdName i) (gdCons (gdName j) gdNil))) (.d (.tuple [d, d'])) ss G ((ss.set i (some (.d d))).set j (some (.d d'))) := fun _ q => ⟨rfl, rfl, q⟩
theorem pat3 {k : Nat} {d d' d'' : PyData} : Pat (gdTup 3 (gdCons (gdName i) (gdCons (gdName j) (gdCons (gdName k) gdNil)))) (.d (.tuple [d, d', d''])) ss G (((ss.set i (some (.d d))).set j (some (.d d'))).set k (some (.d d''))) := fun _ q => ⟨rfl, rfl, q⟩
theorem pat4 {k l : Nat} {d d' d'' f : PyData} : Pat (gdTup 4 (gdCons (gdName i) (gdCons (gdName j) (gdCons (gdName k) (gdCons (gdName l) gdNil))))) (.d (.tuple [d, d', d'', f])) ss G ((((ss.set i (some (.d d))).set j (some (.d d'))).set k (some (.d d''))).set l (some (.d f))) := fun _ q => ⟨rfl, rfl, q⟩
theorem ei_T {l : List PyData} (ha : Ev a ss G (.d (.tuple l))) : Ei (iSeq a) ss G (l.map .d) := fun R p q => ha _ _ ⟨rfl, q _ fun _ => rfl⟩
theorem ei_L {l : List PyData} (ha : Ev a ss G (.d (.list l))) : Ei (iSeq a) ss G (l.map .d) := fun R p q => ha _ _ ⟨rfl, q _ fun _ => rfl⟩
theorem ei_D {ds : List (PyData × PyData)} (ha : Ev a ss G (.d (.dict ds))) : Ei (iSeq a) ss G (ds.map fun p => .d p.1) := fun R p q => ha _ _ ⟨rfl, q _ fun _ => rfl⟩
theorem ei_zipT {l l' : List PyData} (ha : Ea α ss G [.d (.tuple l), .d (.tuple l')]) : Ei (iZip α) ss G (List.zipWith pairD l l') := fun R p q => ha _ _ (q _ fun _ => rfl)
theorem ei_items {ds : List (PyData × PyData)} (ha : Ev a ss G (.d (.dict ds))) (hf : flatKeys ds = true) : Ei (iItems a) ss G (ds.map fun p => pairD p.1 p.2) := fun R p q => ha _ _ ⟨hf, q _ fun _ => rfl⟩
theorem ei_rng {k : Int} (ha : Ea α ss G [.d (.int k)]) (h : -(2 ^ 62) ≤ k ∧ k < 2 ^ 62) : Ei (iRng1 α) ss G (rngU 0 k.toNat) := fun R p q => ha _ _ ⟨h.1, h.2, q _ fun _ => rfl⟩
theorem gapp {T : GH} {m : MO} (h : G[n]? = some m) : (G ++ T)[n]? = some m := by
  rw [List.getElem?_append_left (List.getElem?_eq_some_iff.mp h).1]; exact h
theorem below_le {k l : Nat} (h : k ≤ l) : ∀ {u : U}, u.below k = true → u.below l = true
  | .d _, _ => rfl
  | .k _, _ => rfl
  | .r n, q => by
    have : n < k := of_decide_eq_true q
    exact decide_eq_true (show n < l by omega)
theorem obelow_le {k l : Nat} (h : k ≤ l) : ∀ {m : MO}, MO.below k m = true → MO.below l m = true
  | .lst us, q => by
    simp only [MO.below, List.all_eq_true] at q ⊢
    exact fun u hu => below_le h (q u hu)
  | .dct kvs, q => by
    simp only [MO.below, List.all_eq_true] at q ⊢
    exact fun u hu => below_le h (q u hu)
  | .ins _ fs, q => by
    simp only [MO.below, List.all_eq_true] at q ⊢
    exact fun u hu => below_le h (q u hu)
  | .dead, _ => rfl
  | .opq _ _, _ => rfl
theorem closed_add {m : MO} (hG : Closed G) (h : MO.below (G.length + 1) m = true) : Closed (G ++ [m]) := by
  intro o ho
  rw [List.length_append, List.length_singleton]
  rcases List.mem_append.mp ho with ho | ho
  · exact obelow_le (Nat.le_succ _) (hG o ho)
  · rw [List.mem_singleton.mp ho]; exact h
theorem closed_set {m : MO} (hG : Closed G) (h : MO.below G.length m = true) : Closed (G.set n m) := by
  intro o ho
  rw [List.length_set]
  rcases List.mem_or_eq_of_mem_set ho with ho | ho
  · exact hG o ho
  · rw [ho]; exact h
theorem below_data {l : List PyData} {k : Nat} : MO.below k (.lst (l.map .d)) = true := by
  simp only [MO.below, List.all_eq_true]
  intro u hu
  obtain ⟨d, _, rfl⟩ := List.mem_map.mp hu
  rfl
theorem lcL_list {β : Type} {cur : Cur} {all : List U} (hc : ∀ G', cur G' = some all) {τ : WT} {ε : WE} {base : SS} {f : β → U} {h : β → Option PyData} (hG : Closed G) : ∀ {l : List β} {acc : List PyData} {P : GH → Prop},
    (∀ a ∈ l, ∀ T, Closed (G ++ T) → ∃ ss1 b, Pat γ (f a) base (G ++ T) ss1 ∧ Et τ ss1 (G ++ T) b ∧ if b = true then ∃ d, h a = some d ∧ Ev ε ss1 (G ++ T) (.d d) else h a = none) → acc.length + l.length < sizeLine →
    P (G ++ [.lst ((acc ++ l.filterMap h).map .d)]) → lcL G.length cur all γ τ ε base (l.map f) (G ++ [.lst (acc.map .d)]) P
  | [], acc, P, _, _, k => by
    rw [List.filterMap_nil, List.append_nil] at k
    exact ⟨hc _, k⟩
  | a :: l, acc, P, he, hz, k => by
    rw [List.length_cons] at hz
    obtain ⟨ss1, b, h1, h2, h3⟩ := he a List.mem_cons_self [MO.lst (acc.map U.d)] (closed_add hG below_data)
    refine ⟨hc _, h1 _ (h2 _ _ ?_)⟩
    cases b
    · rw [List.filterMap_cons_none h3] at k
      exact lcL_list hc hG (fun v hv => he v (List.mem_cons_of_mem _ hv)) (by omega) k
    · obtain ⟨d, h4, h5⟩ := h3
      rw [List.filterMap_cons_some h4] at k
      refine h5 _ _ ?_
      show (match (G ++ [MO.lst (acc.map .d)])[G.length]? with
        | some (.lst acc) => acc.length < sizeLine ∧ lcL G.length cur all γ τ ε base (l.map f) ((G ++ [MO.lst _]).set G.length (.lst (acc ++ [.d d]))) P
        | _ => False)
      rw [get_last]
      refine ⟨by rw [List.length_map]; omega, ?_⟩
      rw [set_last, show acc.map U.d ++ [.d d] = (acc ++ [d]).map .d from by simp]
      refine lcL_list hc hG (fun v hv => he v (List.mem_cons_of_mem _ hv)) (by rw [List.length_append, List.length_singleton]; omega) ?_
      rw [List.append_assoc]
      exact k
theorem frz_lst {l : List PyData} {P : PU} (k : P (.d (.list l)) ((G ++ [MO.lst (l.map U.d)]).set G.length MO.dead)) : frzU (.r G.length) (G ++ [MO.lst (l.map U.d)]) P := by
  unfold frzU
  simp only [get_last]
  rw [dataOf_map]
  exact k
/-- a list comprehension with a test, over a list of anything -/
theorem ev_lcf {β : Type} {τ : WT} {ε : WE} {ws : List Nat} {l : List β} (f : β → U) (h : β → Option PyData) (hG : Closed G) (hι : Ei ι ss G us) (hu : us = l.map f)
    (he : ∀ a ∈ l, ∀ T, Closed (G ++ T) → ∃ ss1 b, Pat γ (f a) (wipeU ss ws) (G ++ T) ss1 ∧ Et τ ss1 (G ++ T) b ∧ if b = true then ∃ d, h a = some d ∧ Ev ε ss1 (G ++ T) (.d d) else h a = none) (hz : l.length ≤ 100000) : Ev (eVal (eLc ι γ τ ε ws)) ss G (.d (.list (l.filterMap h))) := fun P p q => by
  subst hu
  refine hι _ _ fun cur hc => ?_
  show (match cur G with
    | some us => lcL G.length cur us γ τ ε (wipeU ss ws) us (G ++ [.lst []]) _
    | none => False)
  rw [hc G]
  refine lcL_list (acc := []) hc hG he (by have := sizeLine_eq; simp; omega) ?_
  rw [List.nil_append]
  refine frz_lst ?_
  rw [set_last]
  exact ⟨G, left_drop hG, q⟩
theorem filter_all {β : Type} {l : List β} {h : β → PyData} : (l.filterMap fun a => some (h a)) = l.map h := by
  induction l with
  | nil => rfl
  | cons a l ih => simp [ih]
/-- a list comprehension over a list of anything, each item one value -/
theorem ev_lc {β : Type} {ε : WE} {ws : List Nat} {l : List β} (f : β → U) (h : β → PyData) (hG : Closed G) (hι : Ei ι ss G us) (hu : us = l.map f) (he : ∀ a ∈ l, ∀ T, Closed (G ++ T) → ∃ ss1, Pat γ (f a) (wipeU ss ws) (G ++ T) ss1 ∧ Ev ε ss1 (G ++ T) (.d (h a))) (hz : l.length ≤ 100000) : Ev (eVal (eLc ι γ tYes' ε ws)) ss G (.d (.list (l.map h))) := by
  rw [← filter_all]
  refine ev_lcf f (fun a => some (h a)) hG hι hu (fun a ha T hT => ?_) hz
  obtain ⟨ss1, h1, h2⟩ := he a ha T hT
  exact ⟨ss1, true, h1, fun P p q => q, ⟨_, rfl, h2⟩⟩
/-! ### statements -/
theorem st_seq (h : φ ss G { C with nx := fun ss1 G1 => ψ ss1 G1 C }) : sSeq φ ψ ss G C := h
theorem st_name (ha : Ev e ss G u) (k : C.nx (ss.set i (some u)) G) : sAsg e (gdName i) ss G C := ha _ _ k
theorem st_pat (ha : Ev e ss G u) (hp : Pat γ u ss G ss') (k : C.nx ss' G) : sAsg e γ ss G C := ha _ _ (hp _ k)
theorem st_if (ht : Et t ss G p) (ha : p = true → φ ss G C) (hb : p = false → ψ ss G C) : sIf t φ ψ ss G C := ht _ _ (by
  cases p
  · exact hb rfl
  · exact ha rfl)
theorem st_then (ht : Et t ss G p) (hp : p = true) (ha : φ ss G C) : sIf t φ ψ ss G C := st_if ht (fun _ => ha) fun h => by rw [hp] at h; cases h
theorem st_else (ht : Et t ss G p) (hp : p = false) (ha : ψ ss G C) : sIf t φ ψ ss G C := st_if ht (fun h => by rw [hp] at h; cases h) fun _ => ha
theorem st_skip (k : C.nx ss G) : sSkip ss G C := k
theorem st_ret (ha : Ev e ss G u) (k : C.rt u G) : sRet e ss G C := ha _ _ k
theorem st_expr (ha : Ev e ss G u) (k : C.nx ss G) : sExpr e ss G C := ha _ _ k
theorem st_fld {T : Tab} {f c : Str} {fs : List (Str × U)} (ha : Ev e ss G u) (ho : Ev o ss G (.r n)) (hG : G[n]? = some (.ins c fs)) (hb : Bears T c f = true) (hz : fs.length < 1000) (k : C.nx ss (G.set n (.ins c (putU f u fs)))) : sAsg e (gdFld T o f) ss G C := ha _ _ (ho _ _ (by
  show (match G[n]? with
    | some (.ins c fs) => Bears T c f = true ∧ fs.length < 1000 ∧ C.nx ss (G.set n (.ins c (putU f u fs)))
    | _ => False)
  rw [hG]
  exact ⟨hb, hz, k⟩))
theorem sq_else {χ : WS} (ht : Et t ss G p) (hp : p = false) (k : χ ss G C) : sSeq (sIf t φ sSkip) χ ss G C := by subst hp; exact ht _ _ k
theorem sq_ret {χ : WS} (ht : Et t ss G p) (hp : p = true) (ha : Ev e ss G u) (k : C.rt u G) : sSeq (sIf t (sRet e) ψ) χ ss G C := by subst hp; exact ht _ _ (ha _ _ k)
theorem sq_if {χ : WS} (ht : Et t ss G p) (ha : p = true → φ ss G { C with nx := fun ss1 G1 => χ ss1 G1 C }) (hb : p = false → ψ ss G { C with nx := fun ss1 G1 => χ ss1 G1 C }) : sSeq (sIf t φ ψ) χ ss G C := st_if ht ha hb
theorem sq_name {χ : WS} (ha : Ev e ss G u) (k : χ (ss.set i (some u)) G C) : sSeq (sAsg e (gdName i)) χ ss G C := ha _ _ k
theorem sq_pat {χ : WS} (ha : Ev e ss G u) (hp : Pat γ u ss G ss') (k : χ ss' G C) : sSeq (sAsg e γ) χ ss G C := ha _ _ (hp _ k)
theorem sq_expr {χ : WS} (ha : Ev e ss G u) (k : χ ss G C) : sSeq (sExpr e) χ ss G C := ha _ _ k
theorem sq_fld {χ : WS} {T : Tab} {f c : Str} {fs : List (Str × U)} (ha : Ev e ss G u) (ho : Ev o ss G (.r n)) (hG : G[n]? = some (.ins c fs)) (hb : Bears T c f = true) (hz : fs.length < 1000) (k : χ ss (G.set n (.ins c (putU f u fs))) C) : sSeq (sAsg e (gdFld T o f)) χ ss G C := st_seq (st_fld ha ho hG hb hz k)
theorem st_ret' (ha : Ev e ss G u) (h : u = v) (k : C.rt v G) : sRet e ss G C := ha _ _ (h ▸ k)
/-- a def that changes nothing -/
theorem law_of {N : List Str} {ph : WS} {Q : PU} {r : PX} (h : ∀ C : Cn, C.rt u G → ph (startU N us) G C) (q : Q u G) : ph (startU N us) G (Cnd G Q r) := h _ ⟨G, left_same, q⟩
end
end R
/-! ## part HM -/
/-! Halls as plain values. -/
namespace K36
open PySem PySem.Spec
open R
/-! ### names and events -/
def letters : Str := "abcdefghijklmnopqrstuvwxyz"
def nameB (s : Str) : Bool := decide (1 ≤ s.length) && (decide (s.length ≤ 8) && s.cps.toList.all fun c => decide (c ∈ letters.cps.toList))
def isNameD : PyData → Bool
  | .str s => nameB s
  | _ => false
def isBelowD (n : Int) : PyData → Bool
  | .int b => decide (0 ≤ b) && decide (b < n)
  | _ => false
structure Evt where
  k : Str
  o : Str
  w : Str
  b : Int
deriving DecidableEq
def Evt.d3 (e : Evt) : PyData := .tuple [.str e.k, .str e.o, .str e.w]
def Evt.d (e : Evt) : PyData := .tuple [.str e.k, .str e.o, .str e.w, .int e.b]
abbrev States := List (List Evt)
abbrev Ends := List (Str × States)
structure Cfg where
  ends : Ends
  room : Option Int
  weak : List Str
inductive Deed where
  | say (h o w : Str)
  | hear (h o : Str)
  | fall (h : Str)
deriving DecidableEq
inductive Row where
  | say (h o w : Str)
  | hear (h o w : Str)
  | fall (h : Str)
deriving DecidableEq
abbrev Roads := List ((Str × Str) × List Str)
structure HS where
  st : List (Str × Int)
  rd : Roads
  dn : List Str
  ld : List Row
def Deed.d : Deed → PyData
  | .say h o w => .tuple [.str "say", .str h, .str o, .str w]
  | .hear h o => .tuple [.str "hear", .str h, .str o]
  | .fall h => .tuple [.str "fall", .str h]
def Deed.hand : Deed → Str
  | .say h _ _ => h
  | .hear h _ => h
  | .fall h => h
def Row.d : Row → PyData
  | .say h o w => .tuple [.str "say", .str h, .str o, .str w]
  | .hear h o w => .tuple [.str "hear", .str h, .str o, .str w]
  | .fall h => .tuple [.str "fall", .str h]
def strsD (l : List Str) : PyData := .tuple (l.map .str)
def stateD (s : List Evt) : PyData := .tuple (s.map Evt.d)
def statesD (ss : States) : PyData := .tuple (ss.map stateD)
def endD (e : Str × States) : PyData := .tuple [.str e.1, statesD e.2]
def endsD (l : Ends) : PyData := .tuple (l.map endD)
def roomD : Option Int → PyData
  | none => .none
  | some r => .int r
def estD (l : Ends) : PyData := .dict (l.map fun e => (.str e.1, statesD e.2))
def stD (l : List (Str × Int)) : PyData := .dict (l.map fun p => (.str p.1, .int p.2))
def pairK (p : Str × Str) : PyData := .tuple [.str p.1, .str p.2]
def rdD (l : Roads) : PyData := .dict (l.map fun p => (pairK p.1, strsD p.2))
def ldD (l : List Row) : PyData := .list (l.map Row.d)
/-- a hall's fields -/
def hallF (c : Cfg) (s : HS) (m : Nat) (ca ba : Int) : List (Str × U) := [("ends", .d (endsD c.ends)), ("room", .d (roomD c.room)), ("weak", .d (strsD c.weak)), ("end_states", .d (estD c.ends)), ("standing", .d (stD s.st)), ("on_roads", .d (rdD s.rd)), ("down", .d (strsD s.dn)), ("laid", .d (ldD s.ld)), ("aheads", .r m), ("called", .d (.int ca)), ("barred", .d (.int ba))]
def hallO (c : Cfg) (s : HS) (m : Nat) (ca ba : Int) : MO := .ins "Hall" (hallF c s m ca ba)
/-! ### what a hall's deeds do -/
def lies (rd : Roads) (a b : Str) : List Str := (rd.lookup (a, b)).getD []
def roomy (c : Cfg) (rd : Roads) (a b : Str) : Bool := match c.room with
  | none => true
  | some r => decide (((lies rd a b).length : Int) < r)
def evsAt (c : Cfg) (s : HS) (h : Str) : List Evt := (((c.ends.lookup h).getD [])[((s.st.lookup h).getD 0).toNat]?).getD []
def behind (es : List Evt) (k o w : Str) : Option Int := (es.find? fun e => decide (e.k = k) && (decide (e.o = o) && decide (e.w = w))).map (·.b)
def layRd (rd : Roads) (p : Str × Str) (ws : List Str) : Roads := (rd.filter fun q => !decide (q.1 = p)) ++ if ws = [] then [] else [(p, ws)]
def moveSt (st : List (Str × Int)) (h : Str) (b : Int) : List (Str × Int) := st.map fun p => (p.1, if p.1 = h then b else p.2)
def sortS (l : List Str) : List Str := l.mergeSort fun a b => !decide (b.cps.toList < a.cps.toList)
def fallRd1 (dn : List Str) (h : Str) (rd : Roads) (o : Str) : Roads :=
  if o ∈ dn then layRd rd (o, h) [] else layRd (layRd rd (o, h) []) (h, o) (lies (layRd rd (o, h) []) h o ++ [("!" : Str)])
def fallRd (dn : List Str) (h : Str) (rd : Roads) (os : List Str) : Roads := os.foldl (fallRd1 dn h) rd
def deedsE (c : Cfg) (rd : Roads) (h : Str) (e : Evt) : List Deed :=
  (if e.k = "say" ∧ roomy c rd h e.o = true then [.say h e.o e.w] else []) ++ (if e.k = "hear" ∧ (lies rd e.o h).take 1 = [e.w] then [.hear h e.o] else [])
def deedsH (c : Cfg) (s : HS) (h : Str) : List Deed := (if h ∈ c.weak then [.fall h] else []) ++ (evsAt c s h).flatMap (deedsE c s.rd h)
def deeds0 (c : Cfg) (s : HS) : List Deed := (s.st.map (·.1)).flatMap fun h => if h ∈ s.dn then [] else deedsH c s h
def canD (c : Cfg) (s : HS) : List PyData := sortD ((deeds0 c s).map Deed.d)
/-- what a deed does: the row and the state behind it, the log aside -/
def step0 (c : Cfg) (s : HS) : Deed → Row × HS
  | .say h o w => (.say h o w, { s with st := moveSt s.st h ((behind (evsAt c s h) "say" o w).getD 0), rd := if o ∈ s.dn then s.rd else layRd s.rd (h, o) (lies s.rd h o ++ [w]) })
  | .hear h o => (.hear h o ((lies s.rd o h).headD ""), { s with st := moveSt s.st h ((behind (evsAt c s h) "hear" o ((lies s.rd o h).headD "")).getD 0), rd := layRd s.rd (o, h) (lies s.rd o h).tail })
  | .fall h => (.fall h, { s with dn := sortS (s.dn ++ [h]), rd := fallRd (sortS (s.dn ++ [h])) h s.rd (s.st.map (·.1)) })
def step (c : Cfg) (s : HS) (d : Deed) : Row × HS := ((step0 c s d).1, { (step0 c s d).2 with ld := s.ld ++ [(step0 c s d).1] })
/-- a deed that can be done -/
def Can (c : Cfg) (s : HS) : Deed → Prop
  | .say h o w => h ∈ c.ends.map (·.1) ∧ o ∈ c.ends.map (·.1) ∧ o ≠ h ∧ h ∉ s.dn ∧ (behind (evsAt c s h) "say" o w).isSome = true ∧ roomy c s.rd h o = true
  | .hear h o => h ∈ c.ends.map (·.1) ∧ o ∈ c.ends.map (·.1) ∧ o ≠ h ∧ h ∉ s.dn ∧ lies s.rd o h ≠ [] ∧ (behind (evsAt c s h) "hear" o ((lies s.rd o h).headD "")).isSome = true
  | .fall h => h ∈ c.ends.map (·.1) ∧ h ∉ s.dn ∧ h ∈ c.weak
def start (l : Ends) : HS := ⟨l.map fun e => (e.1, 0), [], [], []⟩
def aheadD (s : HS) : PyData := .tuple [stD s.st, rdD s.rd, strsD s.dn, ldD s.ld]
def viewR (h : Str) : Row → Option PyData
  | .say a o w => if a = h then some (.tuple [.str "say", .str o, .str w]) else none
  | .hear a o w => if a = h then some (.tuple [.str "hear", .str o, .str w]) else none
  | .fall _ => none
def viewD (s : HS) (h : Str) : PyData := .tuple (s.ld.filterMap (viewR h))
def viewsD (s : HS) : PyData := .dict (s.st.map fun p => (.str p.1, viewD s p.1))
def roadV (rd : Roads) (k : PyData) : PyData := (lookD (rd.map fun p => (pairK p.1, strsD p.2)) k).getD .none
def wayD (s : HS) : PyData := .dict ((sortD (s.rd.map fun p => pairK p.1)).map fun k => (k, roadV s.rd k))
def whoD (c : Cfg) (s : HS) : PyData := .list (s.st.map fun p => .tuple [.str p.1, .int p.2, .bool (decide (evsAt c s p.1 = []))])
def toldD (c : Cfg) (s : HS) : PyData := .tuple [.tuple (canD c s), wayD s, viewsD s, strsD s.dn, whoD c s, .list (sortD (s.ld.map Row.d)), .int s.ld.length]
/-! ### what is to hold -/
def evB (e : Evt) : Bool := (decide (e.k = "say") || decide (e.k = "hear")) && (nameB e.o && (nameB e.w || (decide (e.k = "hear") && decide (e.w = "!"))))
structure StateOk (h : Str) (n : Int) (s : List Evt) : Prop where
  evs : ∀ v ∈ s, evB v = true ∧ v.o ≠ h ∧ 0 ≤ v.b ∧ v.b < n
  len : s.length ≤ 20
  up : s.Pairwise fun v v' => PySem.W.dataLt v.d v'.d = true
  uq : (s.map Evt.d3).Nodup
structure EndOk (e : Str × States) : Prop where
  name : nameB e.1 = true
  few : 1 ≤ e.2.length ∧ e.2.length ≤ 5
  st : ∀ s ∈ e.2, StateOk e.1 e.2.length s
structure EndsOk (l : Ends) : Prop where
  few : 2 ≤ l.length ∧ l.length ≤ 6
  each : ∀ e ∈ l, EndOk e
  nd : (l.map (·.1)).Nodup
  others : ∀ e ∈ l, ∀ s ∈ e.2, ∀ v ∈ s, v.o ∈ l.map (·.1)
structure CfgOk (c : Cfg) : Prop where
  few : c.weak.length ≤ 100
  ends : EndsOk c.ends
  room : ∀ r, c.room = some r → 1 ≤ r ∧ r ≤ 9
  weak : ∀ h ∈ c.weak, h ∈ c.ends.map (·.1)
  up : c.weak.Pairwise fun a b => a.cps.toList < b.cps.toList
def Word (x : Str) : Prop := nameB x = true ∨ x = "!"
def Row.ws : Row → List Str
  | .say h o w => [h, o, w]
  | .hear h o w => [h, o, w]
  | .fall h => [h]
structure HsOk (c : Cfg) (s : HS) : Prop where
  keys : s.st.map (·.1) = c.ends.map (·.1)
  at_ : ∀ h ss b, c.ends.lookup h = some ss → s.st.lookup h = some b → 0 ≤ b ∧ b < ss.length
  nd : (s.rd.map (·.1)).Nodup
  ne : ∀ q ∈ s.rd, q.2 ≠ []
  hands : ∀ q ∈ s.rd, q.1.1 ∈ c.ends.map (·.1) ∧ q.1.2 ∈ c.ends.map (·.1)
  words : ∀ q ∈ s.rd, q.2.length ≤ 6 * s.ld.length ∧ ∀ w ∈ q.2, Word w
  rows : ∀ r ∈ s.ld, ∀ x ∈ r.ws, Word x
  dn : ∀ h ∈ s.dn, h ∈ c.weak
  dnd : s.dn.Nodup
  few : s.ld.length ≤ 30
end K36
/-! ## part SP -/
/-! What each def promises. -/
namespace K36
open PySem PySem.Spec
open R
def pu (S : List U → GH → U → Prop) : SpU := fun us G P _ => ∃ u, S us G u ∧ P u G
def yes : U := .d (.bool true)
def sp_is_name : SpU := pu fun us _ u => ∃ x, us = [.d x] ∧ (∀ s, x = .str s → s.length ≤ sizeLine) ∧ u = .d (.bool (isNameD x))
def sp_is_below : SpU := pu fun us _ u => ∃ x n, us = [.d x, .d (.int n)] ∧ u = .d (.bool (isBelowD n x))
def sp_is_rising : SpU := pu fun us _ u => ∃ s : List Evt, us = [.d (stateD s)] ∧ s.length ≤ 20 ∧ (s.Pairwise fun v v' => PySem.W.dataLt v.d v'.d = true) ∧ u = yes
def sp_is_event : SpU := pu fun us _ u => ∃ e : Evt, us = [.d e.d3] ∧ evB e = true ∧ u = yes
def sp_is_step : SpU := pu fun us _ u => ∃ h n, ∃ e : Evt, us = [.d (.str h), .d (.int n), .d e.d] ∧ evB e = true ∧ e.o ≠ h ∧ 0 ≤ e.b ∧ e.b < n ∧ u = yes
def sp_is_state : SpU := pu fun us _ u => ∃ h n s, us = [.d (.str h), .d (.int n), .d (stateD s)] ∧ StateOk h n s ∧ u = yes
def sp_is_end : SpU := pu fun us _ u => ∃ e, us = [.d (endD e)] ∧ EndOk e ∧ u = yes
def sp_are_ends : SpU := pu fun us _ u => ∃ l, us = [.d (endsD l)] ∧ EndsOk l ∧ u = yes
def sp_is_room : SpU := pu fun us _ u => ∃ r, us = [.d (roomD r)] ∧ (∀ i, r = some i → 1 ≤ i ∧ i ≤ 9) ∧ u = yes
def sp_are_weak : SpU := pu fun us _ u => ∃ c, us = [.d (endsD c.ends), .d (strsD c.weak)] ∧ CfgOk c ∧ u = yes
def sp_Hall___init__ : SpU := fun us G P _ => ∃ h c, us = [.r h, .d (endsD c.ends), .d (roomD c.room), .d (strsD c.weak)] ∧ CfgOk c ∧ G[h]? = some (.ins "Hall" []) ∧ P (.d .none) (G.set h (hallO c (start c.ends) G.length 0 0) ++ [.lst []])
/-- at h there is a hall -/
structure At (G : GH) (h : Nat) (c : Cfg) (s : HS) (m : Nat) (ca ba : Int) : Prop where
  at_ : G[h]? = some (hallO c s m ca ba)
  co : CfgOk c
  ok : HsOk c s
def hallS (S : List U → Cfg → HS → U → Prop) : SpU := pu fun us G u => ∃ h r c s m ca ba, us = .r h :: r ∧ At G h c s m ca ba ∧ S r c s u
def sp_Hall_lies_on : SpU := pu fun us G u => ∃ h c s m ca ba a b, us = [.r h, .d (.str a), .d (.str b)] ∧ G[h]? = some (hallO c s m ca ba) ∧ u = .d (strsD (lies s.rd a b))
def sp_Hall_has_room : SpU := hallS fun r c s u => ∃ a b, r = [.d (.str a), .d (.str b)] ∧ u = .d (.bool (roomy c s.rd a b))
def sp_Hall_deeds_of : SpU := hallS fun r c s u => ∃ h, r = [.d (.str h)] ∧ h ∈ c.ends.map (·.1) ∧ u = .d (.list ((deedsH c s h).map Deed.d))
def sp_Hall_can_do : SpU := hallS fun r c s u => r = [] ∧ u = .d (.tuple (canD c s))
def sp_Hall_lay_road : SpU := fun us G P _ => ∃ h c s m ca ba p ws, us = [.r h, .d (pairK p), .d (strsD ws)] ∧ G[h]? = some (hallO c s m ca ba) ∧ s.rd.length ≤ 1000 ∧ (s.rd.map (·.1)).Nodup ∧ P (.d .none) (G.set h (hallO c { s with rd := layRd s.rd p ws } m ca ba))
def sp_Hall_need_hand : SpU := pu fun us G u => ∃ h c s m ca ba a, us = [.r h, .d (.str a)] ∧ G[h]? = some (hallO c s m ca ba) ∧ CfgOk c ∧ a ∈ c.ends.map (·.1) ∧ u = .d .none
def sp_Hall_need_up : SpU := pu fun us G u => ∃ h c s m ca ba a, us = [.r h, .d (.str a)] ∧ G[h]? = some (hallO c s m ca ba) ∧ a ∉ s.dn ∧ u = .d .none
def sp_Hall_need_pair : SpU := pu fun us G u => ∃ h c s m ca ba a b, us = [.r h, .d (.str a), .d (.str b)] ∧ G[h]? = some (hallO c s m ca ba) ∧ CfgOk c ∧ a ∈ c.ends.map (·.1) ∧ b ∈ c.ends.map (·.1) ∧ b ≠ a ∧ u = .d .none
def sp_Hall_state_behind : SpU := hallS fun r c s u => ∃ h k o w, r = [.d (.str h), .d (.tuple [.str k, .str o, .str w])] ∧ h ∈ c.ends.map (·.1) ∧ u = .d (roomD (behind (evsAt c s h) k o w))
def sp_Hall_put_fall : SpU := fun us G P _ => ∃ h c s m ca ba a, us = [.r h, .d (.str a)] ∧ At G h c s m ca ba ∧ Can c s (.fall a) ∧ P (.d (step0 c s (.fall a)).1.d) (G.set h (hallO c (step0 c s (.fall a)).2 m ca ba))
def sp_Hall_put_hear : SpU := fun us G P _ => ∃ h c s m ca ba a b, us = [.r h, .d (.str a), .d (.str b)] ∧ At G h c s m ca ba ∧ Can c s (.hear a b) ∧ P (.d (step0 c s (.hear a b)).1.d) (G.set h (hallO c (step0 c s (.hear a b)).2 m ca ba))
def sp_Hall_put_say : SpU := fun us G P _ => ∃ h c s m ca ba a b w, us = [.r h, .d (.str a), .d (.str b), .d (.str w)] ∧ At G h c s m ca ba ∧ Can c s (.say a b w) ∧ P (.d (step0 c s (.say a b w)).1.d) (G.set h (hallO c (step0 c s (.say a b w)).2 m ca ba))
def shapesD : PyData := .tuple [(.tuple [(.str "say"), (.int 4)]), (.tuple [(.str "hear"), (.int 3)]), (.tuple [(.str "fall"), (.int 2)])]
def sp_is_shaped : SpU := pu fun us _ u => ∃ d : Deed, us = [.d d.d, .k shapesD] ∧ u = yes
def sp_Hall_put : SpU := fun us G P _ => ∃ h c s m ca ba d, us = [.r h, .d d.d] ∧ At G h c s m ca ba ∧ Can c s d ∧ P (.d (step c s d).1.d) (G.set h (hallO c (step c s d).2 m ca ba))
def sp_Hall_each_put : SpU := fun us G P _ => ∃ h c s m ca ba d, us = [.r h, .d (.tuple [d.d])] ∧ At G h c s m ca ba ∧ Can c s d ∧ P (.d (.tuple [(step c s d).1.d])) (G.set h (hallO c (step c s d).2 m ca ba))
def sp_Hall_told : SpU := fun us G P _ => ∃ h c s m ca ba d L, us = [.r h, .d (.tuple [d.d])] ∧ At G h c s m ca ba ∧ Can c s d ∧ h ≠ m ∧ G[m]? = some (.lst L) ∧ L.length ≤ 1000 ∧
  P (.d (.tuple [(step c s d).1.d])) ((G.set h (hallO c (step c s d).2 m (ca + 1) ba)).set m (.lst (L ++ [.d (aheadD s)])))
def sp_Hall_do : SpU := fun us G P _ => ∃ h c s m ca ba d L, us = [.r h, .d d.d] ∧ At G h c s m ca ba ∧ Can c s d ∧ h ≠ m ∧ G[m]? = some (.lst L) ∧ L.length ≤ 1000 ∧
  P (.d (step c s d).1.d) ((G.set h (hallO c (step c s d).2 m (ca + 1) ba)).set m (.lst (L ++ [.d (aheadD s)])))
def sp_Hall___eq__ : SpU := pu fun us G u => ∃ h c s m ca ba h' s' m' ca' ba', us = [.r h, .r h'] ∧ At G h c s m ca ba ∧ At G h' c s' m' ca' ba' ∧ u = .d (.bool (decide (s.ld = s'.ld)))
def sp_Hall_log : SpU := hallS fun r c s u => r = [] ∧ u = .d (.tuple (s.ld.map Row.d))
def sp_Hall_twin : SpU := fun us G P _ => ∃ h c s m ca ba L, us = [.r h] ∧ At G h c s m ca ba ∧ G[m]? = some (.lst L) ∧ P (.r G.length) (G ++ [hallO c s (G.length + 2) 0 0, .lst [], .lst L])
def sp_Hall___len__ : SpU := hallS fun r c s u => r = [] ∧ u = .d (.int s.ld.length)
def sp_Hall_fallen : SpU := hallS fun r c s u => r = [] ∧ u = .d (strsD s.dn)
def sp_Hall_is_done : SpU := hallS fun r c s u => ∃ h, r = [.d (.str h)] ∧ h ∈ c.ends.map (·.1) ∧ u = .d (.bool (decide (evsAt c s h = [])))
def sp_Hall_state_of : SpU := hallS fun r c s u => ∃ h b, r = [.d (.str h)] ∧ s.st.lookup h = some b ∧ u = .d (.int b)
def sp_Hall_under_way : SpU := hallS fun r c s u => r = [] ∧ u = .d (wayD s)
def sp_Hall_view_of : SpU := hallS fun r c s u => ∃ h, r = [.d (.str h)] ∧ h ∈ c.ends.map (·.1) ∧ u = .d (viewD s h)
def sp_Hall_views : SpU := hallS fun r c s u => r = [] ∧ u = .d (viewsD s)
def sp__law_told : SpU := hallS fun r c s u => r = [] ∧ u = .d (.str (toldD c s).shown)
def sp__law_either_right : SpU := fun us G P _ => ∃ h c s m ca ba d e L, us = [.r h, .d d.d, .d e.d] ∧ At G h c s m ca ba ∧ Can c s d ∧ Can c s e ∧ d.hand ≠ e.hand ∧ h ≠ m ∧ G[m]? = some (.lst L) ∧ L.length ≤ 900 ∧ s.ld.length ≤ 25 ∧ P yes G
/-! ### drawing -/
/-- a reel's cells, with so many draws done at most -/
structure Reel (n : Nat) (L : List U) : Prop where
  is_ : ∃ a b c : Int, L = [.d (.int a), .d (.int b), .d (.int c)] ∧ 0 ≤ a ∧ 0 ≤ b ∧ b < 2 ^ 40 ∧ 0 ≤ c ∧ c ≤ n
def sp__law_draw : SpU := fun us G P _ => ∃ r k n L, us = [.r r, .d (.int k)] ∧ 1 ≤ k ∧ k ≤ 100000 ∧ G[r]? = some (.lst L) ∧ Reel n L ∧ n ≤ 100000 ∧ ∀ v L', 0 ≤ v → v < k → Reel (n + 1) L' → P (.d (.int v)) (G.set r (.lst L'))
def sp__law_names : SpU := fun us G P _ => ∃ r k n L, us = [.r r, .d (.int k)] ∧ 1 ≤ k ∧ k ≤ 6 ∧ G[r]? = some (.lst L) ∧ Reel n L ∧ n ≤ 90000 ∧ ∀ (ns : List Str) L', (ns.length : Int) = k → ns.Nodup → (∀ x ∈ ns, nameB x = true) → Reel (n + 100) L' → P (.d (.list (ns.map .str))) (G.set r (.lst L'))
def sp__law_state : SpU := fun us G P _ => ∃ r k n L others words, us = [.r r, .d (.list (others.map .str)), .d (.list (words.map .str)), .d (.int k)] ∧ 1 ≤ k ∧ k ≤ 5 ∧ others ≠ [] ∧ others.length ≤ 5 ∧ words ≠ [] ∧ words.length ≤ 3 ∧ (∀ x ∈ others, nameB x = true) ∧ (∀ x ∈ words, nameB x = true) ∧ G[r]? = some (.lst L) ∧ Reel n L ∧ n ≤ 90000 ∧
  ∀ (s : List Evt) L', (∀ v ∈ s, evB v = true ∧ v.o ∈ others ∧ 0 ≤ v.b ∧ v.b < k) → s.length ≤ 20 → (s.Pairwise fun v v' => PySem.W.dataLt v.d v'.d = true) → (s.map Evt.d3).Nodup → Reel (n + 100) L' → P (.d (stateD s)) (G.set r (.lst L'))
def sp__law_ends : SpU := fun us G P _ => ∃ r k n L, us = [.r r, .d (.int k)] ∧ 2 ≤ k ∧ k ≤ 6 ∧ G[r]? = some (.lst L) ∧ Reel n L ∧ n ≤ 10000 ∧ ∀ (l : Ends) L', EndsOk l → Reel (n + 10000) L' → P (.d (endsD l)) (G.set r (.lst L'))
def sp__law_pairs : SpU := fun us G P _ => ∃ r n L k, ∃ ds : List Deed, us = [.r r, .d (.tuple (ds.map Deed.d)), .d (.int k)] ∧ 0 ≤ k ∧ k ≤ 100 ∧ ds.length ≤ 246 ∧ G[r]? = some (.lst L) ∧ Reel n L ∧ n ≤ 30000 ∧
  ∀ (ps : List (Deed × Deed)) L', (∀ p ∈ ps, p.1 ∈ ds ∧ p.2 ∈ ds ∧ p.1.hand ≠ p.2.hand) → ps.length ≤ 100 → Reel (n + 60516) L' → P (.d (.list (ps.map fun p => .tuple [p.1.d, p.2.d]))) (G.set r (.lst L'))
def sp__law_reel : SpU := fun us G P _ => ∃ (ns : List Int) (k : Int), us = [.k (.list (ns.map PyData.int)), .d (.int k)] ∧ 0 ≤ k ∧ k < 63 ∧ ∀ L, Reel 0 L → P (.r G.length) (G ++ [.lst L])
def sp__law_room : SpU := fun us G P _ => ∃ r n L, us = [.r r] ∧ G[r]? = some (.lst L) ∧ Reel n L ∧ n ≤ 90000 ∧ ∀ o L', (∀ i, o = some i → 1 ≤ i ∧ i ≤ 9) → Reel (n + 100) L' → P (.d (roomD o)) (G.set r (.lst L'))
def sp__law_weak : SpU := fun us G P _ => ∃ r n L l, us = [.r r, .d (endsD l)] ∧ EndsOk l ∧ G[r]? = some (.lst L) ∧ Reel n L ∧ n ≤ 90000 ∧ ∀ (w : List Str) L', (∀ h ∈ w, h ∈ l.map (·.1)) → (w.Pairwise fun a b => a.cps.toList < b.cps.toList) → Reel (n + 100) L' → P (.d (strsD w)) (G.set r (.lst L'))
def sp_law : SpU := fun us G P _ => ∃ ns : List Int, us = [.k (.list (ns.map PyData.int))] ∧ G = [] ∧ P yes G
end K36
/-! ## part PH -/
/-! What each def reads. -/
namespace K36
open PySem PySem.Spec
open R
def TT : Tab := [("Hall", ["aheads", "barred", "called", "down", "end_states", "ends", "laid", "on_roads", "room", "standing", "weak"])]
def uKw : List U → List U → List U := fun us ws => us ++ ws
def uDfl : List U → List U → List U := fun us _ => us ++ [.d .none, .d (.tuple [])]
def N_is_name : List Str := ["thing", "letter"]
def ps_is_name : List Str := ["thing"]
def ph_is_name : WS := (sSeq (sIf (cOr (cNot (cTest (eIsB "str" (eVar 0)))) (cNot (cTest (eChain gLe gLe (eC (.int 1)) (eCallB gLen (aCons (eVar 0) aNil)) (eC (.int 8)))))) (sRet (eC (.bool false))) sSkip) (sRet (eCallB gAll (aCons (eVal (eLc (iSeq (eVar 0)) (gdName 1) tYes' (eOp gIn (eVar 1) (eC (.str "abcdefghijklmnopqrstuvwxyz"))) [1])) aNil))))
def N_is_rising : List Str := ["row", "one", "other"]
def ps_is_rising : List Str := ["row"]
def ph_is_rising : WS := (sRet (eCallB gAll (aCons (eVal (eLc (iZip (aCons (eVar 0) (aCons (eSl (eVar 0) (oSome (eC (.int 1))) oNone) aNil))) (gdTup 2 (gdCons (gdName 1) (gdCons (gdName 2) gdNil))) tYes' (eOp gLt (eVar 1) (eVar 2)) [1, 2])) aNil)))
def N_is_below : List Str := ["thing", "many"]
def ps_is_below : List Str := ["thing", "many"]
def ph_is_below : WS := (sRet (eAnd (eIsB "int" (eVar 0)) (eAnd (eNot (eIsB "bool" (eVar 0))) (eChain gLe gLt (eC (.int 0)) (eVar 0) (eVar 1)))))
def N_is_event : List Str := ["thing", "kind", "other", "word", "part"]
def ps_is_event : List Str := ["thing"]
def ph_is_event : WS := (sSeq (sIf (cOr (cNot (cTest (eIsB "tuple" (eVar 0)))) (cOr (cTest (eOp gNe (eCallB gLen (aCons (eVar 0) aNil)) (eC (.int 3)))) (cNot (cTest (eCallB gAll (aCons (eVal (eLc (iSeq (eVar 0)) (gdName 4) tYes' (eIsB "str" (eVar 4)) [4])) aNil)))))) (sRet (eC (.bool false))) sSkip) (sSeq (sAsg (eVar 0) (gdTup 3 (gdCons (gdName 1) (gdCons (gdName 2) (gdCons (gdName 3) gdNil))))) (sSeq (sIf (cOr (cTest (eOp gNotIn (eVar 1) (eTup (aCons (eC (.str "say")) (aCons (eC (.str "hear")) aNil))))) (cNot (cTest (eCall sp_is_name 1 uPos (aCons (eVar 2) aNil) aNil 0)))) (sRet (eC (.bool false))) sSkip) (sRet (eOr (eCall sp_is_name 1 uPos (aCons (eVar 3) aNil) aNil 0) (eAnd (eOp gEq (eVar 1) (eC (.str "hear"))) (eOp gEq (eVar 3) (eC (.str "!")))))))))
def N_is_step : List Str := ["hand", "many", "thing"]
def ps_is_step : List Str := ["hand", "many", "thing"]
def ph_is_step : WS := (sSeq (sIf (cOr (cNot (cTest (eIsB "tuple" (eVar 2)))) (cOr (cTest (eOp gNe (eCallB gLen (aCons (eVar 2) aNil)) (eC (.int 4)))) (cNot (cTest (eCall sp_is_event 1 uPos (aCons (eSl (eVar 2) oNone (oSome (eC (.int 3)))) aNil) aNil 0))))) (sRet (eC (.bool false))) sSkip) (sRet (eAnd (eOp gNe (eOp gIx (eVar 2) (eC (.int 1))) (eVar 0)) (eCall sp_is_below 2 uPos (aCons (eOp gIx (eVar 2) (eC (.int 3))) (aCons (eVar 1) aNil)) aNil 0))))
def N_is_state : List Str := ["hand", "many", "thing", "events", "step", "event"]
def ps_is_state : List Str := ["hand", "many", "thing"]
def ph_is_state : WS := (sSeq (sIf (cOr (cNot (cTest (eIsB "tuple" (eVar 2)))) (cNot (cTest (eCallB gAll (aCons (eVal (eLc (iSeq (eVar 2)) (gdName 4) tYes' (eCall sp_is_step 3 uPos (aCons (eVar 0) (aCons (eVar 1) (aCons (eVar 4) aNil))) aNil 0) [4])) aNil))))) (sRet (eC (.bool false))) sSkip) (sSeq (sAsg (eVal (eLc (iSeq (eVar 2)) (gdName 4) tYes' (eSl (eVar 4) oNone (oSome (eC (.int 3)))) [4])) (gdName 3)) (sRet (eAnd (eCall sp_is_rising 1 uPos (aCons (eVar 2) aNil) aNil 0) (eOp gEq (eLenSc (iSeq (eVar 3)) (gdName 5) tYes' (eVar 5) [5]) (eCallB gLen (aCons (eVar 3) aNil)))))))
def N_is_end : List Str := ["thing", "hand", "states", "state"]
def ps_is_end : List Str := ["thing"]
def ph_is_end : WS := (sSeq (sIf (cOr (cNot (cTest (eIsB "tuple" (eVar 0)))) (cOr (cTest (eOp gNe (eCallB gLen (aCons (eVar 0) aNil)) (eC (.int 2)))) (cNot (cTest (eCall sp_is_name 1 uPos (aCons (eOp gIx (eVar 0) (eC (.int 0))) aNil) aNil 0))))) (sRet (eC (.bool false))) sSkip) (sSeq (sAsg (eVar 0) (gdTup 2 (gdCons (gdName 1) (gdCons (gdName 2) gdNil)))) (sSeq (sIf (cOr (cNot (cTest (eIsB "tuple" (eVar 2)))) (cNot (cTest (eChain gLe gLe (eC (.int 1)) (eCallB gLen (aCons (eVar 2) aNil)) (eC (.int 100)))))) (sRet (eC (.bool false))) sSkip) (sRet (eCallB gAll (aCons (eVal (eLc (iSeq (eVar 2)) (gdName 3) tYes' (eCall sp_is_state 3 uPos (aCons (eVar 1) (aCons (eCallB gLen (aCons (eVar 2) aNil)) (aCons (eVar 3) aNil))) aNil 0) [3])) aNil))))))
def N_are_ends : List Str := ["thing", "hands", "hand", "states", "state", "event", "end"]
def ps_are_ends : List Str := ["thing"]
def ph_are_ends : WS := (sSeq (sIf (cOr (cNot (cTest (eIsB "tuple" (eVar 0)))) (cNot (cTest (eChain gLe gLe (eC (.int 2)) (eCallB gLen (aCons (eVar 0) aNil)) (eC (.int 6)))))) (sRet (eC (.bool false))) sSkip) (sSeq (sIf (cNot (cTest (eCallB gAll (aCons (eVal (eLc (iSeq (eVar 0)) (gdName 6) tYes' (eCall sp_is_end 1 uPos (aCons (eVar 6) aNil) aNil 0) [6])) aNil)))) (sRet (eC (.bool false))) sSkip) (sSeq (sAsg (eVal (eLc (iSeq (eVar 0)) (gdTup 2 (gdCons (gdName 2) (gdCons (gdName 3) gdNil))) tYes' (eVar 2) [2, 3])) (gdName 1)) (sSeq (sIf (cTest (eOp gNe (eLenSc (iSeq (eVar 1)) (gdName 2) tYes' (eVar 2) [2]) (eCallB gLen (aCons (eVar 1) aNil)))) (sRet (eC (.bool false))) sSkip) (sRet (eCallB gAll (aCons (eVal (eLc3 (iSeq (eVar 0)) (gdTup 2 (gdCons (gdName 2) (gdCons (gdName 3) gdNil))) (iSeq (eVar 3)) (gdName 4) (iSeq (eVar 4)) (gdName 5) (eOp gIn (eOp gIx (eVar 5) (eC (.int 1))) (eVar 1)) [2, 3, 4, 5] [4, 5] [5])) aNil)))))))
def N_are_weak : List Str := ["ends", "thing", "hands", "hand", "states", "one", "other"]
def ps_are_weak : List Str := ["ends", "thing"]
def ph_are_weak : WS := (sSeq (sAsg (eVal (eLc (iSeq (eVar 0)) (gdTup 2 (gdCons (gdName 3) (gdCons (gdName 4) gdNil))) tYes' (eVar 3) [3, 4])) (gdName 2)) (sSeq (sIf (cOr (cNot (cTest (eIsB "tuple" (eVar 1)))) (cNot (cTest (eCallB gAll (aCons (eVal (eLc (iSeq (eVar 1)) (gdName 3) tYes' (eOp gIn (eVar 3) (eVar 2)) [3])) aNil))))) (sRet (eC (.bool false))) sSkip) (sRet (eCallB gAll (aCons (eVal (eLc (iZip (aCons (eVar 1) (aCons (eSl (eVar 1) (oSome (eC (.int 1))) oNone) aNil))) (gdTup 2 (gdCons (gdName 5) (gdCons (gdName 6) gdNil))) tYes' (eOp gLt (eVar 5) (eVar 6)) [5, 6])) aNil)))))
def N_is_room : List Str := ["thing"]
def ps_is_room : List Str := ["thing"]
def ph_is_room : WS := (sSeq (sIf (cTest (eOp gIs (eVar 0) (eC .none))) (sRet (eC (.bool true))) sSkip) (sRet (eAnd (eIsB "int" (eVar 0)) (eAnd (eNot (eIsB "bool" (eVar 0))) (eChain gLe gLe (eC (.int 1)) (eVar 0) (eC (.int 9)))))))
def N_Hall___init__ : List Str := ["self", "ends", "room", "weak", "hand", "states"]
def ps_Hall___init__ : List Str := ["self", "ends", "room", "weak"]
def ph_Hall___init__ : WS := (sSeq (sIf (cNot (cTest (eCall sp_are_ends 1 uPos (aCons (eVar 1) aNil) aNil 0))) (fun _ _ _ => False) sSkip) (sSeq (sIf (cNot (cTest (eCall sp_is_room 1 uPos (aCons (eVar 2) aNil) aNil 0))) (fun _ _ _ => False) sSkip) (sSeq (sIf (cNot (cTest (eCall sp_are_weak 2 uPos (aCons (eVar 1) (aCons (eVar 3) aNil)) aNil 0))) (fun _ _ _ => False) sSkip) (sSeq (sUnp 3 (aCons (eVar 1) (aCons (eVar 2) (aCons (eVar 3) aNil))) (gdCons (gdFld TT (eVar 0) "ends") (gdCons (gdFld TT (eVar 0) "room") (gdCons (gdFld TT (eVar 0) "weak") gdNil)))) (sSeq (sAsg (eVal (eDc (iSeq (eVar 1)) (gdTup 2 (gdCons (gdName 4) (gdCons (gdName 5) gdNil))) tYes' (eVar 4) (eVar 5) [4, 5])) (gdFld TT (eVar 0) "end_states")) (sSeq (sAsg (eVal (eDc (iSeq (eVar 1)) (gdTup 2 (gdCons (gdName 4) (gdCons (gdName 5) gdNil))) tYes' (eVar 4) (eC (.int 0)) [4, 5])) (gdFld TT (eVar 0) "standing")) (sSeq (sAsg (eVal eDict0) (gdFld TT (eVar 0) "on_roads")) (sSeq (sAsg (eTup aNil) (gdFld TT (eVar 0) "down")) (sSeq (sAsg (eLst aNil) (gdFld TT (eVar 0) "laid")) (sSeq (sAsg (eLstH aNil) (gdFld TT (eVar 0) "aheads")) (sAsg2 (eC (.int 0)) (gdFld TT (eVar 0) "called") (gdFld TT (eVar 0) "barred"))))))))))))
def N_Hall_lies_on : List Str := ["self", "sayer", "hearer"]
def ps_Hall_lies_on : List Str := ["self", "sayer", "hearer"]
def ph_Hall_lies_on : WS := (sRet (eMeth "dict" gGet2 (eFld TT (eVar 0) "on_roads") (aCons (eTup (aCons (eVar 1) (aCons (eVar 2) aNil))) (aCons (eTup aNil) aNil))))
def N_Hall_has_room : List Str := ["self", "sayer", "hearer"]
def ps_Hall_has_room : List Str := ["self", "sayer", "hearer"]
def ph_Hall_has_room : WS := (sRet (eOr (eOp gIs (eFld TT (eVar 0) "room") (eC .none)) (eOp gLt (eCallB gLen (aCons (eMethC "Hall" "lies_on" sp_Hall_lies_on 3 uPos (eVar 0) (aCons (eVar 1) (aCons (eVar 2) aNil))) aNil)) (eFld TT (eVar 0) "room"))))
def N_Hall_deeds_of : List Str := ["self", "hand", "found", "kind", "other", "word", "behind"]
def ps_Hall_deeds_of : List Str := ["self", "hand"]
def ph_Hall_deeds_of : WS := (sSeq (sAsg (eIf (cTest (eOp gIn (eVar 1) (eFld TT (eVar 0) "weak"))) (eLstH (aCons (eTup (aCons (eC (.str "fall")) (aCons (eVar 1) aNil))) aNil)) (eLstH aNil)) (gdName 2)) (sSeq (sFor (iSeq (eOp gIx (eOp gIx (eFld TT (eVar 0) "end_states") (eVar 1)) (eOp gIx (eFld TT (eVar 0) "standing") (eVar 1)))) (gdTup 4 (gdCons (gdName 3) (gdCons (gdName 4) (gdCons (gdName 5) (gdCons (gdName 6) gdNil))))) (sScope (sSeq (sIf (cAnd (cTest (eOp gEq (eVar 3) (eC (.str "say")))) (cTest (eMethC "Hall" "has_room" sp_Hall_has_room 3 uPos (eVar 0) (aCons (eVar 1) (aCons (eVar 4) aNil))))) (sExpr (eMeth "list" gAppend (eVar 2) (aCons (eTup (aCons (eC (.str "say")) (aCons (eVar 1) (aCons (eVar 4) (aCons (eVar 5) aNil))))) aNil))) sSkip) (sIf (cAnd (cTest (eOp gEq (eVar 3) (eC (.str "hear")))) (cTest (eOp gEq (eSl (eMethC "Hall" "lies_on" sp_Hall_lies_on 3 uPos (eVar 0) (aCons (eVar 4) (aCons (eVar 1) aNil))) oNone (oSome (eC (.int 1)))) (eTup (aCons (eVar 5) aNil))))) (sExpr (eMeth "list" gAppend (eVar 2) (aCons (eTup (aCons (eC (.str "hear")) (aCons (eVar 1) (aCons (eVar 4) aNil)))) aNil))) sSkip)))) (sRet (eVal (eVar 2)))))
def N_Hall_can_do : List Str := ["self", "found", "hand"]
def ps_Hall_can_do : List Str := ["self"]
def ph_Hall_can_do : WS := (sSeq (sAsg (eLstH aNil) (gdName 1)) (sSeq (sFor (iSeq (eFld TT (eVar 0) "standing")) (gdName 2) (sScope (sIf (cTest (eOp gNotIn (eVar 2) (eFld TT (eVar 0) "down"))) (sExpr (eMeth "list" gExtend (eVar 1) (aCons (eMethC "Hall" "deeds_of" sp_Hall_deeds_of 2 uPos (eVar 0) (aCons (eVar 2) aNil)) aNil))) sSkip))) (sRet (eCallB gTuple (aCons (eCallB gSorted (aCons (eVar 1) aNil)) aNil)))))
def N_Hall_lay_road : List Str := ["self", "pair", "words", "roads", "one"]
def ps_Hall_lay_road : List Str := ["self", "pair", "words"]
def ph_Hall_lay_road : WS := (sSeq (sAsg (eDc (iSeq (eFld TT (eVar 0) "on_roads")) (gdName 4) (cTest (eOp gNe (eVar 4) (eVar 1))) (eVar 4) (eOp gIx (eFld TT (eVar 0) "on_roads") (eVar 4)) [4]) (gdName 3)) (sSeq (sIf (cTest (eOp gNe (eVar 2) (eTup aNil))) (sAsg (eVar 2) (gdSub (eVar 3) (eVar 1))) sSkip) (sFrz 3 (sAsg (eVar 3) (gdFld TT (eVar 0) "on_roads")))))
def N_Hall_need_hand : List Str := ["self", "thing"]
def ps_Hall_need_hand : List Str := ["self", "thing"]
def ph_Hall_need_hand : WS := (sIf (cOr (cNot (cTest (eCall sp_is_name 1 uPos (aCons (eVar 1) aNil) aNil 0))) (cTest (eOp gNotIn (eVar 1) (eFld TT (eVar 0) "end_states")))) (fun _ _ _ => False) sSkip)
def N_Hall_need_up : List Str := ["self", "hand"]
def ps_Hall_need_up : List Str := ["self", "hand"]
def ph_Hall_need_up : WS := (sIf (cTest (eOp gIn (eVar 1) (eFld TT (eVar 0) "down"))) (fun _ _ _ => False) sSkip)
def N_Hall_put_fall : List Str := ["self", "hand", "other"]
def ps_Hall_put_fall : List Str := ["self", "hand"]
def ph_Hall_put_fall : WS := (sSeq (sExpr (eMethC "Hall" "need_hand" sp_Hall_need_hand 2 uPos (eVar 0) (aCons (eVar 1) aNil))) (sSeq (sExpr (eMethC "Hall" "need_up" sp_Hall_need_up 2 uPos (eVar 0) (aCons (eVar 1) aNil))) (sSeq (sIf (cTest (eOp gNotIn (eVar 1) (eFld TT (eVar 0) "weak"))) (fun _ _ _ => False) sSkip) (sSeq (sAsg (eCallB gTuple (aCons (eCallB gSorted (aCons (eOp gAdd (eFld TT (eVar 0) "down") (eTup (aCons (eVar 1) aNil))) aNil)) aNil)) (gdFld TT (eVar 0) "down")) (sSeq (sFor (iSeq (eFld TT (eVar 0) "standing")) (gdName 2) (sScope (sSeq (sExpr (eMethC "Hall" "lay_road" sp_Hall_lay_road 3 uPos (eVar 0) (aCons (eTup (aCons (eVar 2) (aCons (eVar 1) aNil))) (aCons (eTup aNil) aNil)))) (sIf (cTest (eOp gNotIn (eVar 2) (eFld TT (eVar 0) "down"))) (sExpr (eMethC "Hall" "lay_road" sp_Hall_lay_road 3 uPos (eVar 0) (aCons (eTup (aCons (eVar 1) (aCons (eVar 2) aNil))) (aCons (eOp gAdd (eMethC "Hall" "lies_on" sp_Hall_lies_on 3 uPos (eVar 0) (aCons (eVar 1) (aCons (eVar 2) aNil))) (eTup (aCons (eC (.str "!")) aNil))) aNil)))) sSkip)))) (sRet (eTup (aCons (eC (.str "fall")) (aCons (eVar 1) aNil)))))))))
def N_Hall_need_pair : List Str := ["self", "hand", "other"]
def ps_Hall_need_pair : List Str := ["self", "hand", "other"]
def ph_Hall_need_pair : WS := (sSeq (sExpr (eMethC "Hall" "need_hand" sp_Hall_need_hand 2 uPos (eVar 0) (aCons (eVar 1) aNil))) (sSeq (sExpr (eMethC "Hall" "need_hand" sp_Hall_need_hand 2 uPos (eVar 0) (aCons (eVar 2) aNil))) (sIf (cTest (eOp gEq (eVar 2) (eVar 1))) (fun _ _ _ => False) sSkip)))
def N_Hall_state_behind : List Str := ["self", "hand", "event", "kind", "other", "word", "behind"]
def ps_Hall_state_behind : List Str := ["self", "hand", "event"]
def ph_Hall_state_behind : WS := (sSeq (sFor (iSeq (eOp gIx (eOp gIx (eFld TT (eVar 0) "end_states") (eVar 1)) (eOp gIx (eFld TT (eVar 0) "standing") (eVar 1)))) (gdTup 4 (gdCons (gdName 3) (gdCons (gdName 4) (gdCons (gdName 5) (gdCons (gdName 6) gdNil))))) (sScope (sIf (cTest (eOp gEq (eTup (aCons (eVar 3) (aCons (eVar 4) (aCons (eVar 5) aNil)))) (eVar 2))) (sRet (eVar 6)) sSkip))) (sRet (eC .none)))
def N_Hall_put_hear : List Str := ["self", "hand", "sayer", "first", "rest", "behind", "one", "state"]
def ps_Hall_put_hear : List Str := ["self", "hand", "sayer"]
def ph_Hall_put_hear : WS := (sSeq (sExpr (eMethC "Hall" "need_pair" sp_Hall_need_pair 3 uPos (eVar 0) (aCons (eVar 1) (aCons (eVar 2) aNil)))) (sSeq (sExpr (eMethC "Hall" "need_up" sp_Hall_need_up 2 uPos (eVar 0) (aCons (eVar 1) aNil))) (sSeq (sIf (cTest (eOp gEq (eMethC "Hall" "lies_on" sp_Hall_lies_on 3 uPos (eVar 0) (aCons (eVar 2) (aCons (eVar 1) aNil))) (eTup aNil))) (fun _ _ _ => False) sSkip) (sSeq (sAsg (eMethC "Hall" "lies_on" sp_Hall_lies_on 3 uPos (eVar 0) (aCons (eVar 2) (aCons (eVar 1) aNil))) (gdStar 2 1 (gdCons (gdName 3) (gdCons (gdName 4) gdNil)))) (sSeq (sAsg (eMethC "Hall" "state_behind" sp_Hall_state_behind 3 uPos (eVar 0) (aCons (eVar 1) (aCons (eTup (aCons (eC (.str "hear")) (aCons (eVar 2) (aCons (eVar 3) aNil)))) aNil))) (gdName 5)) (sSeq (sIf (cTest (eOp gIs (eVar 5) (eC .none))) (fun _ _ _ => False) sSkip) (sSeq (sAsg (eVal (eDc (iItems (eFld TT (eVar 0) "standing")) (gdTup 2 (gdCons (gdName 6) (gdCons (gdName 7) gdNil))) tYes' (eVar 6) (eIf (cTest (eOp gEq (eVar 6) (eVar 1))) (eVar 5) (eVar 7)) [6, 7])) (gdFld TT (eVar 0) "standing")) (sSeq (sExpr (eMethC "Hall" "lay_road" sp_Hall_lay_road 3 uPos (eVar 0) (aCons (eTup (aCons (eVar 2) (aCons (eVar 1) aNil))) (aCons (eCallB gTuple (aCons (eVar 4) aNil)) aNil)))) (sRet (eTup (aCons (eC (.str "hear")) (aCons (eVar 1) (aCons (eVar 2) (aCons (eVar 3) aNil))))))))))))))
def N_Hall_put_say : List Str := ["self", "hand", "hearer", "word", "behind", "one", "state"]
def ps_Hall_put_say : List Str := ["self", "hand", "hearer", "word"]
def ph_Hall_put_say : WS := (sSeq (sExpr (eMethC "Hall" "need_pair" sp_Hall_need_pair 3 uPos (eVar 0) (aCons (eVar 1) (aCons (eVar 2) aNil)))) (sSeq (sExpr (eMethC "Hall" "need_up" sp_Hall_need_up 2 uPos (eVar 0) (aCons (eVar 1) aNil))) (sSeq (sAsg (eMethC "Hall" "state_behind" sp_Hall_state_behind 3 uPos (eVar 0) (aCons (eVar 1) (aCons (eTup (aCons (eC (.str "say")) (aCons (eVar 2) (aCons (eVar 3) aNil)))) aNil))) (gdName 4)) (sSeq (sIf (cTest (eOp gIs (eVar 4) (eC .none))) (fun _ _ _ => False) sSkip) (sSeq (sIf (cNot (cTest (eMethC "Hall" "has_room" sp_Hall_has_room 3 uPos (eVar 0) (aCons (eVar 1) (aCons (eVar 2) aNil))))) (fun _ _ _ => False) sSkip) (sSeq (sAsg (eVal (eDc (iItems (eFld TT (eVar 0) "standing")) (gdTup 2 (gdCons (gdName 5) (gdCons (gdName 6) gdNil))) tYes' (eVar 5) (eIf (cTest (eOp gEq (eVar 5) (eVar 1))) (eVar 4) (eVar 6)) [5, 6])) (gdFld TT (eVar 0) "standing")) (sSeq (sIf (cTest (eOp gNotIn (eVar 2) (eFld TT (eVar 0) "down"))) (sExpr (eMethC "Hall" "lay_road" sp_Hall_lay_road 3 uPos (eVar 0) (aCons (eTup (aCons (eVar 1) (aCons (eVar 2) aNil))) (aCons (eOp gAdd (eMethC "Hall" "lies_on" sp_Hall_lies_on 3 uPos (eVar 0) (aCons (eVar 1) (aCons (eVar 2) aNil))) (eTup (aCons (eVar 3) aNil))) aNil)))) sSkip) (sRet (eTup (aCons (eC (.str "say")) (aCons (eVar 1) (aCons (eVar 2) (aCons (eVar 3) aNil)))))))))))))
def N_is_shaped : List Str := ["thing", "shapes"]
def ps_is_shaped : List Str := ["thing", "shapes"]
def ph_is_shaped : WS := (sSeq (sIf (cOr (cNot (cTest (eIsB "tuple" (eVar 0)))) (cOr (cTest (eOp gEq (eCallB gLen (aCons (eVar 0) aNil)) (eC (.int 0)))) (cNot (cTest (eIsB "str" (eOp gIx (eVar 0) (eC (.int 0)))))))) (sRet (eC (.bool false))) sSkip) (sRet (eOp gIn (eTup (aCons (eOp gIx (eVar 0) (eC (.int 0))) (aCons (eCallB gLen (aCons (eVar 0) aNil)) aNil))) (eVar 1))))
def N_Hall_put : List Str := ["self", "deed", "word", "hand", "parts", "row"]
def ps_Hall_put : List Str := ["self", "deed"]
def ph_Hall_put : WS := (sSeq (sIf (cNot (cTest (eCall sp_is_shaped 2 uPos (aCons (eVar 1) (aCons (eK (.tuple [(.tuple [(.str "say"), (.int 4)]), (.tuple [(.str "hear"), (.int 3)]), (.tuple [(.str "fall"), (.int 2)])])) aNil)) aNil 0))) (fun _ _ _ => False) sSkip) (sSeq (sAsg (eVar 1) (gdStar 3 2 (gdCons (gdName 2) (gdCons (gdName 3) (gdCons (gdName 4) gdNil))))) (sSeq (sIf (cTest (eOp gEq (eVar 2) (eC (.str "say")))) (sAsg (eMethC "Hall" "put_say" sp_Hall_put_say 4 uPos (eVar 0) (aCons (eVar 3) (aCons (eOp gIx (eVar 4) (eC (.int 0))) (aCons (eOp gIx (eVar 4) (eC (.int 1))) aNil)))) (gdName 5)) (sIf (cTest (eOp gEq (eVar 2) (eC (.str "hear")))) (sAsg (eMethC "Hall" "put_hear" sp_Hall_put_hear 3 uPos (eVar 0) (aCons (eVar 3) (aCons (eOp gIx (eVar 4) (eC (.int 0))) aNil))) (gdName 5)) (sAsg (eMethC "Hall" "put_fall" sp_Hall_put_fall 2 uPos (eVar 0) (aCons (eVar 3) aNil)) (gdName 5)))) (sSeq (sAsg (eOp gAdd (eFld TT (eVar 0) "laid") (eLst (aCons (eVar 5) aNil))) (gdFld TT (eVar 0) "laid")) (sRet (eVar 5))))))
def N_Hall_each_put : List Str := ["self", "deeds", "deed"]
def ps_Hall_each_put : List Str := ["self", "deeds"]
def ph_Hall_each_put : WS := (sSeq (sIf (cOr (cNot (cTest (eIsB "tuple" (eVar 1)))) (cTest (eOp gEq (eCallB gLen (aCons (eVar 1) aNil)) (eC (.int 0))))) (fun _ _ _ => False) sSkip) (sRet (eCallB gTuple (aCons (eVal (eLc (iSeq (eVar 1)) (gdName 2) tYes' (eMethC "Hall" "put" sp_Hall_put 2 uPos (eVar 0) (aCons (eVar 2) aNil)) [2])) aNil))))
def N_Hall_told : List Str := ["self", "deeds", "standing", "on_roads", "down", "laid", "done"]
def ps_Hall_told : List Str := ["self", "deeds"]
def ph_Hall_told : WS := (sSeq (sUnp 4 (aCons (eFld TT (eVar 0) "standing") (aCons (eFld TT (eVar 0) "on_roads") (aCons (eFld TT (eVar 0) "down") (aCons (eFld TT (eVar 0) "laid") aNil)))) (gdCons (gdName 2) (gdCons (gdName 3) (gdCons (gdName 4) (gdCons (gdName 5) gdNil))))) (sSeq (sAsg (eC .none) (gdName 6)) (sSeq (sFldAug TT (eVar 0) (eC (.int 1)) gAddI "called") (sSeq (sFldAug TT (eVar 0) (eC (.int 1)) gAddI "barred") (sSeq (sFin (sAsg (eMethC "Hall" "each_put" sp_Hall_each_put 2 uPos (eVar 0) (aCons (eVar 1) aNil)) (gdName 6)) (sIf (cTest (eOp gIs (eVar 6) (eC .none))) (sUnp 4 (aCons (eVar 2) (aCons (eVar 3) (aCons (eVar 4) (aCons (eVar 5) aNil)))) (gdCons (gdFld TT (eVar 0) "standing") (gdCons (gdFld TT (eVar 0) "on_roads") (gdCons (gdFld TT (eVar 0) "down") (gdCons (gdFld TT (eVar 0) "laid") gdNil))))) sSkip)) (sSeq (sFldAug TT (eVar 0) (eC (.int 1)) gSub "barred") (sSeq (sExpr (eMeth "list" gAppend (eFld TT (eVar 0) "aheads") (aCons (eTup (aCons (eVar 2) (aCons (eVar 3) (aCons (eVar 4) (aCons (eVar 5) aNil))))) aNil))) (sRet (eVar 6)))))))))
def N_Hall_do : List Str := ["self", "deed"]
def ps_Hall_do : List Str := ["self", "deed"]
def ph_Hall_do : WS := (sRet (eOp gIx (eMethC "Hall" "told" sp_Hall_told 2 uPos (eVar 0) (aCons (eTup (aCons (eVar 1) aNil)) aNil)) (eC (.int 0))))
def N__law_draw : List Str := ["reel", "many", "digit", "turn", "primes", "one"]
def ps__law_draw : List Str := ["reel", "many"]
def ph__law_draw : WS := (sSeq (sIf (cTest (eOp gGt (eOp gIx (eVar 0) (eC (.int 0))) (eC (.int 0)))) (sSeq (sAsg (eOp gMod (eOp gIx (eVar 0) (eC (.int 0))) (eVar 1)) (gdName 2)) (sSeq (sAsg (eOp gFdiv (eOp gIx (eVar 0) (eC (.int 0))) (eVar 1)) (gdSub (eVar 0) (eC (.int 0)))) (sRet (eVar 2)))) sSkip) (sSeq (sAsg (eOp gAdd (eOp gIx (eVar 0) (eC (.int 2))) (eC (.int 1))) (gdSub (eVar 0) (eC (.int 2)))) (sSeq (sAsg (eOp gIx (eVar 0) (eC (.int 2))) (gdName 3)) (sSeq (sAsg (eLst (aCons (eC (.int 2147483587)) (aCons (eC (.int 2147483579)) (aCons (eC (.int 2147483563)) (aCons (eC (.int 2147483549)) (aCons (eC (.int 2147483543)) (aCons (eC (.int 2147483497)) (aCons (eC (.int 2147483489)) aNil)))))))) (gdName 4)) (sSeq (sAsg (eOp gMod (eOp gMul (eOp gAdd (eOp gIx (eVar 0) (eC (.int 1))) (eC (.int 7))) (eOp gAdd (eOp gMul (eVar 3) (eVar 3)) (eC (.int 48271)))) (eOp gIx (eVar 4) (eOp gMod (eVar 3) (eC (.int 7))))) (gdName 5)) (sSeq (sAsg (eOp gMod (eOp gAdd (eOp gAdd (eOp gMul (eVar 5) (eVar 5)) (eOp gMul (eC (.int 69621)) (eVar 3))) (eC (.int 12345))) (eOp gIx (eVar 4) (eOp gMod (eOp gAdd (eVar 3) (eC (.int 3))) (eC (.int 7))))) (gdName 5)) (sRet (eOp gMod (eOp gFdiv (eOp gMod (eOp gMul (eVar 5) (eOp gAdd (eVar 5) (eC (.int 40692)))) (eC (.int 2147483629))) (eC (.int 7))) (eVar 1)))))))))
def N_Hall___eq__ : List Str := ["self", "other"]
def ps_Hall___eq__ : List Str := ["self", "other"]
def ph_Hall___eq__ : WS := (sSeq (sIf (cOr (cNot (cTest (eIsC "Hall" (eVar 1)))) (cTest (eOp gNe (eTup (aCons (eFld TT (eVar 0) "ends") (aCons (eFld TT (eVar 0) "room") (aCons (eFld TT (eVar 0) "weak") aNil)))) (eTup (aCons (eFld TT (eVar 1) "ends") (aCons (eFld TT (eVar 1) "room") (aCons (eFld TT (eVar 1) "weak") aNil))))))) (sRet (eC (.bool false))) sSkip) (sRet (eOp gEq (eFld TT (eVar 0) "laid") (eFld TT (eVar 1) "laid"))))
def N_Hall_log : List Str := ["self"]
def ps_Hall_log : List Str := ["self"]
def ph_Hall_log : WS := (sRet (eCallB gTuple (aCons (eFld TT (eVar 0) "laid") aNil)))
def N_Hall_twin : List Str := ["self", "other"]
def ps_Hall_twin : List Str := ["self"]
def ph_Hall_twin : WS := (sSeq (sAsg (eMake "Hall" sp_Hall___init__ 2 uKw (aCons (eFld TT (eVar 0) "ends") aNil) (aCons (eFld TT (eVar 0) "room") (aCons (eFld TT (eVar 0) "weak") aNil)) 2) (gdName 1)) (sSeq (sUnp 3 (aCons (eFld TT (eVar 0) "standing") (aCons (eFld TT (eVar 0) "on_roads") (aCons (eFld TT (eVar 0) "down") aNil))) (gdCons (gdFld TT (eVar 1) "standing") (gdCons (gdFld TT (eVar 1) "on_roads") (gdCons (gdFld TT (eVar 1) "down") gdNil)))) (sSeq (sUnp 2 (aCons (eFld TT (eVar 0) "laid") (aCons (eCallB gListH (aCons (eFld TT (eVar 0) "aheads") aNil)) aNil)) (gdCons (gdFld TT (eVar 1) "laid") (gdCons (gdFld TT (eVar 1) "aheads") gdNil))) (sRet (eVar 1)))))
def N_Hall___len__ : List Str := ["self"]
def ps_Hall___len__ : List Str := ["self"]
def ph_Hall___len__ : WS := (sRet (eCallB gLen (aCons (eFld TT (eVar 0) "laid") aNil)))
def N_Hall_fallen : List Str := ["self"]
def ps_Hall_fallen : List Str := ["self"]
def ph_Hall_fallen : WS := (sRet (eFld TT (eVar 0) "down"))
def N_Hall_is_done : List Str := ["self", "hand"]
def ps_Hall_is_done : List Str := ["self", "hand"]
def ph_Hall_is_done : WS := (sSeq (sExpr (eMethC "Hall" "need_hand" sp_Hall_need_hand 2 uPos (eVar 0) (aCons (eVar 1) aNil))) (sRet (eOp gEq (eOp gIx (eOp gIx (eFld TT (eVar 0) "end_states") (eVar 1)) (eOp gIx (eFld TT (eVar 0) "standing") (eVar 1))) (eTup aNil))))
def N_Hall_state_of : List Str := ["self", "hand"]
def ps_Hall_state_of : List Str := ["self", "hand"]
def ph_Hall_state_of : WS := (sSeq (sExpr (eMethC "Hall" "need_hand" sp_Hall_need_hand 2 uPos (eVar 0) (aCons (eVar 1) aNil))) (sRet (eOp gIx (eFld TT (eVar 0) "standing") (eVar 1))))
def N_Hall_under_way : List Str := ["self", "pair"]
def ps_Hall_under_way : List Str := ["self"]
def ph_Hall_under_way : WS := (sRet (eVal (eDc (iSeq (eCallB gSorted (aCons (eFld TT (eVar 0) "on_roads") aNil))) (gdName 1) tYes' (eVar 1) (eOp gIx (eFld TT (eVar 0) "on_roads") (eVar 1)) [1])))
def N_Hall_view_of : List Str := ["self", "hand", "row"]
def ps_Hall_view_of : List Str := ["self", "hand"]
def ph_Hall_view_of : WS := (sSeq (sExpr (eMethC "Hall" "need_hand" sp_Hall_need_hand 2 uPos (eVar 0) (aCons (eVar 1) aNil))) (sRet (eCallB gTuple (aCons (eVal (eLc (iSeq (eFld TT (eVar 0) "laid")) (gdName 2) (cAnd (cTest (eOp gEq (eOp gIx (eVar 2) (eC (.int 1))) (eVar 1))) (cTest (eOp gNe (eOp gIx (eVar 2) (eC (.int 0))) (eC (.str "fall"))))) (eTup (aCons (eOp gIx (eVar 2) (eC (.int 0))) (aCons (eOp gIx (eVar 2) (eC (.int 2))) (aCons (eOp gIx (eVar 2) (eC (.int 3))) aNil)))) [2])) aNil))))
def N_Hall_views : List Str := ["self", "hand"]
def ps_Hall_views : List Str := ["self"]
def ph_Hall_views : WS := (sRet (eVal (eDc (iSeq (eFld TT (eVar 0) "standing")) (gdName 1) tYes' (eVar 1) (eMethC "Hall" "view_of" sp_Hall_view_of 2 uPos (eVar 0) (aCons (eVar 1) aNil)) [1])))
def N__law_told : List Str := ["hall", "states", "who"]
def ps__law_told : List Str := ["hall"]
def ph__law_told : WS := (sSeq (sAsg (eVal (eLc (iSeq (eMethC "Hall" "views" sp_Hall_views 1 uPos (eVar 0) aNil)) (gdName 2) tYes' (eTup (aCons (eVar 2) (aCons (eMethC "Hall" "state_of" sp_Hall_state_of 2 uPos (eVar 0) (aCons (eVar 2) aNil)) (aCons (eMethC "Hall" "is_done" sp_Hall_is_done 2 uPos (eVar 0) (aCons (eVar 2) aNil)) aNil)))) [2])) (gdName 1)) (sRet (eCallB gRepr (aCons (eTup (aCons (eMethC "Hall" "can_do" sp_Hall_can_do 1 uPos (eVar 0) aNil) (aCons (eMethC "Hall" "under_way" sp_Hall_under_way 1 uPos (eVar 0) aNil) (aCons (eMethC "Hall" "views" sp_Hall_views 1 uPos (eVar 0) aNil) (aCons (eMethC "Hall" "fallen" sp_Hall_fallen 1 uPos (eVar 0) aNil) (aCons (eVar 1) (aCons (eCallB gSorted (aCons (eMethC "Hall" "log" sp_Hall_log 1 uPos (eVar 0) aNil) aNil)) (aCons (eLenC "Hall" sp_Hall___len__ uPos (aCons (eVar 0) aNil)) aNil)))))))) aNil))))
def N__law_either_right : List Str := ["hall", "one", "other", "here", "there", "rows"]
def ps__law_either_right : List Str := ["hall", "one", "other"]
def ph__law_either_right : WS := (sSeq (sPar 3 4 (aCons (eMethC "Hall" "twin" sp_Hall_twin 1 uPos (eVar 0) aNil) (aCons (eMethC "Hall" "twin" sp_Hall_twin 1 uPos (eVar 0) aNil) aNil))) (sSeq (sAsg (eLst (aCons (eMethC "Hall" "do" sp_Hall_do 2 uPos (eVar 3) (aCons (eVar 1) aNil)) (aCons (eMethC "Hall" "do" sp_Hall_do 2 uPos (eVar 3) (aCons (eVar 2) aNil)) aNil))) (gdName 5)) (sSeq (sIf (cOr (cTest (eOp gNe (eLst (aCons (eMethC "Hall" "do" sp_Hall_do 2 uPos (eVar 4) (aCons (eVar 2) aNil)) (aCons (eMethC "Hall" "do" sp_Hall_do 2 uPos (eVar 4) (aCons (eVar 1) aNil)) aNil))) (eRev (eVar 5)))) (cTest (eOp gNe (eCall sp__law_told 1 uPos (aCons (eVar 3) aNil) aNil 0) (eCall sp__law_told 1 uPos (aCons (eVar 4) aNil) aNil 0)))) (sRet (eC (.bool false))) sSkip) (sSeq (sIf (cOr (cTest (eOp gIsNot (eOp (gEqC "Hall" sp_Hall___eq__ uPos) (eVar 3) (eVar 4)) (eC (.bool false)))) (cTest (eOp gIsNot (eOp (gEqC "Hall" sp_Hall___eq__ uPos) (eVar 3) (eVar 0)) (eC (.bool false))))) (sRet (eC (.bool false))) sSkip) (sRet (eAnd (eOp gEq (eMethC "Hall" "log" sp_Hall_log 1 uPos (eVar 3) aNil) (eOp gAdd (eMethC "Hall" "log" sp_Hall_log 1 uPos (eVar 0) aNil) (eCallB gTuple (aCons (eVar 5) aNil)))) (eOp gEq (eMethC "Hall" "log" sp_Hall_log 1 uPos (eVar 4) aNil) (eOp gAdd (eMethC "Hall" "log" sp_Hall_log 1 uPos (eVar 0) aNil) (eCallB gTuple (aCons (eRev (eVar 5)) aNil))))))))))
def N__law_names : List Str := ["reel", "many", "letters", "way", "stem", "at", "first", "found", "k", "sign", "tail", "turn"]
def ps__law_names : List Str := ["reel", "many"]
def ph__law_names : WS := (sSeq (sAsg (eC (.str "abcdefghijklmnopqrstuvwxyz")) (gdName 2)) (sSeq (sAsg (eCall sp__law_draw 2 uPos (aCons (eVar 0) (aCons (eC (.int 3)) aNil)) aNil 0) (gdName 3)) (sSeq (sAsg (eMeth "str" gJoin (eC (.str "")) (aCons (eVal (eLc (iRng1 (aCons (eOp gIx (eLst (aCons (eOp gAdd (eC (.int 1)) (eCall sp__law_draw 2 uPos (aCons (eVar 0) (aCons (eC (.int 8)) aNil)) aNil 0)) (aCons (eC (.int 8)) (aCons (eC (.int 1)) aNil)))) (eVar 3)) aNil)) (gdName 11) tYes' (eOp gIx (eVar 2) (eCall sp__law_draw 2 uPos (aCons (eVar 0) (aCons (eC (.int 26)) aNil)) aNil 0)) [11])) aNil)) (gdName 4)) (sSeq (sAsg (eCall sp__law_draw 2 uPos (aCons (eVar 0) (aCons (eCallB gLen (aCons (eVar 4) aNil)) aNil)) aNil 0) (gdName 5)) (sSeq (sAsg (eCall sp__law_draw 2 uPos (aCons (eVar 0) (aCons (eC (.int 26)) aNil)) aNil 0) (gdName 6)) (sSeq (sAsg (eLstH aNil) (gdName 7)) (sSeq (sFor (iRng1 (aCons (eVar 1) aNil)) (gdName 8) (sScope (sSeq (sAsg (eOp gIx (eVar 2) (eOp gMod (eOp gAdd (eVar 6) (eOp gMul (eC (.int 7)) (eVar 8))) (eC (.int 26)))) (gdName 9)) (sSeq (sAsg (eMeth "str" gJoin (eC (.str "")) (aCons (eVal (eLc (iRng1 (aCons (eOp gMul (eCall sp__law_draw 2 uPos (aCons (eVar 0) (aCons (eC (.int 8)) aNil)) aNil 0) (eCallB gInt (aCons (eOp gEq (eVar 3) (eC (.int 2))) aNil))) aNil)) (gdName 11) tYes' (eOp gIx (eVar 2) (eCall sp__law_draw 2 uPos (aCons (eVar 0) (aCons (eC (.int 26)) aNil)) aNil 0)) [11])) aNil)) (gdName 10)) (sExpr (eMeth "list" gAppend (eVar 7) (aCons (eOp gIx (eLst (aCons (eOp gAdd (eOp gAdd (eSl (eVar 4) oNone (oSome (eVar 5))) (eVar 9)) (eSl (eVar 4) (oSome (eOp gAdd (eVar 5) (eC (.int 1)))) oNone)) (aCons (eSl (eVar 4) oNone (oSome (eOp gAdd (eOp gMod (eOp gAdd (eVar 6) (eVar 8)) (eC (.int 8))) (eC (.int 1))))) (aCons (eOp gAdd (eVar 9) (eVar 10)) aNil)))) (eVar 3)) aNil))))))) (sRet (eVal (eVar 7))))))))))
def N__law_state : List Str := ["reel", "others", "words", "many", "way", "found", "turn", "other", "voice", "kept", "event", "one"]
def ps__law_state : List Str := ["reel", "others", "words", "many"]
def ph__law_state : WS := (sSeq (sAsg (eCall sp__law_draw 2 uPos (aCons (eVar 0) (aCons (eC (.int 8)) aNil)) aNil 0) (gdName 4)) (sSeq (sAsg (eLstH aNil) (gdName 5)) (sSeq (sIf (cTest (eOp gIn (eVar 4) (eTup (aCons (eC (.int 1)) (aCons (eC (.int 2)) (aCons (eC (.int 3)) (aCons (eC (.int 7)) aNil))))))) (sFor (iRng1 (aCons (eOp gAdd (eC (.int 1)) (eCall sp__law_draw 2 uPos (aCons (eVar 0) (aCons (eC (.int 3)) aNil)) aNil 0)) aNil)) (gdName 6) (sScope (sSeq (sAsg (eOp gIx (eVar 1) (eCall sp__law_draw 2 uPos (aCons (eVar 0) (aCons (eCallB gLen (aCons (eVar 1) aNil)) aNil)) aNil 0)) (gdName 7)) (sExpr (eMeth "list" gAppend (eVar 5) (aCons (eTup (aCons (eC (.str "say")) (aCons (eVar 7) (aCons (eOp gIx (eVar 2) (eCall sp__law_draw 2 uPos (aCons (eVar 0) (aCons (eCallB gLen (aCons (eVar 2) aNil)) aNil)) aNil 0)) (aCons (eCall sp__law_draw 2 uPos (aCons (eVar 0) (aCons (eVar 3) aNil)) aNil 0) aNil))))) aNil)))))) sSkip) (sSeq (sIf (cTest (eOp gGt (eVar 4) (eC (.int 3)))) (sFor (iRng1 (aCons (eOp gAdd (eC (.int 1)) (eCall sp__law_draw 2 uPos (aCons (eVar 0) (aCons (eC (.int 2)) aNil)) aNil 0)) aNil)) (gdName 6) (sScope (sSeq (sAsg (eOp gIx (eVar 1) (eCall sp__law_draw 2 uPos (aCons (eVar 0) (aCons (eCallB gLen (aCons (eVar 1) aNil)) aNil)) aNil 0)) (gdName 7)) (sFor (iSeq (eOp gAdd (eVar 2) (eLst (aCons (eC (.str "!")) aNil)))) (gdName 8) (sScope (sIf (cTest (eOp gGt (eCall sp__law_draw 2 uPos (aCons (eVar 0) (aCons (eC (.int 5)) aNil)) aNil 0) (eC (.int 0)))) (sExpr (eMeth "list" gAppend (eVar 5) (aCons (eTup (aCons (eC (.str "hear")) (aCons (eVar 7) (aCons (eVar 8) (aCons (eCall sp__law_draw 2 uPos (aCons (eVar 0) (aCons (eVar 3) aNil)) aNil 0) aNil))))) aNil))) sSkip)))))) sSkip) (sSeq (sAsg (eLstH aNil) (gdName 9)) (sSeq (sFor (iSeq (eVar 5)) (gdName 10) (sScope (sIf (cTest (eOp gNotIn (eSl (eVar 10) oNone (oSome (eC (.int 3)))) (eVal (eLc (iSeq (eVar 9)) (gdName 11) tYes' (eSl (eVar 11) oNone (oSome (eC (.int 3)))) [11])))) (sExpr (eMeth "list" gAppend (eVar 9) (aCons (eVar 10) aNil))) sSkip))) (sRet (eCallB gTuple (aCons (eCallB gSorted (aCons (eVar 9) aNil)) aNil)))))))))
def N__law_ends : List Str := ["reel", "most", "hands", "words", "found", "who", "others", "many", "other", "turn"]
def ps__law_ends : List Str := ["reel", "most"]
def ph__law_ends : WS := (sSeq (sAsg (eCall sp__law_names 2 uPos (aCons (eVar 0) (aCons (eOp gAdd (eC (.int 2)) (eCall sp__law_draw 2 uPos (aCons (eVar 0) (aCons (eOp gSub (eVar 1) (eC (.int 1))) aNil)) aNil 0)) aNil)) aNil 0) (gdName 2)) (sSeq (sAsg (eCall sp__law_names 2 uPos (aCons (eVar 0) (aCons (eOp gAdd (eC (.int 1)) (eCall sp__law_draw 2 uPos (aCons (eVar 0) (aCons (eC (.int 3)) aNil)) aNil 0)) aNil)) aNil 0) (gdName 3)) (sSeq (sAsg (eLstH aNil) (gdName 4)) (sSeq (sFor (iSeq (eVar 2)) (gdName 5) (sScope (sSeq (sAsg (eVal (eLc (iSeq (eVar 2)) (gdName 8) (cTest (eOp gNe (eVar 8) (eVar 5))) (eVar 8) [8])) (gdName 6)) (sSeq (sAsg (eOp gAdd (eC (.int 1)) (eCall sp__law_draw 2 uPos (aCons (eVar 0) (aCons (eC (.int 5)) aNil)) aNil 0)) (gdName 7)) (sExpr (eMeth "list" gAppend (eVar 4) (aCons (eTup (aCons (eVar 5) (aCons (eCallB gTuple (aCons (eVal (eLc (iRng1 (aCons (eVar 7) aNil)) (gdName 9) tYes' (eCall sp__law_state 4 uPos (aCons (eVar 0) (aCons (eVar 6) (aCons (eVar 3) (aCons (eVar 7) aNil)))) aNil 0) [9])) aNil)) aNil))) aNil))))))) (sRet (eCallB gTuple (aCons (eVar 4) aNil)))))))
def N__law_pairs : List Str := ["reel", "some", "most", "pairs", "one", "other"]
def ps__law_pairs : List Str := ["reel", "some", "most"]
def ph__law_pairs : WS := (sSeq (sAsg (eLstH aNil) (gdName 3)) (sSeq (sFor (iSeq (eVar 1)) (gdName 4) (sScope (sExpr (eMeth "list" gExtend (eVar 3) (aCons (eVal (eLc (iSeq (eVar 1)) (gdName 5) (cTest (eOp gLt (eOp gIx (eVar 4) (eC (.int 1))) (eOp gIx (eVar 5) (eC (.int 1))))) (eTup (aCons (eVar 4) (aCons (eVar 5) aNil))) [5])) aNil))))) (sSeq (sWhile (cTest (eOp gGt (eCallB gLen (aCons (eVar 3) aNil)) (eVar 2))) (sExpr (eMeth "list" gPopAt (eVar 3) (aCons (eCall sp__law_draw 2 uPos (aCons (eVar 0) (aCons (eCallB gLen (aCons (eVar 3) aNil)) aNil)) aNil 0) aNil)))) (sRet (eVal (eVar 3))))))
def N__law_reel : List Str := ["script", "k", "cell"]
def ps__law_reel : List Str := ["script", "k"]
def ph__law_reel : WS := (sSeq (sAsg (eC (.int 0)) (gdName 2)) (sSeq (sIf (cTest (eOp gLt (eVar 1) (eCallB gLen (aCons (eVar 0) aNil)))) (sAsg (eOp gIx (eVar 0) (eVar 1)) (gdName 2)) sSkip) (sRet (eLstH (aCons (eCallB gMax2 (aCons (eC (.int 0)) (aCons (eOp gSub (eVar 2) (eOp gPow (eC (.int 10)) (eC (.int 18)))) aNil))) (aCons (eOp gAdd (eOp gMod (eVar 2) (eC (.int 2147483629))) (eOp gMul (eC (.int 104729)) (eVar 1))) (aCons (eC (.int 0)) aNil)))))))
def N__law_room : List Str := ["reel"]
def ps__law_room : List Str := ["reel"]
def ph__law_room : WS := (sRet (eOp gIx (eLst (aCons (eC .none) (aCons (eC (.int 1)) (aCons (eC (.int 2)) (aCons (eOp gAdd (eC (.int 1)) (eCall sp__law_draw 2 uPos (aCons (eVar 0) (aCons (eC (.int 9)) aNil)) aNil 0)) aNil))))) (eCall sp__law_draw 2 uPos (aCons (eVar 0) (aCons (eC (.int 4)) aNil)) aNil 0)))
def N__law_weak : List Str := ["reel", "hall_ends", "who", "states"]
def ps__law_weak : List Str := ["reel", "hall_ends"]
def ph__law_weak : WS := (sRet (eCallB gTuple (aCons (eCallB gSorted (aCons (eVal (eLc (iSeq (eVar 1)) (gdTup 2 (gdCons (gdName 2) (gdCons (gdName 3) gdNil))) (cTest (eOp gEq (eCall sp__law_draw 2 uPos (aCons (eVar 0) (aCons (eC (.int 2)) aNil)) aNil 0) (eC (.int 0)))) (eVar 2) [2, 3])) aNil)) aNil)))
def N_law : List Str := ["script", "k", "reel", "hall_ends", "hall", "turn", "some", "kept", "one", "other"]
def ps_law : List Str := ["script"]
def ph_law : WS := (sSeq (sFor (iRng1 (aCons (eCallB gMax2 (aCons (eC (.int 2)) (aCons (eCallB gMin2 (aCons (eC (.int 63)) (aCons (eCallB gLen (aCons (eVar 0) aNil)) aNil))) aNil))) aNil)) (gdName 1) (sScope (sSeq (sAsg (eCall sp__law_reel 2 uPos (aCons (eVar 0) (aCons (eVar 1) aNil)) aNil 0) (gdName 2)) (sSeq (sAsg (eCall sp__law_ends 2 uPos (aCons (eVar 2) (aCons (eOp gIx (eLst (aCons (eC (.int 6)) (aCons (eC (.int 3)) aNil))) (eCallB gInt (aCons (eOp gGt (eVar 1) (eC (.int 2))) aNil))) aNil)) aNil 0) (gdName 3)) (sSeq (sAsg (eMake "Hall" sp_Hall___init__ 2 uKw (aCons (eVar 3) aNil) (aCons (eCall sp__law_room 1 uPos (aCons (eVar 2) aNil) aNil 0) (aCons (eCall sp__law_weak 2 uPos (aCons (eVar 2) (aCons (eVar 3) aNil)) aNil 0) aNil)) 2) (gdName 4)) (sSeq (sFor (iRng1 (aCons (eCall sp__law_draw 2 uPos (aCons (eVar 2) (aCons (eOp gIx (eLst (aCons (eC (.int 7)) (aCons (eC (.int 21)) aNil))) (eCallB gInt (aCons (eOp gLt (eVar 1) (eC (.int 3))) aNil))) aNil)) aNil 0) aNil)) (gdName 5) (sScope (sSeq (sAsg (eMethC "Hall" "can_do" sp_Hall_can_do 1 uPos (eVar 4) aNil) (gdName 6)) (sIf (cTest (eOp gNe (eVar 6) (eTup aNil))) (sExpr (eMethC "Hall" "do" sp_Hall_do 2 uPos (eVar 4) (aCons (eOp gIx (eVar 6) (eCall sp__law_draw 2 uPos (aCons (eVar 2) (aCons (eCallB gLen (aCons (eVar 6) aNil)) aNil)) aNil 0)) aNil))) sSkip)))) (sSeq (sAsg (eCall sp__law_told 1 uPos (aCons (eVar 4) aNil) aNil 0) (gdName 7)) (sSeq (sFor (iSeq (eCall sp__law_pairs 3 uPos (aCons (eVar 2) (aCons (eMethC "Hall" "can_do" sp_Hall_can_do 1 uPos (eVar 4) aNil) (aCons (eOp gIx (eLst (aCons (eC (.int 4)) (aCons (eC (.int 30)) aNil))) (eCallB gInt (aCons (eOp gLt (eVar 1) (eC (.int 3))) aNil))) aNil))) aNil 0)) (gdTup 2 (gdCons (gdName 8) (gdCons (gdName 9) gdNil))) (sScope (sIf (cNot (cTest (eCall sp__law_either_right 3 uPos (aCons (eVar 4) (aCons (eVar 8) (aCons (eVar 9) aNil))) aNil 0))) (sRet (eC (.bool false))) sSkip))) (sIf (cTest (eOp gNe (eCall sp__law_told 1 uPos (aCons (eVar 4) aNil) aNil 0) (eVar 7))) (sRet (eC (.bool false))) sSkip))))))))) (sSeq (sAsg (eMake "Hall" sp_Hall___init__ 2 uDfl (aCons (eTup (aCons (eTup (aCons (eC (.str "a")) (aCons (eTup (aCons (eTup (aCons (eTup (aCons (eC (.str "say")) (aCons (eC (.str "b")) (aCons (eC (.str "w")) (aCons (eC (.int 1)) aNil))))) aNil)) (aCons (eTup aNil) aNil))) aNil))) (aCons (eTup (aCons (eC (.str "b")) (aCons (eTup (aCons (eTup (aCons (eTup (aCons (eC (.str "hear")) (aCons (eC (.str "a")) (aCons (eC (.str "w")) (aCons (eC (.int 1)) aNil))))) aNil)) (aCons (eTup aNil) aNil))) aNil))) aNil))) aNil) aNil 0) (gdName 4)) (sRet (eOp gEq (eCallB gRepr (aCons (eMethC "Hall" "can_do" sp_Hall_can_do 1 uPos (eVar 4) aNil) aNil)) (eCallB gRepr (aCons (eTup (aCons (eTup (aCons (eC (.str "say")) (aCons (eC (.str "a")) (aCons (eC (.str "b")) (aCons (eC (.str "w")) aNil))))) aNil)) aNil))))))
end K36
/-! ## part A1 -/
namespace K36
open PySem PySem.Spec
open R
theorem name_few {s : Str} (h : nameB s = true) : 1 ≤ s.length ∧ s.length ≤ 8 := by
  simp only [nameB, Bool.and_eq_true, decide_eq_true_eq] at h
  exact ⟨h.1, h.2.1⟩
theorem few_size {n : Nat} (h : n ≤ 100000) : n ≤ sizeLine := by have := sizeLine_eq; omega
theorem law_is_name : ∀ us G Q p, Closed G → sp_is_name us G Q p → ph_is_name (startU N_is_name us) G (Cnd G Q p) := by
  rintro _ G Q p hG ⟨_, ⟨x, rfl, hz, rfl⟩, q⟩
  refine law_of (fun C k => ?_) q
  unfold ph_is_name
  by_cases hb : isB "str" x = true
  · obtain ⟨s, rfl⟩ : ∃ s, x = .str s := by cases x <;> first | exact ⟨_, rfl⟩ | cases hb
    have z := hz s rfl
    by_cases e : (decide ((1 : Int) ≤ s.length) && decide ((s.length : Int) ≤ 8)) = true
    · refine sq_else (et_or (et_not (et_test (ev_isB (ev_var rfl)))) fun _ => et_not (et_test (ev_chain ev_c (ev_callB (ea_cons (ev_var rfl) ea_nil) (n_lenS z)) g_cmp (fun _ => ev_c) fun _ => g_cmp))) (by rw [e]; rfl) ?_
      simp at e
      refine st_ret (ev_callB (ea_cons (ev_lc (l := s.cps.toList) (fun c => .d (.str ⟨#[c]⟩)) (fun c => .bool (decide (c ∈ letters.cps.toList))) hG ?_ rfl ?_ ?_) ea_nil) ?_) k
      · exact fun R p q => (ev_var rfl : Ev (eVar 0) _ G (.d (.str s))) _ _ ⟨rfl, q _ fun _ => rfl⟩
      · intro c hc T hT
        refine ⟨_, pat_name, ev_op (ev_var rfl) ev_c fun P q => ?_⟩
        show P (.d (.bool (false != decide (c ∈ letters.cps.toList)))) _
        cases h : decide (c ∈ letters.cps.toList) <;> rw [h] at q <;> exact q
      · have h1 : s.cps.toList.length = s.length := rfl
        omega
      · rw [show (s.cps.toList.map fun c => PyData.bool (decide (c ∈ letters.cps.toList))) = (s.cps.toList.map fun c => decide (c ∈ letters.cps.toList)).map .bool from by rw [List.map_map]; rfl]
        have e3 : isNameD (.str s) = (s.cps.toList.map fun c => decide (c ∈ letters.cps.toList)).all id := by
          have a1 : decide (1 ≤ s.length) = true := decide_eq_true (by omega)
          have a2 : decide (s.length ≤ 8) = true := decide_eq_true (by omega)
          show nameB s = _
          unfold nameB
          rw [a1, a2, List.all_map]
          rfl
        rw [e3]
        exact n_all
    · refine sq_ret (et_or (et_not (et_test (ev_isB (ev_var rfl)))) fun _ => et_not (et_test (ev_chain ev_c (ev_callB (ea_cons (ev_var rfl) ea_nil) (n_lenS z)) g_cmp (fun _ => ev_c) fun _ => g_cmp))) (by rw [eq_false_of_ne_true e]; rfl) ev_c ?_
      have e3 : isNameD (.str s) = false := by
        show nameB s = false
        unfold nameB
        by_cases e1 : 1 ≤ s.length
        · by_cases e2 : s.length ≤ 8
          · simp at e
            omega
          · rw [decide_eq_false e2, Bool.false_and, Bool.and_false]
        · rw [decide_eq_false e1, Bool.false_and]
      rw [e3] at k
      exact k
  · have hb' : isB "str" x = false := by simpa using hb
    have no : isNameD x = false := by cases x <;> first | rfl | cases hb'
    rw [no] at k
    have h1 : Et (cNot (cTest (eIsB "str" (eVar 0)))) (startU N_is_name [.d x]) G true := et_as (et_not (et_test (ev_isB (ev_var rfl)))) (by rw [hb']; rfl)
    exact sq_ret (p := true || false) (et_or h1 fun h => by cases h) rfl ev_c k
theorem law_is_below : ∀ us G Q p, Closed G → sp_is_below us G Q p → ph_is_below (startU N_is_below us) G (Cnd G Q p) := by
  rintro _ G Q p hG ⟨_, ⟨x, n, rfl, rfl⟩, q⟩
  refine law_of (fun C k => ?_) q
  unfold ph_is_below
  by_cases hi : isB "int" x = true
  · cases x with
    | int b =>
      refine st_ret' (by (repeat' (first
    | exact ev_var rfl | exact ev_c | exact ev_k | exact ea_nil | exact eo_none
    | exact g_addI | exact g_sub | exact g_cmp | exact g_ltI | exact g_ltS | exact g_eqS | exact g_neS | exact g_eqI | exact g_neI | exact g_isN | exact n_lenT | exact n_lenL | exact n_tupL | exact s_T | exact s_L | exact g_inTs | exact g_ninTs | exact g_inLs | exact g_ixT rfl | exact g_ixL rfl
    | with_reducible apply ea_cons | with_reducible apply ev_op | with_reducible apply ev_isB | with_reducible apply ev_not | with_reducible apply ev_callB | with_reducible apply eo_some | with_reducible apply et_test | with_reducible apply et_not | with_reducible apply et_or | with_reducible apply et_and | with_reducible apply ev_or | with_reducible apply ev_and | with_reducible apply ev_chain | with_reducible apply ev_sl | with_reducible apply ev_tup | with_reducible apply ev_lst | intro (_ : (_ : Bool) = _) | exact rfl | exact Nat.le_of_ble_eq_true rfl))) ?_ k
      rfl
    | bool b =>
      refine st_ret' (ev_and (ev_isB (ev_var rfl)) fun _ => ev_and (p := false) (q := false) (ev_as (ev_not (ev_isB (ev_var rfl))) rfl) fun h => by cases h) ?_ k
      rfl
    | _ => cases hi
  · have hi' : isB "int" x = false := by simpa using hi
    have no : isBelowD n x = false := by cases x <;> first | rfl | cases hi'
    rw [no] at k
    refine st_ret' (ev_and (p := false) (q := false) (ev_as (ev_isB (ev_var rfl)) (by rw [hi'])) fun h => by cases h) rfl k

end K36
/-! ## part A2 -/
namespace K36
open PySem PySem.Spec
open R
theorem use_name {s : Str} {b : Bool} {G : GH} (h : s.length ≤ sizeLine) (e : nameB s = b) : ∀ (P : PU) (p : PX), P (.d (.bool b)) G → sp_is_name [.d (.str s)] G P p := fun P p q => ⟨_, ⟨_, rfl, fun s' h' => by cases h'; exact h, by rw [← e]; rfl⟩, q⟩
theorem evB_iff {e : Evt} (h : evB e = true) : (e.k = "say" ∧ nameB e.w = true ∨ e.k = "hear" ∧ (nameB e.w = true ∨ e.w = "!")) ∧ nameB e.o = true := by
  simp only [evB, Bool.and_eq_true, Bool.or_eq_true, decide_eq_true_eq] at h
  obtain ⟨h1 | h1, h2, h3⟩ := h
  · refine ⟨.inl ⟨h1, ?_⟩, h2⟩
    rcases h3 with h3 | h3
    · exact h3
    · rw [h1] at h3
      exact absurd h3.1 (by decide)
  · refine ⟨.inr ⟨h1, ?_⟩, h2⟩
    rcases h3 with h3 | h3
    · exact .inl h3
    · exact .inr h3.2
theorem law_is_event : ∀ us G Q p, Closed G → sp_is_event us G Q p → ph_is_event (startU N_is_event us) G (Cnd G Q p) := by
  rintro _ G Q p hG ⟨_, ⟨e, rfl, he, rfl⟩, q⟩
  refine law_of (fun C k => ?_) q
  obtain ⟨hk, ho⟩ := evB_iff he
  have kk : e.k ∈ (["say", "hear"] : List Str) := by rcases hk with hk | hk <;> rw [hk.1] <;> simp
  have zw : e.w.length ≤ sizeLine := by
    rcases hk with hk | ⟨_, hk | hk⟩
    · exact few_size (by have := name_few hk.2; omega)
    · exact few_size (by have := name_few hk; omega)
    · rw [hk]; exact few_size (by decide)
  unfold ph_is_event
  refine sq_else (p := !true || ((!decide ((3 : Int) = 3)) || !true)) (et_or (et_not (et_test (ev_isT (ev_var rfl)))) fun _ => et_or (et_test (by (repeat' (first
    | exact ev_var rfl | exact ev_c | exact ev_k | exact ea_nil | exact eo_none
    | exact g_addI | exact g_sub | exact g_cmp | exact g_ltI | exact g_ltS | exact g_eqS | exact g_neS | exact g_eqI | exact g_neI | exact g_isN | exact n_lenT | exact n_lenL | exact n_tupL | exact s_T | exact s_L | exact g_inTs | exact g_ninTs | exact g_inLs | exact g_ixT rfl | exact g_ixL rfl
    | with_reducible apply ea_cons | with_reducible apply ev_op | with_reducible apply ev_isB | with_reducible apply ev_not | with_reducible apply ev_callB | with_reducible apply eo_some | with_reducible apply et_test | with_reducible apply et_not | with_reducible apply et_or | with_reducible apply et_and | with_reducible apply ev_or | with_reducible apply ev_and | with_reducible apply ev_chain | with_reducible apply ev_sl | with_reducible apply ev_tup | with_reducible apply ev_lst | intro (_ : (_ : Bool) = _) | exact rfl | exact Nat.le_of_ble_eq_true rfl)))) fun _ => et_not (et_test (ev_callB (ea_cons (ev_lc (l := [e.k, e.o, e.w]) (fun s => .d (.str s)) (fun _ => .bool true) hG (ei_T (ev_var rfl)) rfl ?_ (by simp)) ea_nil) (n_all (bs := [true, true, true]))))) rfl ?_
  · exact fun s _ T _ => ⟨_, pat_name, ev_isS (ev_var rfl)⟩
  refine sq_pat (ev_var rfl) pat3 ?_
  refine sq_else (p := !true || !true) (et_or (et_as (et_test (ev_op (ev_var rfl) (by (repeat' (first
    | exact ev_var rfl | exact ev_c | exact ev_k | exact ea_nil | exact eo_none
    | exact g_addI | exact g_sub | exact g_cmp | exact g_ltI | exact g_ltS | exact g_eqS | exact g_neS | exact g_eqI | exact g_neI | exact g_isN | exact n_lenT | exact n_lenL | exact n_tupL | exact s_T | exact s_L | exact g_inTs | exact g_ninTs | exact g_inLs | exact g_ixT rfl | exact g_ixL rfl
    | with_reducible apply ea_cons | with_reducible apply ev_op | with_reducible apply ev_isB | with_reducible apply ev_not | with_reducible apply ev_callB | with_reducible apply eo_some | with_reducible apply et_test | with_reducible apply et_not | with_reducible apply et_or | with_reducible apply et_and | with_reducible apply ev_or | with_reducible apply ev_and | with_reducible apply ev_chain | with_reducible apply ev_sl | with_reducible apply ev_tup | with_reducible apply ev_lst | intro (_ : (_ : Bool) = _) | exact rfl | exact Nat.le_of_ble_eq_true rfl))) (g_ninTs (ys := ["say", "hear"])))) (by rw [decide_eq_true kk])) fun _ => et_not (et_test (ev_call (ea_cons (ev_var rfl) ea_nil) rfl (use_name (few_size (by have := name_few ho; omega)) ho)))) rfl ?_
  refine st_ret' (ev_or (ev_call (ea_cons (ev_var rfl) ea_nil) rfl (use_name zw rfl)) fun _ => by (repeat' (first
    | exact ev_var rfl | exact ev_c | exact ev_k | exact ea_nil | exact eo_none
    | exact g_addI | exact g_sub | exact g_cmp | exact g_ltI | exact g_ltS | exact g_eqS | exact g_neS | exact g_eqI | exact g_neI | exact g_isN | exact n_lenT | exact n_lenL | exact n_tupL | exact s_T | exact s_L | exact g_inTs | exact g_ninTs | exact g_inLs | exact g_ixT rfl | exact g_ixL rfl
    | with_reducible apply ea_cons | with_reducible apply ev_op | with_reducible apply ev_isB | with_reducible apply ev_not | with_reducible apply ev_callB | with_reducible apply eo_some | with_reducible apply et_test | with_reducible apply et_not | with_reducible apply et_or | with_reducible apply et_and | with_reducible apply ev_or | with_reducible apply ev_and | with_reducible apply ev_chain | with_reducible apply ev_sl | with_reducible apply ev_tup | with_reducible apply ev_lst | intro (_ : (_ : Bool) = _) | exact rfl | exact Nat.le_of_ble_eq_true rfl))) ?_ k
  rcases hk with hk | ⟨h1, hk | hk⟩
  · rw [hk.2]; rfl
  · rw [hk]; rfl
  · rw [h1, hk]
    rfl
theorem use_event {e : Evt} {G : GH} (he : evB e = true) : ∀ (P : PU) (p : PX), P yes G → sp_is_event [.d e.d3] G P p := fun P p q => ⟨_, ⟨_, rfl, he, rfl⟩, q⟩
theorem law_is_step : ∀ us G Q p, Closed G → sp_is_step us G Q p → ph_is_step (startU N_is_step us) G (Cnd G Q p) := by
  rintro _ G Q p hG ⟨_, ⟨h, n, e, rfl, he, h1, h2, h3, rfl⟩, q⟩
  refine law_of (fun C k => ?_) q
  unfold ph_is_step
  refine sq_else (p := !true || ((!decide ((4 : Int) = 4)) || !true)) (et_or (et_not (et_test (ev_isT (ev_var rfl)))) fun _ => et_or (et_test (by (repeat' (first
    | exact ev_var rfl | exact ev_c | exact ev_k | exact ea_nil | exact eo_none
    | exact g_addI | exact g_sub | exact g_cmp | exact g_ltI | exact g_ltS | exact g_eqS | exact g_neS | exact g_eqI | exact g_neI | exact g_isN | exact n_lenT | exact n_lenL | exact n_tupL | exact s_T | exact s_L | exact g_inTs | exact g_ninTs | exact g_inLs | exact g_ixT rfl | exact g_ixL rfl
    | with_reducible apply ea_cons | with_reducible apply ev_op | with_reducible apply ev_isB | with_reducible apply ev_not | with_reducible apply ev_callB | with_reducible apply eo_some | with_reducible apply et_test | with_reducible apply et_not | with_reducible apply et_or | with_reducible apply et_and | with_reducible apply ev_or | with_reducible apply ev_and | with_reducible apply ev_chain | with_reducible apply ev_sl | with_reducible apply ev_tup | with_reducible apply ev_lst | intro (_ : (_ : Bool) = _) | exact rfl | exact Nat.le_of_ble_eq_true rfl)))) fun _ => et_not (et_test (ev_call (ea_cons (ev_sl (ev_var rfl) eo_none (eo_some ev_c) s_T) ea_nil) rfl (use_event he)))) rfl ?_
  refine st_ret' (ev_and (by (repeat' (first
    | exact ev_var rfl | exact ev_c | exact ev_k | exact ea_nil | exact eo_none
    | exact g_addI | exact g_sub | exact g_cmp | exact g_ltI | exact g_ltS | exact g_eqS | exact g_neS | exact g_eqI | exact g_neI | exact g_isN | exact n_lenT | exact n_lenL | exact n_tupL | exact s_T | exact s_L | exact g_inTs | exact g_ninTs | exact g_inLs | exact g_ixT rfl | exact g_ixL rfl
    | with_reducible apply ea_cons | with_reducible apply ev_op | with_reducible apply ev_isB | with_reducible apply ev_not | with_reducible apply ev_callB | with_reducible apply eo_some | with_reducible apply et_test | with_reducible apply et_not | with_reducible apply et_or | with_reducible apply et_and | with_reducible apply ev_or | with_reducible apply ev_and | with_reducible apply ev_chain | with_reducible apply ev_sl | with_reducible apply ev_tup | with_reducible apply ev_lst | intro (_ : (_ : Bool) = _) | exact rfl | exact Nat.le_of_ble_eq_true rfl))) fun _ => ev_call (ea_cons (ev_op (ev_var rfl) ev_c (g_ixT (d := .int e.b) rfl)) (ea_cons (ev_var rfl) ea_nil)) rfl fun P p q => ⟨_, ⟨_, _, rfl, rfl⟩, q⟩) ?_ k
  simp [h1, h2, h3, isBelowD, yes]

end K36
/-! ## part A3 -/
namespace K36
open PySem PySem.Spec
open R
theorem use_step {h : Str} {n : Int} {e : Evt} {G : GH} (he : evB e = true) (h1 : e.o ≠ h) (h2 : 0 ≤ e.b) (h3 : e.b < n) : ∀ (P : PU) (p : PX), P yes G → sp_is_step [.d (.str h), .d (.int n), .d e.d] G P p := fun P p q => ⟨_, ⟨_, _, _, rfl, he, h1, h2, h3, rfl⟩, q⟩
theorem cut_tail {α : Type} (xs : List α) : cutD xs (some 1) none = xs.tail := by
  show (xs.drop (HT.sIx xs.length 0 (some ((1 : Nat) : Int)))).take (xs.length - HT.sIx xs.length 0 (some ((1 : Nat) : Int))) = _
  rw [HT.sIx_nat]
  cases xs with
  | nil => rfl
  | cons x xs =>
    rw [List.length_cons, Nat.min_eq_left (by omega)]
    simp
theorem cut_front {α : Type} (k : Nat) (xs : List α) : cutD xs none (some (k : Int)) = xs.take k := by
  show (xs.drop 0).take (HT.sIx xs.length xs.length (some (k : Int)) - 0) = _
  rw [HT.sIx_nat, List.drop_zero, Nat.sub_zero]
  by_cases h : k ≤ xs.length
  · rw [Nat.min_eq_left h]
  · rw [Nat.min_eq_right (by omega), List.take_of_length_le (Nat.le_refl _), List.take_of_length_le (by omega)]
theorem alike_evt (v v' : Evt) : PySem.W.alike v.d v'.d = true := by simp [Evt.d, PySem.W.alike, PySem.W.alikeAll]
theorem evt_depth (v : Evt) : v.d.depth ≤ 2 := by simp [Evt.d, PyData.depth, PyData.depthAll]
theorem zip_next {α : Type} {f : α → PyData} : ∀ l l' : List α, List.zipWith pairD (l.map f) (l'.map f) = (l.zip l').map fun p => .d (.tuple [f p.1, f p.2])
  | [], _ => by simp
  | _ :: _, [] => by simp
  | a :: l, b :: l' => by
    simp only [List.map_cons, List.zipWith_cons_cons, List.zip_cons_cons, zip_next l l']
    rfl
theorem zip_rel {α : Type} {R : α → α → Prop} : ∀ {l : List α}, l.Pairwise R → ∀ p ∈ l.zip l.tail, R p.1 p.2
  | [], _, p, hp => by simp at hp
  | [a], _, p, hp => by simp at hp
  | a :: b :: l, h, p, hp => by
    rw [List.tail_cons, List.zip_cons_cons] at hp
    rcases List.mem_cons.mp hp with rfl | hp
    · exact List.rel_of_pairwise_cons h List.mem_cons_self
    · exact zip_rel (List.pairwise_cons.mp h).2 p hp
theorem all_true {α : Type} (l : List α) {G : GH} : En gAll [.d (.list (l.map fun _ => .bool true))] G yes := by
  have h : (l.map fun _ => PyData.bool true) = (l.map fun _ => true).map .bool := by rw [List.map_map]; rfl
  rw [h]
  have e : (l.map fun _ => true).all id = true := by simp
  exact fun P q => n_all P (by rw [e]; exact q)
theorem law_is_rising : ∀ us G Q p, Closed G → sp_is_rising us G Q p → ph_is_rising (startU N_is_rising us) G (Cnd G Q p) := by
  rintro _ G Q p hG ⟨_, ⟨s, rfl, hz, hs, rfl⟩, q⟩
  refine law_of (fun C k => ?_) q
  unfold ph_is_rising
  refine st_ret (ev_callB (ea_cons (ev_lc (l := s.zip s.tail) (fun p => .d (.tuple [p.1.d, p.2.d])) (fun _ => .bool true) hG (ei_zipT (ea_cons (ev_var rfl) (ea_cons (ev_sl (ev_var rfl) (eo_some ev_c) eo_none s_T) ea_nil))) ?_ ?_ ?_) ea_nil) (all_true _)) k
  · rw [cut_tail, ← List.map_tail, zip_next]
  · intro p hp T _
    refine ⟨_, pat2, ev_op (ev_var rfl) (ev_var rfl) fun P q => ⟨alike_evt _ _, ?_, ?_⟩⟩
    · exact Nat.le_trans (Nat.min_le_left _ _) (Nat.le_trans (evt_depth _) (by omega))
    · have := zip_rel hs p hp
      rw [show PySem.W.dataLt (.tuple [.str p.1.k, .str p.1.o, .str p.1.w, .int p.1.b]) (.tuple [.str p.2.k, .str p.2.o, .str p.2.w, .int p.2.b]) = true from this]
      exact q
  · rw [List.length_zip]; omega
theorem use_rising {s : List Evt} {G : GH} (hz : s.length ≤ 20) (h : s.Pairwise fun v v' => PySem.W.dataLt v.d v'.d = true) : ∀ (P : PU) (p : PX), P yes G → sp_is_rising [.d (stateD s)] G P p := fun P p q => ⟨_, ⟨_, rfl, hz, h, rfl⟩, q⟩

end K36
/-! ## part A4 -/
namespace K36
open PySem PySem.Spec
open R
theorem st_retw {e : WE} {ss : SS} {G : GH} {C : Cn} (h : e ss G C.rt fun x G1 => C.ex x ss G1) : sRet e ss G C := h
theorem wp_and {a b : WE} {ss : SS} {G : GH} {P : PU} {p : PX} (ha : Ev a ss G (.d (.bool true))) (h : b ss G P p) : eAnd a b ss G P p := ha _ _ h
theorem wp_op {a b : WE} {g : G2} {ss : SS} {G : GH} {P : PU} {p : PX} (h : a ss G (fun x G1 => b ss G1 (fun y G2 => g x y G2 P) p) p) : eOp g a b ss G P p := h
theorem scL_all {β : Type} {cur : Cur} {all : List U} (hc : ∀ G', cur G' = some all) {γ : WG} {ε : WE} {base : SS} {f : β → U} {h : β → PyData} {G : GH} {t : Bool} {P : List PyData → GH → Prop} : ∀ {l : List β} {seen : List PyData} {φ : Heap → Prop} {L : List (Addr × List L2.Key)},
    (∀ a ∈ l, ∀ T, ∃ ss1, Pat γ (f a) base (G ++ T) ss1 ∧ Ev ε ss1 (G ++ T) (.d (h a))) → (∀ a ∈ l, keyOk (h a) = true ∧ isTupD (h a) = t ∧ nz (h a) = true) → (∀ z ∈ seen, isTupD z = t ∧ nz z = true) → (∀ a ∈ l, h a ∉ seen) → (l.map h).Nodup → seen.length + l.length < 64 →
    (∀ seen' φ L, seen'.length = seen.length + l.length → P seen' (G ++ [MO.opq φ L])) → scL G.length cur all γ tYes' ε base (l.map f) seen (G ++ [MO.opq φ L]) P
  | [], seen, φ, L, _, _, _, _, _, _, k => ⟨hc _, k _ _ _ rfl⟩
  | a :: l, seen, φ, L, he, hk, hs, hn, hd, hz, k => by
    rw [List.length_cons] at hz k
    obtain ⟨ss1, h1, h2⟩ := he a List.mem_cons_self [MO.opq φ L]
    obtain ⟨k1, k2, k3⟩ := hk a List.mem_cons_self
    rw [List.map_cons, List.nodup_cons] at hd
    refine ⟨hc _, h1 _ ((show Et tYes' ss1 (G ++ [MO.opq φ L]) true from fun _ _ q => q) _ _ ?_)⟩
    refine h2 _ _ ⟨rfl, k1, fun z hz => (hs z hz).1.trans k2.symm, by omega, fun φ' L' => ?_⟩
    rw [set_last]
    have e : addD seen (h a) = h a :: seen := by
      unfold addD
      rw [if_neg]
      intro e
      rw [List.any_eq_true] at e
      obtain ⟨z, hz, e⟩ := e
      have e2 := (nz_eqv z (h a) (hs z hz).2 k3).mp e
      exact hn a List.mem_cons_self (e2 ▸ hz)
    rw [e]
    refine scL_all hc (fun b hb => he b (List.mem_cons_of_mem _ hb)) (fun b hb => hk b (List.mem_cons_of_mem _ hb)) ?_ ?_ hd.2 (by rw [List.length_cons]; omega) ?_
    · intro z hz
      rcases List.mem_cons.mp hz with rfl | hz
      · exact ⟨k2, k3⟩
      · exact hs z hz
    · intro b hb hm
      rcases List.mem_cons.mp hm with hm | hm
      · exact hd.1 (hm ▸ List.mem_map_of_mem hb)
      · exact hn b (List.mem_cons_of_mem _ hb) hm
    · intro seen' φ L e
      exact k _ _ _ (by rw [List.length_cons] at e; omega)
theorem wp_lensc {β : Type} {ι : WI} {γ : WG} {ε : WE} {ws : List Nat} {ss : SS} {G : GH} {us : List U} {l : List β} (f : β → U) (h : β → PyData) (t : Bool) {P : PU} {p : PX} (hι : Ei ι ss G us) (hu : us = l.map f)
    (he : ∀ a ∈ l, ∀ T, ∃ ss1, Pat γ (f a) (wipeU ss ws) (G ++ T) ss1 ∧ Ev ε ss1 (G ++ T) (.d (h a))) (hk : ∀ a ∈ l, keyOk (h a) = true ∧ isTupD (h a) = t ∧ nz (h a) = true) (hd : (l.map h).Nodup) (hz : l.length < 64) (k : ∀ φ L, P (.d (.int l.length)) (G ++ [MO.opq φ L])) : eLenSc ι γ tYes' ε ws ss G P p := by
  subst hu
  refine hι _ _ fun cur hc => ?_
  show (match cur G with
    | some us => ∀ φ, scL G.length cur us γ tYes' ε (wipeU ss ws) us [] (G ++ [MO.opq φ []]) fun seen G2 => P (.d (.int seen.length)) G2
    | none => False)
  rw [hc G]
  intro φ
  refine scL_all hc he hk (by intro z hz; cases hz) (by intro a _ hm; cases hm) hd (by simpa using hz) fun seen' φ L e => ?_
  have e' : seen'.length = l.length := by simpa using e
  rw [e']
  exact k φ L
/-- a def that leaves new things behind, and gives a datum -/
theorem law_ofD {N : List Str} {ph : WS} {us : List U} {G : GH} {Q : PU} {r : PX} {d : PyData} (hG : Closed G) (h : ∀ C : Cn, (∀ T, C.rt (.d d) (G ++ T)) → ph (startU N us) G C) (q : Q (.d d) G) : ph (startU N us) G (Cnd G Q r) := h _ fun T => ⟨G, left_drop hG, q⟩
theorem evt3_key (e : Evt) : keyOk e.d3 = true ∧ isTupD e.d3 = true ∧ nz e.d3 = true := by
  refine ⟨rfl, rfl, ?_⟩
  simp [Evt.d3, nz, nzAll]
theorem law_is_state : ∀ us G Q p, Closed G → sp_is_state us G Q p → ph_is_state (startU N_is_state us) G (Cnd G Q p) := by
  rintro _ G Q p hG ⟨_, ⟨h, n, s, rfl, hs, rfl⟩, q⟩
  refine law_ofD hG (fun C k => ?_) q
  unfold ph_is_state
  have hz := hs.len
  refine sq_else (p := !true || !true) (et_or (et_not (et_test (ev_isT (ev_var rfl)))) fun _ => et_not (et_test (ev_callB (ea_cons (ev_lc (l := s) (fun v => .d v.d) (fun _ => .bool true) hG (ei_T (ev_var rfl)) ?_ ?_ (by omega)) ea_nil) (all_true s)))) rfl ?_
  · rw [List.map_map]; rfl
  · intro v hv T _
    obtain ⟨e1, e2, e3, e4⟩ := hs.evs v hv
    exact ⟨_, pat_name, ev_call (ea_cons (ev_var rfl) (ea_cons (ev_var rfl) (ea_cons (ev_var rfl) ea_nil))) rfl (use_step e1 e2 e3 e4)⟩
  refine sq_name (ev_lc (l := s) (fun v => .d v.d) (fun v => v.d3) hG (ei_T (ev_var rfl)) ?_ ?_ (by omega)) ?_
  · rw [List.map_map]; rfl
  · intro v hv T _
    exact ⟨_, pat_name, ev_sl (ev_var rfl) eo_none (eo_some ev_c) fun P q => s_T P q⟩
  refine st_retw (wp_and (ev_call (ea_cons (ev_var rfl) ea_nil) rfl (use_rising hz hs.up)) ?_)
  refine wp_op ?_
  refine wp_lensc (l := s) (fun v => .d v.d3) (fun v => v.d3) true (ei_L (ev_var rfl)) ?_ ?_ (fun v _ => evt3_key v) hs.uq (by omega) fun φ L => ?_
  · rw [List.map_map]; rfl
  · intro v hv T
    exact ⟨_, pat_name, ev_var rfl⟩
  refine ev_callB (ea_cons (ev_var rfl) ea_nil) n_lenL _ _ (g_eqI _ ?_)
  rw [List.length_map, decide_eq_true rfl]
  exact k _

end K36
/-! ## part A5 -/
namespace K36
open PySem PySem.Spec
open R
theorem g_inLm {α : Type} {l : List α} {f : α → Str} {k : Str} {G : GH} : Eg gIn (.d (.str k)) (.d (.list (l.map fun a => .str (f a)))) G (.d (.bool (decide (k ∈ l.map f)))) := by
  have h : (l.map fun a => PyData.str (f a)) = (l.map f).map .str := by rw [List.map_map]; rfl
  rw [h]
  exact g_inLs
theorem use_state {h : Str} {n : Int} {s : List Evt} {G : GH} (hs : StateOk h n s) : ∀ (P : PU) (p : PX), P yes G → sp_is_state [.d (.str h), .d (.int n), .d (stateD s)] G P p := fun P p q => ⟨_, ⟨_, _, _, rfl, hs, rfl⟩, q⟩
theorem law_is_end : ∀ us G Q p, Closed G → sp_is_end us G Q p → ph_is_end (startU N_is_end us) G (Cnd G Q p) := by
  rintro _ G Q p hG ⟨_, ⟨e, rfl, he, rfl⟩, q⟩
  refine law_of (fun C k => ?_) q
  unfold ph_is_end
  have hn := name_few he.name
  have hf := he.few
  refine sq_else (p := !true || ((!decide ((2 : Int) = 2)) || !true)) (et_or (et_not (et_test (ev_isT (ev_var rfl)))) fun _ => et_or (et_test (by (repeat' (first
    | exact ev_var rfl | exact ev_c | exact ev_k | exact ea_nil | exact eo_none
    | exact g_addI | exact g_sub | exact g_cmp | exact g_ltI | exact g_ltS | exact g_eqS | exact g_neS | exact g_eqI | exact g_neI | exact g_isN | exact n_lenT | exact n_lenL | exact n_tupL | exact s_T | exact s_L | exact g_inTs | exact g_ninTs | exact g_inLs | exact g_ixT rfl | exact g_ixL rfl
    | with_reducible apply ea_cons | with_reducible apply ev_op | with_reducible apply ev_isB | with_reducible apply ev_not | with_reducible apply ev_callB | with_reducible apply eo_some | with_reducible apply et_test | with_reducible apply et_not | with_reducible apply et_or | with_reducible apply et_and | with_reducible apply ev_or | with_reducible apply ev_and | with_reducible apply ev_chain | with_reducible apply ev_sl | with_reducible apply ev_tup | with_reducible apply ev_lst | intro (_ : (_ : Bool) = _) | exact rfl | exact Nat.le_of_ble_eq_true rfl)))) fun _ => et_not (et_test (ev_call (ea_cons (ev_op (ev_var rfl) ev_c (g_ixT (d := .str e.1) rfl)) ea_nil) rfl (use_name (few_size (by omega)) he.name)))) rfl ?_
  refine sq_pat (ev_var rfl) pat2 ?_
  refine sq_else (et_or (et_not (et_test (ev_isT (ev_var rfl)))) fun _ => et_not (et_test (by (repeat' (first
    | exact ev_var rfl | exact ev_c | exact ev_k | exact ea_nil | exact eo_none
    | exact g_addI | exact g_sub | exact g_cmp | exact g_ltI | exact g_ltS | exact g_eqS | exact g_neS | exact g_eqI | exact g_neI | exact g_isN | exact n_lenT | exact n_lenL | exact n_tupL | exact s_T | exact s_L | exact g_inTs | exact g_ninTs | exact g_inLs | exact g_ixT rfl | exact g_ixL rfl
    | with_reducible apply ea_cons | with_reducible apply ev_op | with_reducible apply ev_isB | with_reducible apply ev_not | with_reducible apply ev_callB | with_reducible apply eo_some | with_reducible apply et_test | with_reducible apply et_not | with_reducible apply et_or | with_reducible apply et_and | with_reducible apply ev_or | with_reducible apply ev_and | with_reducible apply ev_chain | with_reducible apply ev_sl | with_reducible apply ev_tup | with_reducible apply ev_lst | intro (_ : (_ : Bool) = _) | exact rfl | exact Nat.le_of_ble_eq_true rfl))))) (by simp; omega) ?_
  refine st_ret (ev_callB (ea_cons (ev_lc (l := e.2) (fun s => .d (stateD s)) (fun _ => .bool true) hG (ei_T (ev_var rfl)) ?_ ?_ (by omega)) ea_nil) (all_true e.2)) k
  · rw [List.map_map]; rfl
  · intro s hs T _
    refine ⟨_, pat_name, ev_call (ea_cons (ev_var rfl) (ea_cons (u := .d (.int e.2.length)) (ev_as (ev_callB (ea_cons (ev_var rfl) ea_nil) n_lenT) ?_) (ea_cons (ev_var rfl) ea_nil))) rfl (use_state (he.st s hs))⟩
    rw [List.length_map]
theorem use_end {e : Str × States} {G : GH} (he : EndOk e) : ∀ (P : PU) (p : PX), P yes G → sp_is_end [.d (endD e)] G P p := fun P p q => ⟨_, ⟨_, rfl, he, rfl⟩, q⟩
theorem str_key (s : Str) : keyOk (.str s) = true ∧ isTupD (.str s) = false ∧ nz (.str s) = true := ⟨rfl, rfl, rfl⟩
theorem nodup_map {α β : Type} {f : α → β} (hf : ∀ a b, f a = f b → a = b) : ∀ {l : List α}, l.Nodup → (l.map f).Nodup
  | [], _ => List.Pairwise.nil
  | a :: l, h => by
    rw [List.nodup_cons] at h
    rw [List.map_cons, List.nodup_cons]
    refine ⟨fun hm => ?_, nodup_map hf h.2⟩
    obtain ⟨b, hb, e⟩ := List.mem_map.mp hm
    exact h.1 (hf _ _ e ▸ hb)
theorem law_is_room : ∀ us G Q p, Closed G → sp_is_room us G Q p → ph_is_room (startU N_is_room us) G (Cnd G Q p) := by
  rintro _ G Q p hG ⟨_, ⟨r, rfl, hr, rfl⟩, q⟩
  refine law_of (fun C k => ?_) q
  unfold ph_is_room
  cases r with
  | none => exact sq_ret (et_test (ev_op (ev_var rfl) ev_c g_isN)) rfl ev_c k
  | some i =>
    obtain ⟨h1, h2⟩ := hr i rfl
    refine sq_else (et_test (ev_op (ev_var rfl) ev_c g_isN)) rfl ?_
    refine st_ret' (ev_and (ev_isI (ev_var rfl)) fun _ => ev_and (ev_not (ev_isIb (ev_var rfl))) fun _ => ev_chain ev_c (ev_var rfl) g_cmp (fun _ => ev_c) fun _ => g_cmp) ?_ k
    simp [yes, h1, h2]
theorem law_are_weak : ∀ us G Q p, Closed G → sp_are_weak us G Q p → ph_are_weak (startU N_are_weak us) G (Cnd G Q p) := by
  rintro _ G Q p hG ⟨_, ⟨c, rfl, hc, rfl⟩, q⟩
  refine law_of (fun C k => ?_) q
  unfold ph_are_weak
  have hf := hc.ends.few
  have hw : c.weak.length ≤ 100 := hc.few
  refine sq_name (ev_lc (l := c.ends) (fun e => .d (endD e)) (fun e => .str e.1) hG (ei_T (ev_var rfl)) ?_ ?_ (by omega)) ?_
  · rw [List.map_map]; rfl
  · intro e he T _
    exact ⟨_, pat2, ev_var rfl⟩
  refine sq_else (p := !true || !true) (et_or (et_not (et_test (ev_isT (ev_var rfl)))) fun _ => et_not (et_test (ev_callB (ea_cons (ev_lc (l := c.weak) (fun h => .d (.str h)) (fun _ => .bool true) hG (ei_T (ev_var rfl)) ?_ ?_ (by omega)) ea_nil) (all_true c.weak)))) rfl ?_
  · rw [List.map_map]; rfl
  · intro h hh T _
    refine ⟨_, pat_name, ev_as (ev_op (ev_var rfl) (ev_var rfl) g_inLm) ?_⟩
    rw [decide_eq_true (hc.weak h hh)]
  refine st_ret (ev_callB (ea_cons (ev_lc (l := c.weak.zip c.weak.tail) (fun p => .d (.tuple [.str p.1, .str p.2])) (fun _ => .bool true) hG (ei_zipT (ea_cons (ev_var rfl) (ea_cons (ev_sl (ev_var rfl) (eo_some ev_c) eo_none s_T) ea_nil))) ?_ ?_ ?_) ea_nil) (all_true _)) k
  · rw [cut_tail, ← List.map_tail, zip_next]
  · intro p hp T _
    refine ⟨_, pat2, ev_as (ev_op (ev_var rfl) (ev_var rfl) g_ltS) ?_⟩
    rw [decide_eq_true (zip_rel hc.up p hp)]
  · rw [List.length_zip]; omega

abbrev Hk (G : GH) (k : Nat) : GH := G ++ [MO.lst (List.replicate k yes)]
theorem loopC_rep {β : Type} {cur : Cur} {all : List U} (hc : ∀ G', cur G' = some all) {γ : WG} {base : SS} {body : WB} {f : β → U} {m : β → Nat} {G : GH} {B : Nat} {P : GH → Prop} : ∀ {l : List β} {k : Nat},
    (∀ a ∈ l, ∀ k, k + m a ≤ B → ∃ ss1, Pat γ (f a) base (Hk G k) ss1 ∧ ∀ P : GH → Prop, P (Hk G (k + m a)) → body ss1 (Hk G k) P) → k + (l.map m).sum ≤ B → P (Hk G (k + (l.map m).sum)) → loopC cur all γ base body (l.map f) (Hk G k) P
  | [], k, _, _, h => ⟨hc _, h⟩
  | a :: l, k, he, hz, h => by
    rw [List.map_cons, List.sum_cons] at hz h
    obtain ⟨ss1, h1, h2⟩ := he a List.mem_cons_self k (by omega)
    refine ⟨hc _, h1 _ (h2 _ ?_)⟩
    exact loopC_rep hc (fun b hb => he b (List.mem_cons_of_mem _ hb)) (by omega) (by rw [show k + m a + (l.map m).sum = k + (m a + (l.map m).sum) by omega]; exact h)
theorem wIn_rep {β : Type} {ι : WI} {γ : WG} {ss : SS} {ws : List Nat} {body : WB} {l : List β} (f : β → U) (m : β → Nat) {G : GH} {B k : Nat} {us : List U} {P : GH → Prop} (hι : Ei ι ss (Hk G k) us) (hu : us = l.map f)
    (he : ∀ a ∈ l, ∀ k, k + m a ≤ B → ∃ ss1, Pat γ (f a) (wipeU ss ws) (Hk G k) ss1 ∧ ∀ P : GH → Prop, P (Hk G (k + m a)) → body ss1 (Hk G k) P) (hz : k + (l.map m).sum ≤ B) (h : P (Hk G (k + (l.map m).sum))) : wIn ι γ ws body ss (Hk G k) P := by
  subst hu
  refine hι _ _ fun cur hc => ?_
  show (match cur (Hk G k) with
    | some us => loopC cur us γ (wipeU ss ws) body us (Hk G k) P
    | none => False)
  rw [hc]
  exact loopC_rep hc he hz h
theorem wApp_rep {ε : WE} {ss : SS} {G : GH} {k : Nat} {P : GH → Prop} (he : Ev ε ss (Hk G k) yes) (hz : k < 100000) (h : P (Hk G (k + 1))) : wApp G.length ε ss (Hk G k) P := by
  refine he _ _ ?_
  show (match (Hk G k)[G.length]? with
    | some (.lst acc) => acc.length < sizeLine ∧ P ((Hk G k).set G.length (.lst (acc ++ [yes])))
    | _ => False)
  unfold Hk
  rw [get_last]
  refine ⟨by have := sizeLine_eq; rw [List.length_replicate]; omega, ?_⟩
  rw [set_last, ← List.replicate_succ']
  exact h
theorem sum_le {β : Type} {m : β → Nat} {c : Nat} : ∀ {l : List β}, (∀ a ∈ l, m a ≤ c) → (l.map m).sum ≤ l.length * c
  | [], _ => by simp
  | a :: l, h => by
    rw [List.map_cons, List.sum_cons, List.length_cons, Nat.succ_mul]
    have := h a List.mem_cons_self
    have := sum_le (l := l) fun b hb => h b (List.mem_cons_of_mem _ hb)
    omega
theorem sum_ones {β : Type} : ∀ l : List β, (l.map fun _ => 1).sum = l.length
  | [] => rfl
  | a :: l => by rw [List.map_cons, List.sum_cons, sum_ones l, List.length_cons, Nat.add_comm]
theorem law_are_ends : ∀ us G Q p, Closed G → sp_are_ends us G Q p → ph_are_ends (startU N_are_ends us) G (Cnd G Q p) := by
  rintro _ G Q p hG ⟨_, ⟨l, rfl, hl, rfl⟩, q⟩
  refine law_ofD hG (fun C k => ?_) q
  unfold ph_are_ends
  have hf := hl.few
  refine sq_else (et_or (et_not (et_test (ev_isT (ev_var rfl)))) fun _ => et_not (et_test (by (repeat' (first
    | exact ev_var rfl | exact ev_c | exact ev_k | exact ea_nil | exact eo_none
    | exact g_addI | exact g_sub | exact g_cmp | exact g_ltI | exact g_ltS | exact g_eqS | exact g_neS | exact g_eqI | exact g_neI | exact g_isN | exact n_lenT | exact n_lenL | exact n_tupL | exact s_T | exact s_L | exact g_inTs | exact g_ninTs | exact g_inLs | exact g_ixT rfl | exact g_ixL rfl
    | with_reducible apply ea_cons | with_reducible apply ev_op | with_reducible apply ev_isB | with_reducible apply ev_not | with_reducible apply ev_callB | with_reducible apply eo_some | with_reducible apply et_test | with_reducible apply et_not | with_reducible apply et_or | with_reducible apply et_and | with_reducible apply ev_or | with_reducible apply ev_and | with_reducible apply ev_chain | with_reducible apply ev_sl | with_reducible apply ev_tup | with_reducible apply ev_lst | intro (_ : (_ : Bool) = _) | exact rfl | exact Nat.le_of_ble_eq_true rfl))))) (by simp; omega) ?_
  refine sq_else (p := !true) (et_not (et_test (ev_callB (ea_cons (ev_lc (l := l) (fun e => .d (endD e)) (fun _ => .bool true) hG (ei_T (ev_var rfl)) ?_ ?_ (by omega)) ea_nil) (all_true l)))) rfl ?_
  · rw [List.map_map]; rfl
  · intro e he T _
    exact ⟨_, pat_name, ev_call (ea_cons (ev_var rfl) ea_nil) rfl (use_end (hl.each e he))⟩
  refine sq_name (ev_lc (l := l) (fun e => .d (endD e)) (fun e => .str e.1) hG (ei_T (ev_var rfl)) ?_ ?_ (by omega)) ?_
  · rw [List.map_map]; rfl
  · intro e he T _
    exact ⟨_, pat2, ev_var rfl⟩
  refine st_seq ?_
  refine wp_op (wp_lensc (l := l) (fun e => .d (.str e.1)) (fun e => .str e.1) false (ei_L (ev_var rfl)) ?_ ?_ (fun e _ => str_key e.1) ?_ (by omega) fun φ L => ?_)
  · rw [List.map_map]; rfl
  · intro e he T
    exact ⟨_, pat_name, ev_var rfl⟩
  · have := nodup_map (f := PyData.str) (fun a b h => by cases h; rfl) hl.nd
    rw [List.map_map] at this
    exact this
  refine ev_callB (ea_cons (ev_var rfl) ea_nil) n_lenL _ _ (g_neI _ ?_)
  rw [List.length_map, decide_eq_true rfl]
  have hG2 : Closed (G ++ [MO.opq φ L]) := closed_add hG rfl
  simp only [Bool.not_true, Bool.false_eq_true, if_false, sSkip]
  refine st_ret (ev_callB (ea_cons (u := .d (.list (List.replicate (l.map fun e => (e.2.map fun s => s.length).sum).sum (.bool true)))) ?_ ea_nil) ?_) (k [MO.opq φ L])
  · intro P r kk
    have hN : (l.map fun e => (e.2.map fun s => s.length).sum).sum ≤ l.length * 100 := sum_le fun e he => by
      have h5 := (hl.each e he).few
      have := sum_le (l := e.2) (m := fun s => s.length) (c := 20) fun s hs => ((hl.each e he).st s hs).len
      omega
    unfold eVal eScope eFrz eLc3
    refine ei_T (ev_var rfl) _ _ fun cur hc => ?_
    show (match cur (G ++ [MO.opq φ L]) with
      | some us => loopC cur us _ _ (wIn _ _ _ (wIn _ _ _ (wApp (G ++ [MO.opq φ L]).length _))) us (Hk (G ++ [MO.opq φ L]) 0) _
      | none => False)
    rw [hc]
    show loopC cur ((l.map endD).map .d) _ _ _ ((l.map endD).map .d) _ _
    rw [show (l.map endD).map U.d = l.map fun e => .d (endD e) from by rw [List.map_map]; rfl]
    rw [show (l.map endD).map U.d = l.map fun e => .d (endD e) from by rw [List.map_map]; rfl] at hc
    refine loopC_rep (f := fun e => .d (endD e)) (m := fun e => (e.2.map fun s => s.length).sum) (B := 1000) hc ?_ (by omega) ?_
    · intro e he k hk
      refine ⟨_, pat2, fun P h => wIn_rep (l := e.2) (fun s => .d (stateD s)) (fun s => s.length) (B := 1000) (ei_T (ev_var rfl)) ?_ ?_ hk h⟩
      · rw [List.map_map]; rfl
      intro s hs k hk
      refine ⟨_, pat_name, fun P h => wIn_rep (l := s) (fun v => .d v.d) (fun v => 1) (B := 1000) (ei_T (ev_var rfl)) ?_ ?_ ?_ ?_⟩
      · rw [List.map_map]; rfl
      · intro v hv k hk
        refine ⟨_, pat_name, fun P h => wApp_rep (ev_as (ev_op (ev_op (ev_var rfl) ev_c (g_ixT (d := .str v.o) rfl)) (ev_var rfl) g_inLm) ?_) (by omega) h⟩
        rw [decide_eq_true (hl.others e he s hs v hv)]; rfl
      · rw [sum_ones]; exact hk
      · rw [sum_ones]; exact h
    · show frzU (.r (G ++ [MO.opq φ L]).length) _ _
      rw [Nat.zero_add, Hk, show List.replicate (l.map fun e => (e.2.map fun s => s.length).sum).sum yes = (List.replicate (l.map fun e => (e.2.map fun s => s.length).sum).sum (PyData.bool true)).map U.d from by rw [List.map_replicate]; rfl]
      refine frz_lst ?_
      rw [set_last]
      exact ⟨_, left_drop hG2, kk⟩
  · have e : (List.replicate (l.map fun e => (e.2.map fun s => s.length).sum).sum (PyData.bool true)) = (List.replicate (l.map fun e => (e.2.map fun s => s.length).sum).sum true).map .bool := by rw [List.map_replicate]
    rw [e]
    refine fun P kk => n_all P ?_
    rw [show (List.replicate (l.map fun e => (e.2.map fun s => s.length).sum).sum true).all id = true from by simp]
    exact kk

end K36
/-! ## part A6 -/
namespace K36
open PySem PySem.Spec
open R
section
variable {c : Cfg} {s : HS} {m : Nat} {ca ba : Int} {G : GH} {h : Nat} {ss : SS} {o : WE}
theorem f_ends : List.lookup ("ends" : Str) (hallF c s m ca ba) = some (U.d (endsD c.ends)) := rfl
theorem f_room : List.lookup ("room" : Str) (hallF c s m ca ba) = some (U.d (roomD c.room)) := rfl
theorem f_weak : List.lookup ("weak" : Str) (hallF c s m ca ba) = some (U.d (strsD c.weak)) := rfl
theorem f_est : List.lookup ("end_states" : Str) (hallF c s m ca ba) = some (U.d (estD c.ends)) := rfl
theorem f_st : List.lookup ("standing" : Str) (hallF c s m ca ba) = some (U.d (stD s.st)) := rfl
theorem f_rd : List.lookup ("on_roads" : Str) (hallF c s m ca ba) = some (U.d (rdD s.rd)) := rfl
theorem f_dn : List.lookup ("down" : Str) (hallF c s m ca ba) = some (U.d (strsD s.dn)) := rfl
theorem f_ld : List.lookup ("laid" : Str) (hallF c s m ca ba) = some (U.d (ldD s.ld)) := rfl
theorem f_ah : List.lookup ("aheads" : Str) (hallF c s m ca ba) = some (U.r m) := rfl
theorem f_ca : List.lookup ("called" : Str) (hallF c s m ca ba) = some (U.d (.int ca)) := rfl
theorem f_ba : List.lookup ("barred" : Str) (hallF c s m ca ba) = some (U.d (.int ba)) := rfl
def fNames : List Str := ["aheads", "barred", "called", "down", "end_states", "ends", "laid", "on_roads", "room", "standing", "weak"]
theorem bears {f : Str} (h : (fNames.any fun g => decide (g = f)) = true) : Bears TT "Hall" f = true := by
  simp only [Bears, TT, List.any_cons, List.any_nil, Bool.or_false, decide_true, Bool.true_and]
  simpa only [fNames, List.any_cons, List.any_nil, Bool.or_false] using h
theorem ev_f {f : Str} {u : U} (ho : Ev o ss G (.r h)) (hG : G[h]? = some (hallO c s m ca ba)) (hf : List.lookup f (hallF c s m ca ba) = some u) (hb : (fNames.any fun g => decide (g = f)) = true) : Ev (eFld TT o f) ss G u := ev_fld ho hG (bears hb) hf
end

theorem lookD_cons {β : Type} {p : PyData × β} {l : List (PyData × β)} {k : PyData} : lookD (p :: l) k = if PyData.eqv p.1 k = true then some p.2 else lookD l k := by
  unfold lookD keyEq
  rw [List.find?_cons]
  cases h : PyData.eqv p.1 k <;> simp
theorem lookD_str {α : Type} {g : α → PyData} {k : Str} : ∀ {l : List (Str × α)}, lookD (l.map fun p => (PyData.str p.1, g p.2)) (.str k) = (l.lookup k).map g
  | [] => rfl
  | p :: l => by
    rw [List.map_cons, lookD_cons, eqv_str, lookD_str (l := l), List.lookup_cons]
    by_cases h : p.1 = k
    · simp [h]
    · have h' : (k == p.1) = false := by simpa using fun e => h e.symm
      rw [h']
      simp [h]
theorem eqv_pair {p q : Str × Str} : PyData.eqv (pairK p) (pairK q) = decide (p = q) := by
  rw [Bool.eq_iff_iff, nz_eqv _ _ rfl rfl, decide_eq_true_eq]
  constructor
  · intro h
    simp only [pairK, PyData.tuple.injEq, List.cons.injEq, PyData.str.injEq] at h
    exact Prod.ext h.1 h.2.1
  · rintro rfl; rfl
theorem lookD_pair {α : Type} {g : α → PyData} {k : Str × Str} : ∀ {l : List ((Str × Str) × α)}, lookD (l.map fun p => (pairK p.1, g p.2)) (pairK k) = (l.lookup k).map g
  | [] => rfl
  | p :: l => by
    rw [List.map_cons, lookD_cons, eqv_pair, lookD_pair (l := l), List.lookup_cons]
    by_cases h : p.1 = k
    · simp [h]
    · have h' : (k == p.1) = false := by simpa using fun e => h e.symm
      rw [h']
      simp [h]
theorem ask_str {α : Type} {l : List (Str × α)} {g : Str × α → PyData} {k : Str} (h : l ≠ []) : keyAsk true (l.map fun p => (PyData.str p.1, g p)) (.str k) := by
  cases l with
  | nil => exact absurd rfl h
  | cons p l => exact ⟨rfl, rfl⟩
theorem ask_pair {α : Type} {l : List ((Str × Str) × α)} {g : (Str × Str) × α → PyData} {k : Str × Str} : keyAsk true (l.map fun p => (pairK p.1, g p)) (pairK k) := by
  cases l with
  | nil => exact ⟨rfl, fun _ => rfl⟩
  | cons p l => exact ⟨rfl, rfl⟩
theorem law_Hall_lies_on : ∀ us G Q p, Closed G → sp_Hall_lies_on us G Q p → ph_Hall_lies_on (startU N_Hall_lies_on us) G (Cnd G Q p) := by
  rintro _ G Q p hG ⟨_, ⟨h, c, s, m, ca, ba, a, b, rfl, hh, rfl⟩, q⟩
  refine law_of (fun C k => ?_) q
  unfold ph_Hall_lies_on
  refine st_ret (ev_methB (ev_f (ev_var rfl) hh f_rd rfl) rfl (ea_cons (ev_tup (ea_cons (ev_var rfl) (ea_cons (ev_var rfl) ea_nil)) rfl (Nat.le_of_ble_eq_true rfl)) (ea_cons (ev_tup ea_nil rfl (Nat.le_of_ble_eq_true rfl)) ea_nil)) fun P kk => ⟨ask_pair (k := (a, b)), ?_⟩) k
  have e := lookD_pair (g := strsD) (k := (a, b)) (l := s.rd)
  have e2 : (lookD (s.rd.map fun p => (pairK p.1, strsD p.2)) (pairK (a, b))).getD (.tuple []) = strsD (lies s.rd a b) := by
    rw [e, lies]
    cases s.rd.lookup (a, b) <;> rfl
  show P (.d ((lookD (s.rd.map fun p => (pairK p.1, strsD p.2)) (pairK (a, b))).getD (.tuple []))) G
  rw [e2]
  exact kk
theorem use_lies {h : Nat} {c : Cfg} {s : HS} {m : Nat} {ca ba : Int} {a b : Str} {G : GH} (hh : G[h]? = some (hallO c s m ca ba)) : ∀ (P : PU) (p : PX), P (.d (strsD (lies s.rd a b))) G → sp_Hall_lies_on [.r h, .d (.str a), .d (.str b)] G P p := fun P p q => ⟨_, ⟨_, _, _, _, _, _, _, _, rfl, hh, rfl⟩, q⟩
theorem ev_lies {h : Nat} {c : Cfg} {s : HS} {m : Nat} {ca ba : Int} {a b : Str} {G : GH} {ss : SS} {o e1 e2 : WE} (ho : Ev o ss G (.r h)) (h1 : Ev e1 ss G (.d (.str a))) (h2 : Ev e2 ss G (.d (.str b))) (hh : G[h]? = some (hallO c s m ca ba)) : Ev (eMethC "Hall" "lies_on" sp_Hall_lies_on 3 uPos o (aCons e1 (aCons e2 aNil))) ss G (.d (strsD (lies s.rd a b))) :=
  ev_meth ho hh rfl (ea_cons h1 (ea_cons h2 ea_nil)) rfl (use_lies hh)
theorem law_Hall_has_room : ∀ us G Q p, Closed G → sp_Hall_has_room us G Q p → ph_Hall_has_room (startU N_Hall_has_room us) G (Cnd G Q p) := by
  rintro _ G Q p hG ⟨_, ⟨h, _, c, s, m, ca, ba, rfl, hh, ⟨a, b, rfl, rfl⟩⟩, q⟩
  refine law_of (fun C k => ?_) q
  unfold ph_Hall_has_room
  have hg := hh.at_
  have hr := hh.co.room
  rcases c with ⟨ce, cr, cw⟩
  cases cr with
  | none =>
    exact st_ret (ev_or (p := true) (q := true) (ev_as (ev_op (ev_f (ev_var rfl) hg f_room rfl) ev_c g_isN) rfl) fun h => by cases h) k
  | some r =>
    refine st_ret' (ev_or (p := false) (ev_as (ev_op (ev_f (ev_var rfl) hg f_room rfl) ev_c g_isN) rfl) fun _ => ev_op (ev_callB (ea_cons (ev_lies (ev_var rfl) (ev_var rfl) (ev_var rfl) hg) ea_nil) n_lenT) (ev_f (ev_var rfl) hg f_room rfl) g_ltI) ?_ k
    rw [Bool.false_or, List.length_map]
    rfl
theorem mem_lookup {α : Type} {k : Str} : ∀ {l : List (Str × α)}, k ∈ l.map (·.1) → ∃ v, l.lookup k = some v
  | [], h => by simp at h
  | p :: l, h => by
    rw [List.lookup_cons]
    by_cases e : k = p.1
    · simp [e]
    · have e' : (k == p.1) = false := by simpa using e
      rw [e']
      rw [List.map_cons] at h
      rcases List.mem_cons.mp h with h | h
      · exact absurd h e
      · exact mem_lookup h
theorem ends_ne {c : Cfg} (hc : CfgOk c) : c.ends ≠ [] := fun e => by have := hc.ends.few.1; rw [e] at this; simp at this
theorem name_of {c : Cfg} (hc : CfgOk c) {a : Str} (h : a ∈ c.ends.map (·.1)) : nameB a = true := by
  obtain ⟨e, he, rfl⟩ := List.mem_map.mp h
  exact (hc.ends.each e he).name
theorem size_of {c : Cfg} (hc : CfgOk c) {a : Str} (h : a ∈ c.ends.map (·.1)) : a.length ≤ sizeLine := few_size (by have := name_few (name_of hc h); omega)
theorem law_Hall_need_hand : ∀ us G Q p, Closed G → sp_Hall_need_hand us G Q p → ph_Hall_need_hand (startU N_Hall_need_hand us) G (Cnd G Q p) := by
  rintro _ G Q p hG ⟨_, ⟨h, c, s, m, ca, ba, a, rfl, hh, hc, ha, rfl⟩, q⟩
  unfold ph_Hall_need_hand
  refine st_else (et_or (p := false) (q := false) (et_as (et_not (et_test (ev_call (ea_cons (ev_var rfl) ea_nil) rfl (use_name (size_of hc ha) (name_of hc ha))))) rfl) fun _ => et_as (et_test (ev_op (ev_var rfl) (ev_f (ev_var rfl) hh f_est rfl) (g_inD (ask_str (g := fun e => statesD e.2) (ends_ne hc))))) ?_) rfl ⟨G, left_same, q⟩
  obtain ⟨v, hv⟩ := mem_lookup ha
  rw [lookD_str, hv]
  rfl
theorem ev_need {h : Nat} {c : Cfg} {s : HS} {m : Nat} {ca ba : Int} {a : Str} {G : GH} {ss : SS} {o e1 : WE} (ho : Ev o ss G (.r h)) (h1 : Ev e1 ss G (.d (.str a))) (hh : G[h]? = some (hallO c s m ca ba)) (hc : CfgOk c) (ha : a ∈ c.ends.map (·.1)) : Ev (eMethC "Hall" "need_hand" sp_Hall_need_hand 2 uPos o (aCons e1 aNil)) ss G (.d .none) :=
  ev_meth ho hh rfl (ea_cons h1 ea_nil) rfl fun P p q => ⟨_, ⟨_, _, _, _, _, _, _, rfl, hh, hc, ha, rfl⟩, q⟩
theorem law_Hall_need_up : ∀ us G Q p, Closed G → sp_Hall_need_up us G Q p → ph_Hall_need_up (startU N_Hall_need_up us) G (Cnd G Q p) := by
  rintro _ G Q p hG ⟨_, ⟨h, c, s, m, ca, ba, a, rfl, hh, ha, rfl⟩, q⟩
  unfold ph_Hall_need_up
  refine st_else (et_test (ev_op (ev_var rfl) (ev_f (ev_var rfl) hh f_dn rfl) g_inTs)) (decide_eq_false ha) ⟨G, left_same, q⟩
theorem law_Hall_need_pair : ∀ us G Q p, Closed G → sp_Hall_need_pair us G Q p → ph_Hall_need_pair (startU N_Hall_need_pair us) G (Cnd G Q p) := by
  rintro _ G Q p hG ⟨_, ⟨h, c, s, m, ca, ba, a, b, rfl, hh, hc, ha, hb, hn, rfl⟩, q⟩
  unfold ph_Hall_need_pair
  refine sq_expr (ev_need (ev_var rfl) (ev_var rfl) hh hc ha) (sq_expr (ev_need (ev_var rfl) (ev_var rfl) hh hc hb) ?_)
  exact st_else (et_test (ev_op (ev_var rfl) (ev_var rfl) g_eqS)) (decide_eq_false hn) ⟨G, left_same, q⟩

end K36
/-! ## part A7 -/
namespace K36
open PySem PySem.Spec
open R
theorem forL_inv {β : Type} {γ : WG} {ψ : WS} {C : Cn} {cur : Cur} {all : List U} (hc : ∀ G', cur G' = some all) (f : β → U) (I : List β → SS → GH → Prop)
    (hs : ∀ a rest ss G, I (a :: rest) ss G → ∃ ss1, Pat γ (f a) ss G ss1 ∧ ∀ (K B : SS → GH → Prop), (∀ ss2 G2, I rest ss2 G2 → K ss2 G2) → ψ ss1 G { C with nx := K, ct := K, bk := B })
    (hd : ∀ ss G, I [] ss G → C.nx ss G) : ∀ {l : List β} {ss : SS} {G : GH}, I l ss G → forL cur all γ ψ (l.map f) ss G C
  | [], ss, G, h => ⟨hc _, hd _ _ h⟩
  | a :: l, ss, G, h => by
    obtain ⟨ss1, h1, h2⟩ := hs a l ss G h
    exact ⟨hc _, h1 _ (h2 _ _ fun ss2 G2 h3 => forL_inv hc f I hs hd h3)⟩
theorem st_for {β : Type} {ι : WI} {γ : WG} {ψ : WS} {C : Cn} {ss : SS} {G : GH} {us : List U} {l : List β} (f : β → U) (I : List β → SS → GH → Prop) (hι : Ei ι ss G us) (hu : us = l.map f)
    (hs : ∀ a rest ss G, I (a :: rest) ss G → ∃ ss1, Pat γ (f a) ss G ss1 ∧ ∀ (K B : SS → GH → Prop), (∀ ss2 G2, I rest ss2 G2 → K ss2 G2) → ψ ss1 G { C with nx := K, ct := K, bk := B })
    (h0 : I l ss G) (hd : ∀ ss G, I [] ss G → C.nx ss G) : sFor ι γ ψ ss G C := by
  subst hu
  refine hι _ _ fun cur hc => ?_
  show (match cur G with
    | some us => forL cur us γ ψ us ss G C
    | none => False)
  rw [hc]
  exact forL_inv hc f I hs hd h0
theorem st_scope {φ : WS} {C : Cn} {ss : SS} {G : GH} (h : ∀ C' : Cn, C'.rt = C.rt → (∀ ss1 G1, C.nx ss1 G1 → C'.nx ss1 G1) → φ ss G C') : sScope φ ss G C := h _ rfl fun ss1 G1 k => ⟨ss1, G1, .inl ⟨rfl, rfl⟩, k⟩
/-- a for over data, its body in a scope of its own -/
theorem sq_for {β : Type} {ι : WI} {γ : WG} {φ χ : WS} {C : Cn} {ss : SS} {G : GH} {us : List U} {l : List β} (f : β → U) (I : List β → SS → GH → Prop) (hι : Ei ι ss G us) (hu : us = l.map f)
    (hs : ∀ a rest ss G, I (a :: rest) ss G → ∃ ss1, Pat γ (f a) ss G ss1 ∧ ∀ C' : Cn, C'.rt = C.rt → (∀ ss2 G2, I rest ss2 G2 → C'.nx ss2 G2) → φ ss1 G C')
    (h0 : I l ss G) (hd : ∀ ss G, I [] ss G → χ ss G C) : sSeq (sFor ι γ (sScope φ)) χ ss G C := st_for f I hι hu (fun a rest ss G h => by
  obtain ⟨ss1, h1, h2⟩ := hs a rest ss G h
  exact ⟨ss1, h1, fun K B hK => st_scope fun C' e hn => h2 C' e fun ss2 G2 h3 => hn _ _ (hK _ _ h3)⟩) h0 hd
theorem wp_lstH {α : WA} {ss : SS} {G : GH} {us : List U} {P : PU} {p : PX} (ha : Ea α ss G us) (hz : us.length ≤ 1000) (k : P (.r G.length) (G ++ [.lst us])) : eLstH α ss G P p := ha _ _ ⟨by have := sizeLine_eq; omega, k⟩
theorem sq_lstH {α : WA} {χ : WS} {i : Nat} {C : Cn} {ss : SS} {G : GH} {us : List U} (ha : Ea α ss G us) (hz : us.length ≤ 1000) (k : χ (ss.set i (some (.r G.length))) (G ++ [.lst us]) C) : sSeq (sAsg (eLstH α) (gdName i)) χ ss G C := ha _ _ ⟨by have := sizeLine_eq; omega, k⟩
theorem st_app {o e : WE} {C : Cn} {ss : SS} {G : GH} {n : Nat} {xs : List U} {u : U} (ho : Ev o ss G (.r n)) (hG : G[n]? = some (.lst xs)) (he : Ev e ss G u) (hz : xs.length < 100000) (k : C.nx ss (G.set n (.lst (xs ++ [u])))) : sExpr (eMeth "list" gAppend o (aCons e aNil)) ss G C := by
  refine ho _ _ ⟨?_, he _ _ ?_⟩
  · show (match G[n]? with
      | some (.lst _) => ("list" : String) = "list"
      | some (.dct _) => ("list" : String) = "dict"
      | _ => False)
    rw [hG]
  · show (match G[n]? with
      | some (.lst xs) => xs.length < sizeLine ∧ C.nx ss (G.set n (.lst (xs ++ [u])))
      | _ => False)
    rw [hG]
    exact ⟨by have := sizeLine_eq; omega, k⟩
theorem st_app_last {o e : WE} {C : Cn} {ss : SS} {G : GH} {xs : List PyData} {d : PyData} (ho : Ev o ss (G ++ [.lst (xs.map .d)]) (.r G.length)) (he : Ev e ss (G ++ [.lst (xs.map .d)]) (.d d)) (hz : xs.length < 100000) (k : C.nx ss (G ++ [.lst ((xs ++ [d]).map .d)])) : sExpr (eMeth "list" gAppend o (aCons e aNil)) ss (G ++ [.lst (xs.map .d)]) C := by
  refine st_app ho get_last he (by simpa using hz) ?_
  rw [set_last]
  simpa using k
theorem At.app {G T : GH} {h : Nat} {c : Cfg} {s : HS} {m : Nat} {ca ba : Int} (a : At G h c s m ca ba) : At (G ++ T) h c s m ca ba := ⟨gapp a.at_, a.co, a.ok⟩
section
variable {c : Cfg} {s : HS} {m : Nat} {ca ba : Int} {G : GH} {h : Nat} {ss : SS} {o e : WE} {a : Str}
theorem st_ne (hs : HsOk c s) (hc : CfgOk c) : s.st ≠ [] := fun e => by
  have h1 := hs.keys
  rw [e] at h1
  have h2 := ends_ne hc
  cases h3 : c.ends with
  | nil => exact h2 h3
  | cons x l => rw [h3] at h1; simp at h1
theorem here (hs : HsOk c s) (hc : CfgOk c) (ha : a ∈ c.ends.map (·.1)) : ∃ S b, c.ends.lookup a = some S ∧ s.st.lookup a = some b ∧ 0 ≤ b ∧ b < S.length ∧ S[b.toNat]? = some (evsAt c s a) ∧ (a, S) ∈ c.ends := by
  obtain ⟨S, hS⟩ := mem_lookup ha
  obtain ⟨b, hb⟩ := mem_lookup (l := s.st) (k := a) (by rw [hs.keys]; exact ha)
  obtain ⟨h1, h2⟩ := hs.at_ a S b hS hb
  refine ⟨S, b, hS, hb, h1, h2, ?_, ?_⟩
  · unfold evsAt
    rw [hS, hb]
    simp only [Option.getD_some]
    have : b.toNat < S.length := by omega
    rw [List.getElem?_eq_getElem this]; rfl
  · have : ∀ l : Ends, l.lookup a = some S → (a, S) ∈ l := by
      intro l
      induction l with
      | nil => intro h; cases h
      | cons x l ih =>
        intro h
        rw [List.lookup_cons] at h
        by_cases e : a = x.1
        · rw [show (a == x.1) = true by simpa using e] at h
          cases h
          rw [e]
          exact List.mem_cons_self
        · rw [show (a == x.1) = false by simpa using e] at h
          exact List.mem_cons_of_mem _ (ih h)
    exact this _ hS
theorem state_here (hs : HsOk c s) (hc : CfgOk c) (ha : a ∈ c.ends.map (·.1)) : ∃ S, c.ends.lookup a = some S ∧ StateOk a S.length (evsAt c s a) ∧ ∀ v ∈ evsAt c s a, v.o ∈ c.ends.map (·.1) := by
  obtain ⟨S, b, h1, h2, h3, h4, h5, h6⟩ := here hs hc ha
  have hm := List.mem_of_getElem? h5
  exact ⟨S, h1, (hc.ends.each _ h6).st _ hm, fun v hv => hc.ends.others _ h6 _ hm v hv⟩
theorem ev_standing (hh : At G h c s m ca ba) {b : Int} (ho : Ev o ss G (.r h)) (he : Ev e ss G (.d (.str a))) (hb : s.st.lookup a = some b) : Ev (eOp gIx (eFld TT o "standing") e) ss G (.d (.int b)) := by
  refine ev_op (ev_f ho hh.at_ f_st rfl) he (g_ixD (ask_str (g := fun p => .int p.2) (st_ne hh.ok hh.co)) ?_)
  rw [lookD_str (g := PyData.int), hb]; rfl
theorem ev_here (hh : At G h c s m ca ba) (ha : a ∈ c.ends.map (·.1)) (ho : Ev o ss G (.r h)) (he : Ev e ss G (.d (.str a))) : Ev (eOp gIx (eOp gIx (eFld TT o "end_states") e) (eOp gIx (eFld TT o "standing") e)) ss G (.d (stateD (evsAt c s a))) := by
  obtain ⟨S, b, h1, h2, h3, h4, h5, h6⟩ := here hh.ok hh.co ha
  refine ev_op (ev_op (y := .d (.str a)) (z := .d (statesD S)) (ev_f ho hh.at_ f_est rfl) he (g_ixD (ask_str (g := fun e => statesD e.2) (ends_ne hh.co)) ?_)) (ev_standing hh ho he h2) (g_ixT ?_)
  · rw [lookD_str (g := statesD), h1]; rfl
  · rw [show b = ((b.toNat : Nat) : Int) by omega]
    refine L2.atI_nat ?_
    rw [List.getElem?_map, h5]; rfl
end
theorem law_Hall_state_behind : ∀ us G Q p, Closed G → sp_Hall_state_behind us G Q p → ph_Hall_state_behind (startU N_Hall_state_behind us) G (Cnd G Q p) := by
  rintro _ G Q p hG ⟨_, ⟨h, _, c, s, m, ca, ba, rfl, hh, ⟨a, k, o, w, rfl, ha, rfl⟩⟩, q⟩
  refine law_of (fun C kk => ?_) q
  unfold ph_Hall_state_behind
  refine sq_for (l := evsAt c s a) (fun v => .d v.d) (fun rest ss G' => G' = G ∧ behind rest k o w = behind (evsAt c s a) k o w ∧ ∃ w3 w4 w5 w6, ss = [some (.r h), some (.d (.str a)), some (.d (.tuple [.str k, .str o, .str w])), w3, w4, w5, w6]) (ei_T (ev_here hh ha (ev_var rfl) (ev_var rfl))) ?_ ?_ ⟨rfl, rfl, _, _, _, _, rfl⟩ ?_
  · rw [List.map_map]; rfl
  · rintro v rest ss _ ⟨rfl, hb, w3, w4, w5, w6, rfl⟩
    refine ⟨_, pat4, fun C' hr hn => ?_⟩
    have e : PyData.eqv (.tuple [.str v.k, .str v.o, .str v.w]) (.tuple [.str k, .str o, .str w]) = (decide (v.k = k) && (decide (v.o = o) && decide (v.w = w))) := by
      rw [Bool.eq_iff_iff, nz_eqv _ _ rfl rfl]
      simp
    refine st_if (et_test (ev_op (ev_tup (ea_cons (ev_var rfl) (ea_cons (ev_var rfl) (ea_cons (ev_var rfl) ea_nil))) rfl (Nat.le_of_ble_eq_true rfl)) (ev_var rfl) (g_eq (eqOk_nz rfl rfl (by simp [PyData.depth, PyData.depthAll]))))) (fun h1 => ?_) (fun h1 => ?_)
    · rw [e] at h1
      refine st_ret (ev_var rfl) ?_
      rw [hr]
      unfold behind at hb kk
      rw [List.find?_cons_of_pos (by exact h1)] at hb
      rw [← hb] at kk
      exact kk
    · rw [e] at h1
      refine hn _ _ ⟨rfl, ?_, _, _, _, _, rfl⟩
      rw [← hb]
      unfold behind
      rw [List.find?_cons_of_neg (by rw [h1]; decide)]
  · rintro ss _ ⟨rfl, hb, w3, w4, w5, w6, rfl⟩
    refine st_ret ev_c ?_
    rw [← hb] at kk
    exact kk

end K36
/-! ## part A8 -/
namespace K36
open PySem PySem.Spec
open R
theorem nz_tup {xs : List PyData} (h : nzAll xs = true) : nz (.tuple xs) = true := by simp only [nz]; exact h
theorem wp_valR {o : WE} {ss : SS} {G : GH} {n : Nat} {xs : List PyData} {P : PU} {p : PX} (ho : Ev o ss G (.r n)) (hG : G[n]? = some (.lst (xs.map .d))) (k : P (.d (.list xs)) (G.set n .dead)) : eVal o ss G P p := by
  refine ho _ _ ?_
  show frzU (.r n) G _
  unfold frzU
  simp only [hG]
  rw [dataOf_map]
  exact ⟨_, .inl rfl, k⟩
theorem eIf_lst {t : WT} {α β : WA} {ss : SS} {G : GH} {b : Bool} {us vs : List U} {P : PU} {p : PX} (ht : Et t ss G b) (ha : Ea α ss G us) (hb : Ea β ss G vs) (hz : us.length ≤ 1000 ∧ vs.length ≤ 1000) (k : P (.r G.length) (G ++ [.lst (if b = true then us else vs)])) : eIf t (eLstH α) (eLstH β) ss G P p := ht _ _ (by
  cases b
  · exact wp_lstH hb hz.2 k
  · exact wp_lstH ha hz.1 k)
theorem sq_ifLst {t : WT} {α β : WA} {χ : WS} {i : Nat} {C : Cn} {ss : SS} {G : GH} {b : Bool} {us vs : List U} (ht : Et t ss G b) (ha : Ea α ss G us) (hb : Ea β ss G vs) (hz : us.length ≤ 1000 ∧ vs.length ≤ 1000) (k : χ (ss.set i (some (.r G.length))) (G ++ [.lst (if b = true then us else vs)]) C) : sSeq (sAsg (eIf t (eLstH α) (eLstH β)) (gdName i)) χ ss G C := eIf_lst (p := fun x G1 => C.ex x ss G1) ht ha hb hz k
theorem sq_when {t : WT} {φ χ : WS} {C : Cn} {ss : SS} {G : GH} {b : Bool} {D : Bool → SS → GH → Prop} (ht : Et t ss G b) (ha : b = true → ∀ C' : Cn, C'.rt = C.rt → (∀ ss1 G1, χ ss1 G1 C → C'.nx ss1 G1) → φ ss G C') (hb : b = false → χ ss G C) : sSeq (sIf t φ sSkip) χ ss G C := st_if ht (fun h => ha h _ rfl fun _ _ k => k) fun h => hb h
theorem ev_room {h : Nat} {c : Cfg} {s : HS} {m : Nat} {ca ba : Int} {a b : Str} {G : GH} {ss : SS} {o e1 e2 : WE} (hh : At G h c s m ca ba) (ho : Ev o ss G (.r h)) (h1 : Ev e1 ss G (.d (.str a))) (h2 : Ev e2 ss G (.d (.str b))) : Ev (eMethC "Hall" "has_room" sp_Hall_has_room 3 uPos o (aCons e1 (aCons e2 aNil))) ss G (.d (.bool (roomy c s.rd a b))) :=
  ev_meth ho hh.at_ rfl (ea_cons h1 (ea_cons h2 ea_nil)) rfl fun P p q => ⟨_, ⟨_, _, _, _, _, _, _, rfl, hh, ⟨_, _, rfl, rfl⟩⟩, q⟩
theorem eqv_take1 (l : List Str) (w : Str) : PyData.eqv (.tuple ((l.map PyData.str).take 1)) (.tuple [.str w]) = decide (l.take 1 = [w]) := by
  rw [Bool.eq_iff_iff, nz_eqv, decide_eq_true_eq]
  · cases l <;> simp
  · cases l <;> rfl
  · rfl
theorem flat_len {α β : Type} {f : α → List β} {n : Nat} : ∀ {l : List α}, (∀ a ∈ l, (f a).length ≤ n) → (l.flatMap f).length ≤ l.length * n
  | [], _ => by simp
  | a :: l, h => by
    rw [List.flatMap_cons, List.length_append, List.length_cons, Nat.succ_mul]
    have := h a List.mem_cons_self
    have := flat_len (l := l) fun b hb => h b (List.mem_cons_of_mem _ hb)
    omega
theorem deedsE_len (c : Cfg) (rd : Roads) (h : Str) (e : Evt) : (deedsE c rd h e).length ≤ 2 := by
  unfold deedsE
  rw [List.length_append]
  split <;> split <;> simp
theorem law_Hall_deeds_of : ∀ us G Q p, Closed G → sp_Hall_deeds_of us G Q p → ph_Hall_deeds_of (startU N_Hall_deeds_of us) G (Cnd G Q p) := by
  rintro _ G Q p hG ⟨_, ⟨h, _, c, s, m, ca, ba, rfl, hh, ⟨a, rfl, ha, rfl⟩⟩, q⟩
  refine law_ofD hG (fun C kk => ?_) q
  unfold ph_Hall_deeds_of
  obtain ⟨S, hS, hst, _⟩ := state_here hh.ok hh.co ha
  refine sq_ifLst (et_test (ev_op (ev_var rfl) (ev_f (ev_var rfl) hh.at_ f_weak rfl) g_inTs)) (ea_cons (ev_tup (ea_cons ev_c (ea_cons (ev_var rfl) ea_nil)) rfl (Nat.le_of_ble_eq_true rfl)) ea_nil) ea_nil ⟨Nat.le_of_ble_eq_true rfl, Nat.le_of_ble_eq_true rfl⟩ ?_
  have e0 : (if decide (a ∈ c.weak) = true then [U.d (.tuple [.str "fall", .str a])] else []) = ((if a ∈ c.weak then [Deed.fall a] else []).map Deed.d).map U.d := by
    by_cases hw : a ∈ c.weak <;> simp [hw, Deed.d]
  rw [e0]
  refine sq_for (l := evsAt c s a) (fun v => .d v.d) (fun rest ss G' => ∃ done, evsAt c s a = done ++ rest ∧ G' = G ++ [.lst ((((if a ∈ c.weak then [Deed.fall a] else []) ++ done.flatMap (deedsE c s.rd a)).map Deed.d).map U.d)] ∧ ∃ w3 w4 w5 w6, ss = [some (.r h), some (.d (.str a)), some (.r G.length), w3, w4, w5, w6]) (ei_T (ev_here hh.app ha (ev_var rfl) (ev_var rfl))) ?_ ?_ ⟨[], rfl, by simp, _, _, _, _, rfl⟩ ?_
  · rw [List.map_map]; rfl
  · rintro v rest ss _ ⟨done, hd, rfl, w3, w4, w5, w6, rfl⟩
    refine ⟨_, pat4, fun C' hr hn => ?_⟩
    have hlen : done.length + 1 + rest.length ≤ 20 := by
      have := hst.len
      rw [hd, List.length_append, List.length_cons] at this
      omega
    have hz := flat_len (l := done) (f := deedsE c s.rd a) (n := 2) fun e _ => deedsE_len _ _ _ _
    have hz2 : (if a ∈ c.weak then [Deed.fall a] else []).length ≤ 1 := by split <;> simp
    have fin : ∀ w3 w4 w5 w6, C'.nx [some (.r h), some (.d (.str a)), some (.r G.length), w3, w4, w5, w6] (G ++ [.lst ((((if a ∈ c.weak then [Deed.fall a] else []) ++ done.flatMap (deedsE c s.rd a) ++ deedsE c s.rd a v).map Deed.d).map U.d)]) := fun w3 w4 w5 w6 => hn _ _ ⟨done ++ [v], by rw [hd]; simp, by simp, _, _, _, _, rfl⟩
    have hl : ((if a ∈ c.weak then [Deed.fall a] else []) ++ done.flatMap (deedsE c s.rd a)).length ≤ 100 := by rw [List.length_append]; omega
    generalize (if a ∈ c.weak then [Deed.fall a] else []) ++ done.flatMap (deedsE c s.rd a) = acc at fin hl ⊢
    have two : ∀ acc2 : List Deed, acc2.length ≤ 200 → acc2 ++ (if v.k = "hear" ∧ (lies s.rd v.o a).take 1 = [v.w] then [Deed.hear a v.o] else []) = acc ++ deedsE c s.rd a v → (sIf (cAnd (cTest (eOp gEq (eVar 3) (eC (.str "hear")))) (cTest (eOp gEq (eSl (eMethC "Hall" "lies_on" sp_Hall_lies_on 3 uPos (eVar 0) (aCons (eVar 4) (aCons (eVar 1) aNil))) oNone (oSome (eC (.int 1)))) (eTup (aCons (eVar 5) aNil))))) (sExpr (eMeth "list" gAppend (eVar 2) (aCons (eTup (aCons (eC (.str "hear")) (aCons (eVar 1) (aCons (eVar 4) aNil)))) aNil))) sSkip) [some (.r h), some (.d (.str a)), some (.r G.length), some (.d (.str v.k)), some (.d (.str v.o)), some (.d (.str v.w)), some (.d (.int v.b))] (G ++ [.lst ((acc2.map Deed.d).map U.d)]) C' := by
      intro acc2 hl2 he2
      have ht : Et (cAnd (cTest (eOp gEq (eVar 3) (eC (.str "hear")))) (cTest (eOp gEq (eSl (eMethC "Hall" "lies_on" sp_Hall_lies_on 3 uPos (eVar 0) (aCons (eVar 4) (aCons (eVar 1) aNil))) oNone (oSome (eC (.int 1)))) (eTup (aCons (eVar 5) aNil))))) [some (.r h), some (.d (.str a)), some (.r G.length), some (.d (.str v.k)), some (.d (.str v.o)), some (.d (.str v.w)), some (.d (.int v.b))] (G ++ [.lst ((acc2.map Deed.d).map U.d)]) (decide (v.k = "hear") && decide ((lies s.rd v.o a).take 1 = [v.w])) := by
        refine et_and (et_test (ev_op (ev_var rfl) ev_c g_eqS)) fun _ => et_test (ev_op (ev_sl (ev_lies (ev_var rfl) (ev_var rfl) (ev_var rfl) hh.app.at_) eo_none (eo_some ev_c) s_T) (ev_tup (ea_cons (ev_var rfl) ea_nil) rfl (Nat.le_of_ble_eq_true rfl)) fun P q => ?_)
        rw [show (1 : Int) = ((1 : Nat) : Int) from rfl, cut_front]
        refine g_eq (eqOk_nz (nz_tup (nzAll_iff.mpr ?_)) rfl ?_) P ?_
        · intro x hx
          have hx := List.mem_of_mem_take hx
          obtain ⟨y, _, rfl⟩ := List.mem_map.mp hx
          rfl
        · exact Nat.le_trans (Nat.min_le_right _ _) (by simp [PyData.depth, PyData.depthAll])
        · rw [eqv_take1]; exact q
      refine st_if ht (fun e => ?_) fun e => ?_
      · simp only [Bool.and_eq_true, decide_eq_true_eq] at e
        rw [if_pos e] at he2
        refine st_app_last (ev_var rfl) (d := (Deed.hear a v.o).d) (ev_tup (ea_cons ev_c (ea_cons (ev_var rfl) (ea_cons (ev_var rfl) ea_nil))) rfl (Nat.le_of_ble_eq_true rfl)) (by rw [List.length_map]; omega) ?_
        have := fin (some (.d (.str v.k))) (some (.d (.str v.o))) (some (.d (.str v.w))) (some (.d (.int v.b)))
        rw [← he2, List.map_append] at this
        exact this
      · have e' : ¬ (v.k = "hear" ∧ (lies s.rd v.o a).take 1 = [v.w]) := fun h => by simp [h.1, h.2] at e
        rw [if_neg e', List.append_nil] at he2
        have := fin (some (.d (.str v.k))) (some (.d (.str v.o))) (some (.d (.str v.w))) (some (.d (.int v.b)))
        rw [← he2] at this
        exact this
    refine sq_if (et_and (et_test (ev_op (ev_var rfl) ev_c g_eqS)) fun _ => et_test (ev_room hh.app (ev_var rfl) (ev_var rfl) (ev_var rfl))) (fun e => ?_) (fun e => ?_)
    · simp only [Bool.and_eq_true, decide_eq_true_eq] at e
      refine st_app_last (ev_var rfl) (d := (Deed.say a v.o v.w).d) (ev_tup (ea_cons ev_c (ea_cons (ev_var rfl) (ea_cons (ev_var rfl) (ea_cons (ev_var rfl) ea_nil)))) rfl (Nat.le_of_ble_eq_true rfl)) (by rw [List.length_map]; omega) ?_
      have := two (acc ++ [.say a v.o v.w]) (by rw [List.length_append, List.length_singleton]; omega) (by unfold deedsE; rw [if_pos e, List.append_assoc])
      rw [List.map_append] at this
      exact this
    · have e' : ¬ (v.k = "say" ∧ roomy c s.rd a v.o = true) := fun h => by simp [h.1, h.2] at e
      exact two acc (by omega) (by unfold deedsE; rw [if_neg e', List.nil_append])
  · rintro ss _ ⟨done, hd, rfl, w3, w4, w5, w6, rfl⟩
    rw [List.append_nil] at hd
    refine st_retw (wp_valR (ev_var rfl) get_last ?_)
    rw [set_last]
    have := kk [.dead]
    unfold deedsH at this
    rw [hd] at this
    exact this
theorem ev_deeds {h : Nat} {c : Cfg} {s : HS} {m : Nat} {ca ba : Int} {a : Str} {G : GH} {ss : SS} {o e1 : WE} (hh : At G h c s m ca ba) (ho : Ev o ss G (.r h)) (h1 : Ev e1 ss G (.d (.str a))) (ha : a ∈ c.ends.map (·.1)) : Ev (eMethC "Hall" "deeds_of" sp_Hall_deeds_of 2 uPos o (aCons e1 aNil)) ss G (.d (.list ((deedsH c s a).map Deed.d))) :=
  ev_meth ho hh.at_ rfl (ea_cons h1 ea_nil) rfl fun P p q => ⟨_, ⟨_, _, _, _, _, _, _, rfl, hh, ⟨_, rfl, ha, rfl⟩⟩, q⟩

end K36
/-! ## part A9 -/
namespace K36
open PySem PySem.Spec
open R
theorem lookup_mem {α : Type} {k : Str} {v : α} : ∀ {l : List (Str × α)}, l.lookup k = some v → k ∈ l.map (·.1)
  | [], h => by cases h
  | x :: l, h => by
    rw [List.lookup_cons] at h
    by_cases e : k = x.1
    · rw [e]; exact List.mem_cons_self
    · rw [show (k == x.1) = false by simpa using e] at h
      exact List.mem_cons_of_mem _ (lookup_mem h)
theorem ei_st {o : WE} {l : List (Str × Int)} {ss : SS} {G : GH} (ha : Ev o ss G (.d (stD l))) : Ei (iSeq o) ss G (l.map fun p => .d (.str p.1)) := by
  have := ei_D ha
  rw [List.map_map] at this
  exact this
theorem st_ext_last {o e : WE} {C : Cn} {ss : SS} {G : GH} {xs ys : List PyData} (ho : Ev o ss (G ++ [.lst (xs.map .d)]) (.r G.length)) (he : Ev e ss (G ++ [.lst (xs.map .d)]) (.d (.list ys))) (hz : xs.length + ys.length < 100000) (k : C.nx ss (G ++ [.lst ((xs ++ ys).map .d)])) : sExpr (eMeth "list" gExtend o (aCons e aNil)) ss (G ++ [.lst (xs.map .d)]) C := by
  refine ho _ _ ⟨?_, he _ _ ?_⟩
  · show (match (G ++ [MO.lst (xs.map U.d)])[G.length]? with
      | some (.lst _) => ("list" : String) = "list"
      | some (.dct _) => ("list" : String) = "dict"
      | _ => False)
    rw [get_last]
  · show (match (G ++ [MO.lst (xs.map U.d)])[G.length]? with
      | some (.lst us) => us.length + ys.length ≤ sizeLine ∧ C.nx ss ((G ++ [MO.lst (xs.map U.d)]).set G.length (.lst (us ++ ys.map .d)))
      | _ => False)
    rw [get_last]
    refine ⟨by have := sizeLine_eq; rw [List.length_map]; omega, ?_⟩
    rw [set_last, ← List.map_append]
    exact k
theorem deed_alike (d e : Deed) : PySem.W.alike d.d e.d = true := by cases d <;> cases e <;> simp [Deed.d, PySem.W.alike, PySem.W.alikeAll]
theorem deed_depth (d : Deed) : d.d.depth ≤ 2 := by cases d <;> simp [Deed.d, PyData.depth, PyData.depthAll]
theorem deeds_sort {l : List Deed} (h : l.length ≤ 100000) : SortOk (l.map Deed.d) := by
  refine ⟨PySem.W.AllAlike.of deed_alike, PySem.W.Sortable.tuples fun d => by cases d <;> exact ⟨_, _, rfl⟩, by rw [List.length_map]; exact few_size h, ?_⟩
  intro b hb
  obtain ⟨d, _, rfl⟩ := List.mem_map.mp hb
  exact Nat.le_trans (deed_depth d) (by omega)
theorem n_sortedR {G : GH} {n : Nat} {xs : List PyData} (hG : G[n]? = some (.lst (xs.map .d))) (hs : SortOk xs) : En gSorted [.r n] G (.d (.list (sortD xs))) := fun P q => by
  show (match G[n]? with
    | some (.lst us) => match dataOf us with
      | some xs => SortOk xs ∧ P (.d (.list (sortD xs))) G
      | none => False
    | _ => False)
  rw [hG]
  show (match dataOf (xs.map U.d) with
      | some xs => SortOk xs ∧ P (.d (.list (sortD xs))) G
      | none => False)
  rw [dataOf_map]
  exact ⟨hs, q⟩
theorem deedsH_len {c : Cfg} {s : HS} {a : Str} (hs : HsOk c s) (hc : CfgOk c) (ha : a ∈ c.ends.map (·.1)) : (deedsH c s a).length ≤ 41 := by
  obtain ⟨S, hS, hst, _⟩ := state_here hs hc ha
  unfold deedsH
  rw [List.length_append]
  have h1 := flat_len (l := evsAt c s a) (f := deedsE c s.rd a) (n := 2) fun e _ => deedsE_len _ _ _ _
  have h2 := hst.len
  have h3 : (if a ∈ c.weak then [Deed.fall a] else []).length ≤ 1 := by split <;> simp
  omega
theorem st_len {c : Cfg} {s : HS} (hs : HsOk c s) (hc : CfgOk c) : s.st.length ≤ 6 := by
  have h1 := congrArg List.length hs.keys
  rw [List.length_map, List.length_map] at h1
  have := hc.ends.few
  omega
theorem deeds0_len {c : Cfg} {s : HS} (hs : HsOk c s) (hc : CfgOk c) : (deeds0 c s).length ≤ 246 := by
  unfold deeds0
  have h1 := flat_len (l := s.st.map (·.1)) (f := fun h => if h ∈ s.dn then [] else deedsH c s h) (n := 41) fun a ha => by
    by_cases h : a ∈ s.dn
    · simp [h]
    · simp only [h, if_false]
      exact deedsH_len hs hc (by rw [← hs.keys]; exact ha)
  have h2 := st_len hs hc
  rw [List.length_map] at h1
  omega
theorem law_Hall_can_do : ∀ us G Q p, Closed G → sp_Hall_can_do us G Q p → ph_Hall_can_do (startU N_Hall_can_do us) G (Cnd G Q p) := by
  rintro _ G Q p hG ⟨_, ⟨h, _, c, s, m, ca, ba, rfl, hh, rfl, rfl⟩, q⟩
  refine law_ofD hG (fun C kk => ?_) q
  unfold ph_Hall_can_do
  have hsz := deeds0_len hh.ok hh.co
  refine sq_lstH ea_nil (Nat.le_of_ble_eq_true rfl) ?_
  refine sq_for (l := s.st.map (·.1)) (fun a => .d (.str a)) (fun rest ss G' => ∃ done, s.st.map (·.1) = done ++ rest ∧ G' = G ++ [.lst (((done.flatMap fun h => if h ∈ s.dn then [] else deedsH c s h).map Deed.d).map U.d)] ∧ ∃ w2, ss = [some (.r h), some (.r G.length), w2]) (ei_st (ev_f (ev_var rfl) hh.app.at_ f_st rfl)) (by rw [List.map_map]; rfl) ?_ ⟨[], rfl, by simp, _, rfl⟩ ?_
  · rintro a rest ss _ ⟨done, hd, rfl, w2, rfl⟩
    have ha : a ∈ c.ends.map (·.1) := by rw [← hh.ok.keys, hd]; simp
    refine ⟨_, pat_name, fun C' hr hn => ?_⟩
    have hz : (done.flatMap fun h => if h ∈ s.dn then [] else deedsH c s h).length ≤ 246 := by
      have : (deeds0 c s).length = ((done ++ a :: rest).flatMap fun h => if h ∈ s.dn then [] else deedsH c s h).length := by rw [← hd]; rfl
      rw [List.flatMap_append, List.length_append] at this
      omega
    refine st_if (et_test (ev_op (ev_var rfl) (ev_f (ev_var rfl) hh.app.at_ f_dn rfl) g_ninTs)) (fun e => ?_) (fun e => ?_)
    · have e' : a ∉ s.dn := by simpa using e
      have hl := deedsH_len hh.ok hh.co ha
      refine st_ext_last (ev_var rfl) (ev_deeds hh.app (ev_var rfl) (ev_var rfl) ha) (by rw [List.length_map, List.length_map]; omega) (hn _ _ ⟨done ++ [a], by rw [hd]; simp, ?_, _, rfl⟩)
      simp [e']
    · have e' : a ∈ s.dn := by simpa using e
      refine hn _ _ ⟨done ++ [a], by rw [hd]; simp, ?_, _, rfl⟩
      simp [e']
  · rintro ss _ ⟨done, hd, rfl, w2, rfl⟩
    rw [List.append_nil] at hd
    subst hd
    exact st_ret (ev_callB (ea_cons (ev_callB (ea_cons (ev_var rfl) ea_nil) (n_sortedR get_last (deeds_sort (by unfold deeds0 at hsz; omega)))) ea_nil) n_tupL) (kk [_])
theorem ev_can {h : Nat} {c : Cfg} {s : HS} {m : Nat} {ca ba : Int} {G : GH} {ss : SS} {o : WE} (hh : At G h c s m ca ba) (ho : Ev o ss G (.r h)) : Ev (eMethC "Hall" "can_do" sp_Hall_can_do 1 uPos o aNil) ss G (.d (.tuple (canD c s))) :=
  ev_meth ho hh.at_ rfl ea_nil rfl fun P p q => ⟨_, ⟨_, _, _, _, _, _, _, rfl, hh, rfl, rfl⟩, q⟩
theorem law_Hall_log : ∀ us G Q p, Closed G → sp_Hall_log us G Q p → ph_Hall_log (startU N_Hall_log us) G (Cnd G Q p) := by
  rintro _ G Q p hG ⟨_, ⟨h, _, c, s, m, ca, ba, rfl, hh, rfl, rfl⟩, q⟩
  refine law_of (fun C kk => ?_) q
  exact st_ret (ev_callB (ea_cons (ev_f (ev_var rfl) hh.at_ f_ld rfl) ea_nil) n_tupL) kk
theorem law_Hall___len__ : ∀ us G Q p, Closed G → sp_Hall___len__ us G Q p → ph_Hall___len__ (startU N_Hall___len__ us) G (Cnd G Q p) := by
  rintro _ G Q p hG ⟨_, ⟨h, _, c, s, m, ca, ba, rfl, hh, rfl, rfl⟩, q⟩
  refine law_of (fun C kk => ?_) q
  refine st_ret' (ev_callB (ea_cons (ev_f (ev_var rfl) hh.at_ f_ld rfl) ea_nil) n_lenL) ?_ kk
  rw [List.length_map]
theorem law_Hall_fallen : ∀ us G Q p, Closed G → sp_Hall_fallen us G Q p → ph_Hall_fallen (startU N_Hall_fallen us) G (Cnd G Q p) := by
  rintro _ G Q p hG ⟨_, ⟨h, _, c, s, m, ca, ba, rfl, hh, rfl, rfl⟩, q⟩
  refine law_of (fun C kk => ?_) q
  exact st_ret (ev_f (ev_var rfl) hh.at_ f_dn rfl) kk
theorem law_Hall_state_of : ∀ us G Q p, Closed G → sp_Hall_state_of us G Q p → ph_Hall_state_of (startU N_Hall_state_of us) G (Cnd G Q p) := by
  rintro _ G Q p hG ⟨_, ⟨h, _, c, s, m, ca, ba, rfl, hh, ⟨a, b, rfl, hb, rfl⟩⟩, q⟩
  refine law_of (fun C kk => ?_) q
  have ha : a ∈ c.ends.map (·.1) := by
    rw [← hh.ok.keys]
    exact lookup_mem hb
  exact sq_expr (ev_need (ev_var rfl) (ev_var rfl) hh.at_ hh.co ha) (st_ret (ev_standing hh (ev_var rfl) (ev_var rfl) hb) kk)
theorem law_Hall_is_done : ∀ us G Q p, Closed G → sp_Hall_is_done us G Q p → ph_Hall_is_done (startU N_Hall_is_done us) G (Cnd G Q p) := by
  rintro _ G Q p hG ⟨_, ⟨h, _, c, s, m, ca, ba, rfl, hh, ⟨a, rfl, ha, rfl⟩⟩, q⟩
  refine law_of (fun C kk => ?_) q
  refine sq_expr (ev_need (ev_var rfl) (ev_var rfl) hh.at_ hh.co ha) (st_ret' (ev_op (ev_here hh ha (ev_var rfl) (ev_var rfl)) (ev_tup ea_nil rfl (Nat.le_of_ble_eq_true rfl)) (g_eq (eqOk_nz (nz_tup ?_) rfl ?_))) ?_ kk)
  · refine nzAll_iff.mpr fun x hx => ?_
    obtain ⟨v, _, rfl⟩ := List.mem_map.mp hx
    rfl
  · exact Nat.le_trans (Nat.min_le_right _ _) (by simp [PyData.depth, PyData.depthAll])
  · cases evsAt c s a <;> rfl

end K36
/-! ## part B1 -/
namespace K36
open PySem PySem.Spec
open R
abbrev dctD (ds : List (PyData × PyData)) : MO := .dct (ds.map fun p => (p.1, .d p.2))
theorem below_dct {ds : List (PyData × PyData)} {k : Nat} : MO.below k (dctD ds) = true := by
  simp only [MO.below, List.all_eq_true]
  intro u hu
  obtain ⟨d, _, rfl⟩ := List.mem_map.mp hu
  rfl
theorem putD_new {β : Type} {ds : List (PyData × β)} {k : PyData} {v : β} (h : ∀ p ∈ ds, PyData.eqv p.1 k = false) : putD ds k v = ds ++ [(k, v)] := by
  unfold putD keyEq
  rw [if_neg]
  intro e
  rw [List.any_eq_true] at e
  obtain ⟨p, hp, e⟩ := e
  rw [h p hp] at e
  cases e
structure KeysOk (t : Bool) (ds : List (PyData × PyData)) : Prop where
  each : ∀ p ∈ ds, keyOk p.1 = true ∧ isTupD p.1 = t ∧ nz p.1 = true
  nd : (ds.map (·.1)).Nodup
theorem dcL_list {β : Type} {cur : Cur} {all : List U} (hc : ∀ G', cur G' = some all) {γ : WG} {τ : WT} {κ ε : WE} {base : SS} {f : β → U} {h : β → Option (PyData × PyData)} {t : Bool} {G : GH} (hG : Closed G) {P : GH → Prop} : ∀ {l : List β} {acc : List (PyData × PyData)},
    (∀ a ∈ l, ∀ T, Closed (G ++ T) → ∃ ss1 b, Pat γ (f a) base (G ++ T) ss1 ∧ Et τ ss1 (G ++ T) b ∧ if b = true then ∃ p, h a = some p ∧ Ev κ ss1 (G ++ T) (.d p.1) ∧ Ev ε ss1 (G ++ T) (.d p.2) else h a = none) → KeysOk t (acc ++ l.filterMap h) → acc.length + l.length ≤ 100000 →
    P (G ++ [dctD (acc ++ l.filterMap h)]) → dcL G.length cur all γ τ κ ε base (l.map f) (G ++ [dctD acc]) P
  | [], acc, _, _, _, k => by
    rw [List.filterMap_nil, List.append_nil] at k
    exact ⟨hc _, k⟩
  | a :: l, acc, he, hk, hz, k => by
    rw [List.length_cons] at hz
    obtain ⟨ss1, b, h1, h2, h3⟩ := he a List.mem_cons_self [dctD acc] (closed_add hG below_dct)
    refine ⟨hc _, h1 _ (h2 _ _ ?_)⟩
    cases b
    · rw [List.filterMap_cons_none h3] at k hk
      exact dcL_list hc hG (fun v hv => he v (List.mem_cons_of_mem _ hv)) hk (by omega) k
    · obtain ⟨⟨x, d⟩, h4, h5, h6⟩ := h3
      rw [List.filterMap_cons_some h4] at k hk
      obtain ⟨k1, k2, k3⟩ := hk.each (x, d) (by simp)
      refine h5 _ _ (h6 _ _ ?_)
      show (match (G ++ [dctD acc])[G.length]? with
        | some (.dct ds) => keyAsk false ds x ∧ ds.length < sizeLine ∧ dcL G.length cur all γ τ κ ε base (l.map f) ((G ++ [dctD acc]).set G.length (.dct (putD ds x (.d d)))) P
        | _ => False)
      rw [get_last]
      refine ⟨⟨k1, ?_⟩, by have := sizeLine_eq; rw [List.length_map]; omega, ?_⟩
      · cases acc with
        | nil => intro e; cases e
        | cons p acc => exact ((hk.each p (by simp)).2.1).trans k2.symm
      rw [set_last, putD_new]
      · have := dcL_list (P := P) (acc := acc ++ [(x, d)]) hc hG (fun v hv => he v (List.mem_cons_of_mem _ hv)) (by rw [List.append_assoc]; exact hk) (by rw [List.length_append, List.length_singleton]; omega) (by rw [List.append_assoc]; exact k)
        unfold dctD at this
        rw [List.map_append] at this
        exact this
      · intro p hp
        obtain ⟨p', hp', rfl⟩ := List.mem_map.mp hp
        obtain ⟨q1, q2, q3⟩ := hk.each p' (List.mem_append_left _ hp')
        refine (nz_eqv_no q3 k3).mpr fun e => ?_
        have := hk.nd
        rw [List.map_append, List.nodup_append] at this
        exact this.2.2 p'.1 (List.mem_map_of_mem hp') x (by simp) e
theorem wp_dc {β : Type} {ι : WI} {γ : WG} {τ : WT} {κ ε : WE} {ws : List Nat} {ss : SS} {G : GH} {us : List U} {l : List β} (f : β → U) (h : β → Option (PyData × PyData)) (t : Bool) {P : PU} {p : PX} (hG : Closed G) (hι : Ei ι ss G us) (hu : us = l.map f)
    (he : ∀ a ∈ l, ∀ T, Closed (G ++ T) → ∃ ss1 b, Pat γ (f a) (wipeU ss ws) (G ++ T) ss1 ∧ Et τ ss1 (G ++ T) b ∧ if b = true then ∃ p, h a = some p ∧ Ev κ ss1 (G ++ T) (.d p.1) ∧ Ev ε ss1 (G ++ T) (.d p.2) else h a = none)
    (hk : KeysOk t (l.filterMap h)) (hz : l.length ≤ 100000) (k : P (.r G.length) (G ++ [dctD (l.filterMap h)])) : eDc ι γ τ κ ε ws ss G P p := by
  subst hu
  refine hι _ _ fun cur hc => ?_
  show (match cur G with
    | some us => dcL G.length cur us γ τ κ ε (wipeU ss ws) us (G ++ [dctD []]) fun G2 => P (.r G.length) G2
    | none => False)
  rw [hc G]
  exact dcL_list (acc := []) hc hG he hk (by simpa using hz) k
theorem zip_fst {α β : Type} (l : List (α × β)) : (l.map (·.1)).zip (l.map (·.2)) = l := by
  induction l with
  | nil => rfl
  | cons a l ih => simp [ih]
theorem frz_dct {G : GH} {ds : List (PyData × PyData)} {P : PU} (k : P (.d (.dict ds)) ((G ++ [dctD ds]).set G.length .dead)) : frzU (.r G.length) (G ++ [dctD ds]) P := by
  unfold frzU
  simp only [get_last]
  rw [show (ds.map fun p => (p.1, U.d p.2)).map (·.2) = (ds.map (·.2)).map .d from by rw [List.map_map, List.map_map]; rfl, dataOf_map]
  rw [show (ds.map fun p => (p.1, U.d p.2)).map (·.1) = ds.map (·.1) from by rw [List.map_map]; rfl]
  show P (.d (.dict ((ds.map (·.1)).zip (ds.map (·.2))))) _
  rw [zip_fst]
  exact k
/-- a dict comprehension over data -/
theorem ev_dc {β : Type} {ι : WI} {γ : WG} {κ ε : WE} {ws : List Nat} {ss : SS} {G : GH} {us : List U} {l : List β} (f : β → U) (h : β → PyData × PyData) (t : Bool) (hG : Closed G) (hι : Ei ι ss G us) (hu : us = l.map f)
    (he : ∀ a ∈ l, ∀ T, Closed (G ++ T) → ∃ ss1, Pat γ (f a) (wipeU ss ws) (G ++ T) ss1 ∧ Ev κ ss1 (G ++ T) (.d (h a).1) ∧ Ev ε ss1 (G ++ T) (.d (h a).2))
    (hk : KeysOk t (l.map h)) (hz : l.length ≤ 100000) : Ev (eVal (eDc ι γ tYes' κ ε ws)) ss G (.d (.dict (l.map h))) := fun P p k => by
  have e : (l.filterMap fun a => some (h a)) = l.map h := by
    rw [List.filterMap_eq_map']
  unfold eVal eScope eFrz
  refine wp_dc (l := l) f (fun a => some (h a)) t hG hι hu (fun a ha T hT => ?_) (by rw [e]; exact hk) hz ?_
  · obtain ⟨ss1, h1, h2, h3⟩ := he a ha T hT
    exact ⟨ss1, true, h1, fun P p q => q, ⟨_, rfl, h2, h3⟩⟩
  · rw [e]
    refine frz_dct ?_
    rw [set_last]
    exact ⟨_, left_drop hG, k⟩
theorem keys_str {α : Type} {l : List (Str × α)} {g : Str × α → PyData} (h : (l.map (·.1)).Nodup) : KeysOk false (l.map fun p => (PyData.str p.1, g p)) := by
  refine ⟨fun p hp => ?_, ?_⟩
  · obtain ⟨q, _, rfl⟩ := List.mem_map.mp hp
    exact str_key _
  · have := nodup_map (f := PyData.str) (fun a b h => by cases h; rfl) h
    rw [List.map_map] at this ⊢
    exact this
theorem pair_key (p : Str × Str) : keyOk (pairK p) = true ∧ isTupD (pairK p) = true ∧ nz (pairK p) = true := ⟨rfl, rfl, rfl⟩
theorem pairK_inj {p q : Str × Str} (h : pairK p = pairK q) : p = q := by
  simp only [pairK, PyData.tuple.injEq, List.cons.injEq, PyData.str.injEq] at h
  exact Prod.ext h.1 h.2.1
theorem keys_pair {α : Type} {l : List ((Str × Str) × α)} {g : (Str × Str) × α → PyData} (h : (l.map (·.1)).Nodup) : KeysOk true (l.map fun p => (pairK p.1, g p)) := by
  refine ⟨fun p hp => ?_, ?_⟩
  · obtain ⟨q, _, rfl⟩ := List.mem_map.mp hp
    exact pair_key _
  · have := nodup_map (f := pairK) (fun a b h => pairK_inj h) h
    rw [List.map_map] at this ⊢
    exact this
theorem st_nodup {c : Cfg} {s : HS} (hs : HsOk c s) (hc : CfgOk c) : (s.st.map (·.1)).Nodup := by rw [hs.keys]; exact hc.ends.nd
theorem row_get {r : Row} : ∃ k a l, r.d = .tuple (.str k :: .str a :: l) ∧ (k = "fall" → ∃ h, r = .fall h ∧ h = a) ∧ (k ≠ "fall" → ∃ o w, l = [.str o, .str w] ∧ viewR a r = some (.tuple [.str k, .str o, .str w]) ∧ ∀ b, b ≠ a → viewR b r = none) := by
  cases r with
  | say h o w => exact ⟨"say", h, _, rfl, fun e => absurd e (by decide), fun _ => ⟨_, _, rfl, by simp [viewR], fun b hb => by simp [viewR, Ne.symm hb]⟩⟩
  | hear h o w => exact ⟨"hear", h, _, rfl, fun e => absurd e (by decide), fun _ => ⟨_, _, rfl, by simp [viewR], fun b hb => by simp [viewR, Ne.symm hb]⟩⟩
  | fall h => exact ⟨"fall", h, _, rfl, fun _ => ⟨h, rfl, rfl⟩, fun e => absurd rfl e⟩
theorem law_Hall_view_of : ∀ us G Q p, Closed G → sp_Hall_view_of us G Q p → ph_Hall_view_of (startU N_Hall_view_of us) G (Cnd G Q p) := by
  rintro _ G Q p hG ⟨_, ⟨h, _, c, s, m, ca, ba, rfl, hh, ⟨a, rfl, ha, rfl⟩⟩, q⟩
  refine law_of (fun C kk => ?_) q
  refine sq_expr (ev_need (ev_var rfl) (ev_var rfl) hh.at_ hh.co ha) ?_
  have hz := hh.ok.few
  refine st_ret (ev_callB (ea_cons (ev_lcf (l := s.ld) (fun r => .d r.d) (viewR a) hG (ei_L (ev_f (ev_var rfl) hh.at_ f_ld rfl)) (by rw [List.map_map]; rfl) ?_ (by omega)) ea_nil) n_tupL) kk
  intro r hr T _
  obtain ⟨k, b, l, e1, e2, e3⟩ := row_get (r := r)
  refine ⟨_, decide (b = a) && !decide (k = "fall"), pat_name, et_and (et_test (ev_op (ev_op (ev_as (v := .d (.tuple (.str k :: .str b :: l))) (ev_var rfl) (by rw [e1])) ev_c (g_ixT (d := .str b) (L2.atI_nat (j := 1) rfl))) (ev_var rfl) g_eqS)) fun _ => et_test (ev_op (ev_op (ev_as (v := .d (.tuple (.str k :: .str b :: l))) (ev_var rfl) (by rw [e1])) ev_c (g_ixT (d := .str k) (L2.atI_nat (j := 0) rfl))) ev_c g_neS), ?_⟩
  split
  · rename_i hb
    simp only [Bool.and_eq_true, decide_eq_true_eq, Bool.not_eq_true', decide_eq_false_iff_not] at hb
    obtain ⟨o, w, rfl, e4, _⟩ := e3 hb.2
    rw [hb.1] at e4
    refine ⟨_, e4, ev_tup (ea_cons (u := .d (.str k)) (ev_op (ev_as (v := .d (.tuple (.str k :: .str b :: [.str o, .str w]))) (ev_var rfl) (by rw [e1])) ev_c (g_ixT rfl)) (ea_cons (u := .d (.str o)) (ev_op (ev_as (v := .d (.tuple (.str k :: .str b :: [.str o, .str w]))) (ev_var rfl) (by rw [e1])) ev_c (g_ixT rfl)) (ea_cons (u := .d (.str w)) (ev_op (ev_as (v := .d (.tuple (.str k :: .str b :: [.str o, .str w]))) (ev_var rfl) (by rw [e1])) ev_c (g_ixT rfl)) ea_nil))) rfl (Nat.le_of_ble_eq_true rfl)⟩
  · rename_i hb
    by_cases hk : k = "fall"
    · obtain ⟨h', rfl, _⟩ := e2 hk
      rfl
    · obtain ⟨o, w, rfl, _, e5⟩ := e3 hk
      refine e5 a fun e => hb ?_
      simp [e, hk]
theorem law_Hall_views : ∀ us G Q p, Closed G → sp_Hall_views us G Q p → ph_Hall_views (startU N_Hall_views us) G (Cnd G Q p) := by
  rintro _ G Q p hG ⟨_, ⟨h, _, c, s, m, ca, ba, rfl, hh, rfl, rfl⟩, q⟩
  refine law_of (fun C kk => ?_) q
  have hz := st_len hh.ok hh.co
  refine st_ret (ev_dc (l := s.st) (fun p => .d (.str p.1)) (fun p => (.str p.1, viewD s p.1)) false hG (ei_st (ev_f (ev_var rfl) hh.at_ f_st rfl)) rfl ?_ (keys_str (st_nodup hh.ok hh.co)) (by omega)) kk
  intro p hp T _
  have ha : p.1 ∈ c.ends.map (·.1) := by rw [← hh.ok.keys]; exact List.mem_map_of_mem hp
  exact ⟨_, pat_name, ev_var rfl, ev_meth (ev_var rfl) hh.app.at_ rfl (ea_cons (ev_var rfl) ea_nil) rfl fun P r k => ⟨_, ⟨_, _, _, _, _, _, _, rfl, hh.app, ⟨_, rfl, ha, rfl⟩⟩, k⟩⟩

end K36
/-! ## part B2 -/
namespace K36
open PySem PySem.Spec
open R
theorem nodup_length_le {α : Type} [DecidableEq α] : ∀ {l m : List α}, l.Nodup → (∀ a ∈ l, a ∈ m) → l.length ≤ m.length
  | [], _, _, _ => Nat.zero_le _
  | a :: l, m, h, hm => by
    rw [List.nodup_cons] at h
    have h1 : ∀ b ∈ l, b ∈ m.erase a := fun b hb => (List.mem_erase_of_ne (by rintro rfl; exact h.1 hb)).mpr (hm b (List.mem_cons_of_mem _ hb))
    have h2 := nodup_length_le h.2 h1
    have h3 := List.length_erase_of_mem (hm a List.mem_cons_self)
    have h4 : 0 < m.length := List.length_pos_of_mem (hm a List.mem_cons_self)
    rw [List.length_cons]
    omega
theorem rd_len {c : Cfg} {s : HS} (hs : HsOk c s) (hc : CfgOk c) : s.rd.length ≤ 36 := by
  have h1 := nodup_length_le hs.nd (m := (c.ends.map (·.1)).flatMap fun a => (c.ends.map (·.1)).map fun b => (a, b)) (fun p hp => by
    obtain ⟨q, hq, rfl⟩ := List.mem_map.mp hp
    obtain ⟨h2, h3⟩ := hs.hands q hq
    exact List.mem_flatMap.mpr ⟨q.1.1, h2, List.mem_map.mpr ⟨q.1.2, h3, rfl⟩⟩)
  have h2 := flat_len (l := c.ends.map (·.1)) (f := fun a => (c.ends.map (·.1)).map fun b => (a, b)) (n := c.ends.length) fun a _ => by rw [List.length_map, List.length_map]; exact Nat.le_refl _
  have h3 := hc.ends.few.2
  rw [List.length_map] at h1 h2
  have h4 : c.ends.length * c.ends.length ≤ 6 * 6 := Nat.mul_le_mul h3 h3
  omega
theorem sort_perm (l : List PyData) : (sortD l).Perm l := List.mergeSort_perm _ _
theorem pairs_sort {l : List (Str × Str)} (h : l.length ≤ 100000) : SortOk (l.map pairK) := by
  refine ⟨PySem.W.AllAlike.of fun p q => by simp [pairK, PySem.W.alike, PySem.W.alikeAll], PySem.W.Sortable.tuples fun d => ⟨_, _, rfl⟩, by rw [List.length_map]; exact few_size h, ?_⟩
  intro b hb
  obtain ⟨d, _, rfl⟩ := List.mem_map.mp hb
  simp [pairK, PyData.depth, PyData.depthAll]
theorem rows_sort {l : List Row} (h : l.length ≤ 100000) : SortOk (l.map Row.d) := by
  refine ⟨PySem.W.AllAlike.of fun p q => by cases p <;> cases q <;> simp [Row.d, PySem.W.alike, PySem.W.alikeAll], PySem.W.Sortable.tuples fun d => by cases d <;> exact ⟨_, _, rfl⟩, by rw [List.length_map]; exact few_size h, ?_⟩
  intro b hb
  obtain ⟨d, _, rfl⟩ := List.mem_map.mp hb
  cases d <;> simp [Row.d, PyData.depth, PyData.depthAll]
theorem mem_lookup2 {α : Type} {k : Str × Str} : ∀ {l : List ((Str × Str) × α)}, k ∈ l.map (·.1) → ∃ v, l.lookup k = some v
  | [], h => by simp at h
  | p :: l, h => by
    rw [List.lookup_cons]
    by_cases e : k = p.1
    · simp [e]
    · rw [show (k == p.1) = false by simpa using e]
      rw [List.map_cons] at h
      rcases List.mem_cons.mp h with h | h
      · exact absurd h e
      · exact mem_lookup2 h
theorem law_Hall_under_way : ∀ us G Q p, Closed G → sp_Hall_under_way us G Q p → ph_Hall_under_way (startU N_Hall_under_way us) G (Cnd G Q p) := by
  rintro _ G Q p hG ⟨_, ⟨h, _, c, s, m, ca, ba, rfl, hh, rfl, rfl⟩, q⟩
  refine law_of (fun C kk => ?_) q
  have hz := rd_len hh.ok hh.co
  have hp : (sortD (s.rd.map fun p => pairK p.1)).Perm ((s.rd.map (·.1)).map pairK) := by
    rw [List.map_map]; exact sort_perm _
  have hk : ∀ k ∈ sortD (s.rd.map fun p => pairK p.1), ∃ p ∈ s.rd.map (·.1), k = pairK p := fun k hk => by
    obtain ⟨p, h1, h2⟩ := List.mem_map.mp (hp.mem_iff.mp hk)
    exact ⟨p, h1, h2.symm⟩
  refine st_ret (u := .d (wayD s)) (ev_dc (l := sortD (s.rd.map fun (p : (Str × Str) × List Str) => pairK p.1)) (fun k => .d k) (fun k => (k, roadV s.rd k)) true hG (ei_L (ev_callB (ea_cons (ev_f (ev_var rfl) hh.at_ f_rd rfl) ea_nil) fun P q => ?_)) rfl ?_ ?_ ?_) kk
  · show SortOk ((s.rd.map fun p => (pairK p.1, strsD p.2)).map (·.1)) ∧ P (.d (.list (sortD ((s.rd.map fun p => (pairK p.1, strsD p.2)).map (·.1))))) G
    rw [List.map_map]
    refine ⟨?_, q⟩
    have := pairs_sort (l := s.rd.map (·.1)) (by rw [List.length_map]; omega)
    rw [List.map_map] at this
    exact this
  · intro k hkm T _
    obtain ⟨p, hp1, rfl⟩ := hk k hkm
    refine ⟨_, pat_name, ev_var rfl, ev_op (ev_f (ev_var rfl) hh.app.at_ f_rd rfl) (ev_var rfl) (g_ixD (ask_pair (g := fun p => strsD p.2)) ?_)⟩
    obtain ⟨v, hv⟩ := mem_lookup2 hp1
    show lookD (s.rd.map fun p => (pairK p.1, strsD p.2)) (pairK p) = some (roadV s.rd (pairK p))
    unfold roadV
    rw [lookD_pair, hv]
    rfl
  · refine ⟨fun x hx => ?_, ?_⟩
    · obtain ⟨k, hkm, rfl⟩ := List.mem_map.mp hx
      obtain ⟨p, _, rfl⟩ := hk k hkm
      exact pair_key p
    · rw [List.map_map]
      show (List.map (fun k => k) _).Nodup
      rw [List.map_id']
      exact hp.nodup_iff.mpr (nodup_map (fun a b h => pairK_inj h) hh.ok.nd)
  · rw [List.length_mergeSort, List.length_map]; omega
/-! ### small data -/
theorem word_size {x : Str} (h : Word x) : x.length ≤ 8 ∧ ∀ c ∈ x.cps.toList, c < 16 ^ 8 := by
  rcases h with h | h
  · refine ⟨(name_few h).2, fun c hc => ?_⟩
    simp only [nameB, Bool.and_eq_true, List.all_eq_true] at h
    have h1 := h.2.2 c hc
    have h2 : ∀ c ∈ letters.cps.toList, c < 16 ^ 8 := by decide
    exact h2 c (of_decide_eq_true h1)
  · subst h
    exact ⟨by decide, by decide⟩
structure Sm (n k : Nat) (d : PyData) : Prop where
  short : d.leavesShort 13 = true
  show_ : d.showable = true
  w : d.weight ≤ n
  dep : d.depth ≤ k
theorem sm_up {n k n' k' : Nat} {d : PyData} (h : Sm n k d) (hn : n ≤ n') (hk : k ≤ k') : Sm n' k' d := ⟨h.short, h.show_, Nat.le_trans h.w hn, Nat.le_trans h.dep hk⟩
theorem sm_str {x : Str} (h : Word x) : Sm 8 0 (.str x) := by
  obtain ⟨h1, h2⟩ := word_size h
  refine ⟨?_, rfl, h1, by simp [PyData.depth]⟩
  simp only [PyData.leavesShort, List.all_eq_true, decide_eq_true_eq]
  exact h2
theorem all_of {n k : Nat} : ∀ {l : List PyData}, (∀ d ∈ l, Sm n k d) → PyData.leavesShortAll 13 l = true ∧ PyData.showableAll l = true ∧ PyData.weightAll l ≤ l.length * (n + 1) ∧ PyData.depthAll l ≤ k
  | [], _ => ⟨rfl, rfl, Nat.zero_le _, Nat.zero_le _⟩
  | d :: l, h => by
    obtain ⟨h1, h2, h3, h4⟩ := all_of fun e he => h e (List.mem_cons_of_mem _ he)
    have h5 := h d List.mem_cons_self
    refine ⟨by simp [PyData.leavesShortAll, h5.short, h1], by simp [PyData.showableAll, h5.show_, h2], ?_, ?_⟩
    · rw [List.length_cons, Nat.succ_mul]
      simp only [PyData.weightAll]
      have := h5.w
      omega
    · simp only [PyData.depthAll]
      exact Nat.max_le.mpr ⟨h5.dep, h4⟩
theorem sm_tup {n k m : Nat} {l : List PyData} (h : ∀ d ∈ l, Sm n k d) (hm : l.length ≤ m) : Sm (m * (n + 1)) (k + 1) (.tuple l) ∧ Sm (m * (n + 1)) (k + 1) (.list l) := by
  obtain ⟨h1, h2, h3, h4⟩ := all_of h
  have h5 : l.length * (n + 1) ≤ m * (n + 1) := Nat.mul_le_mul_right _ hm
  exact ⟨⟨by simpa only [PyData.leavesShort] using h1, by simpa only [PyData.showable] using h2, by simp only [PyData.weight]; omega, by simp only [PyData.depth]; omega⟩, ⟨by simpa only [PyData.leavesShort] using h1, by simpa only [PyData.showable] using h2, by simp only [PyData.weight]; omega, by simp only [PyData.depth]; omega⟩⟩
theorem kv_of {n k : Nat} : ∀ {l : List (PyData × PyData)}, (∀ p ∈ l, Sm n k p.1 ∧ Sm n k p.2) → PyData.leavesShortKv 13 l = true ∧ PyData.showableKv l = true ∧ PyData.weightKv l ≤ l.length * (2 * n + 2) ∧ (PyData.dict l).depth ≤ k + 1
  | [], _ => ⟨rfl, rfl, Nat.zero_le _, by simp [PyData.depth, PyData.depthKv]⟩
  | (a, b) :: l, h => by
    obtain ⟨h1, h2, h3, h4⟩ := kv_of fun e he => h e (List.mem_cons_of_mem _ he)
    obtain ⟨h5, h6⟩ := h (a, b) List.mem_cons_self
    refine ⟨by simp [PyData.leavesShortKv, h5.short, h6.short, h1], by simp [PyData.showableKv, h5.show_, h6.show_, h2], ?_, ?_⟩
    · rw [List.length_cons, Nat.succ_mul]
      simp only [PyData.weightKv]
      have : a.weight ≤ n := h5.w
      have : b.weight ≤ n := h6.w
      omega
    · simp only [PyData.depth, PyData.depthKv] at h4 ⊢
      have : a.depth ≤ k := h5.dep
      have : b.depth ≤ k := h6.dep
      omega
theorem sm_dict {n k m : Nat} {l : List (PyData × PyData)} (h : ∀ p ∈ l, Sm n k p.1 ∧ Sm n k p.2) (hm : l.length ≤ m) : Sm (m * (2 * n + 2)) (k + 1) (.dict l) := by
  obtain ⟨h1, h2, h3, h4⟩ := kv_of h
  have h5 : l.length * (2 * n + 2) ≤ m * (2 * n + 2) := Nat.mul_le_mul_right _ hm
  exact ⟨by simpa only [PyData.leavesShort] using h1, by simpa only [PyData.showable] using h2, by simp only [PyData.weight]; omega, h4⟩
theorem sm_int {i : Int} (h : 0 ≤ i ∧ i ≤ 1000) : Sm 12 0 (.int i) := by
  have h1 : i.natAbs < 10 ^ 12 := by omega
  have h2 : i.natAbs.log2 ≤ 9 := by
    by_cases h0 : i.natAbs = 0
    · rw [h0]; decide
    · have := Nat.log2_lt h0 (k := 10)
      have := this.mpr (by omega)
      omega
  refine ⟨?_, ?_, ?_, by simp [PyData.depth]⟩
  · simp only [PyData.leavesShort, decide_eq_true_eq]
    exact PyData.shown_int_le h1
  · simp only [PyData.showable, decide_eq_true_eq]; omega
  · simp only [PyData.weight]
    split <;> omega
theorem sm_bool {b : Bool} : Sm 0 0 (.bool b) := ⟨rfl, rfl, Nat.zero_le _, by simp [PyData.depth]⟩
theorem sm_strs {l : List Str} {m : Nat} (h : ∀ x ∈ l, Word x) (hm : l.length ≤ m) : Sm (m * 9) 1 (strsD l) := (sm_tup (n := 8) (k := 0) (fun d hd => by
  obtain ⟨x, hx, rfl⟩ := List.mem_map.mp hd
  exact sm_str (h x hx)) (by rw [List.length_map]; exact hm)).1

end K36
/-! ## part B3 -/
namespace K36
open PySem PySem.Spec
open R
theorem lookup_in2 {α : Type} {k : Str × Str} {v : α} : ∀ {l : List ((Str × Str) × α)}, l.lookup k = some v → (k, v) ∈ l
  | [], h => by cases h
  | x :: l, h => by
    rw [List.lookup_cons] at h
    by_cases e : k = x.1
    · rw [show (k == x.1) = true by simpa using e] at h
      cases h
      rw [e]
      exact List.mem_cons_self
    · rw [show (k == x.1) = false by simpa using e] at h
      exact List.mem_cons_of_mem _ (lookup_in2 h)
theorem lookup_nodup {α : Type} {q : Str × α} : ∀ {l : List (Str × α)}, (l.map (·.1)).Nodup → q ∈ l → l.lookup q.1 = some q.2
  | [], _, h => by cases h
  | x :: l, hn, h => by
    rw [List.map_cons, List.nodup_cons] at hn
    rw [List.lookup_cons]
    rcases List.mem_cons.mp h with rfl | h
    · simp
    · have e : q.1 ≠ x.1 := fun e => hn.1 (e ▸ List.mem_map_of_mem h)
      rw [show (q.1 == x.1) = false by simpa using e]
      exact lookup_nodup hn.2 h
def Deed.ws : Deed → List Str
  | .say h o w => [h, o, w]
  | .hear h o => [h, o]
  | .fall h => [h]
theorem evB_words {v : Evt} (h : evB v = true) : Word v.o ∧ Word v.w := by
  obtain ⟨h1, h2⟩ := evB_iff h
  refine ⟨.inl h2, ?_⟩
  rcases h1 with h1 | ⟨_, h1 | h1⟩
  · exact .inl h1.2
  · exact .inl h1
  · exact .inr h1
theorem deedsE_words {c : Cfg} {rd : Roads} {a : Str} {v : Evt} (ha : Word a) (hv : evB v = true) : ∀ d ∈ deedsE c rd a v, ∀ x ∈ d.ws, Word x := by
  obtain ⟨h1, h2⟩ := evB_words hv
  intro d hd x hx
  unfold deedsE at hd
  rcases List.mem_append.mp hd with hd | hd
  · split at hd
    · rw [List.mem_singleton.mp hd] at hx
      simp only [Deed.ws, List.mem_cons, List.not_mem_nil, or_false] at hx
      rcases hx with rfl | rfl | rfl <;> assumption
    · cases hd
  · split at hd
    · rw [List.mem_singleton.mp hd] at hx
      simp only [Deed.ws, List.mem_cons, List.not_mem_nil, or_false] at hx
      rcases hx with rfl | rfl <;> assumption
    · cases hd
theorem deedsH_words {c : Cfg} {s : HS} {a : Str} (hs : HsOk c s) (hc : CfgOk c) (ha : a ∈ c.ends.map (·.1)) : ∀ d ∈ deedsH c s a, ∀ x ∈ d.ws, Word x := by
  have hw : Word a := .inl (name_of hc ha)
  intro d hd x hx
  unfold deedsH at hd
  rcases List.mem_append.mp hd with hd | hd
  · split at hd
    · rw [List.mem_singleton.mp hd] at hx
      simp only [Deed.ws, List.mem_cons, List.not_mem_nil, or_false] at hx
      rw [hx]; exact hw
    · cases hd
  · obtain ⟨v, hv, hd⟩ := List.mem_flatMap.mp hd
    obtain ⟨S, _, h2, _⟩ := state_here hs hc ha
    exact deedsE_words hw (h2.evs v hv).1 d hd x hx
theorem deeds0_words {c : Cfg} {s : HS} (hs : HsOk c s) (hc : CfgOk c) : ∀ d ∈ deeds0 c s, ∀ x ∈ d.ws, Word x := by
  intro d hd
  obtain ⟨a, ha, hd⟩ := List.mem_flatMap.mp hd
  rw [hs.keys] at ha
  by_cases h : a ∈ s.dn
  · rw [if_pos h] at hd; cases hd
  · rw [if_neg h] at hd
    exact deedsH_words hs hc ha d hd
theorem word_say : Word "say" := .inl (by decide)
theorem word_hear : Word "hear" := .inl (by decide)
theorem word_fall : Word "fall" := .inl (by decide)
theorem sm_row {r : Row} (h : ∀ x ∈ r.ws, Word x) : Sm (4 * 9) 1 r.d := by
  cases r with
  | say a o w => exact sm_strs (l := ["say", a, o, w]) (by
      intro x hx
      rcases List.mem_cons.mp hx with rfl | hx
      · exact word_say
      · exact h x hx) (by simp)
  | hear a o w => exact sm_strs (l := ["hear", a, o, w]) (by
      intro x hx
      rcases List.mem_cons.mp hx with rfl | hx
      · exact word_hear
      · exact h x hx) (by simp)
  | fall a => exact sm_strs (l := ["fall", a]) (by
      intro x hx
      rcases List.mem_cons.mp hx with rfl | hx
      · exact word_fall
      · exact h x hx) (by simp)
theorem sm_deed {d : Deed} (h : ∀ x ∈ d.ws, Word x) : Sm (4 * 9) 1 d.d := by
  cases d with
  | say a o w => exact sm_strs (l := ["say", a, o, w]) (by
      intro x hx
      rcases List.mem_cons.mp hx with rfl | hx
      · exact word_say
      · exact h x hx) (by simp)
  | hear a o => exact sm_strs (l := ["hear", a, o]) (by
      intro x hx
      rcases List.mem_cons.mp hx with rfl | hx
      · exact word_hear
      · exact h x hx) (by simp)
  | fall a => exact sm_strs (l := ["fall", a]) (by
      intro x hx
      rcases List.mem_cons.mp hx with rfl | hx
      · exact word_fall
      · exact h x hx) (by simp)
section
variable {c : Cfg} {s : HS}
theorem sm_can (hs : HsOk c s) (hc : CfgOk c) : Sm 9102 2 (.tuple (canD c s)) := (sm_tup (n := 36) (k := 1) (m := 246) (fun d hd => by
  obtain ⟨e, he, rfl⟩ := List.mem_map.mp ((sort_perm _).mem_iff.mp hd)
  exact sm_deed (deeds0_words hs hc e he)) (by unfold canD; rw [List.length_mergeSort, List.length_map]; exact deeds0_len hs hc)).1
theorem hand_word (hc : CfgOk c) {a : Str} (h : a ∈ c.ends.map (·.1)) : Word a := .inl (name_of hc h)
theorem sm_way (hs : HsOk c s) (hc : CfgOk c) : Sm 116712 2 (wayD s) := sm_dict (n := 1620) (k := 1) (m := 36) (fun p hp => by
  obtain ⟨k, hk, rfl⟩ := List.mem_map.mp hp
  obtain ⟨q, hq, rfl⟩ := List.mem_map.mp ((sort_perm _).mem_iff.mp hk)
  obtain ⟨h1, h2⟩ := hs.hands q hq
  refine ⟨sm_up (sm_strs (l := [q.1.1, q.1.2]) (m := 2) ?_ (by simp)) (by omega) (Nat.le_refl _), ?_⟩
  · intro x hx
    simp only [List.mem_cons, List.not_mem_nil, or_false] at hx
    rcases hx with rfl | rfl
    · exact hand_word hc h1
    · exact hand_word hc h2
  · obtain ⟨v, hv⟩ := mem_lookup2 (List.mem_map_of_mem (f := (·.1)) hq)
    unfold roadV
    rw [lookD_pair, hv]
    have hm : (q.1, v) ∈ s.rd := lookup_in2 hv
    obtain ⟨h3, h4⟩ := hs.words _ hm
    exact sm_strs (m := 180) h4 (by have := hs.few; simp only at h3; omega)) (by rw [List.length_map, List.length_mergeSort, List.length_map]; exact rd_len hs hc)
theorem sm_views (hs : HsOk c s) (hc : CfgOk c) : Sm 10092 3 (viewsD s) := sm_dict (n := 840) (k := 2) (m := 6) (fun p hp => by
  obtain ⟨q, hq, rfl⟩ := List.mem_map.mp hp
  have ha : q.1 ∈ c.ends.map (·.1) := by rw [← hs.keys]; exact List.mem_map_of_mem hq
  refine ⟨sm_up (sm_str (hand_word hc ha)) (by omega) (by omega), (sm_tup (n := 27) (k := 1) (m := 30) (fun d hd => ?_) (Nat.le_trans (List.length_filterMap_le _ _) hs.few)).1⟩
  obtain ⟨r, hr, hd⟩ := List.mem_filterMap.mp hd
  have hw := hs.rows r hr
  cases r with
  | say b o w =>
    simp only [viewR] at hd
    split at hd
    · cases hd
      refine sm_strs (l := ["say", o, w]) (m := 3) (fun x hx => ?_) (by simp)
      rcases List.mem_cons.mp hx with rfl | hx
      · exact word_say
      · exact hw x (List.mem_cons_of_mem _ hx)
    · cases hd
  | hear b o w =>
    simp only [viewR] at hd
    split at hd
    · cases hd
      refine sm_strs (l := ["hear", o, w]) (m := 3) (fun x hx => ?_) (by simp)
      rcases List.mem_cons.mp hx with rfl | hx
      · exact word_hear
      · exact hw x (List.mem_cons_of_mem _ hx)
    · cases hd
  | fall b => cases hd) (by rw [List.length_map]; exact st_len hs hc)
theorem sm_dn (hs : HsOk c s) (hc : CfgOk c) : Sm 900 1 (strsD s.dn) := sm_strs (m := 100) (fun x hx => hand_word hc (hc.weak x (hs.dn x hx))) (Nat.le_trans (nodup_length_le hs.dnd hs.dn) hc.few)
theorem sm_who (hs : HsOk c s) (hc : CfgOk c) : Sm 240 2 (whoD c s) := (sm_tup (n := 39) (k := 1) (m := 6) (fun d hd => by
  obtain ⟨q, hq, rfl⟩ := List.mem_map.mp hd
  have ha : q.1 ∈ c.ends.map (·.1) := by rw [← hs.keys]; exact List.mem_map_of_mem hq
  have hb : 0 ≤ q.2 ∧ q.2 ≤ 1000 := by
    obtain ⟨S, b, h1, h2, h3, h4, _, h6⟩ := here hs hc ha
    have h7 := lookup_nodup (st_nodup hs hc) hq
    rw [h7] at h2
    cases h2
    have := ((hc.ends.each _ h6).few).2
    simp only at this
    omega
  refine (sm_tup (n := 12) (k := 0) (m := 3) (fun d hd => ?_) (by simp)).1
  simp only [List.mem_cons, List.not_mem_nil, or_false] at hd
  rcases hd with rfl | rfl | rfl
  · exact sm_up (sm_str (hand_word hc ha)) (by omega) (by omega)
  · exact sm_int hb
  · exact sm_up sm_bool (by omega) (by omega)) (by rw [List.length_map]; exact st_len hs hc)).2
theorem sm_rows (hs : HsOk c s) : Sm 1110 2 (.list (sortD (s.ld.map Row.d))) := (sm_tup (n := 36) (k := 1) (m := 30) (fun d hd => by
  obtain ⟨r, hr, rfl⟩ := List.mem_map.mp ((sort_perm _).mem_iff.mp hd)
  exact sm_row (hs.rows r hr)) (by rw [List.length_mergeSort, List.length_map]; exact hs.few)).2
theorem sm_told (hs : HsOk c s) (hc : CfgOk c) : Sm 816991 4 (toldD c s) := (sm_tup (n := 116712) (k := 3) (m := 7) (fun d hd => by
  simp only [List.mem_cons, List.not_mem_nil, or_false] at hd
  rcases hd with rfl | rfl | rfl | rfl | rfl | rfl | rfl
  · exact sm_up (sm_can hs hc) (by omega) (by omega)
  · exact sm_up (sm_way hs hc) (by omega) (by omega)
  · exact sm_up (sm_views hs hc) (by omega) (by omega)
  · exact sm_up (sm_dn hs hc) (by omega) (by omega)
  · exact sm_up (sm_who hs hc) (by omega) (by omega)
  · exact sm_up (sm_rows hs) (by omega) (by omega)
  · exact sm_up (sm_int (i := s.ld.length) (by have := hs.few; omega)) (by omega) (by omega)) (by simp)).1
end
theorem told_fits {n k : Nat} {d : PyData} (h : Sm n k d) (hn : n ≤ 1000000) : d.shown.length ≤ sizeLine := PyData.shown_fits (by omega) (Nat.le_refl 13) h.short (Nat.le_trans h.w (by omega))

end K36
/-! ## part B4 -/
namespace K36
open PySem PySem.Spec
open R
section
variable {c : Cfg} {s : HS} {m : Nat} {ca ba : Int} {G : GH} {h : Nat} {ss : SS} {o e : WE} {a : Str}
theorem ev_views (hh : At G h c s m ca ba) (ho : Ev o ss G (.r h)) : Ev (eMethC "Hall" "views" sp_Hall_views 1 uPos o aNil) ss G (.d (viewsD s)) := ev_meth ho hh.at_ rfl ea_nil rfl fun P p q => ⟨_, ⟨_, _, _, _, _, _, _, rfl, hh, rfl, rfl⟩, q⟩
theorem ev_under (hh : At G h c s m ca ba) (ho : Ev o ss G (.r h)) : Ev (eMethC "Hall" "under_way" sp_Hall_under_way 1 uPos o aNil) ss G (.d (wayD s)) := ev_meth ho hh.at_ rfl ea_nil rfl fun P p q => ⟨_, ⟨_, _, _, _, _, _, _, rfl, hh, rfl, rfl⟩, q⟩
theorem ev_fallen (hh : At G h c s m ca ba) (ho : Ev o ss G (.r h)) : Ev (eMethC "Hall" "fallen" sp_Hall_fallen 1 uPos o aNil) ss G (.d (strsD s.dn)) := ev_meth ho hh.at_ rfl ea_nil rfl fun P p q => ⟨_, ⟨_, _, _, _, _, _, _, rfl, hh, rfl, rfl⟩, q⟩
theorem ev_log (hh : At G h c s m ca ba) (ho : Ev o ss G (.r h)) : Ev (eMethC "Hall" "log" sp_Hall_log 1 uPos o aNil) ss G (.d (.tuple (s.ld.map Row.d))) := ev_meth ho hh.at_ rfl ea_nil rfl fun P p q => ⟨_, ⟨_, _, _, _, _, _, _, rfl, hh, rfl, rfl⟩, q⟩
theorem ev_stateof {b : Int} (hh : At G h c s m ca ba) (ho : Ev o ss G (.r h)) (he : Ev e ss G (.d (.str a))) (hb : s.st.lookup a = some b) : Ev (eMethC "Hall" "state_of" sp_Hall_state_of 2 uPos o (aCons e aNil)) ss G (.d (.int b)) := ev_meth ho hh.at_ rfl (ea_cons he ea_nil) rfl fun P p q => ⟨_, ⟨_, _, _, _, _, _, _, rfl, hh, _, _, rfl, hb, rfl⟩, q⟩
theorem ev_isdone (hh : At G h c s m ca ba) (ho : Ev o ss G (.r h)) (he : Ev e ss G (.d (.str a))) (ha : a ∈ c.ends.map (·.1)) : Ev (eMethC "Hall" "is_done" sp_Hall_is_done 2 uPos o (aCons e aNil)) ss G (.d (.bool (decide (evsAt c s a = [])))) := ev_meth ho hh.at_ rfl (ea_cons he ea_nil) rfl fun P p q => ⟨_, ⟨_, _, _, _, _, _, _, rfl, hh, _, rfl, ha, rfl⟩, q⟩
theorem ev_len (hh : At G h c s m ca ba) (ho : Ev o ss G (.r h)) : Ev (eLenC "Hall" sp_Hall___len__ uPos (aCons o aNil)) ss G (.d (.int s.ld.length)) := fun P p q => by
  refine ea_cons ho ea_nil _ _ ?_
  show (match G[h]? with
    | some (.ins d fs) => d = "Hall" ∧ sp_Hall___len__ (uPos [.r h] []) G (fun u G2 => match u with
      | .d (.int z) => (0 ≤ z ∧ z < 2 ^ 63) ∧ P (.d (.int z)) G2
      | _ => False) p
    | _ => False)
  rw [hh.at_]
  refine ⟨rfl, ⟨_, ⟨_, _, _, _, _, _, _, rfl, hh, rfl, rfl⟩, ⟨⟨by omega, ?_⟩, q⟩⟩⟩
  have := hh.ok.few
  omega
end
theorem n_sortedT {G : GH} {xs : List PyData} (hs : SortOk xs) : En gSorted [.d (.tuple xs)] G (.d (.list (sortD xs))) := fun P q => ⟨hs, q⟩
theorem law__law_told : ∀ us G Q p, Closed G → sp__law_told us G Q p → ph__law_told (startU N__law_told us) G (Cnd G Q p) := by
  rintro _ G Q p hG ⟨_, ⟨h, _, c, s, m, ca, ba, rfl, hh, rfl, rfl⟩, q⟩
  refine law_of (fun C kk => ?_) q
  have hz := st_len hh.ok hh.co
  refine sq_name (u := .d (whoD c s)) (ev_lc (l := s.st) (fun p => .d (.str p.1)) (fun p => .tuple [.str p.1, .int p.2, .bool (decide (evsAt c s p.1 = []))]) hG (ei_D (ev_views hh (ev_var rfl))) (by rw [List.map_map]; rfl) ?_ (by omega)) ?_
  · intro p hp T _
    have ha : p.1 ∈ c.ends.map (·.1) := by rw [← hh.ok.keys]; exact List.mem_map_of_mem hp
    refine ⟨_, pat_name, ev_tup (ea_cons (ev_var rfl) (ea_cons (ev_stateof hh.app (ev_var rfl) (ev_var rfl) (lookup_nodup (st_nodup hh.ok hh.co) hp)) (ea_cons (ev_isdone hh.app (ev_var rfl) (ev_var rfl) ha) ea_nil))) rfl (Nat.le_of_ble_eq_true rfl)⟩
  have hs := sm_told hh.ok hh.co
  refine st_ret (ev_callB (ea_cons (u := .d (toldD c s)) (ev_tup (ea_cons (ev_can hh (ev_var rfl)) (ea_cons (ev_under hh (ev_var rfl)) (ea_cons (ev_views hh (ev_var rfl)) (ea_cons (ev_fallen hh (ev_var rfl)) (ea_cons (ev_var rfl) (ea_cons (ev_callB (ea_cons (ev_log hh (ev_var rfl)) ea_nil) (n_sortedT (rows_sort (by have := hh.ok.few; omega)))) (ea_cons (ev_len hh (ev_var rfl)) ea_nil))))))) rfl (Nat.le_of_ble_eq_true rfl)) ea_nil) fun P k => ⟨hs.show_, told_fits hs (by omega), Nat.le_trans hs.dep (by omega), k⟩) kk
/-! ### equality of halls -/
theorem nz_strs {l : List Str} : nz (strsD l) = true := nz_tup (nzAll_iff.mpr fun x hx => by
  obtain ⟨y, _, rfl⟩ := List.mem_map.mp hx
  rfl)
theorem nz_state (s : List Evt) : nz (stateD s) = true := nz_tup (nzAll_iff.mpr fun x hx => by
  obtain ⟨y, _, rfl⟩ := List.mem_map.mp hx
  rfl)
theorem nz_states (s : States) : nz (statesD s) = true := nz_tup (nzAll_iff.mpr fun x hx => by
  obtain ⟨y, _, rfl⟩ := List.mem_map.mp hx
  exact nz_state y)
theorem nz_ends (l : Ends) : nz (endsD l) = true := nz_tup (nzAll_iff.mpr fun x hx => by
  obtain ⟨y, _, rfl⟩ := List.mem_map.mp hx
  refine nz_tup ?_
  simp [nzAll, nz, nz_states])
theorem nz_room (o : Option Int) : nz (roomD o) = true := by cases o <;> rfl
theorem nz_row (r : Row) : nz r.d = true := by cases r <;> rfl
theorem nz_lst {xs : List PyData} (h : nzAll xs = true) : nz (.list xs) = true := by simp only [nz]; exact h
theorem nz_ld (l : List Row) : nz (ldD l) = true := nz_lst (nzAll_iff.mpr fun x hx => by
  obtain ⟨y, _, rfl⟩ := List.mem_map.mp hx
  exact nz_row y)
theorem dep_row {n : Nat} {xs : List PyData} (h : ∀ x ∈ xs, x.depth ≤ n) : (PyData.tuple xs).depth ≤ n + 1 := (depth_row h).1
theorem dep_strs (l : List Str) : (strsD l).depth ≤ 1 := dep_row fun x hx => by
  obtain ⟨y, _, rfl⟩ := List.mem_map.mp hx
  simp [PyData.depth]
theorem dep_ends (l : Ends) : (endsD l).depth ≤ 5 := dep_row fun x hx => by
  obtain ⟨y, _, rfl⟩ := List.mem_map.mp hx
  refine dep_row (n := 3) fun z hz => ?_
  simp only [List.mem_cons, List.not_mem_nil, or_false] at hz
  rcases hz with rfl | rfl
  · simp [PyData.depth]
  · refine dep_row (n := 2) fun w hw => ?_
    obtain ⟨st, _, rfl⟩ := List.mem_map.mp hw
    refine dep_row (n := 1) fun v hv => ?_
    obtain ⟨ev, _, rfl⟩ := List.mem_map.mp hv
    simp [Evt.d, PyData.depth, PyData.depthAll]
theorem dep_ld (l : List Row) : (ldD l).depth ≤ 2 := (depth_row (n := 1) fun x hx => by
  obtain ⟨y, _, rfl⟩ := List.mem_map.mp hx
  cases y <;> simp [Row.d, PyData.depth, PyData.depthAll]).2
theorem row_inj {r r' : Row} (h : r.d = r'.d) : r = r' := by
  cases r <;> cases r' <;> simp only [Row.d, PyData.tuple.injEq, List.cons.injEq, PyData.str.injEq] at h <;> first | (obtain ⟨_, rfl, rfl, rfl, _⟩ := h; rfl) | (obtain ⟨_, rfl, _⟩ := h; rfl) | (exact absurd h.1 (by decide)) | (simp at h)
theorem map_inj {α β : Type} {f : α → β} (hf : ∀ a b, f a = f b → a = b) : ∀ {l m : List α}, l.map f = m.map f → l = m
  | [], [], _ => rfl
  | [], _ :: _, h => by simp at h
  | _ :: _, [], h => by simp at h
  | a :: l, b :: m, h => by
    rw [List.map_cons, List.map_cons, List.cons.injEq] at h
    rw [hf _ _ h.1, map_inj hf h.2]
theorem eqv_ld (l l' : List Row) : PyData.eqv (ldD l) (ldD l') = decide (l = l') := by
  rw [Bool.eq_iff_iff, nz_eqv _ _ (nz_ld _) (nz_ld _), decide_eq_true_eq]
  exact ⟨fun h => map_inj (fun a b => row_inj) (by simpa [ldD] using h), fun h => by rw [h]⟩
theorem law_Hall___eq__ : ∀ us G Q p, Closed G → sp_Hall___eq__ us G Q p → ph_Hall___eq__ (startU N_Hall___eq__ us) G (Cnd G Q p) := by
  rintro _ G Q p hG ⟨_, ⟨h, c, s, m, ca, ba, h', s', m', ca', ba', rfl, hh, hh', rfl⟩, q⟩
  refine law_of (fun C kk => ?_) q
  have hn : nz (.tuple [endsD c.ends, roomD c.room, strsD c.weak]) = true := nz_tup (by simp [nzAll, nz_ends, nz_room, nz_strs])
  refine sq_else (p := !true || false) (et_or (et_not (et_test (ev_isC (ev_var rfl) hh'.at_))) fun _ => et_as (et_test (ev_op (ev_tup (xs := [endsD c.ends, roomD c.room, strsD c.weak]) (ea_cons (ev_f (ev_var rfl) hh.at_ f_ends rfl) (ea_cons (ev_f (ev_var rfl) hh.at_ f_room rfl) (ea_cons (ev_f (ev_var rfl) hh.at_ f_weak rfl) ea_nil))) rfl (Nat.le_of_ble_eq_true rfl)) (ev_tup (xs := [endsD c.ends, roomD c.room, strsD c.weak]) (ea_cons (ev_f (ev_var rfl) hh'.at_ f_ends rfl) (ea_cons (ev_f (ev_var rfl) hh'.at_ f_room rfl) (ea_cons (ev_f (ev_var rfl) hh'.at_ f_weak rfl) ea_nil))) rfl (Nat.le_of_ble_eq_true rfl)) (g_ne (eqOk_nz hn hn ?_)))) ?_) rfl ?_
  · refine Nat.le_trans (Nat.min_le_left _ _) (Nat.le_trans (dep_row (n := 5) fun x hx => ?_) (by omega))
    simp only [List.mem_cons, List.not_mem_nil, or_false] at hx
    rcases hx with rfl | rfl | rfl
    · exact dep_ends _
    · cases c.room <;> simp [roomD, PyData.depth]
    · exact Nat.le_trans (dep_strs _) (by omega)
  · rw [(nz_eqv _ _ hn hn).mpr rfl]; rfl
  · refine st_ret' (ev_op (ev_f (ev_var rfl) hh.at_ f_ld rfl) (ev_f (ev_var rfl) hh'.at_ f_ld rfl) (g_eq (eqOk_nz (nz_ld _) (nz_ld _) ?_))) ?_ kk
    · exact Nat.le_trans (Nat.min_le_left _ _) (Nat.le_trans (dep_ld _) (by omega))
    · rw [eqv_ld]

end K36
/-! ## part B5 -/
namespace K36
open PySem PySem.Spec
open R
theorem setI_dct {n : Nat} {k : PyData} {u : U} {G : GH} {P : GH → Prop} {ds : List (PyData × U)} (hG : G[n]? = some (.dct ds)) (hk : keyAsk false ds k) (hz : ds.length < sizeLine) (h : P (G.set n (.dct (putD ds k u)))) : setI (.r n) (.d k) u G P := by
  unfold setI
  simp only [hG]
  exact ⟨hk, hz, h⟩
theorem st_sub {e o i : WE} {ss : SS} {G : GH} {C : Cn} {u x y : U} (he : Ev e ss G u) (ho : Ev o ss G x) (hi : Ev i ss G y) (h : setI x y u G (C.nx ss)) : sAsg e (gdSub o i) ss G C := he _ _ (ho _ _ (hi _ _ h))
theorem st_frz {i : Nat} {φ : WS} {ss : SS} {G : GH} {C : Cn} {u : U} (h : ss[i]? = some (some u)) (k : frzU u G fun u1 G1 => φ (ss.set i (some u1)) G1 C) : sFrz i φ ss G C := by
  show (match ss[i]? with
    | some (some u) => frzU u G fun u1 G1 => φ (ss.set i (some u1)) G1 C
    | _ => False)
  rw [h]; exact k
theorem sq_wname {e : WE} {i : Nat} {χ : WS} {ss : SS} {G : GH} {C : Cn} (h : e ss G (fun u G1 => χ (ss.set i (some u)) G1 C) fun x G1 => C.ex x ss G1) : sSeq (sAsg e (gdName i)) χ ss G C := h
theorem lookup_nd {κ α : Type} [BEq κ] [LawfulBEq κ] {q : κ × α} : ∀ {l : List (κ × α)}, (l.map (·.1)).Nodup → q ∈ l → l.lookup q.1 = some q.2
  | [], _, h => by cases h
  | x :: l, hn, h => by
    rw [List.map_cons, List.nodup_cons] at hn
    rw [List.lookup_cons]
    rcases List.mem_cons.mp h with rfl | h
    · simp
    · have e : q.1 ≠ x.1 := fun e => hn.1 (e ▸ List.mem_map_of_mem h)
      rw [show (q.1 == x.1) = false by simpa using e]
      exact lookup_nd hn.2 h
theorem hall_below {G : GH} {h m : Nat} {c : Cfg} {s : HS} {ca ba : Int} (hG : Closed G) (hh : G[h]? = some (hallO c s m ca ba)) : m < G.length := by
  have h1 := hG _ (List.mem_of_getElem? hh)
  simp only [hallO, hallF, MO.below, List.all_cons, U.below, Bool.and_eq_true, decide_eq_true_eq] at h1
  exact h1.2.2.2.2.2.2.2.2.1
theorem hall_closed {G : GH} {h m : Nat} {c' : Cfg} {s' : HS} {ca' ba' : Int} (hG : Closed G) (hm : m < G.length) : Closed (G.set h (hallO c' s' m ca' ba')) := by
  refine closed_set hG ?_
  simp [hallO, hallF, MO.below, U.below, hm]
theorem get_set {G : GH} {h : Nat} {o o' : MO} (hh : G[h]? = some o) : (G.set h o')[h]? = some o' := by
  have := (List.getElem?_eq_some_iff.mp hh).1
  rw [List.getElem?_set_self this]
theorem set_app {G T : GH} {h : Nat} {o o' : MO} (hh : G[h]? = some o) : (G ++ T).set h o' = G.set h o' ++ T := by
  rw [List.set_append, if_pos (List.getElem?_eq_some_iff.mp hh).1]
section
variable {c : Cfg} {s : HS} {m : Nat} {ca ba : Int}
theorem put_rd {rd : Roads} : putU "on_roads" (.d (rdD rd)) (hallF c s m ca ba) = hallF c { s with rd := rd } m ca ba := rfl
theorem put_st {l : List (Str × Int)} : putU "standing" (.d (stD l)) (hallF c s m ca ba) = hallF c { s with st := l } m ca ba := rfl
theorem put_dn {l : List Str} : putU "down" (.d (strsD l)) (hallF c s m ca ba) = hallF c { s with dn := l } m ca ba := rfl
theorem put_ld {l : List Row} : putU "laid" (.d (ldD l)) (hallF c s m ca ba) = hallF c { s with ld := l } m ca ba := rfl
theorem put_ca {i : Int} : putU "called" (.d (.int i)) (hallF c s m ca ba) = hallF c s m i ba := rfl
theorem put_ba {i : Int} : putU "barred" (.d (.int i)) (hallF c s m ca ba) = hallF c s m ca i := rfl
theorem put_ah {n : Nat} : putU "aheads" (.r n) (hallF c s m ca ba) = hallF c s n ca ba := rfl
end
theorem st_f {e o : WE} {ss : SS} {G : GH} {C : Cn} {c : Cfg} {s : HS} {m n : Nat} {ca ba : Int} {f : Str} {u : U} {fs : List (Str × U)} (ha : Ev e ss G u) (ho : Ev o ss G (.r n)) (hG : G[n]? = some (hallO c s m ca ba)) (hp : putU f u (hallF c s m ca ba) = fs) (hb : (fNames.any fun g => decide (g = f)) = true) (k : C.nx ss (G.set n (.ins "Hall" fs))) : sAsg e (gdFld TT o f) ss G C := st_fld ha ho hG (bears hb) (Nat.le_of_ble_eq_true rfl) (by
  show C.nx ss (G.set n (.ins "Hall" (putU f u (hallF c s m ca ba))))
  rw [hp]; exact k)
theorem lay_mem {rd : Roads} {p : Str × Str} : ((rd.filter fun q => !decide (q.1 = p)).map (·.1)).Sublist (rd.map (·.1)) := List.Sublist.map _ List.filter_sublist
theorem law_Hall_lay_road : ∀ us G Q p, Closed G → sp_Hall_lay_road us G Q p → ph_Hall_lay_road (startU N_Hall_lay_road us) G (Cnd G Q p) := by
  rintro _ G Q p hG ⟨h, c, s, m, ca, ba, pr, ws, rfl, hh, hz, hnd, q⟩
  unfold ph_Hall_lay_road
  have hm := hall_below hG hh
  have e1 : (s.rd.filterMap fun q => if q.1 = pr then none else some (pairK q.1, strsD q.2)) = (s.rd.filter fun q => !decide (q.1 = pr)).map fun q => (pairK q.1, strsD q.2) := by
    clear hh q hz hnd
    induction s.rd with
    | nil => rfl
    | cons x l ih =>
      by_cases hx : x.1 = pr
      · rw [List.filterMap_cons_none (by simp [hx]), ih, List.filter_cons_of_neg (by simp [hx])]
      · rw [List.filterMap_cons_some (by rw [if_neg hx]), ih, List.filter_cons_of_pos (by simp [hx]), List.map_cons]
  have hk : KeysOk true ((s.rd.filter fun q => !decide (q.1 = pr)).map fun q => (pairK q.1, strsD q.2)) := keys_pair (g := fun q => strsD q.2) (List.Nodup.sublist lay_mem hnd)
  have fin : ∀ ds : List (PyData × PyData), PyData.dict ds = rdD (layRd s.rd pr ws) → sFrz 3 (sAsg (eVar 3) (gdFld TT (eVar 0) "on_roads")) [some (.r h), some (.d (pairK pr)), some (.d (strsD ws)), some (.r G.length), none] (G ++ [dctD ds]) (Cnd G Q p) := by
    intro ds hd
    refine st_frz rfl (frz_dct ?_)
    rw [set_last]
    refine st_f (u := .d (rdD (layRd s.rd pr ws))) (ev_as (ev_var rfl) (by rw [hd])) (ev_var rfl) (gapp hh) put_rd rfl ?_
    rw [set_app hh]
    exact ⟨_, left_drop (hall_closed hG hm) |> fun l => by rw [List.length_set] at l; exact l, q⟩
  refine sq_wname (wp_dc (l := s.rd) (fun q => .d (pairK q.1)) (fun q => if q.1 = pr then none else some (pairK q.1, strsD q.2)) true hG (ei_D (ev_f (ev_var rfl) hh f_rd rfl)) (by rw [List.map_map]; rfl) ?_ (by rw [e1]; exact hk) (by omega) ?_)
  · intro x hx T _
    refine ⟨_, !decide (x.1 = pr), pat_name, et_as (et_test (ev_op (ev_var rfl) (ev_var rfl) (g_ne (eqOk_nz rfl rfl (by simp [pairK, PyData.depth, PyData.depthAll]))))) (by rw [eqv_pair]), ?_⟩
    by_cases e : x.1 = pr
    · simp [e]
    · rw [if_pos (by simp [e])]
      refine ⟨_, if_neg e, ev_var rfl, ev_op (ev_f (ev_var rfl) (gapp hh) f_rd rfl) (ev_var rfl) (g_ixD (ask_pair (g := fun p => strsD p.2)) ?_)⟩
      rw [lookD_pair, lookup_nd hnd hx]
      rfl
  · rw [e1]
    refine sq_if (p := !decide (ws = [])) (et_as (et_test (ev_op (ev_var rfl) (ev_tup ea_nil rfl (Nat.le_of_ble_eq_true rfl)) (g_ne (eqOk_nz nz_strs rfl (Nat.le_trans (Nat.min_le_left _ _) (Nat.le_trans (dep_strs _) (by omega))))))) ?_) (fun e => ?_) (fun e => ?_)
    · cases ws <;> rfl
    · have e' : ws ≠ [] := by simpa using e
      refine st_sub (ev_var rfl) (ev_var rfl) (ev_var rfl) (setI_dct get_last ⟨rfl, ?_⟩ ?_ ?_)
      · cases hf : s.rd.filter fun q => !decide (q.1 = pr) with
        | nil => intro e; cases e
        | cons x l => rfl
      · have := List.length_filter_le (fun q => !decide (q.1 = pr)) s.rd
        have := sizeLine_eq
        rw [List.length_map, List.length_map]
        omega
      · rw [set_last, putD_new]
        · have := fin (((s.rd.filter fun q => !decide (q.1 = pr)).map fun q => (pairK q.1, strsD q.2)) ++ [(pairK pr, strsD ws)]) (by unfold rdD layRd; rw [if_neg e', List.map_append]; rfl)
          unfold dctD at this
          rw [List.map_append] at this
          exact this
        · intro x hx
          obtain ⟨y, hy, rfl⟩ := List.mem_map.mp hx
          obtain ⟨z, hz, rfl⟩ := List.mem_map.mp hy
          have := (List.mem_filter.mp hz).2
          show PyData.eqv (pairK z.1) (pairK pr) = false
          rw [eqv_pair]
          simpa using this
    · have e' : ws = [] := by simpa using e
      exact fin _ (by unfold rdD layRd; rw [if_pos e', List.append_nil])

end K36
/-! ## part B6 -/
namespace K36
open PySem PySem.Spec
open R
/-! ### roads -/
structure RdOk (H : List Str) (n : Nat) (rd : Roads) : Prop where
  nd : (rd.map (·.1)).Nodup
  ne : ∀ q ∈ rd, q.2 ≠ []
  hands : ∀ q ∈ rd, q.1.1 ∈ H ∧ q.1.2 ∈ H
  words : ∀ q ∈ rd, q.2.length ≤ n ∧ ∀ w ∈ q.2, Word w
theorem rd_of {c : Cfg} {s : HS} (hs : HsOk c s) : RdOk (c.ends.map (·.1)) (6 * s.ld.length) s.rd := ⟨hs.nd, hs.ne, hs.hands, hs.words⟩
theorem rd_up {H : List Str} {n n' : Nat} {rd : Roads} (h : RdOk H n rd) (hn : n ≤ n') : RdOk H n' rd := ⟨h.nd, h.ne, h.hands, fun q hq => ⟨Nat.le_trans (h.words q hq).1 hn, (h.words q hq).2⟩⟩
theorem lay_ok {H : List Str} {n : Nat} {rd : Roads} {p : Str × Str} {ws : List Str} (h : RdOk H n rd) (h1 : p.1 ∈ H) (h2 : p.2 ∈ H) (hw : ∀ w ∈ ws, Word w) (hn : ws.length ≤ n) : RdOk H n (layRd rd p ws) := by
  unfold layRd
  have hf : ∀ q ∈ rd.filter fun q => !decide (q.1 = p), q ∈ rd ∧ q.1 ≠ p := fun q hq => by
    obtain ⟨h3, h4⟩ := List.mem_filter.mp hq
    exact ⟨h3, by simpa using h4⟩
  by_cases e : ws = []
  · rw [if_pos e, List.append_nil]
    exact ⟨List.Nodup.sublist lay_mem h.nd, fun q hq => h.ne q (hf q hq).1, fun q hq => h.hands q (hf q hq).1, fun q hq => h.words q (hf q hq).1⟩
  · rw [if_neg e]
    refine ⟨?_, ?_, ?_, ?_⟩
    · rw [List.map_append, List.nodup_append]
      refine ⟨List.Nodup.sublist lay_mem h.nd, by simp, ?_⟩
      intro a ha b hb
      obtain ⟨q, hq, rfl⟩ := List.mem_map.mp ha
      simp only [List.map_cons, List.map_nil, List.mem_singleton] at hb
      rw [hb]
      exact (hf q hq).2
    all_goals
      intro q hq
      rcases List.mem_append.mp hq with hq | hq
    · exact h.ne q (hf q hq).1
    · rw [List.mem_singleton.mp hq]; exact e
    · exact h.hands q (hf q hq).1
    · rw [List.mem_singleton.mp hq]; exact ⟨h1, h2⟩
    · exact h.words q (hf q hq).1
    · rw [List.mem_singleton.mp hq]; exact ⟨hn, hw⟩
theorem rd_few {H : List Str} {n : Nat} {rd : Roads} (h : RdOk H n rd) (hH : H.length ≤ 6) : rd.length ≤ 36 := by
  have h1 := nodup_length_le h.nd (m := H.flatMap fun a => H.map fun b => (a, b)) (fun p hp => by
    obtain ⟨q, hq, rfl⟩ := List.mem_map.mp hp
    obtain ⟨h2, h3⟩ := h.hands q hq
    exact List.mem_flatMap.mpr ⟨q.1.1, h2, List.mem_map.mpr ⟨q.1.2, h3, rfl⟩⟩)
  have h2 := flat_len (l := H) (f := fun a => H.map fun b => (a, b)) (n := H.length) fun a _ => by rw [List.length_map]; exact Nat.le_refl _
  rw [List.length_map] at h1
  have h4 : H.length * H.length ≤ 6 * 6 := Nat.mul_le_mul hH hH
  omega
theorem lies_ok {H : List Str} {n : Nat} {rd : Roads} (h : RdOk H n rd) (a b : Str) : (lies rd a b).length ≤ n ∧ ∀ w ∈ lies rd a b, Word w := by
  unfold lies
  cases e : rd.lookup (a, b) with
  | none => exact ⟨Nat.zero_le _, fun w hw => by cases hw⟩
  | some v => exact h.words _ (lookup_in2 e)
theorem word_fault : Word "!" := .inr rfl
theorem fall1_ok {H : List Str} {n : Nat} {rd : Roads} {dn : List Str} {h o : Str} (k : RdOk H n rd) (h1 : h ∈ H) (h2 : o ∈ H) : RdOk H (n + 1) (fallRd1 dn h rd o) := by
  have k1 : RdOk H n (layRd rd (o, h) []) := lay_ok k h2 h1 (fun w hw => by cases hw) (Nat.zero_le _)
  unfold fallRd1
  split
  · exact rd_up k1 (Nat.le_succ _)
  · obtain ⟨h3, h4⟩ := lies_ok k1 h o
    refine lay_ok (rd_up k1 (Nat.le_succ _)) h1 h2 ?_ (by rw [List.length_append, List.length_singleton]; omega)
    intro w hw
    rcases List.mem_append.mp hw with hw | hw
    · exact h4 w hw
    · rw [List.mem_singleton.mp hw]; exact word_fault
theorem fall_ok {H : List Str} {dn : List Str} {h : Str} (h1 : h ∈ H) : ∀ {os : List Str} {n : Nat} {rd : Roads}, RdOk H n rd → (∀ o ∈ os, o ∈ H) → RdOk H (n + os.length) (fallRd dn h rd os)
  | [], n, rd, k, _ => k
  | o :: os, n, rd, k, h2 => by
    have := fall_ok (dn := dn) h1 (os := os) (fall1_ok (dn := dn) k h1 (h2 o List.mem_cons_self)) fun o ho => h2 o (List.mem_cons_of_mem _ ho)
    rw [List.length_cons, show n + (os.length + 1) = n + 1 + os.length by omega]
    exact this
/-! ### sorting texts -/
theorem sort_strs (l : List Str) : sortD (l.map PyData.str) = (sortS l).map PyData.str := by
  unfold sortD sortS
  rw [List.map_mergeSort]
  intro a _ b _
  rw [PySem.W.dataLe_eq]
  simp [PySem.W.dataLt_str]
theorem strs_sort {l : List Str} (h : l.length ≤ 100000) : SortOk (l.map PyData.str) := by
  refine ⟨PySem.W.AllAlike.of fun p q => by simp [PySem.W.alike], PySem.W.Sortable.others fun d => ⟨by simp, by simp⟩, by rw [List.length_map]; exact few_size h, ?_⟩
  intro b hb
  obtain ⟨d, _, rfl⟩ := List.mem_map.mp hb
  simp [PyData.depth]
/-! ### the puts -/
section
variable {c : Cfg} {s : HS} {m h : Nat} {ca ba : Int} {G : GH} {ss : SS} {o e1 e2 : WE} {C : Cn} {χ : WS}
theorem wp_lay {p : Str × Str} {ws : List Str} {H : List Str} {n : Nat} {P : PU} {r : PX} (hh : G[h]? = some (hallO c s m ca ba)) (hr : RdOk H n s.rd) (hH : H.length ≤ 6) (ho : Ev o ss G (.r h)) (h1 : Ev e1 ss G (.d (pairK p))) (h2 : Ev e2 ss G (.d (strsD ws))) (k : P (.d .none) (G.set h (hallO c { s with rd := layRd s.rd p ws } m ca ba))) : eMethC "Hall" "lay_road" sp_Hall_lay_road 3 uPos o (aCons e1 (aCons e2 aNil)) ss G P r :=
  wp_meth ho hh rfl (ea_cons h1 (ea_cons h2 ea_nil)) rfl ⟨_, _, _, _, _, _, _, _, rfl, hh, by have := rd_few hr hH; omega, hr.nd, k⟩
theorem sq_lay {p : Str × Str} {ws : List Str} {H : List Str} {n : Nat} (hh : G[h]? = some (hallO c s m ca ba)) (hr : RdOk H n s.rd) (hH : H.length ≤ 6) (ho : Ev o ss G (.r h)) (h1 : Ev e1 ss G (.d (pairK p))) (h2 : Ev e2 ss G (.d (strsD ws))) (k : χ ss (G.set h (hallO c { s with rd := layRd s.rd p ws } m ca ba)) C) : sSeq (sExpr (eMethC "Hall" "lay_road" sp_Hall_lay_road 3 uPos o (aCons e1 (aCons e2 aNil)))) χ ss G C := wp_lay (P := fun _ G1 => χ ss G1 C) (r := fun x G1 => C.ex x ss G1) hh hr hH ho h1 h2 k
theorem st_lay {p : Str × Str} {ws : List Str} {H : List Str} {n : Nat} (hh : G[h]? = some (hallO c s m ca ba)) (hr : RdOk H n s.rd) (hH : H.length ≤ 6) (ho : Ev o ss G (.r h)) (h1 : Ev e1 ss G (.d (pairK p))) (h2 : Ev e2 ss G (.d (strsD ws))) (k : C.nx ss (G.set h (hallO c { s with rd := layRd s.rd p ws } m ca ba))) : sExpr (eMethC "Hall" "lay_road" sp_Hall_lay_road 3 uPos o (aCons e1 (aCons e2 aNil))) ss G C := wp_lay (P := fun _ G1 => C.nx ss G1) (r := fun x G1 => C.ex x ss G1) hh hr hH ho h1 h2 k
theorem ev_pairn {a b : Str} (hh : At G h c s m ca ba) (ho : Ev o ss G (.r h)) (h1 : Ev e1 ss G (.d (.str a))) (h2 : Ev e2 ss G (.d (.str b))) (ha : a ∈ c.ends.map (·.1)) (hb : b ∈ c.ends.map (·.1)) (hn : b ≠ a) : Ev (eMethC "Hall" "need_pair" sp_Hall_need_pair 3 uPos o (aCons e1 (aCons e2 aNil))) ss G (.d .none) :=
  ev_meth ho hh.at_ rfl (ea_cons h1 (ea_cons h2 ea_nil)) rfl fun P p q => ⟨_, ⟨_, _, _, _, _, _, _, _, rfl, hh.at_, hh.co, ha, hb, hn, rfl⟩, q⟩
theorem ev_up {a : Str} (hh : At G h c s m ca ba) (ho : Ev o ss G (.r h)) (h1 : Ev e1 ss G (.d (.str a))) (ha : a ∉ s.dn) : Ev (eMethC "Hall" "need_up" sp_Hall_need_up 2 uPos o (aCons e1 aNil)) ss G (.d .none) :=
  ev_meth ho hh.at_ rfl (ea_cons h1 ea_nil) rfl fun P p q => ⟨_, ⟨_, _, _, _, _, _, _, rfl, hh.at_, ha, rfl⟩, q⟩
theorem ev_behind {a k w x : Str} (hh : At G h c s m ca ba) (ho : Ev o ss G (.r h)) (h1 : Ev e1 ss G (.d (.str a))) (h2 : Ev e2 ss G (.d (.tuple [.str k, .str w, .str x]))) (ha : a ∈ c.ends.map (·.1)) : Ev (eMethC "Hall" "state_behind" sp_Hall_state_behind 3 uPos o (aCons e1 (aCons e2 aNil))) ss G (.d (roomD (behind (evsAt c s a) k w x))) :=
  ev_meth ho hh.at_ rfl (ea_cons h1 (ea_cons h2 ea_nil)) rfl fun P p q => ⟨_, ⟨_, _, _, _, _, _, _, rfl, hh, _, _, _, _, rfl, ha, rfl⟩, q⟩
theorem flat_st (h : s.st ≠ []) : flatKeys (s.st.map fun p => (PyData.str p.1, PyData.int p.2)) = true := by
  cases e : s.st with
  | nil => exact absurd e h
  | cons x l => rfl
/-- standing, with one hand elsewhere -/
theorem ev_move {i j k l : Nat} {a : Str} {b : Int} (hG : Closed G) (hh : At G h c s m ca ba) (ho : Ev o ss G (.r h)) (he : ∀ p ∈ s.st, ∀ T, ∃ ss1, Pat (gdTup 2 (gdCons (gdName i) (gdCons (gdName j) gdNil))) (.d (.tuple [.str p.1, .int p.2])) (wipeU ss [i, j]) (G ++ T) ss1 ∧ Ev (eVar i) ss1 (G ++ T) (.d (.str p.1)) ∧ Ev (eVar j) ss1 (G ++ T) (.d (.int p.2)) ∧ Ev (eVar k) ss1 (G ++ T) (.d (.str a)) ∧ Ev (eVar l) ss1 (G ++ T) (.d (.int b))) :
    Ev (eVal (eDc (iItems (eFld TT o "standing")) (gdTup 2 (gdCons (gdName i) (gdCons (gdName j) gdNil))) tYes' (eVar i) (eIf (cTest (eOp gEq (eVar i) (eVar k))) (eVar l) (eVar j)) [i, j])) ss G (.d (stD (moveSt s.st a b))) := by
  have hz := st_len hh.ok hh.co
  have := ev_dc (ws := [i, j]) (κ := eVar i) (ε := eIf (cTest (eOp gEq (eVar i) (eVar k))) (eVar l) (eVar j)) (γ := gdTup 2 (gdCons (gdName i) (gdCons (gdName j) gdNil))) (l := s.st) (fun p => .d (.tuple [.str p.1, .int p.2])) (fun p => (.str p.1, .int (if p.1 = a then b else p.2))) false hG (ei_items (ev_f ho hh.at_ f_st rfl) (flat_st (st_ne hh.ok hh.co))) (by rw [List.map_map]; rfl) (fun p hp T _ => by
    obtain ⟨ss1, h1, h2, h3, h4, h5⟩ := he p hp T
    refine ⟨ss1, h1, h2, ev_if (et_test (ev_op h2 h4 g_eqS)) (fun e => ?_) (fun e => ?_)⟩
    · rw [if_pos (by simpa using e)]; exact h5
    · rw [if_neg (by simpa using e)]; exact h3) (keys_str (st_nodup hh.ok hh.co)) (by omega)
  refine ev_as this ?_
  unfold stD moveSt
  rw [List.map_map]
  rfl
end

end K36
/-! ## part B7 -/
namespace K36
open PySem PySem.Spec
open R
theorem sq_f {e o : WE} {χ : WS} {ss : SS} {G : GH} {C : Cn} {c : Cfg} {s : HS} {m n : Nat} {ca ba : Int} {f : Str} {u : U} {fs : List (Str × U)} (ha : Ev e ss G u) (ho : Ev o ss G (.r n)) (hG : G[n]? = some (hallO c s m ca ba)) (hp : putU f u (hallF c s m ca ba) = fs) (hb : (fNames.any fun g => decide (g = f)) = true) (k : χ ss (G.set n (.ins "Hall" fs)) C) : sSeq (sAsg e (gdFld TT o f)) χ ss G C := st_seq (st_f ha ho hG hp hb k)
theorem keys6 {c : Cfg} (hc : CfgOk c) : (c.ends.map (·.1)).length ≤ 6 := by rw [List.length_map]; exact hc.ends.few.2
theorem ev_addw {a : WE} {e : WE} {ss : SS} {G : GH} {l : List Str} {w : Str} (ha : Ev a ss G (.d (strsD l))) (he : Ev e ss G (.d (.str w))) (hz : l.length ≤ 1000) : Ev (eOp gAdd a (eTup (aCons e aNil))) ss G (.d (strsD (l ++ [w]))) := by
  refine ev_as (ev_op ha (ev_tup (ea_cons he ea_nil) rfl (Nat.le_of_ble_eq_true rfl)) (g_addT (few_size ?_))) ?_
  · rw [List.length_map, List.length_singleton]; omega
  · simp [strsD]
theorem law_Hall_put_say : ∀ us G Q p, Closed G → sp_Hall_put_say us G Q p → ph_Hall_put_say (startU N_Hall_put_say us) G (Cnd G Q p) := by
  rintro _ G Q p hG ⟨h, c, s, m, ca, ba, a, b, w, rfl, hh, ⟨h1, h2, h3, h4, h5, h6⟩, q⟩
  unfold ph_Hall_put_say
  obtain ⟨t, ht⟩ := Option.isSome_iff_exists.mp h5
  have hr := rd_of hh.ok
  have hf := hh.ok.few
  refine sq_expr (ev_pairn hh (ev_var rfl) (ev_var rfl) (ev_var rfl) h1 h2 h3) (sq_expr (ev_up hh (ev_var rfl) (ev_var rfl) h4) ?_)
  refine sq_name (u := .d (.int t)) (ev_as (ev_behind hh (ev_var rfl) (ev_var rfl) (ev_tup (ea_cons ev_c (ea_cons (ev_var rfl) (ea_cons (ev_var rfl) ea_nil))) rfl (Nat.le_of_ble_eq_true rfl)) h1) (by rw [ht]; rfl)) ?_
  refine sq_else (et_test (ev_op (ev_var rfl) ev_c g_isN)) rfl ?_
  refine sq_else (p := !true) (et_not (et_test (ev_as (ev_room hh (ev_var rfl) (ev_var rfl) (ev_var rfl)) (by rw [h6])))) rfl ?_
  refine sq_f (ev_move (a := a) (b := t) hG hh (ev_var rfl) ?_) (ev_var rfl) hh.at_ put_st rfl ?_
  · intro p hp T
    exact ⟨_, pat2, ev_var rfl, ev_var rfl, ev_var rfl, ev_var rfl⟩
  have hg2 : (G.set h (hallO c { s with st := moveSt s.st a t } m ca ba))[h]? = some (hallO c { s with st := moveSt s.st a t } m ca ba) := get_set hh.at_
  have fin : ∀ G', G' = G.set h (hallO c (step0 c s (.say a b w)).2 m ca ba) → sRet (eTup (aCons (eC (.str "say")) (aCons (eVar 1) (aCons (eVar 2) (aCons (eVar 3) aNil))))) ((startU N_Hall_put_say [.r h, .d (.str a), .d (.str b), .d (.str w)]).set 4 (some (.d (.int t)))) G' (Cnd G Q p) := by
    rintro _ rfl
    exact st_ret (ev_tup (ea_cons ev_c (ea_cons (ev_var rfl) (ea_cons (ev_var rfl) (ea_cons (ev_var rfl) ea_nil)))) rfl (Nat.le_of_ble_eq_true rfl)) ⟨_, left_same, q⟩
  refine sq_if (et_test (ev_op (ev_var rfl) (ev_f (ev_var rfl) hg2 f_dn rfl) g_ninTs)) (fun e => ?_) (fun e => ?_)
  · have e' : b ∉ s.dn := by simpa using e
    refine st_lay (p := (a, b)) (ws := lies s.rd a b ++ [w]) hg2 hr (keys6 hh.co) (ev_var rfl) (ev_tup (ea_cons (ev_var rfl) (ea_cons (ev_var rfl) ea_nil)) rfl (Nat.le_of_ble_eq_true rfl)) (ev_addw (ev_as (v := .d (strsD (lies s.rd a b))) (ev_lies (ev_var rfl) (ev_var rfl) (ev_var rfl) hg2) rfl) (ev_var rfl) ?_) ?_
    · have := (lies_ok hr a b).1
      show (lies s.rd a b).length ≤ 1000
      omega
    · refine fin _ ?_
      rw [List.set_set]
      unfold step0
      simp only [ht, Option.getD_some, e', if_false]
  · have e' : b ∈ s.dn := by simpa using e
    refine fin _ ?_
    unfold step0
    simp only [ht, Option.getD_some, e', if_true]
    rfl
theorem pat_star {i j : Nat} {d : PyData} {l : List PyData} {ss : SS} {G : GH} (h : l.length ≤ 16000) : Pat (gdStar 2 1 (gdCons (gdName i) (gdCons (gdName j) gdNil))) (.d (.tuple (d :: l))) ss G ((ss.set i (some (.d d))).set j (some (.d (.list l)))) := fun P q => by
  refine ⟨by simp, by rw [List.length_cons]; omega, ?_⟩
  simp only [List.take_succ_cons, List.take_zero, List.drop_succ_cons, List.drop_zero, List.length_cons]
  rw [show l.length + 1 + 1 - 2 = l.length by omega, List.take_length, List.drop_length]
  exact ⟨rfl, q⟩
theorem law_Hall_put_hear : ∀ us G Q p, Closed G → sp_Hall_put_hear us G Q p → ph_Hall_put_hear (startU N_Hall_put_hear us) G (Cnd G Q p) := by
  rintro _ G Q p hG ⟨h, c, s, m, ca, ba, a, b, rfl, hh, ⟨h1, h2, h3, h4, h5, h6⟩, q⟩
  unfold ph_Hall_put_hear
  obtain ⟨t, ht⟩ := Option.isSome_iff_exists.mp h6
  have hr := rd_of hh.ok
  have hf := hh.ok.few
  obtain ⟨w, rest, hl⟩ := List.exists_cons_of_ne_nil h5
  have hlen := (lies_ok hr b a).1
  rw [hl] at hlen
  rw [List.length_cons] at hlen
  rw [hl, List.headD_cons] at ht
  refine sq_expr (ev_pairn hh (ev_var rfl) (ev_var rfl) (ev_var rfl) h1 h2 h3) (sq_expr (ev_up hh (ev_var rfl) (ev_var rfl) h4) ?_)
  refine sq_else (et_test (ev_op (ev_as (v := .d (strsD (w :: rest))) (ev_lies (ev_var rfl) (ev_var rfl) (ev_var rfl) hh.at_) (by rw [hl])) (ev_tup ea_nil rfl (Nat.le_of_ble_eq_true rfl)) (g_eq (eqOk_nz nz_strs rfl (Nat.le_trans (Nat.min_le_left _ _) (Nat.le_trans (dep_strs _) (by omega))))))) rfl ?_
  refine sq_pat (ev_as (v := .d (.tuple (.str w :: rest.map .str))) (ev_lies (ev_var rfl) (ev_var rfl) (ev_var rfl) hh.at_) (by rw [hl]; rfl)) (pat_star (by rw [List.length_map]; omega)) ?_
  refine sq_name (u := .d (.int t)) (ev_as (ev_behind hh (ev_var rfl) (ev_var rfl) (ev_tup (ea_cons ev_c (ea_cons (ev_var rfl) (ea_cons (ev_var rfl) ea_nil))) rfl (Nat.le_of_ble_eq_true rfl)) h1) (by rw [ht]; rfl)) ?_
  refine sq_else (et_test (ev_op (ev_var rfl) ev_c g_isN)) rfl ?_
  refine sq_f (ev_move (a := a) (b := t) hG hh (ev_var rfl) ?_) (ev_var rfl) hh.at_ put_st rfl ?_
  · intro p hp T
    exact ⟨_, pat2, ev_var rfl, ev_var rfl, ev_var rfl, ev_var rfl⟩
  have hg2 : (G.set h (hallO c { s with st := moveSt s.st a t } m ca ba))[h]? = some (hallO c { s with st := moveSt s.st a t } m ca ba) := get_set hh.at_
  refine sq_lay (p := (b, a)) (ws := rest) hg2 hr (keys6 hh.co) (ev_var rfl) (ev_tup (ea_cons (ev_var rfl) (ea_cons (ev_var rfl) ea_nil)) rfl (Nat.le_of_ble_eq_true rfl)) (ev_callB (ea_cons (ev_var rfl) ea_nil) n_tupL) ?_
  refine st_ret (ev_tup (ea_cons ev_c (ea_cons (ev_var rfl) (ea_cons (ev_var rfl) (ea_cons (ev_var rfl) ea_nil)))) rfl (Nat.le_of_ble_eq_true rfl)) ⟨_, left_same, ?_⟩
  unfold step0 at q
  simp only [hl, ht, Option.getD_some, List.headD_cons, List.tail_cons] at q
  rw [List.set_set]
  exact q
theorem law_Hall_put_fall : ∀ us G Q p, Closed G → sp_Hall_put_fall us G Q p → ph_Hall_put_fall (startU N_Hall_put_fall us) G (Cnd G Q p) := by
  rintro _ G Q p hG ⟨h, c, s, m, ca, ba, a, rfl, hh, ⟨h1, h2, h3⟩, q⟩
  unfold ph_Hall_put_fall
  have hr := rd_of hh.ok
  have hf := hh.ok.few
  have hdn : s.dn.length ≤ 100 := Nat.le_trans (nodup_length_le hh.ok.dnd hh.ok.dn) hh.co.few
  refine sq_expr (ev_need (ev_var rfl) (ev_var rfl) hh.at_ hh.co h1) (sq_expr (ev_up hh (ev_var rfl) (ev_var rfl) h2) ?_)
  refine sq_else (et_test (ev_op (ev_var rfl) (ev_f (ev_var rfl) hh.at_ f_weak rfl) g_ninTs)) (by simp [h3]) ?_
  refine sq_f (u := .d (strsD (sortS (s.dn ++ [a])))) (ev_as (ev_callB (ea_cons (ev_callB (ea_cons (ev_addw (ev_f (ev_var rfl) hh.at_ f_dn rfl) (ev_var rfl) (by omega)) ea_nil) (n_sortedT (strs_sort (by rw [List.length_append, List.length_singleton]; omega)))) ea_nil) n_tupL) (by rw [sort_strs]; rfl)) (ev_var rfl) hh.at_ put_dn rfl ?_
  have hst := st_len hh.ok hh.co
  refine sq_for (l := s.st.map (·.1)) (fun a => .d (.str a)) (fun rest ss G' => ∃ done, s.st.map (·.1) = done ++ rest ∧ G' = G.set h (hallO c { s with dn := sortS (s.dn ++ [a]), rd := fallRd (sortS (s.dn ++ [a])) a s.rd done } m ca ba) ∧ ∃ w2, ss = [some (.r h), some (.d (.str a)), w2]) (ei_st (ev_f (ev_var rfl) (get_set hh.at_) f_st rfl)) (by rw [List.map_map]; rfl) ?_ ⟨[], rfl, rfl, _, rfl⟩ ?_
  · rintro b rest ss _ ⟨done, hd, rfl, w2, rfl⟩
    refine ⟨_, pat_name, fun C' hr' hn => ?_⟩
    have hin : ∀ o ∈ done ++ b :: rest, o ∈ c.ends.map (·.1) := fun o ho => by rw [← hh.ok.keys, hd]; exact ho
    have hb : b ∈ c.ends.map (·.1) := hin b (by simp)
    have hlen : done.length + 1 + rest.length ≤ 6 := by
      have := congrArg List.length hd
      rw [List.length_map, List.length_append, List.length_cons] at this
      omega
    have k := fall_ok (dn := sortS (s.dn ++ [a])) h1 (os := done) hr fun o ho => hin o (List.mem_append_left _ ho)
    have k1 := lay_ok k (p := (b, a)) (ws := []) hb h1 (fun w hw => by cases hw) (Nat.zero_le _)
    have e0 : fallRd (sortS (s.dn ++ [a])) a s.rd (done ++ [b]) = fallRd1 (sortS (s.dn ++ [a])) a (fallRd (sortS (s.dn ++ [a])) a s.rd done) b := by
      unfold fallRd; rw [List.foldl_append]; rfl
    have g0 := get_set (o' := hallO c { s with dn := sortS (s.dn ++ [a]), rd := fallRd (sortS (s.dn ++ [a])) a s.rd done } m ca ba) hh.at_
    refine sq_lay (p := (b, a)) (ws := []) g0 k (keys6 hh.co) (ev_var rfl) (ev_tup (ea_cons (ev_var rfl) (ea_cons (ev_var rfl) ea_nil)) rfl (Nat.le_of_ble_eq_true rfl)) (ev_tup ea_nil rfl (Nat.le_of_ble_eq_true rfl)) ?_
    rw [List.set_set]
    have g1 := get_set (o' := hallO c { s with dn := sortS (s.dn ++ [a]), rd := layRd (fallRd (sortS (s.dn ++ [a])) a s.rd done) (b, a) [] } m ca ba) hh.at_
    refine st_if (et_test (ev_op (ev_var rfl) (ev_f (ev_var rfl) g1 f_dn rfl) g_ninTs)) (fun e => ?_) (fun e => ?_)
    · have e' : b ∉ sortS (s.dn ++ [a]) := by simpa using e
      refine st_lay (p := (a, b)) (ws := lies (layRd (fallRd (sortS (s.dn ++ [a])) a s.rd done) (b, a) []) a b ++ [("!" : Str)]) g1 k1 (keys6 hh.co) (ev_var rfl) (ev_tup (ea_cons (ev_var rfl) (ea_cons (ev_var rfl) ea_nil)) rfl (Nat.le_of_ble_eq_true rfl)) (ev_addw (ev_lies (ev_var rfl) (ev_var rfl) (ev_var rfl) g1) ev_c ?_) (hn _ _ ⟨done ++ [b], by rw [hd]; simp, ?_, _, rfl⟩)
      · have := (lies_ok k1 a b).1
        show (lies (layRd (fallRd (sortS (s.dn ++ [a])) a s.rd done) (b, a) []) a b).length ≤ 1000
        omega
      · rw [List.set_set, e0, fallRd1, if_neg e']
    · have e' : b ∈ sortS (s.dn ++ [a]) := by simpa using e
      refine hn _ _ ⟨done ++ [b], by rw [hd]; simp, ?_, _, rfl⟩
      rw [e0, fallRd1, if_pos e']
  · rintro ss _ ⟨done, hd, rfl, w2, rfl⟩
    rw [List.append_nil] at hd
    subst hd
    exact st_ret (ev_tup (ea_cons ev_c (ea_cons (ev_var rfl) ea_nil)) rfl (Nat.le_of_ble_eq_true rfl)) ⟨_, left_same, q⟩

end K36
/-! ## part B8 -/
namespace K36
open PySem PySem.Spec
open R
theorem st_retB {g : Gn} {e : WE} {ss : SS} {G : GH} {C : Cn} (h : e ss G (fun u G1 => g [u] G1 C.rt) fun x G1 => C.ex x ss G1) : sRet (eCallB g (aCons e aNil)) ss G C := h
theorem wp_lc {ι : WI} {γ : WG} {τ : WT} {ε : WE} {ws : List Nat} {ss : SS} {G : GH} {us : List U} {P : PU} {p : PX} (hι : Ei ι ss G us) (h : ∀ cur : Cur, (∀ G', cur G' = some us) → lcL G.length cur us γ τ ε (wipeU ss ws) us (G ++ [MO.lst []]) fun G2 => frzU (.r G.length) G2 fun u G1 => ∃ G', Left G.length u G1 G' ∧ P u G') : eVal (eLc ι γ τ ε ws) ss G P p := by
  refine hι _ _ fun cur hc => ?_
  show (match cur G with
    | some us => lcL G.length cur us γ τ ε (wipeU ss ws) us (G ++ [MO.lst []]) _
    | none => False)
  rw [hc G]
  exact h cur hc
theorem lcL_one {cur : Cur} {all us : List U} {γ : WG} {ε : WE} {base ss1 : SS} {n : Nat} {u : U} {G : GH} {P : GH → Prop} (hc : ∀ G', cur G' = some all) (hp : Pat γ u base G ss1) (h : ε ss1 G (fun y G3 => match G3[n]? with
      | some (.lst acc) => acc.length < sizeLine ∧ lcL n cur all γ tYes' ε base us (G3.set n (.lst (acc ++ [y]))) P
      | _ => False) noX) : lcL n cur all γ tYes' ε base (u :: us) G P := ⟨hc _, hp _ h⟩
theorem shapes_nz : nzAll [PyData.tuple [.str "say", .int 4], .tuple [.str "hear", .int 3], .tuple [.str "fall", .int 2]] = true := rfl
theorem law_is_shaped : ∀ us G Q p, Closed G → sp_is_shaped us G Q p → ph_is_shaped (startU N_is_shaped us) G (Cnd G Q p) := by
  rintro _ G Q p hG ⟨_, ⟨d, rfl, rfl⟩, q⟩
  refine law_of (fun C kk => ?_) q
  obtain ⟨k, l, e1, e2⟩ : ∃ k l, d.d = .tuple (.str k :: l) ∧ ([PyData.tuple [.str "say", .int 4], .tuple [.str "hear", .int 3], .tuple [.str "fall", .int 2]].any fun y => PyData.eqv y (.tuple [.str k, .int ((l.length : Int) + 1)])) = true := by
    have key : ∀ k : Str, ∀ n : Int, (PyData.tuple [.str k, .int n]) ∈ [PyData.tuple [.str "say", .int 4], .tuple [.str "hear", .int 3], .tuple [.str "fall", .int 2]] → ([PyData.tuple [.str "say", .int 4], .tuple [.str "hear", .int 3], .tuple [.str "fall", .int 2]].any fun y => PyData.eqv y (.tuple [.str k, .int n])) = true := fun k n h => (any_nz shapes_nz rfl).mpr h
    cases d with
    | say a o w => exact ⟨"say", _, rfl, key _ _ (by simp)⟩
    | hear a o => exact ⟨"hear", _, rfl, key _ _ (by simp)⟩
    | fall a => exact ⟨"fall", _, rfl, key _ _ (by simp)⟩
  have ev0 : ∀ {ss : SS} {G : GH}, ss[0]? = some (some (.d d.d)) → Ev (eVar 0) ss G (.d (.tuple (.str k :: l))) := fun h => ev_as (ev_var h) (by rw [e1])
  have i0 : L2.atI (PyData.str k :: l) 0 = some (.str k) := L2.atI_nat (j := 0) rfl
  refine sq_else (p := !true || (decide (((PyData.str k :: l).length : Int) = 0) || !true)) (et_or (et_not (et_test (ev_isT (ev0 rfl)))) fun _ => et_or (et_test (ev_op (ev_callB (ea_cons (ev0 rfl) ea_nil) n_lenT) ev_c g_eqI)) fun _ => et_not (et_test (ev_isS (ev_op (ev0 rfl) ev_c (g_ixT i0))))) (by simp; omega) ?_
  refine st_ret' (ev_op (ev_tup (ea_cons (ev_op (ev0 rfl) ev_c (g_ixT i0)) (ea_cons (ev_callB (ea_cons (ev0 rfl) ea_nil) n_lenT) ea_nil)) rfl (Nat.le_of_ble_eq_true rfl)) (ev_var rfl) (g_inK (inOk_nz rfl shapes_nz ?_))) ?_ kk
  · simp [PyData.depth, PyData.depthAll]
  · rw [List.length_cons, show (((l.length + 1 : Nat) : Int)) = (l.length : Int) + 1 by omega, e2]
    rfl
theorem use_shaped {d : Deed} {G : GH} : ∀ (P : PU) (p : PX), P yes G → sp_is_shaped [.d d.d, .k shapesD] G P p := fun P p q => ⟨_, ⟨_, rfl, rfl⟩, q⟩
theorem pat_star3 {i j k : Nat} {d e : PyData} {l : List PyData} {ss : SS} {G : GH} (h : l.length ≤ 16000) : Pat (gdStar 3 2 (gdCons (gdName i) (gdCons (gdName j) (gdCons (gdName k) gdNil)))) (.d (.tuple (d :: e :: l))) ss G (((ss.set i (some (.d d))).set j (some (.d e))).set k (some (.d (.list l)))) := fun P q => by
  refine ⟨by simp, by rw [List.length_cons, List.length_cons]; omega, ?_⟩
  simp only [List.take_succ_cons, List.take_zero, List.drop_succ_cons, List.drop_zero, List.length_cons]
  rw [show l.length + 1 + 1 + 1 - 3 = l.length by omega, List.take_length, List.drop_length]
  exact ⟨rfl, q⟩
theorem step0_ld (c : Cfg) (s : HS) (d : Deed) : (step0 c s d).2.ld = s.ld := by cases d <;> rfl
theorem law_Hall_put : ∀ us G Q p, Closed G → sp_Hall_put us G Q p → ph_Hall_put (startU N_Hall_put us) G (Cnd G Q p) := by
  rintro _ G Q p hG ⟨h, c, s, m, ca, ba, d, rfl, hh, hd, q⟩
  unfold ph_Hall_put
  refine sq_else (p := !true) (et_not (et_test (ev_call (ea_cons (ev_var rfl) (ea_cons ev_k ea_nil)) rfl use_shaped))) rfl ?_
  have hf := hh.ok.few
  have fin : ∀ x2 x3 x4, (sSeq (sAsg (eOp gAdd (eFld TT (eVar 0) "laid") (eLst (aCons (eVar 5) aNil))) (gdFld TT (eVar 0) "laid")) (sRet (eVar 5))) [some (.r h), some (.d d.d), x2, x3, x4, some (.d (step0 c s d).1.d)] (G.set h (hallO c (step0 c s d).2 m ca ba)) (Cnd G Q p) := by
    intro x2 x3 x4
    have hg := get_set (o' := hallO c (step0 c s d).2 m ca ba) hh.at_
    refine sq_f (u := .d (ldD (s.ld ++ [(step0 c s d).1]))) (ev_as (ev_op (ev_f (ev_var rfl) hg f_ld rfl) (ev_lst (ea_cons (ev_var rfl) ea_nil) rfl (Nat.le_of_ble_eq_true rfl)) (g_addL (few_size ?_))) ?_) (ev_var rfl) hg put_ld rfl ?_
    · rw [step0_ld, List.length_map, List.length_singleton]; omega
    · rw [step0_ld]; simp [ldD]
    · rw [List.set_set]
      exact st_ret (ev_var rfl) ⟨_, left_same, q⟩
  cases d with
  | say a b w =>
    refine sq_pat (ev_var rfl) (pat_star3 (l := [.str b, .str w]) (by simp)) ?_
    refine st_seq (st_then (et_test (ev_op (ev_var rfl) ev_c g_eqS)) (decide_eq_true rfl) ?_)
    refine wp_meth (ev_var rfl) hh.at_ rfl (ea_cons (ev_var rfl) (ea_cons (ev_op (ev_var rfl) ev_c (g_ixL (d := .str b) rfl)) (ea_cons (ev_op (ev_var rfl) ev_c (g_ixL (d := .str w) rfl)) ea_nil))) rfl ⟨_, _, _, _, _, _, _, _, _, rfl, hh, hd, fin _ _ _⟩
  | hear a b =>
    refine sq_pat (ev_var rfl) (pat_star3 (l := [.str b]) (by simp)) ?_
    refine st_seq (st_else (et_test (ev_op (ev_var rfl) ev_c g_eqS)) (decide_eq_false (by decide)) (st_then (et_test (ev_op (ev_var rfl) ev_c g_eqS)) (decide_eq_true rfl) ?_))
    refine wp_meth (ev_var rfl) hh.at_ rfl (ea_cons (ev_var rfl) (ea_cons (ev_op (ev_var rfl) ev_c (g_ixL (d := .str b) rfl)) ea_nil)) rfl ⟨_, _, _, _, _, _, _, _, rfl, hh, hd, fin _ _ _⟩
  | fall a =>
    refine sq_pat (ev_var rfl) (pat_star3 (l := []) (by simp)) ?_
    refine st_seq (st_else (et_test (ev_op (ev_var rfl) ev_c g_eqS)) (decide_eq_false (by decide)) (st_else (et_test (ev_op (ev_var rfl) ev_c g_eqS)) (decide_eq_false (by decide)) ?_))
    refine wp_meth (ev_var rfl) hh.at_ rfl (ea_cons (ev_var rfl) ea_nil) rfl ⟨_, _, _, _, _, _, _, rfl, hh, hd, fin _ _ _⟩
theorem law_Hall_each_put : ∀ us G Q p, Closed G → sp_Hall_each_put us G Q p → ph_Hall_each_put (startU N_Hall_each_put us) G (Cnd G Q p) := by
  rintro _ G Q p hG ⟨h, c, s, m, ca, ba, d, rfl, hh, hd, q⟩
  unfold ph_Hall_each_put
  have hm := hall_below hG hh.at_
  refine sq_else (p := !true || decide ((1 : Int) = 0)) (et_or (et_not (et_test (ev_isT (ev_var rfl)))) fun _ => et_test (ev_op (ev_callB (ea_cons (ev_var rfl) ea_nil) n_lenT) ev_c g_eqI)) rfl ?_
  have hc : Closed (G.set h (hallO c (step c s d).2 m ca ba)) := hall_closed hG hm
  refine st_retB (wp_lc (ei_T (l := [d.d]) (ev_var rfl)) fun cur hcur => ?_)
  refine lcL_one hcur pat_name ?_
  refine wp_meth (ev_var rfl) (gapp hh.at_) rfl (ea_cons (ev_var rfl) ea_nil) rfl ⟨_, _, _, _, _, _, _, rfl, hh.app, hd, ?_⟩
  rw [set_app hh.at_]
  have hl : (G.set h (hallO c (step c s d).2 m ca ba)).length = G.length := List.length_set
  show (match (G.set h (hallO c (step c s d).2 m ca ba) ++ [MO.lst []])[G.length]? with
      | some (.lst acc) => acc.length < sizeLine ∧ lcL G.length cur _ (gdName 2) tYes' _ _ [] ((G.set h (hallO c (step c s d).2 m ca ba) ++ [MO.lst []]).set G.length (.lst (acc ++ [.d (step c s d).1.d]))) _
      | _ => False)
  rw [← hl, get_last]
  refine ⟨by have := sizeLine_eq; simp; omega, ?_⟩
  rw [set_last]
  refine ⟨hcur _, ?_⟩
  refine frz_lst (l := [(step c s d).1.d]) ?_
  rw [set_last]
  exact ⟨_, left_drop (T := [MO.dead]) hc, _, left_same, q⟩

end K36
/-! ## part B9 -/
namespace K36
open PySem PySem.Spec
open R
theorem sq_app {o e : WE} {χ : WS} {C : Cn} {ss : SS} {G : GH} {n : Nat} {xs : List U} {u : U} (ho : Ev o ss G (.r n)) (hG : G[n]? = some (.lst xs)) (he : Ev e ss G u) (hz : xs.length < 100000) (k : χ ss (G.set n (.lst (xs ++ [u]))) C) : sSeq (sExpr (eMeth "list" gAppend o (aCons e aNil))) χ ss G C := st_seq (st_app ho hG he hz k)
theorem gdcn {i : Nat} {r : WGs} {u : U} {us : List U} {ss : SS} {G : GH} {P : SS → GH → Prop} (h : r us (ss.set i (some u)) G P) : gdCons (gdName i) r (u :: us) ss G P := h
theorem gdc {a : WG} {r : WGs} {u : U} {us : List U} {ss : SS} {G : GH} {P : SS → GH → Prop} (h : a u ss G fun ss1 G1 => r us ss1 G1 P) : gdCons a r (u :: us) ss G P := h
theorem sq_unp {n : Nat} {α : WA} {r : WGs} {χ : WS} {us : List U} {ss : SS} {G : GH} {C : Cn} (ha : Ea α ss G us) (hn : us.length = n) (h : r us ss G fun ss1 G1 => χ ss1 G1 C) : sSeq (sUnp n α r) χ ss G C := ha _ _ ⟨hn, h⟩
theorem gdn {ss : SS} {G : GH} {P : SS → GH → Prop} (h : P ss G) : gdNil [] ss G P := ⟨rfl, h⟩
theorem wp_listR {G : GH} {m : Nat} {L : List U} {P : PU} (h : G[m]? = some (.lst L)) (k : P (.r G.length) (G ++ [.lst L])) : gListH [.r m] G P := by
  show (match G[m]? with
    | some (.lst us) => P (.r G.length) (G ++ [.lst us])
    | _ => False)
  rw [h]; exact k
theorem sq_wunp2 {a b : WE} {r : WGs} {χ : WS} {ss : SS} {G : GH} {C : Cn} {u : U} (ha : Ev a ss G u) (h : ∀ p, b ss G (fun v G1 => ([u, v] : List U).length = 2 ∧ r [u, v] ss G1 fun ss1 G2 => χ ss1 G2 C) p) : sSeq (sUnp 2 (aCons a (aCons b aNil)) r) χ ss G C := ha _ _ (by
  exact h _)
theorem wp_aug {T : Tab} {o e : WE} {g : G2} {f c : Str} {fs : List (Str × U)} {ss : SS} {G : GH} {C : Cn} {n : Nat} {u w z : U} (ho : Ev o ss G (.r n)) (hG : G[n]? = some (.ins c fs)) (hb : Bears T c f = true) (hf : fs.lookup f = some u) (he : Ev e ss G w) (hg : Eg g u w G z) (hz : fs.length < 1000) (k : C.nx ss (G.set n (.ins c (putU f z fs)))) : sFldAug T o e g f ss G C := ho _ _ (by
  show (match G[n]? with
    | some (.ins c fs) => Bears T c f = true ∧ (match fs.lookup f with
      | some u => e ss G (fun w G2 => g u w G2 fun z G3 => ∃ fs', G3[n]? = some (.ins c fs') ∧ fs'.length < 1000 ∧ C.nx ss (G3.set n (.ins c (putU f z fs')))) (fun x G1 => C.ex x ss G1)
      | none => False)
    | _ => False)
  rw [hG]
  refine ⟨hb, ?_⟩
  rw [hf]
  exact he _ _ (hg _ ⟨fs, hG, hz, k⟩))
theorem g_addI2 {k l : Int} {G : GH} : Eg gAddI (.d (.int k)) (.d (.int l)) G (.d (.int (k + l))) := fun _ q => q
theorem sq_aug {o e : WE} {g : G2} {χ : WS} {f : Str} {c : Cfg} {s : HS} {m n : Nat} {ca ba : Int} {fs : List (Str × U)} {ss : SS} {G : GH} {C : Cn} {u w z : U} (ho : Ev o ss G (.r n)) (hG : G[n]? = some (hallO c s m ca ba)) (hf : List.lookup f (hallF c s m ca ba) = some u) (hb : (fNames.any fun g => decide (g = f)) = true) (he : Ev e ss G w) (hg : Eg g u w G z) (hp : putU f z (hallF c s m ca ba) = fs) (k : χ ss (G.set n (.ins "Hall" fs)) C) : sSeq (sFldAug TT o e g f) χ ss G C := wp_aug (C := { C with nx := fun ss1 G1 => χ ss1 G1 C }) ho hG (bears hb) hf he hg (Nat.le_of_ble_eq_true rfl) (by rw [hp]; exact k)
theorem sq_fin {e : WE} {i : Nat} {φ χ : WS} {ss : SS} {G : GH} {C : Cn} (h : ∀ p, e ss G (fun u G1 => φ (ss.set i (some u)) G1 { nx := fun ss1 G1 => χ ss1 G1 C, rt := C.rt, bk := C.bk, ct := C.ct, ex := fun _ _ _ => False }) p) : sSeq (sFin (sAsg e (gdName i)) φ) χ ss G C := h _
theorem sq_wasg {e : WE} {γ : WG} {χ : WS} {ss : SS} {G : GH} {C : Cn} (h : e ss G (fun u G1 => γ u ss G1 fun ss1 G2 => χ ss1 G2 C) fun x G1 => C.ex x ss G1) : sSeq (sAsg e γ) χ ss G C := h
theorem st_asg2 {e : WE} {γ γ' : WG} {ss : SS} {G : GH} {C : Cn} {u : U} (he : Ev e ss G u) (h : γ u ss G fun ss1 G2 => γ' u ss1 G2 C.nx) : sAsg2 e γ γ' ss G C := he _ _ h
theorem set2 {G : List MO} {h : Nat} {o o' : MO} : (G.set h o).set h o' = G.set h o' := List.set_set ..
theorem law_Hall_told : ∀ us G Q p, Closed G → sp_Hall_told us G Q p → ph_Hall_told (startU N_Hall_told us) G (Cnd G Q p) := by
  rintro _ G Q p hG ⟨h, c, s, m, ca, ba, d, L, rfl, hh, hd, hne, hL, hz, q⟩
  unfold ph_Hall_told
  refine sq_unp (ea_cons (ev_f (ev_var rfl) hh.at_ f_st rfl) (ea_cons (ev_f (ev_var rfl) hh.at_ f_rd rfl) (ea_cons (ev_f (ev_var rfl) hh.at_ f_dn rfl) (ea_cons (ev_f (ev_var rfl) hh.at_ f_ld rfl) ea_nil)))) rfl (gdcn (gdcn (gdcn (gdcn (gdn ?_)))))
  refine sq_name ev_c ?_
  refine sq_aug (ev_var rfl) hh.at_ f_ca rfl ev_c g_addI2 put_ca ?_
  have g1 := get_set (o' := hallO c s m (ca + 1) ba) hh.at_
  refine sq_aug (ev_var rfl) g1 f_ba rfl ev_c g_addI2 put_ba ?_
  rw [set2]
  have g2 := get_set (o' := hallO c s m (ca + 1) (ba + 1)) hh.at_
  refine sq_fin fun pp => wp_meth (ev_var rfl) g2 rfl (ea_cons (ev_var rfl) ea_nil) rfl ⟨_, _, _, _, _, _, _, rfl, ⟨g2, hh.co, hh.ok⟩, hd, ?_⟩
  rw [set2]
  have g3 := get_set (o' := hallO c (step c s d).2 m (ca + 1) (ba + 1)) hh.at_
  refine st_else (et_test (ev_op (ev_var rfl) ev_c g_isN)) rfl ?_
  dsimp only [sSkip]
  refine sq_aug (ev_var rfl) g3 f_ba rfl ev_c g_sub put_ba ?_
  rw [set2, show ba + 1 - 1 = ba by omega]
  have g4 := get_set (o' := hallO c (step c s d).2 m (ca + 1) ba) hh.at_
  have gm : (G.set h (hallO c (step c s d).2 m (ca + 1) ba))[m]? = some (.lst L) := by rw [List.getElem?_set_ne hne]; exact hL
  refine sq_app (u := .d (aheadD s)) (ev_f (ev_var rfl) g4 f_ah rfl) gm (ev_tup (ea_cons (ev_var rfl) (ea_cons (ev_var rfl) (ea_cons (ev_var rfl) (ea_cons (ev_var rfl) ea_nil)))) rfl (Nat.le_of_ble_eq_true rfl)) (by omega) ?_
  exact st_ret (ev_var rfl) ⟨_, left_same, q⟩
theorem law_Hall_do : ∀ us G Q p, Closed G → sp_Hall_do us G Q p → ph_Hall_do (startU N_Hall_do us) G (Cnd G Q p) := by
  rintro _ G Q p hG ⟨h, c, s, m, ca, ba, d, L, rfl, hh, hd, hne, hL, hz, q⟩
  unfold ph_Hall_do
  refine st_retw (wp_op (wp_meth (ev_var rfl) hh.at_ rfl (ea_cons (ev_tup (ea_cons (ev_var rfl) ea_nil) rfl (Nat.le_of_ble_eq_true rfl)) ea_nil) rfl ⟨_, _, _, _, _, _, _, _, rfl, hh, hd, hne, hL, hz, ?_⟩))
  exact ev_c _ _ (g_ixT (d := (step c s d).1.d) rfl _ ⟨_, left_same, q⟩)
/-! ### made anew -/
theorem sq_i {e o : WE} {χ : WS} {ss : SS} {G : GH} {C : Cn} {n : Nat} {f : Str} {u : U} {fs : List (Str × U)} (hn : n < G.length) (ha : Ev e ss (G.set n (.ins "Hall" fs)) u) (ho : Ev o ss (G.set n (.ins "Hall" fs)) (.r n)) (hb : (fNames.any fun g => decide (g = f)) = true) (hz : fs.length ≤ 999) (k : χ ss (G.set n (.ins "Hall" (putU f u fs))) C) : sSeq (sAsg e (gdFld TT o f)) χ ss (G.set n (.ins "Hall" fs)) C :=
  st_seq (st_fld ha ho (List.getElem?_set_self hn) (bears hb) (by omega) (by
    show χ ss ((G.set n (.ins "Hall" fs)).set n (.ins "Hall" (putU f u fs))) C
    rw [List.set_set]; exact k))
theorem wp_gdFld {T : Tab} {o : WE} {f c : Str} {u : U} {fs : List (Str × U)} {ss : SS} {G : GH} {n : Nat} {P : SS → GH → Prop} (hn : n < G.length) (ho : Ev o ss (G.set n (.ins c fs)) (.r n)) (hb : Bears T c f = true) (hz : fs.length ≤ 999) (k : P ss (G.set n (.ins c (putU f u fs)))) : gdFld T o f u ss (G.set n (.ins c fs)) P := ho _ _ (by
  unfold setF
  simp only [List.getElem?_set_self hn]
  refine ⟨hb, by omega, ?_⟩
  rw [List.set_set]; exact k)
theorem ev_dict0 {ss : SS} {G : GH} (hG : Closed G) : Ev (eVal eDict0) ss G (.d (.dict [])) := fun P p q => by
  unfold eVal eScope eFrz eDict0
  refine frz_dct (ds := []) ?_
  rw [set_last]
  exact ⟨_, left_drop hG, q⟩
theorem data_fields {c : Str} {l : List (Str × PyData)} {k : Nat} : MO.below k (.ins c (l.map fun p => (p.1, .d p.2))) = true := by
  simp only [MO.below, List.all_eq_true]
  intro u hu
  obtain ⟨d, _, rfl⟩ := List.mem_map.mp hu
  rfl
theorem law_Hall___init__ : ∀ us G Q p, Closed G → sp_Hall___init__ us G Q p → ph_Hall___init__ (startU N_Hall___init__ us) G (Cnd G Q p) := by
  rintro _ G Q p hG ⟨h, c, rfl, hc, hh, q⟩
  unfold ph_Hall___init__
  have hlt := (List.getElem?_eq_some_iff.mp hh).1
  have hf := hc.ends.few
  refine sq_else (p := !true) (et_not (et_test (ev_call (ea_cons (ev_var rfl) ea_nil) rfl fun P p q => ⟨_, ⟨_, rfl, hc.ends, rfl⟩, q⟩))) rfl ?_
  refine sq_else (p := !true) (et_not (et_test (ev_call (ea_cons (ev_var rfl) ea_nil) rfl fun P p q => ⟨_, ⟨_, rfl, hc.room, rfl⟩, q⟩))) rfl ?_
  refine sq_else (p := !true) (et_not (et_test (ev_call (ea_cons (ev_var rfl) (ea_cons (ev_var rfl) ea_nil)) rfl fun P p q => ⟨_, ⟨_, rfl, hc, rfl⟩, q⟩))) rfl ?_
  have e0 : G = G.set h (.ins "Hall" []) := by
    apply List.ext_getElem?
    intro i
    by_cases hi : h = i
    · rw [← hi, hh, List.getElem?_set_self hlt]
    · rw [List.getElem?_set_ne hi]
  have nd : (c.ends.map (·.1)).Nodup := hc.ends.nd
  have cl : ∀ l : List (Str × PyData), Closed (G.set h (.ins "Hall" (l.map fun p => (p.1, .d p.2)))) := fun l => closed_set hG data_fields
  have go : ∀ C : Cn, (∀ G', G' = G.set h (hallO c (start c.ends) G.length 0 0) ++ [.lst []] → C.nx [some (.r h), some (.d (endsD c.ends)), some (.d (roomD c.room)), some (.d (strsD c.weak)), none, none] G') → sSeq (sUnp 3 (aCons (eVar 1) (aCons (eVar 2) (aCons (eVar 3) aNil))) (gdCons (gdFld TT (eVar 0) "ends") (gdCons (gdFld TT (eVar 0) "room") (gdCons (gdFld TT (eVar 0) "weak") gdNil)))) (sSeq (sAsg (eVal (eDc (iSeq (eVar 1)) (gdTup 2 (gdCons (gdName 4) (gdCons (gdName 5) gdNil))) tYes' (eVar 4) (eVar 5) [4, 5])) (gdFld TT (eVar 0) "end_states")) (sSeq (sAsg (eVal (eDc (iSeq (eVar 1)) (gdTup 2 (gdCons (gdName 4) (gdCons (gdName 5) gdNil))) tYes' (eVar 4) (eC (.int 0)) [4, 5])) (gdFld TT (eVar 0) "standing")) (sSeq (sAsg (eVal eDict0) (gdFld TT (eVar 0) "on_roads")) (sSeq (sAsg (eTup aNil) (gdFld TT (eVar 0) "down")) (sSeq (sAsg (eLst aNil) (gdFld TT (eVar 0) "laid")) (sSeq (sAsg (eLstH aNil) (gdFld TT (eVar 0) "aheads")) (sAsg2 (eC (.int 0)) (gdFld TT (eVar 0) "called") (gdFld TT (eVar 0) "barred")))))))) [some (.r h), some (.d (endsD c.ends)), some (.d (roomD c.room)), some (.d (strsD c.weak)), none, none] (G.set h (.ins "Hall" [])) C := by
    intro C hC
    refine sq_unp (ea_cons (ev_var rfl) (ea_cons (ev_var rfl) (ea_cons (ev_var rfl) ea_nil))) rfl ?_
    refine gdc (wp_gdFld hlt (ev_var rfl) (bears rfl) (Nat.le_of_ble_eq_true rfl) ?_)
    refine gdc (wp_gdFld hlt (ev_var rfl) (bears rfl) (Nat.le_of_ble_eq_true rfl) ?_)
    refine gdc (wp_gdFld hlt (ev_var rfl) (bears rfl) (Nat.le_of_ble_eq_true rfl) ?_)
    refine gdn ?_
    refine sq_i (u := .d (estD c.ends)) hlt (ev_dc (l := c.ends) (fun e => .d (endD e)) (fun e => (.str e.1, statesD e.2)) false (cl [("ends", endsD c.ends), ("room", roomD c.room), ("weak", strsD c.weak)]) (ei_T (ev_var rfl)) (by rw [List.map_map]; rfl) (fun e he T _ => ⟨_, pat2, ev_var rfl, ev_var rfl⟩) (keys_str (g := fun e => statesD e.2) nd) (by omega)) (ev_var rfl) rfl (Nat.le_of_ble_eq_true rfl) ?_
    refine sq_i (u := .d (stD (start c.ends).st)) hlt (ev_as (ev_dc (l := c.ends) (fun e => .d (endD e)) (fun e => (.str e.1, .int 0)) false (cl [("ends", endsD c.ends), ("room", roomD c.room), ("weak", strsD c.weak), ("end_states", estD c.ends)]) (ei_T (ev_var rfl)) (by rw [List.map_map]; rfl) (fun e he T _ => ⟨_, pat2, ev_var rfl, ev_c⟩) (keys_str (g := fun e => .int 0) nd) (by omega)) ?_) (ev_var rfl) rfl (Nat.le_of_ble_eq_true rfl) ?_
    · simp [stD, start]
    refine sq_i hlt (ev_dict0 (cl [("ends", endsD c.ends), ("room", roomD c.room), ("weak", strsD c.weak), ("end_states", estD c.ends), ("standing", stD (start c.ends).st)])) (ev_var rfl) rfl (Nat.le_of_ble_eq_true rfl) ?_
    refine sq_i hlt (ev_tup ea_nil rfl (Nat.le_of_ble_eq_true rfl)) (ev_var rfl) rfl (Nat.le_of_ble_eq_true rfl) ?_
    refine sq_i hlt (ev_lst ea_nil rfl (Nat.le_of_ble_eq_true rfl)) (ev_var rfl) rfl (Nat.le_of_ble_eq_true rfl) ?_
    have hlt2 : h < (G ++ [MO.lst []]).length := by rw [List.length_append, List.length_singleton]; omega
    refine sq_wasg (wp_lstH ea_nil (Nat.le_of_ble_eq_true rfl) ?_)
    rw [List.length_set, ← set_app hh]
    refine wp_gdFld hlt2 (ev_var rfl) (bears rfl) (Nat.le_of_ble_eq_true rfl) ?_
    refine st_asg2 ev_c ?_
    refine wp_gdFld hlt2 (ev_var rfl) (bears rfl) (Nat.le_of_ble_eq_true rfl) ?_
    refine wp_gdFld hlt2 (ev_var rfl) (bears rfl) (Nat.le_of_ble_eq_true rfl) ?_
    refine hC _ ?_
    rw [set_app hh]
    rfl
  have := go (Cnd G Q p) (by rintro _ rfl; exact ⟨_, left_same, q⟩)
  rw [← e0] at this
  exact this
theorem law_Hall_twin : ∀ us G Q p, Closed G → sp_Hall_twin us G Q p → ph_Hall_twin (startU N_Hall_twin us) G (Cnd G Q p) := by
  rintro _ G Q p hG ⟨h, c, s, m, ca, ba, L, rfl, hh, hL, q⟩
  unfold ph_Hall_twin
  refine sq_wname ?_
  refine (ea_cons (ev_f (ev_var rfl) hh.at_ f_ends rfl) ea_nil : Ea _ _ _ [.d (endsD c.ends)]) _ _ ?_
  refine (ea_cons (ev_f (ev_var rfl) hh.at_ f_room rfl) (ea_cons (ev_f (ev_var rfl) hh.at_ f_weak rfl) ea_nil) : Ea _ _ _ [.d (roomD c.room), .d (strsD c.weak)]) _ _ ?_
  refine ⟨rfl, rfl, ⟨_, c, rfl, hh.co, get_last, rfl, ?_⟩⟩
  rw [set_last, List.length_append, List.length_singleton]
  have g1 : ∀ o T, (G ++ [o] ++ T)[h]? = some (hallO c s m ca ba) := fun o T => gapp (gapp hh.at_)
  have g2 : ∀ o T, ((G ++ [o]) ++ T)[G.length]? = some o := fun o T => gapp get_last
  refine sq_unp (ea_cons (ev_f (ev_var rfl) (g1 _ _) f_st rfl) (ea_cons (ev_f (ev_var rfl) (g1 _ _) f_rd rfl) (ea_cons (ev_f (ev_var rfl) (g1 _ _) f_dn rfl) ea_nil))) rfl ?_
  have hne : G.length ≠ h := by have := (List.getElem?_eq_some_iff.mp hh.at_).1; omega
  have hnm : G.length ≠ m := by have := (List.getElem?_eq_some_iff.mp hL).1; omega
  have hB : G.length < ((G ++ [MO.dead]) ++ [MO.lst []]).length := by simp
  have e1 : (G ++ [hallO c (start c.ends) (G.length + 1) 0 0]) ++ [MO.lst []] = ((G ++ [MO.dead]) ++ [MO.lst []]).set G.length (.ins "Hall" (hallF c (start c.ends) (G.length + 1) 0 0)) := by
    rw [set_app get_last, set_last]; rfl
  rw [e1]
  refine gdc (wp_gdFld hB (ev_var rfl) (bears rfl) (Nat.le_of_ble_eq_true rfl) ?_)
  refine gdc (wp_gdFld hB (ev_var rfl) (bears rfl) (Nat.le_of_ble_eq_true rfl) ?_)
  refine gdc (wp_gdFld hB (ev_var rfl) (bears rfl) (Nat.le_of_ble_eq_true rfl) ?_)
  refine gdn ?_
  have g3 : ∀ o, (((G ++ [MO.dead]) ++ [MO.lst []]).set G.length o)[h]? = some (hallO c s m ca ba) := fun o => by rw [List.getElem?_set_ne hne]; exact g1 _ _
  have g4 : ∀ o, (((G ++ [MO.dead]) ++ [MO.lst []]).set G.length o)[m]? = some (.lst L) := fun o => by rw [List.getElem?_set_ne hnm]; exact gapp (gapp hL)
  have g5 : ∀ o, ((((G ++ [MO.dead]) ++ [MO.lst []]).set G.length o) ++ [MO.lst L]) = (((G ++ [MO.dead]) ++ [MO.lst []]) ++ [MO.lst L]).set G.length o := fun o => by rw [set_app (gapp get_last)]
  have hB2 : G.length < (((G ++ [MO.dead]) ++ [MO.lst []]) ++ [MO.lst L]).length := by simp
  refine sq_wunp2 (ev_f (ev_var rfl) (g3 _) f_ld rfl) fun pp => ?_
  refine (ea_cons (ev_f (ev_var rfl) (g3 _) f_ah rfl) ea_nil : Ea _ _ _ [.r m]) _ _ (wp_listR (g4 _) ⟨rfl, ?_⟩)
  rw [g5]
  refine gdc (wp_gdFld hB2 (ev_var rfl) (bears rfl) (Nat.le_of_ble_eq_true rfl) ?_)
  refine gdc (wp_gdFld hB2 (ev_var rfl) (bears rfl) (Nat.le_of_ble_eq_true rfl) ?_)
  refine gdn ?_
  refine st_ret (ev_var rfl) ⟨_, left_same, ?_⟩
  have e2 : (((G ++ [MO.dead]) ++ [MO.lst []]) ++ [MO.lst L]).set G.length (hallO c s (G.length + 2) 0 0) = G ++ [hallO c s (G.length + 2) 0 0, .lst [], .lst L] := by
    rw [set_app (gapp get_last), set_app get_last, set_last]; simp
  rw [← e2] at q
  rw [show (((G ++ [MO.dead]) ++ [MO.lst []]).set G.length _).length = G.length + 2 from by simp]
  exact q

end K36
/-! ## part M1 -/
namespace K36
open PySem PySem.Spec
open R
/-! ### what deeds do to roads, states and fallen hands -/
theorem lookup_app {κ α : Type} [BEq κ] [LawfulBEq κ] {k : κ} : ∀ {l l' : List (κ × α)}, (l ++ l').lookup k = (l.lookup k).or (l'.lookup k)
  | [], l' => by simp
  | x :: l, l' => by
    rw [List.cons_append, List.lookup_cons, List.lookup_cons, lookup_app (l := l)]
    cases k == x.1 <;> simp
theorem lookup_filter {κ α : Type} [BEq κ] [LawfulBEq κ] [DecidableEq κ] {p k : κ} : ∀ {l : List (κ × α)}, (l.filter fun q => !decide (q.1 = p)).lookup k = if k = p then none else l.lookup k
  | [] => by simp
  | x :: l => by
    by_cases hx : x.1 = p
    · rw [List.filter_cons_of_neg (by simp [hx]), lookup_filter (l := l), List.lookup_cons]
      by_cases hk : k = p
      · rw [if_pos hk, if_pos hk]
      · rw [if_neg hk, if_neg hk, show (k == x.1) = false by simpa [hx] using hk]
    · rw [List.filter_cons_of_pos (by simp [hx]), List.lookup_cons, List.lookup_cons, lookup_filter (l := l)]
      by_cases hk : k = p
      · rw [if_pos hk, if_pos hk, show (k == x.1) = false by simpa [hk] using Ne.symm hx]
      · rw [if_neg hk, if_neg hk]
theorem lies_lay {rd : Roads} {p : Str × Str} {ws : List Str} {a b : Str} : lies (layRd rd p ws) a b = if (a, b) = p then ws else lies rd a b := by
  unfold lies layRd
  rw [lookup_app, lookup_filter]
  by_cases h : (a, b) = p
  · rw [if_pos h, if_pos h]
    by_cases e : ws = []
    · rw [if_pos e, e]; rfl
    · rw [if_neg e, List.lookup_cons, show ((a, b) == p) = true by simpa using h]; rfl
  · rw [if_neg h, if_neg h]
    by_cases e : ws = []
    · rw [if_pos e]; simp
    · rw [if_neg e, List.lookup_cons, show ((a, b) == p) = false by simpa using h]
      simp
theorem lookup_move {st : List (Str × Int)} {a h : Str} {b : Int} : (moveSt st a b).lookup h = if h = a then (st.lookup h).map (fun _ => b) else st.lookup h := by
  unfold moveSt
  induction st with
  | nil => simp
  | cons x l ih =>
    rw [List.map_cons, List.lookup_cons, List.lookup_cons, ih]
    by_cases e : h = x.1
    · rw [show (h == x.1) = true by simpa using e]
      by_cases e2 : h = a
      · have e3 : x.1 = a := by rw [← e]; exact e2
        simp [e2, e3]
      · have e3 : ¬ x.1 = a := by rw [← e]; exact e2
        simp [e2, e3]
    · rw [show (h == x.1) = false by simpa using e]
theorem fall1_lies {dn : List Str} {h o : Str} {rd : Roads} (hh : h ∈ dn) {a b : Str} : lies (fallRd1 dn h rd o) a b = if b = h ∧ a = o then [] else if a = h ∧ b = o ∧ b ∉ dn then lies rd a b ++ [("!" : Str)] else lies rd a b := by
  unfold fallRd1
  by_cases ho : o ∈ dn
  · rw [if_pos ho, lies_lay]
    by_cases h1 : b = h ∧ a = o
    · rw [if_pos h1, if_pos (by rw [h1.1, h1.2])]
    · rw [if_neg h1, if_neg (fun e => h1 (by cases e; exact ⟨rfl, rfl⟩)), if_neg]
      rintro ⟨_, rfl, h2⟩
      exact h2 ho
  · rw [if_neg ho, lies_lay, lies_lay, lies_lay]
    have hn : h ≠ o := fun e => ho (e ▸ hh)
    by_cases h1 : b = h ∧ a = o
    · obtain ⟨rfl, rfl⟩ := h1
      simp [hn, Ne.symm hn]
    · rw [if_neg h1]
      by_cases h2 : a = h ∧ b = o
      · obtain ⟨rfl, rfl⟩ := h2
        simp [hn, Ne.symm hn, ho]
      · have e1 : ¬ (a, b) = (h, o) := fun e => h2 (by cases e; exact ⟨rfl, rfl⟩)
        have e2 : ¬ (a, b) = (o, h) := fun e => h1 (by cases e; exact ⟨rfl, rfl⟩)
        rw [if_neg e1, if_neg e2, if_neg (fun h3 => h2 ⟨h3.1, h3.2.1⟩)]
theorem fall_lies {dn : List Str} {h : Str} (hh : h ∈ dn) {a b : Str} : ∀ {os : List Str} {rd : Roads}, os.Nodup → lies (fallRd dn h rd os) a b = if b = h ∧ a ∈ os then [] else if a = h ∧ b ∈ os ∧ b ∉ dn then lies rd a b ++ [("!" : Str)] else lies rd a b
  | [], rd, _ => by simp [fallRd]
  | o :: os, rd, hn => by
    rw [List.nodup_cons] at hn
    show lies (fallRd dn h (fallRd1 dn h rd o) os) a b = _
    rw [fall_lies hh hn.2, fall1_lies hh]
    by_cases h1 : b = h
    · subst h1
      by_cases h2 : a ∈ os
      · simp [h2]
      · by_cases h3 : a = o
        · simp [h3, hh]
        · simp [h2, h3, hh]
    · by_cases h2 : a = h
      · subst h2
        by_cases h3 : b ∈ os
        · have h4 : b ≠ o := fun e => hn.1 (e ▸ h3)
          by_cases h5 : b ∈ dn <;> simp [h1, h3, h4, h5]
        · by_cases h4 : b = o
          · subst h4
            by_cases h5 : b ∈ dn <;> simp [h1, h3, h5]
          · simp [h1, h3, h4]
      · simp [h1, h2]
theorem mem_sortS {l : List Str} {x : Str} : x ∈ sortS l ↔ x ∈ l := (List.mergeSort_perm _ _).mem_iff
theorem lies_out {H : List Str} {n : Nat} {rd : Roads} (h : RdOk H n rd) {a b : Str} (k : a ∉ H ∨ b ∉ H) : lies rd a b = [] := by
  unfold lies
  cases e : rd.lookup (a, b) with
  | none => rfl
  | some v =>
    obtain ⟨h1, h2⟩ := h.hands _ (lookup_in2 e)
    rcases k with k | k
    · exact absurd h1 k
    · exact absurd h2 k
/-- the roads behind a deed -/
theorem step_lies {c : Cfg} {s : HS} (hc : CfgOk c) (hs : HsOk c s) (d : Deed) (a b : Str) : lies (step c s d).2.rd a b = (match d with
    | .say h o w => if a = h ∧ b = o ∧ o ∉ s.dn then lies s.rd a b ++ [w] else lies s.rd a b
    | .hear h o => if a = o ∧ b = h then (lies s.rd a b).tail else lies s.rd a b
    | .fall h => if b = h then [] else if a = h ∧ b ∈ c.ends.map (·.1) ∧ b ∉ s.dn then lies s.rd a b ++ [("!" : Str)] else lies s.rd a b) := by
  cases d with
  | say h o w =>
    show lies (if o ∈ s.dn then s.rd else layRd s.rd (h, o) (lies s.rd h o ++ [w])) a b = _
    by_cases ho : o ∈ s.dn
    · simp [ho]
    · rw [if_neg ho, lies_lay]
      by_cases e : a = h ∧ b = o
      · obtain ⟨rfl, rfl⟩ := e
        simp [ho]
      · rw [if_neg (fun e' => e (by cases e'; exact ⟨rfl, rfl⟩))]
        simp only
        rw [if_neg (fun e' => e ⟨e'.1, e'.2.1⟩)]
  | hear h o =>
    show lies (layRd s.rd (o, h) (lies s.rd o h).tail) a b = _
    rw [lies_lay]
    by_cases e : a = o ∧ b = h
    · obtain ⟨rfl, rfl⟩ := e
      simp
    · rw [if_neg (fun e' => e (by cases e'; exact ⟨rfl, rfl⟩))]
      simp only
      rw [if_neg e]
  | fall h =>
    show lies (fallRd (sortS (s.dn ++ [h])) h s.rd (s.st.map (·.1))) a b = _
    rw [fall_lies (mem_sortS.mpr (by simp)) (st_nodup hs hc), hs.keys]
    simp only [mem_sortS, List.mem_append, List.mem_singleton]
    by_cases e : b = h
    · subst e
      rw [if_pos rfl]
      by_cases ha : a ∈ c.ends.map (·.1)
      · rw [if_pos ⟨rfl, ha⟩]
      · rw [if_neg (fun h => ha h.2), if_neg (by simp), lies_out (rd_of hs) (.inl ha)]
    · rw [if_neg (fun h => e h.1), if_neg e]
      by_cases e2 : a = h ∧ b ∈ c.ends.map (·.1) ∧ b ∉ s.dn
      · rw [if_pos ⟨e2.1, e2.2.1, by simp [e2.2.2, e]⟩, if_pos e2]
      · rw [if_neg (fun h => e2 ⟨h.1, h.2.1, fun h' => h.2.2 (.inl h')⟩), if_neg e2]
theorem step_dn {c : Cfg} {s : HS} {d : Deed} {x : Str} : x ∈ (step c s d).2.dn ↔ x ∈ s.dn ∨ ∃ h, d = .fall h ∧ x = h := by
  cases d with
  | say h o w => simp [step, step0]
  | hear h o => simp [step, step0]
  | fall h =>
    show x ∈ sortS (s.dn ++ [h]) ↔ _
    rw [mem_sortS]
    simp
theorem evs_of {c : Cfg} {s s' : HS} {h : Str} (e : s.st.lookup h = s'.st.lookup h) : evsAt c s h = evsAt c s' h := by unfold evsAt; rw [e]
theorem step_lookup {c : Cfg} {s : HS} {d : Deed} {h : Str} (hn : h ≠ d.hand) : (step c s d).2.st.lookup h = s.st.lookup h := by
  cases d with
  | say a o w => exact lookup_move.trans (if_neg hn)
  | hear a o => exact lookup_move.trans (if_neg hn)
  | fall a => rfl
theorem step_evs {c : Cfg} {s : HS} {d : Deed} {h : Str} (hn : h ≠ d.hand) : evsAt c (step c s d).2 h = evsAt c s h := evs_of (step_lookup hn)
theorem step_ld (c : Cfg) (s : HS) (d : Deed) : (step c s d).2.ld = s.ld ++ [(step c s d).1] := rfl

end K36
/-! ## part M2 -/
namespace K36
open PySem PySem.Spec
open R
section
variable {c : Cfg} {s : HS}
theorem behind_some {es : List Evt} {v : Evt} (hv : v ∈ es) : (behind es v.k v.o v.w).isSome = true := by
  unfold behind
  rw [Option.isSome_map, List.find?_isSome]
  exact ⟨v, hv, by simp⟩
theorem behind_mem {es : List Evt} {k o w : Str} {b : Int} (h : behind es k o w = some b) : ∃ v ∈ es, v.k = k ∧ v.o = o ∧ v.w = w ∧ v.b = b := by
  unfold behind at h
  cases e : es.find? fun e => decide (e.k = k) && (decide (e.o = o) && decide (e.w = w)) with
  | none => rw [e] at h; cases h
  | some v =>
    rw [e] at h
    have h1 := List.find?_some e
    simp only [Bool.and_eq_true, decide_eq_true_eq] at h1
    cases h
    exact ⟨v, List.mem_of_find?_eq_some e, h1.1, h1.2.1, h1.2.2, rfl⟩
theorem can_of (hc : CfgOk c) (hs : HsOk c s) {d : Deed} (h : d ∈ deeds0 c s) : Can c s d := by
  obtain ⟨a, ha, h⟩ := List.mem_flatMap.mp h
  rw [hs.keys] at ha
  by_cases hd : a ∈ s.dn
  · rw [if_pos hd] at h; cases h
  rw [if_neg hd] at h
  unfold deedsH at h
  obtain ⟨S, hS, hok, hot⟩ := state_here hs hc ha
  rcases List.mem_append.mp h with h | h
  · split at h
    · rename_i hw
      rw [List.mem_singleton.mp h]
      exact ⟨ha, hd, hw⟩
    · cases h
  · obtain ⟨v, hv, h⟩ := List.mem_flatMap.mp h
    obtain ⟨h1, h2, _⟩ := hok.evs v hv
    unfold deedsE at h
    rcases List.mem_append.mp h with h | h
    · split at h
      · rename_i hk
        rw [List.mem_singleton.mp h]
        have := behind_some hv
        rw [hk.1] at this
        exact ⟨ha, hot v hv, h2, hd, this, hk.2⟩
      · cases h
    · split at h
      · rename_i hk
        rw [List.mem_singleton.mp h]
        have hb := behind_some hv
        rw [hk.1] at hb
        obtain ⟨x, l, hl⟩ : ∃ x l, lies s.rd v.o a = x :: l := by
          cases e : lies s.rd v.o a with
          | nil => rw [e] at hk; simp at hk
          | cons x l => exact ⟨x, l, rfl⟩
        have hx : x = v.w := by rw [hl] at hk; simpa using hk.2
        refine ⟨ha, hot v hv, h2, hd, by rw [hl]; simp, ?_⟩
        rw [hl, List.headD_cons, hx]
        exact hb
      · cases h
theorem can_hand {d : Deed} (h : Can c s d) : d.hand ∈ c.ends.map (·.1) ∧ d.hand ∉ s.dn := by
  cases d with
  | say a o w => exact ⟨h.1, h.2.2.2.1⟩
  | hear a o => exact ⟨h.1, h.2.2.2.1⟩
  | fall a => exact ⟨h.1, h.2.1⟩
theorem move_ok (hc : CfgOk c) (hs : HsOk c s) {a : Str} {k o w : Str} {b : Int} (ha : a ∈ c.ends.map (·.1)) (hb : behind (evsAt c s a) k o w = some b) : ∀ h S b', c.ends.lookup h = some S → (moveSt s.st a b).lookup h = some b' → 0 ≤ b' ∧ b' < S.length := by
  intro h S b' h1 h2
  rw [lookup_move] at h2
  by_cases e : h = a
  · subst e
    obtain ⟨S', hS, hok, _⟩ := state_here hs hc ha
    rw [h1] at hS
    cases hS
    obtain ⟨v, hv, _, _, _, rfl⟩ := behind_mem hb
    obtain ⟨_, _, h3, h4⟩ := hok.evs v hv
    rw [if_pos rfl] at h2
    cases e2 : s.st.lookup h with
    | none => rw [e2] at h2; cases h2
    | some x => rw [e2] at h2; cases h2; exact ⟨h3, h4⟩
  · rw [if_neg e] at h2
    exact hs.at_ h S b' h1 h2
theorem move_keys {st : List (Str × Int)} {a : Str} {b : Int} : (moveSt st a b).map (·.1) = st.map (·.1) := by
  unfold moveSt
  rw [List.map_map]; rfl
theorem behind_word (hc : CfgOk c) (hs : HsOk c s) {a k o w : Str} {b : Int} (ha : a ∈ c.ends.map (·.1)) (hb : behind (evsAt c s a) k o w = some b) : Word w := by
  obtain ⟨S', hS, hok, _⟩ := state_here hs hc ha
  obtain ⟨v, hv, _, _, rfl, _⟩ := behind_mem hb
  exact (evB_words (hok.evs v hv).1).2
/-- a deed that can be done leaves all as it is to be -/
theorem step_ok (hc : CfgOk c) (hs : HsOk c s) {d : Deed} (hd : Can c s d) (hf : s.ld.length ≤ 29) : HsOk c (step c s d).2 := by
  have hr := rd_of hs
  have mk : ∀ s' : HS, s' = (step c s d).2 → s'.st.map (·.1) = c.ends.map (·.1) → (∀ h S b', c.ends.lookup h = some S → s'.st.lookup h = some b' → 0 ≤ b' ∧ b' < S.length) → RdOk (c.ends.map (·.1)) (6 * s.ld.length + 6) s'.rd → (∀ x ∈ (step c s d).1.ws, Word x) → (∀ h ∈ s'.dn, h ∈ c.weak) → s'.dn.Nodup → HsOk c (step c s d).2 := by
    rintro _ rfl h1 h2 h3 h4 h5 h6
    refine ⟨h1, h2, h3.nd, h3.ne, h3.hands, fun q hq => ?_, ?_, h5, h6, ?_⟩
    · rw [step_ld, List.length_append, List.length_singleton]
      exact ⟨by have := (h3.words q hq).1; omega, (h3.words q hq).2⟩
    · intro r hr
      rw [step_ld] at hr
      rcases List.mem_append.mp hr with hr | hr
      · exact hs.rows r hr
      · rw [List.mem_singleton.mp hr]; exact h4
    · rw [step_ld, List.length_append, List.length_singleton]; omega
  cases d with
  | say a o w =>
    obtain ⟨h1, h2, h3, h4, h5, h6⟩ := hd
    obtain ⟨b, hb⟩ := Option.isSome_iff_exists.mp h5
    have hw := behind_word hc hs h1 hb
    refine mk _ rfl (move_keys.trans hs.keys) ?_ ?_ ?_ hs.dn hs.dnd
    · show ∀ h S b', c.ends.lookup h = some S → (moveSt s.st a ((behind (evsAt c s a) "say" o w).getD 0)).lookup h = some b' → 0 ≤ b' ∧ b' < S.length
      rw [hb]
      exact move_ok hc hs h1 hb
    · show RdOk _ _ (if o ∈ s.dn then s.rd else layRd s.rd (a, o) (lies s.rd a o ++ [w]))
      split
      · exact rd_up hr (by omega)
      · obtain ⟨h7, h8⟩ := lies_ok hr a o
        refine lay_ok (rd_up hr (by omega)) h1 h2 (fun x hx => ?_) (by rw [List.length_append, List.length_singleton]; omega)
        rcases List.mem_append.mp hx with hx | hx
        · exact h8 x hx
        · rw [List.mem_singleton.mp hx]; exact hw
    · intro x hx
      simp only [step, step0, Row.ws, List.mem_cons, List.not_mem_nil, or_false] at hx
      rcases hx with rfl | rfl | rfl
      · exact hand_word hc h1
      · exact hand_word hc h2
      · exact hw
  | hear a o =>
    obtain ⟨h1, h2, h3, h4, h5, h6⟩ := hd
    obtain ⟨b, hb⟩ := Option.isSome_iff_exists.mp h6
    have hw := behind_word hc hs h1 hb
    refine mk _ rfl (move_keys.trans hs.keys) ?_ ?_ ?_ hs.dn hs.dnd
    · show ∀ h S b', c.ends.lookup h = some S → (moveSt s.st a ((behind (evsAt c s a) "hear" o ((lies s.rd o a).headD "")).getD 0)).lookup h = some b' → 0 ≤ b' ∧ b' < S.length
      rw [hb]
      exact move_ok hc hs h1 hb
    · show RdOk _ _ (layRd s.rd (o, a) (lies s.rd o a).tail)
      obtain ⟨h7, h8⟩ := lies_ok hr o a
      exact lay_ok (rd_up hr (by omega)) h2 h1 (fun x hx => h8 x (List.mem_of_mem_tail hx)) (by rw [List.length_tail]; omega)
    · intro x hx
      simp only [step, step0, Row.ws, List.mem_cons, List.not_mem_nil, or_false] at hx
      rcases hx with rfl | rfl | rfl
      · exact hand_word hc h1
      · exact hand_word hc h2
      · exact hw
  | fall a =>
    obtain ⟨h1, h2, h3⟩ := hd
    refine mk _ rfl hs.keys hs.at_ ?_ ?_ ?_ ?_
    · show RdOk _ _ (fallRd (sortS (s.dn ++ [a])) a s.rd (s.st.map (·.1)))
      refine rd_up (fall_ok h1 hr fun o ho => by rw [← hs.keys]; exact ho) ?_
      have := st_len hs hc
      rw [List.length_map]; omega
    · intro x hx
      simp only [step, step0, Row.ws, List.mem_cons, List.not_mem_nil, or_false] at hx
      rw [hx]; exact hand_word hc h1
    · intro x hx
      have hx : x ∈ s.dn ++ [a] := mem_sortS.mp hx
      rcases List.mem_append.mp hx with hx | hx
      · exact hs.dn x hx
      · rw [List.mem_singleton.mp hx]; exact h3
    · show (sortS (s.dn ++ [a])).Nodup
      refine (List.mergeSort_perm _ _).nodup_iff.mpr ?_
      rw [List.nodup_append]
      refine ⟨hs.dnd, by simp, ?_⟩
      intro x hx y hy e
      rw [List.mem_singleton.mp hy] at e
      exact h2 (e ▸ hx)
/-! ### deeds of unlike hands -/
theorem lies_mine (hc : CfgOk c) (hs : HsOk c s) {d : Deed} {h o : Str} (hn : h ≠ d.hand) : (lies (step c s d).2.rd h o).length ≤ (lies s.rd h o).length := by
  rw [step_lies hc hs]
  cases d with
  | say a o' w => simp only; rw [if_neg (fun e => hn e.1)]; exact Nat.le_refl _
  | hear a o' =>
    simp only
    split
    · rw [List.length_tail]; omega
    · exact Nat.le_refl _
  | fall a =>
    simp only
    split
    · exact Nat.zero_le _
    · rw [if_neg (fun e => hn e.1)]; exact Nat.le_refl _
theorem lies_its (hc : CfgOk c) (hs : HsOk c s) {d : Deed} {h o : Str} (hn : h ≠ d.hand) : ∃ t, lies (step c s d).2.rd o h = lies s.rd o h ++ t := by
  rw [step_lies hc hs]
  cases d with
  | say a o' w =>
    simp only
    split
    · exact ⟨_, rfl⟩
    · exact ⟨[], by simp⟩
  | hear a o' => simp only; rw [if_neg (fun e => hn e.2)]; exact ⟨[], by simp⟩
  | fall a =>
    simp only
    rw [if_neg (show ¬ h = a from hn)]
    split
    · exact ⟨_, rfl⟩
    · exact ⟨[], by simp⟩
theorem step_up {d : Deed} {h : Str} (hn : h ≠ d.hand) (hd : h ∉ s.dn) : h ∉ (step c s d).2.dn := by
  rw [step_dn]
  rintro (h1 | ⟨a, rfl, rfl⟩)
  · exact hd h1
  · exact hn rfl
theorem roomy_le {rd rd' : Roads} {a b : Str} (h : (lies rd' a b).length ≤ (lies rd a b).length) (k : roomy c rd a b = true) : roomy c rd' a b = true := by
  unfold roomy at k ⊢
  cases e : c.room with
  | none => rfl
  | some r =>
    rw [e] at k
    simp only [decide_eq_true_eq] at k ⊢
    omega
theorem head_app {l t : List Str} (h : l ≠ []) : (l ++ t).headD "" = l.headD "" := by
  cases l with
  | nil => exact absurd rfl h
  | cons x l => rfl
/-- it can still be done, with the same row -/
theorem can_after (hc : CfgOk c) (hs : HsOk c s) {d e : Deed} (hd : Can c s d) (he : Can c s e) (hn : d.hand ≠ e.hand) : Can c (step c s d).2 e ∧ (step c (step c s d).2 e).1 = (step c s e).1 := by
  have hne : e.hand ≠ d.hand := hn.symm
  cases e with
  | say a o w =>
    obtain ⟨h1, h2, h3, h4, h5, h6⟩ := he
    refine ⟨⟨h1, h2, h3, step_up hne h4, ?_, roomy_le (lies_mine hc hs hne) h6⟩, rfl⟩
    rw [step_evs (h := a) hne]; exact h5
  | hear a o =>
    obtain ⟨h1, h2, h3, h4, h5, h6⟩ := he
    obtain ⟨t, ht⟩ := lies_its hc hs (d := d) (h := a) (o := o) hne
    have hh : (lies (step c s d).2.rd o a).headD "" = (lies s.rd o a).headD "" := by rw [ht, head_app h5]
    refine ⟨⟨h1, h2, h3, step_up hne h4, by rw [ht]; simp [h5], ?_⟩, ?_⟩
    · rw [step_evs (h := a) hne, hh]; exact h6
    · show Row.hear a o ((lies (step c s d).2.rd o a).headD "") = .hear a o ((lies s.rd o a).headD "")
      rw [hh]
  | fall a =>
    obtain ⟨h1, h2, h3⟩ := he
    exact ⟨⟨h1, step_up hne h2, h3⟩, rfl⟩
end

end K36
/-! ## part M3 -/
namespace K36
open PySem PySem.Spec
open R
/-! ### sorting -/
theorem lt_toks {x y : PyData} : PySem.W.dataLe false id x y = !PyProof.Rows.lexLt PyProof.Rows.itemOrd (PySem.W.keyToks y) (PySem.W.keyToks x) := rfl
theorem le_trans_ (a b c : PyData) (h1 : PySem.W.dataLe false id a b = true) (h2 : PySem.W.dataLe false id b c = true) : PySem.W.dataLe false id a c = true := by
  rw [lt_toks, Bool.not_eq_true'] at *
  cases h : PyProof.Rows.lexLt PyProof.Rows.itemOrd (PySem.W.keyToks c) (PySem.W.keyToks a) with
  | false => rfl
  | true =>
    rcases PyProof.Rows.lex_negTrans _ (PySem.W.keyToks b) _ h with k | k
    · rw [h2] at k; cases k
    · rw [h1] at k; cases k
theorem le_total_ (a b : PyData) : (PySem.W.dataLe false id a b || PySem.W.dataLe false id b a) = true := by
  rw [lt_toks, lt_toks]
  cases h : PyProof.Rows.lexLt PyProof.Rows.itemOrd (PySem.W.keyToks b) (PySem.W.keyToks a) with
  | false => rfl
  | true =>
    cases k : PyProof.Rows.lexLt PyProof.Rows.itemOrd (PySem.W.keyToks a) (PySem.W.keyToks b) with
    | false => rfl
    | true =>
      have := PyProof.Rows.lex_trans _ _ _ h k
      rw [PyProof.Rows.lex_irrefl] at this
      cases this
theorem toks_inj {x y : PyData} (ha : PySem.W.alike x y = true) (hx : nz x = true) (hy : nz y = true) (h : PySem.W.keyToks x = PySem.W.keyToks y) : x = y := by
  refine (nz_eqv x y hx hy).mp ?_
  cases e : PyData.eqv x y with
  | true => rfl
  | false =>
    have h1 := (PySem.W.toks_eqv x y ha).2 e [.inl 0] [.inl 1]
    rw [h, PySem.W.lex_pre, PyProof.Rows.lex_irrefl] at h1
    exact absurd h1 (by decide)
theorem le_anti {x y : PyData} (ha : PySem.W.alike x y = true) (hx : nz x = true) (hy : nz y = true) (h1 : PySem.W.dataLe false id x y = true) (h2 : PySem.W.dataLe false id y x = true) : x = y := by
  rw [lt_toks, Bool.not_eq_true'] at h1 h2
  exact toks_inj ha hx hy (PyProof.Rows.lex_total _ _ h2 h1)
theorem sortD_eq {l l' : List PyData} (p : l.Perm l') (ha : PySem.W.AllAlike l) (hn : ∀ x ∈ l, nz x = true) : sortD l = sortD l' := by
  have p1 : (sortD l).Perm l := sort_perm l
  have p2 : (sortD l').Perm l := (sort_perm l').trans p.symm
  refine List.Perm.eq_of_pairwise (le := fun a b => PySem.W.dataLe false id a b = true) ?_ (List.pairwise_mergeSort le_trans_ le_total_ l) (List.pairwise_mergeSort le_trans_ le_total_ l') (p1.trans p2.symm)
  intro a b h1 h2 h3 h4
  have m1 := p1.mem_iff.mp h1
  have m2 := p2.mem_iff.mp h2
  exact le_anti (ha a m1 b m2) (hn a m1) (hn b m2) h3 h4
theorem sortS_eq {l l' : List Str} (p : l.Perm l') : sortS l = sortS l' := by
  have := sortD_eq (p.map PyData.str) (PySem.W.AllAlike.of fun a b => by simp [PySem.W.alike]) (by
    intro x hx
    obtain ⟨y, _, rfl⟩ := List.mem_map.mp hx
    rfl)
  rw [sort_strs, sort_strs] at this
  exact map_inj (fun a b h => by cases h; rfl) this
/-! ### what is alike -/
structure Same (s s' : HS) : Prop where
  st : s.st = s'.st
  dn : s.dn = s'.dn
  lies : ∀ a b, lies s.rd a b = lies s'.rd a b
  ld : s.ld.Perm s'.ld
  views : ∀ h, s.ld.filterMap (viewR h) = s'.ld.filterMap (viewR h)
section
variable {c : Cfg} {s s' : HS}
theorem rd_lookup {H : List Str} {n : Nat} {rd : Roads} (h : RdOk H n rd) (a b : Str) : rd.lookup (a, b) = if lies rd a b = [] then none else some (lies rd a b) := by
  unfold lies
  cases e : rd.lookup (a, b) with
  | none => rfl
  | some v =>
    have := h.ne _ (lookup_in2 e)
    rw [Option.getD_some, if_neg this]
theorem rd_keys {H : List Str} {n : Nat} {rd : Roads} (h : RdOk H n rd) (p : Str × Str) : p ∈ rd.map (·.1) ↔ lies rd p.1 p.2 ≠ [] := by
  constructor
  · intro hp
    obtain ⟨v, hv⟩ := mem_lookup2 hp
    have := h.ne _ (lookup_in2 hv)
    unfold lies
    rw [hv]
    exact this
  · intro hp
    have := rd_lookup h p.1 p.2
    rw [if_neg hp] at this
    exact List.mem_map_of_mem (f := (·.1)) (lookup_in2 this)
theorem same_can (h : Same s s') : canD c s = canD c s' := by
  have e1 : ∀ a, evsAt c s a = evsAt c s' a := fun a => evs_of (by rw [h.st])
  have e2 : ∀ a b, roomy c s.rd a b = roomy c s'.rd a b := fun a b => by unfold roomy; rw [h.lies]
  have e3 : ∀ a e, deedsE c s.rd a e = deedsE c s'.rd a e := fun a e => by unfold deedsE; rw [e2, h.lies]
  have e4 : ∀ a, deedsH c s a = deedsH c s' a := fun a => by
    unfold deedsH
    rw [e1, show deedsE c s.rd a = deedsE c s'.rd a from funext (e3 a)]
  unfold canD deeds0
  rw [h.st, h.dn, show (fun a => if a ∈ s'.dn then [] else deedsH c s a) = fun a => if a ∈ s'.dn then [] else deedsH c s' a from funext fun a => by rw [e4]]
theorem same_way (hs : HsOk c s) (hs' : HsOk c s') (h : Same s s') : wayD s = wayD s' := by
  have k := rd_of hs
  have k' := rd_of hs'
  have p : (s.rd.map (·.1)).Perm (s'.rd.map (·.1)) := (List.perm_ext_iff_of_nodup hs.nd hs'.nd).mpr fun q => by rw [rd_keys k, rd_keys k', h.lies]
  have e1 : sortD (s.rd.map fun p => pairK p.1) = sortD (s'.rd.map fun p => pairK p.1) := by
    have := sortD_eq (p.map pairK) (PySem.W.AllAlike.of fun a b => by simp [pairK, PySem.W.alike, PySem.W.alikeAll]) (by
      intro x hx
      obtain ⟨y, _, rfl⟩ := List.mem_map.mp hx
      rfl)
    rw [List.map_map, List.map_map] at this
    exact this
  unfold wayD
  rw [e1]
  refine congrArg PyData.dict (List.map_congr_left fun x hx => ?_)
  obtain ⟨q, _, rfl⟩ := List.mem_map.mp ((sort_perm _).mem_iff.mp hx)
  unfold roadV
  rw [lookD_pair, lookD_pair, rd_lookup k q.1.1 q.1.2, rd_lookup k' q.1.1 q.1.2, h.lies]
theorem same_told (hs : HsOk c s) (hs' : HsOk c s') (h : Same s s') : toldD c s = toldD c s' := by
  have e1 : ∀ a, evsAt c s a = evsAt c s' a := fun a => evs_of (by rw [h.st])
  unfold toldD
  rw [same_can h, same_way hs hs' h]
  have v : viewsD s = viewsD s' := by
    unfold viewsD viewD
    rw [h.st]
    refine congrArg PyData.dict (List.map_congr_left fun x hx => ?_)
    rw [h.views]
  have w : whoD c s = whoD c s' := by
    unfold whoD
    rw [h.st]
    refine congrArg PyData.list (List.map_congr_left fun x hx => ?_)
    rw [e1]
  have r : sortD (s.ld.map Row.d) = sortD (s'.ld.map Row.d) := sortD_eq (h.ld.map Row.d) (PySem.W.AllAlike.of fun p q => by cases p <;> cases q <;> simp [Row.d, PySem.W.alike, PySem.W.alikeAll]) (by
    intro x hx
    obtain ⟨y, _, rfl⟩ := List.mem_map.mp hx
    exact nz_row y)
  rw [v, w, r, h.dn, h.ld.length_eq]
end

end K36
/-! ## part M4 -/
namespace K36
open PySem PySem.Spec
open R
/-- where a hand goes by a deed -/
def newB (c : Cfg) (s : HS) : Deed → Int → Int
  | .say h o w => fun _ => (behind (evsAt c s h) "say" o w).getD 0
  | .hear h o => fun _ => (behind (evsAt c s h) "hear" o ((lies s.rd o h).headD "")).getD 0
  | .fall _ => id
section
variable {c : Cfg} {s : HS}
theorem step_st (d : Deed) : (step c s d).2.st = s.st.map fun p => (p.1, if p.1 = d.hand then newB c s d p.2 else p.2) := by
  cases d with
  | say h o w => rfl
  | hear h o => rfl
  | fall h =>
    show s.st = _
    have : (fun p : Str × Int => (p.1, if p.1 = (Deed.fall h).hand then newB c s (.fall h) p.2 else p.2)) = id := by
      funext p
      by_cases e : p.1 = (Deed.fall h).hand
      · rw [if_pos e]; rfl
      · rw [if_neg e]; rfl
    rw [this, List.map_id]
theorem newB_after (hc : CfgOk c) (hs : HsOk c s) {d e : Deed} (he : Can c s e) (hn : e.hand ≠ d.hand) : newB c (step c s d).2 e = newB c s e := by
  cases e with
  | say a o w =>
    simp only [newB]
    rw [step_evs (h := a) hn]
  | hear a o =>
    simp only [newB]
    obtain ⟨t, ht⟩ := lies_its hc hs (d := d) (h := a) (o := o) hn
    rw [step_evs (h := a) hn, ht, head_app he.2.2.2.2.1]
  | fall a => rfl
theorem two_st (hc : CfgOk c) (hs : HsOk c s) {d e : Deed} (hd : Can c s d) (he : Can c s e) (hn : d.hand ≠ e.hand) : (step c (step c s d).2 e).2.st = (step c (step c s e).2 d).2.st := by
  rw [step_st e, step_st d, step_st d, step_st e, newB_after hc hs he hn.symm, newB_after hc hs hd hn, List.map_map, List.map_map]
  refine List.map_congr_left fun p hp => ?_
  simp only [Function.comp]
  by_cases h1 : p.1 = d.hand
  · have h2 : p.1 ≠ e.hand := fun h => hn (h1.symm.trans h)
    simp [h1, hn]
  · by_cases h2 : p.1 = e.hand
    · simp [h2, Ne.symm hn]
    · simp [h1, h2]
theorem step_dn' (d : Deed) : (step c s d).2.dn = match d with
    | .fall h => sortS (s.dn ++ [h])
    | _ => s.dn := by cases d <;> rfl
theorem two_dn {d e : Deed} : (step c (step c s d).2 e).2.dn = (step c (step c s e).2 d).2.dn := by
  rw [step_dn', step_dn', step_dn', step_dn']
  have key : ∀ a b, sortS (sortS (s.dn ++ [a]) ++ [b]) = sortS (sortS (s.dn ++ [b]) ++ [a]) := fun a b => by
    refine sortS_eq ?_
    have p1 : (sortS (s.dn ++ [a]) ++ [b]).Perm ((s.dn ++ [a]) ++ [b]) := (List.mergeSort_perm _ _).append_right _
    have p2 : (sortS (s.dn ++ [b]) ++ [a]).Perm ((s.dn ++ [b]) ++ [a]) := (List.mergeSort_perm _ _).append_right _
    refine p1.trans (List.Perm.trans ?_ p2.symm)
    rw [List.append_assoc, List.append_assoc]
    exact (List.perm_append_comm (l₁ := [a]) (l₂ := [b])).append_left _
  cases d <;> cases e <;> first | rfl | exact key _ _
theorem dn_fall {h x : Str} : x ∈ (step c s (.fall h)).2.dn ↔ x ∈ s.dn ∨ x = h := by
  rw [step_dn]; simp
theorem dn_say {h o w x : Str} : x ∈ (step c s (.say h o w)).2.dn ↔ x ∈ s.dn := Iff.rfl
theorem dn_hear {h o x : Str} : x ∈ (step c s (.hear h o)).2.dn ↔ x ∈ s.dn := Iff.rfl
theorem two_lies (hc : CfgOk c) (hs : HsOk c s) {d e : Deed} (hd : Can c s d) (he : Can c s e) (hn : d.hand ≠ e.hand) (hf : s.ld.length ≤ 28) (x y : Str) : lies (step c (step c s d).2 e).2.rd x y = lies (step c (step c s e).2 d).2.rd x y := by
  have k1 := step_ok hc hs hd (by omega)
  have k2 := step_ok hc hs he (by omega)
  rw [step_lies hc k1, step_lies hc k2]
  cases d with
  | say a o w =>
    cases e with
    | say a' o' w' =>
      have hn : a ≠ a' := hn
      simp only [step_lies hc hs, dn_fall, dn_say, dn_hear]
      by_cases h1 : x = a
      · have h2 : x ≠ a' := fun h => hn (h1.symm.trans h)
        simp [h2]
      · simp [h1]
    | hear a' o' =>
      have hn : a ≠ a' := hn
      have hne : lies s.rd o' a' ≠ [] := he.2.2.2.2.1
      simp only [step_lies hc hs, dn_fall, dn_say, dn_hear]
      by_cases h1 : x = o' ∧ y = a'
      · obtain ⟨rfl, rfl⟩ := h1
        simp only [and_self, if_true]
        split
        · rw [List.tail_append_of_ne_nil hne]
        · rfl
      · simp [h1]
    | fall a' =>
      have hn : a ≠ a' := hn
      simp only [step_lies hc hs, dn_fall, dn_say, dn_hear]
      by_cases h1 : y = a'
      · subst h1
        simp only [if_true]
        rw [if_neg]
        rintro ⟨_, rfl, h⟩
        exact h (.inr rfl)
      · simp only [h1, if_false]
        by_cases h2 : x = a
        · have h3 : x ≠ a' := fun h => hn (h2.symm.trans h)
          simp only [h3, false_and, if_false]
          by_cases h4 : y = o
          · have h5 : ¬ o = a' := fun e => h1 (h4.trans e)
            simp [h5]
          · simp [h4]
        · simp [h2]
  | hear a o =>
    cases e with
    | say a' o' w' =>
      have hn : a ≠ a' := hn
      have hne : lies s.rd o a ≠ [] := hd.2.2.2.2.1
      simp only [step_lies hc hs, dn_fall, dn_say, dn_hear]
      by_cases h1 : x = o ∧ y = a
      · obtain ⟨rfl, rfl⟩ := h1
        simp only [and_self, if_true]
        split
        · rw [List.tail_append_of_ne_nil hne]
        · rfl
      · simp [h1]
    | hear a' o' =>
      have hn : a ≠ a' := hn
      simp only [step_lies hc hs]
      by_cases h1 : y = a
      · have h2 : y ≠ a' := fun h => hn (h1.symm.trans h)
        simp [h2]
      · simp [h1]
    | fall a' =>
      have hn : a ≠ a' := hn
      have hne : lies s.rd o a ≠ [] := hd.2.2.2.2.1
      simp only [step_lies hc hs, dn_fall, dn_say, dn_hear]
      by_cases h1 : y = a'
      · subst h1
        simp [Ne.symm hn]
      · simp only [h1, if_false]
        by_cases h2 : x = o ∧ y = a
        · obtain ⟨rfl, rfl⟩ := h2
          simp only [and_self, if_true]
          split
          · rw [List.tail_append_of_ne_nil hne]
          · rfl
        · simp [h2]
  | fall a =>
    cases e with
    | say a' o' w' =>
      have hn : a' ≠ a := Ne.symm hn
      simp only [step_lies hc hs, dn_fall, dn_say, dn_hear]
      by_cases h1 : y = a
      · subst h1
        simp only [if_true]
        rw [if_neg]
        rintro ⟨_, rfl, h⟩
        exact h (.inr rfl)
      · simp only [h1, if_false]
        by_cases h2 : x = a'
        · have h3 : x ≠ a := fun h => hn (h2.symm.trans h)
          simp only [h3, false_and, if_false]
          by_cases h4 : y = o'
          · have h5 : ¬ o' = a := fun e => h1 (h4.trans e)
            simp [h5]
          · simp [h4]
        · simp [h2]
    | hear a' o' =>
      have hn : a' ≠ a := Ne.symm hn
      have hne : lies s.rd o' a' ≠ [] := he.2.2.2.2.1
      simp only [step_lies hc hs, dn_fall, dn_say, dn_hear]
      by_cases h1 : y = a
      · subst h1
        simp [Ne.symm hn]
      · simp only [h1, if_false]
        by_cases h2 : x = o' ∧ y = a'
        · obtain ⟨rfl, rfl⟩ := h2
          simp only [and_self, if_true]
          split
          · rw [List.tail_append_of_ne_nil hne]
          · rfl
        · simp [h2]
    | fall a' =>
      have hn : a ≠ a' := hn
      simp only [step_lies hc hs, dn_fall, dn_say, dn_hear]
      by_cases h1 : y = a
      · subst h1
        simp [hn]
      · by_cases h2 : y = a'
        · subst h2
          simp [h1]
        · simp only [h1, h2, if_false, or_false]
          by_cases h3 : x = a
          · subst h3
            simp [hn, h1, h2]
          · by_cases h4 : x = a'
            · subst h4
              simp [h3, h1, h2]
            · simp [h3, h4]
theorem row_hand (d : Deed) : ∀ h, h ≠ d.hand → viewR h (step c s d).1 = none := by
  intro h hn
  cases d with
  | say a o w => exact if_neg (Ne.symm hn)
  | hear a o => exact if_neg (Ne.symm hn)
  | fall a => rfl
theorem two_same (hc : CfgOk c) (hs : HsOk c s) {d e : Deed} (hd : Can c s d) (he : Can c s e) (hn : d.hand ≠ e.hand) (hf : s.ld.length ≤ 28) : Same (step c (step c s d).2 e).2 (step c (step c s e).2 d).2 := by
  obtain ⟨_, r1⟩ := can_after hc hs hd he hn
  obtain ⟨_, r2⟩ := can_after hc hs he hd hn.symm
  refine ⟨two_st hc hs hd he hn, two_dn, two_lies hc hs hd he hn hf, ?_, ?_⟩
  · rw [step_ld, step_ld, step_ld, step_ld, r1, r2, List.append_assoc, List.append_assoc]
    exact (List.perm_append_comm (l₁ := [_]) (l₂ := [_])).append_left _
  · intro h
    rw [step_ld, step_ld, step_ld, step_ld, r1, r2]
    simp only [List.filterMap_append, List.append_assoc]
    congr 1
    by_cases h1 : h = d.hand
    · have h2 : h ≠ e.hand := fun k => hn (h1.symm.trans k)
      rw [List.filterMap_cons_none (row_hand e h h2)]
      simp
    · rw [List.filterMap_cons_none (row_hand d h h1)]
      simp
theorem row_ne (d e : Deed) (hn : d.hand ≠ e.hand) : (step c s d).1 ≠ (step c s e).1 := by
  intro h
  cases d <;> cases e <;> simp only [step, step0, reduceCtorEq, Row.say.injEq, Row.hear.injEq, Row.fall.injEq] at h <;> first | exact hn h.1 | exact hn h
end

end K36
/-! ## part L3 -/
namespace K36
open PySem PySem.Spec
open R
theorem gat {G T : List MO} {k : Nat} : (G ++ T)[G.length + k]? = T[k]? := by
  rw [List.getElem?_append_right (Nat.le_add_right _ _), Nat.add_sub_cancel_left]
theorem sat {G T : List MO} {k : Nat} {o : MO} : (G ++ T).set (G.length + k) o = G ++ T.set k o := by
  rw [List.set_append, if_neg (by omega), Nat.add_sub_cancel_left]
section
variable {c : Cfg} {s s' : HS} {h h' m m' : Nat} {ca ba ca' ba' : Int} {G : GH} {ss : SS} {o e : WE} {L : List U}
theorem wp_do {d : Deed} {P : PU} {p : PX} (hh : At G h c s m ca ba) (hd : Can c s d) (hne : h ≠ m) (hL : G[m]? = some (.lst L)) (hz : L.length ≤ 1000) (ho : Ev o ss G (.r h)) (he : Ev e ss G (.d d.d)) (k : P (.d (step c s d).1.d) ((G.set h (hallO c (step c s d).2 m (ca + 1) ba)).set m (.lst (L ++ [.d (aheadD s)])))) : eMethC "Hall" "do" sp_Hall_do 2 uPos o (aCons e aNil) ss G P p :=
  wp_meth ho hh.at_ rfl (ea_cons he ea_nil) rfl ⟨_, _, _, _, _, _, _, _, rfl, hh, hd, hne, hL, hz, k⟩
theorem wp_twin {P : PU} {p : PX} (hh : At G h c s m ca ba) (hL : G[m]? = some (.lst L)) (ho : Ev o ss G (.r h)) (k : P (.r G.length) (G ++ [hallO c s (G.length + 2) 0 0, .lst [], .lst L])) : eMethC "Hall" "twin" sp_Hall_twin 1 uPos o aNil ss G P p :=
  wp_meth ho hh.at_ rfl ea_nil rfl ⟨_, _, _, _, _, _, _, rfl, hh, hL, k⟩
theorem ev_told (hh : At G h c s m ca ba) (ho : Ev o ss G (.r h)) : Ev (eCall sp__law_told 1 uPos (aCons o aNil) aNil 0) ss G (.d (.str (toldD c s).shown)) := ev_call (ea_cons ho ea_nil) rfl fun P p q => ⟨_, ⟨_, _, _, _, _, _, _, rfl, hh, rfl, rfl⟩, q⟩
theorem g_eqC (hh : At G h c s m ca ba) (hh' : At G h' c s' m' ca' ba') : Eg (gEqC "Hall" sp_Hall___eq__ uPos) (.r h) (.r h') G (.d (.bool (decide (s.ld = s'.ld)))) := fun P q => by
  show (match G[h]?, G[h']? with
    | some (.ins d _), some (.ins d' _) => d = "Hall" ∧ d' = "Hall" ∧ sp_Hall___eq__ (uPos [.r h, .r h'] []) G (fun u G2 => match u with
      | .d (.bool b) => P (.d (.bool b)) G2
      | _ => False) noX
    | _, _ => False)
  rw [hh.at_, hh'.at_]
  exact ⟨rfl, rfl, _, ⟨_, _, _, _, _, _, _, _, _, _, _, rfl, hh, hh', rfl⟩, q⟩
end
theorem g_isNot {a b : Bool} {G : GH} : Eg gIsNot (.d (.bool a)) (.d (.bool b)) G (.d (.bool (!decide (a = b)))) := fun _ q => q
theorem ev_rev {a : WE} {ss : SS} {G : GH} {l : List PyData} (h : Ev a ss G (.d (.list l))) : Ev (eRev a) ss G (.d (.list l.reverse)) := fun _ _ q => h _ _ q
theorem sq_par {i j : Nat} {a b : WE} {χ : WS} {ss : SS} {G : GH} {C : Cn} (h : ∀ p, a ss G (fun u G1 => b ss G1 (fun v G2 => χ ((ss.set i (some u)).set j (some v)) G2 C) p) p) : sSeq (sPar i j (aCons a (aCons b aNil))) χ ss G C := h _
theorem wp_lst2 {a b : WE} {ss : SS} {G : GH} {P : PU} {p : PX} (h : a ss G (fun x G1 => b ss G1 (fun y G2 => ([x, y] : List U).length ≤ sizeLine ∧ match dataOf [x, y] with
    | some xs => P (.d (.list xs)) G2
    | none => False) p) p) : eLst (aCons a (aCons b aNil)) ss G P p := h
theorem ev_ne_same {x : PyData} {G : GH} (h : nz x = true) (k : x.depth ≤ 2) : Eg gNe (.d x) (.d x) G (.d (.bool false)) := by
  have := g_ne (G := G) (eqOk_nz h h (Nat.le_trans (Nat.min_le_left _ _) (Nat.le_trans k (by omega))))
  rw [(nz_eqv x x h h).mpr rfl] at this
  exact this
theorem sq_or_w {g : G2} {a b : WE} {t : WT} {φ χ : WS} {ss : SS} {G G1 : GH} {C : Cn} {x y : U} (h : ∀ (P : PU) (p : PX), P x G1 → a ss G P p) (hb : Ev b ss G1 y) (hg : Eg g x y G1 (.d (.bool false))) (ht : Et t ss G1 false) (k : χ ss G1 C) : sSeq (sIf (cOr (cTest (eOp g a b)) t) φ sSkip) χ ss G C := h _ _ (hb _ _ (hg _ (ht _ _ k)))
theorem nz_rows (l : List Row) : nz (.tuple (l.map Row.d)) = true := nz_tup (nzAll_iff.mpr fun x hx => by
  obtain ⟨y, _, rfl⟩ := List.mem_map.mp hx
  exact nz_row y)
theorem dep_rows (l : List Row) : (PyData.tuple (l.map Row.d)).depth ≤ 2 := (depth_row (n := 1) fun x hx => by
  obtain ⟨y, _, rfl⟩ := List.mem_map.mp hx
  cases y <;> simp [Row.d, PyData.depth, PyData.depthAll]).1
theorem g_eqRows {l l' : List Row} {G : GH} : Eg gEq (.d (.tuple (l.map Row.d))) (.d (.tuple (l'.map Row.d))) G (.d (.bool (PyData.eqv (.tuple (l.map Row.d)) (.tuple (l'.map Row.d))))) := g_eq (eqOk_nz (nz_rows l) (nz_rows l') (Nat.le_trans (Nat.min_le_left _ _) (Nat.le_trans (dep_rows _) (by omega))))
theorem law__law_either_right : ∀ us G Q p, Closed G → sp__law_either_right us G Q p → ph__law_either_right (startU N__law_either_right us) G (Cnd G Q p) := by
  rintro _ G Q p hG ⟨h, c, s, m, ca, ba, d, e, L, rfl, hh, hd, he, hn, hne, hL, hz, hf, q⟩
  refine law_ofD (d := .bool true) hG (fun C kk => ?_) q
  unfold ph__law_either_right
  have hc := hh.co
  have hs := hh.ok
  have hlt := (List.getElem?_eq_some_iff.mp hh.at_).1
  have hmt := (List.getElem?_eq_some_iff.mp hL).1
  obtain ⟨cde, rde⟩ := can_after hc hs hd he hn
  obtain ⟨ced, red⟩ := can_after hc hs he hd hn.symm
  have kd := step_ok hc hs hd (by omega)
  have ke := step_ok hc hs he (by omega)
  have fd : (step c s d).2.ld.length ≤ 29 := by rw [step_ld, List.length_append, List.length_singleton]; omega
  have fe : (step c s e).2.ld.length ≤ 29 := by rw [step_ld, List.length_append, List.length_singleton]; omega
  have kde := step_ok hc kd cde fd
  have ked := step_ok hc ke ced fe
  have same := two_same hc hs hd he hn (by omega)
  have told := same_told kde ked same
  have hrow := row_ne (c := c) (s := s) d e hn
  -- two twins
  refine sq_par fun pp => wp_twin hh hL (ev_var rfl) (wp_twin hh.app (gapp hL) (ev_var rfl) ?_)
  have e1 : (G ++ [hallO c s (G.length + 2) 0 0, .lst [], .lst L]).length = G.length + 3 := by simp
  rw [e1, List.append_assoc]
  have H0 : ∀ {T : List MO} {o : MO}, T[0]? = some o → (G ++ T)[G.length]? = some o := fun h => (gat (k := 0)).trans h
  have S0 : ∀ {T : List MO} {o : MO}, (G ++ T).set G.length o = G ++ T.set 0 o := sat (k := 0)
  have len2 : (2 : Nat) ≤ sizeLine := few_size (by omega)
  have z1 : ∀ s', (L ++ [U.d (aheadD s')]).length ≤ 1000 := fun s' => by rw [List.length_append, List.length_singleton]; omega
  have ne2 : G.length ≠ G.length + 2 := by omega
  have ne5 : G.length + 3 ≠ G.length + 5 := by omega
  -- rows of one twin
  have one : ∀ (P : PU) (p : PX), P (.d (.list [(step c s d).1.d, (step c s e).1.d])) (G ++ [hallO c (step c (step c s d).2 e).2 (G.length + 2) 2 0, .lst [], .lst ((L ++ [.d (aheadD s)]) ++ [.d (aheadD (step c s d).2)]), hallO c s (G.length + 5) 0 0, .lst [], .lst L]) →
      eLst (aCons (eMethC "Hall" "do" sp_Hall_do 2 uPos (eVar 3) (aCons (eVar 1) aNil)) (aCons (eMethC "Hall" "do" sp_Hall_do 2 uPos (eVar 3) (aCons (eVar 2) aNil)) aNil)) [some (.r h), some (.d d.d), some (.d e.d), some (.r G.length), some (.r (G.length + 3)), none] (G ++ [hallO c s (G.length + 2) 0 0, .lst [], .lst L, hallO c s (G.length + 5) 0 0, .lst [], .lst L]) P p := by
    intro P p k
    refine wp_lst2 (wp_do (c := c) (s := s) (m := G.length + 2) (ca := 0) (ba := 0) (L := L) ⟨H0 rfl, hc, hs⟩ hd ne2 (gat (k := 2)) (by omega) (ev_var rfl) (ev_var rfl) ?_)
    rw [S0, sat]
    refine wp_do (c := c) (s := (step c s d).2) (m := G.length + 2) (ca := 0 + 1) (ba := 0) (L := L ++ [.d (aheadD s)]) ⟨H0 rfl, hc, kd⟩ cde ne2 (gat (k := 2)) (z1 _) (ev_var rfl) (ev_var rfl) ⟨len2, ?_⟩
    rw [S0, sat, rde]
    exact k
  have two : ∀ (P : PU) (p : PX), P (.d (.list [(step c s e).1.d, (step c s d).1.d])) (G ++ [hallO c (step c (step c s d).2 e).2 (G.length + 2) 2 0, .lst [], .lst ((L ++ [.d (aheadD s)]) ++ [.d (aheadD (step c s d).2)]), hallO c (step c (step c s e).2 d).2 (G.length + 5) 2 0, .lst [], .lst ((L ++ [.d (aheadD s)]) ++ [.d (aheadD (step c s e).2)])]) →
      eLst (aCons (eMethC "Hall" "do" sp_Hall_do 2 uPos (eVar 4) (aCons (eVar 2) aNil)) (aCons (eMethC "Hall" "do" sp_Hall_do 2 uPos (eVar 4) (aCons (eVar 1) aNil)) aNil)) [some (.r h), some (.d d.d), some (.d e.d), some (.r G.length), some (.r (G.length + 3)), some (.d (.list [(step c s d).1.d, (step c s e).1.d]))] (G ++ [hallO c (step c (step c s d).2 e).2 (G.length + 2) 2 0, .lst [], .lst ((L ++ [.d (aheadD s)]) ++ [.d (aheadD (step c s d).2)]), hallO c s (G.length + 5) 0 0, .lst [], .lst L]) P p := by
    intro P p k
    refine wp_lst2 (wp_do (c := c) (s := s) (m := G.length + 5) (ca := 0) (ba := 0) (L := L) ⟨gat (k := 3), hc, hs⟩ he ne5 (gat (k := 5)) (by omega) (ev_var rfl) (ev_var rfl) ?_)
    rw [sat, sat]
    refine wp_do (c := c) (s := (step c s e).2) (m := G.length + 5) (ca := 0 + 1) (ba := 0) (L := L ++ [.d (aheadD s)]) ⟨gat (k := 3), hc, ke⟩ ced ne5 (gat (k := 5)) (z1 _) (ev_var rfl) (ev_var rfl) ⟨len2, ?_⟩
    rw [sat, sat, red]
    exact k
  refine sq_wname (one _ _ ?_)
  have a1 : ∀ T : GH, At (G ++ [hallO c (step c (step c s d).2 e).2 (G.length + 2) 2 0] ++ T) G.length c (step c (step c s d).2 e).2 (G.length + 2) 2 0 := fun T => ⟨gapp get_last, hc, kde⟩
  have heq : ∀ x : PyData, nz x = true → x.depth ≤ 50 → PyData.eqv x x = true := fun x hx _ => (nz_eqv x x hx hx).mpr rfl
  generalize hT : ([hallO c (step c (step c s d).2 e).2 (G.length + 2) 2 0, .lst [], .lst ((L ++ [.d (aheadD s)]) ++ [.d (aheadD (step c s d).2)]), hallO c (step c (step c s e).2 d).2 (G.length + 5) 2 0, .lst [], .lst ((L ++ [.d (aheadD s)]) ++ [.d (aheadD (step c s e).2)])] : List MO) = T at two
  have A1 : At (G ++ T) G.length c (step c (step c s d).2 e).2 (G.length + 2) 2 0 := ⟨H0 (by rw [← hT]; rfl), hc, kde⟩
  have A2 : At (G ++ T) (G.length + 3) c (step c (step c s e).2 d).2 (G.length + 5) 2 0 := ⟨by rw [gat, ← hT]; rfl, hc, ked⟩
  have A0 : At (G ++ T) h c s m ca ba := hh.app
  have ne_ld : ¬ (step c (step c s d).2 e).2.ld = (step c (step c s e).2 d).2.ld := by
    rw [step_ld, step_ld, step_ld, step_ld, rde, red, List.append_assoc, List.append_assoc]
    intro h
    have := List.append_cancel_left h
    simp only [List.cons_append, List.nil_append, List.cons.injEq] at this
    exact hrow this.1
  have ne_ld2 : ¬ (step c (step c s d).2 e).2.ld = s.ld := by
    rw [step_ld, step_ld, List.append_assoc]
    intro h
    have := congrArg List.length h
    simp at this
  have nzr : nz (.list [(step c s e).1.d, (step c s d).1.d]) = true := nz_lst (by simp [nzAll, nz_row])
  have dpr : (PyData.list [(step c s e).1.d, (step c s d).1.d]).depth ≤ 2 := dep_ld [(step c s e).1, (step c s d).1]
  refine sq_or_w two (ev_rev (ev_var rfl)) (ev_ne_same nzr dpr) (et_as (et_test (ev_op (ev_told A1 (ev_var rfl)) (ev_told A2 (ev_var rfl)) g_neS)) (by rw [told]; simp)) ?_
  refine sq_else (p := false || false) (et_or (et_as (et_test (ev_op (ev_op (ev_var rfl) (ev_var rfl) (g_eqC A1 A2)) ev_c g_isNot)) (by simp [ne_ld])) fun _ => et_as (et_test (ev_op (ev_op (ev_var rfl) (ev_var rfl) (g_eqC A1 A0)) ev_c g_isNot)) (by simp [ne_ld2])) rfl ?_
  have lg : ∀ s' : HS, ∀ l : List Row, s'.ld = s.ld ++ l → PyData.eqv (.tuple (s'.ld.map Row.d)) (.tuple (s.ld.map Row.d ++ l.map Row.d)) = true := fun s' l h => by
    rw [h, List.map_append]
    refine (nz_eqv _ _ ?_ ?_).mpr rfl <;> (rw [← List.map_append]; exact nz_rows _)
  have fits : ∀ l : List Row, l.length = 2 → (s.ld.map Row.d).length + (l.map Row.d).length ≤ sizeLine := fun l h => few_size (by rw [List.length_map, List.length_map]; omega)
  have eok : ∀ (s' : HS) (l : List Row), EqOk (.tuple (s'.ld.map Row.d)) (.tuple (s.ld.map Row.d ++ l.map Row.d)) := fun s' l => eqOk_nz (nz_rows _) (by rw [← List.map_append]; exact nz_rows _) (Nat.le_trans (Nat.min_le_left _ _) (Nat.le_trans (dep_rows _) (by omega)))
  refine st_ret' (ev_and (ev_op (ev_log A1 (ev_var rfl)) (ev_op (ev_log A0 (ev_var rfl)) (ev_callB (ea_cons (ev_var rfl) ea_nil) n_tupL) (g_addT (fits [(step c s d).1, (step c s e).1] rfl))) (g_eq (eok _ [(step c s d).1, (step c s e).1]))) fun _ => ev_op (ev_log A2 (ev_var rfl)) (ev_op (ev_log A0 (ev_var rfl)) (ev_callB (ea_cons (ev_rev (ev_var rfl)) ea_nil) n_tupL) (g_addT (fits [(step c s e).1, (step c s d).1] rfl))) (g_eq (eok _ [(step c s e).1, (step c s d).1]))) ?_ (kk T)
  have b1 := lg (step c (step c s d).2 e).2 [(step c s d).1, (step c s e).1] (by rw [step_ld, step_ld, rde, List.append_assoc]; rfl)
  have b2 := lg (step c (step c s e).2 d).2 [(step c s e).1, (step c s d).1] (by rw [step_ld, step_ld, red, List.append_assoc]; rfl)
  exact congrArg U.d (congrArg PyData.bool (by
    exact (Bool.and_eq_true_iff (x := PyData.eqv _ _) (y := PyData.eqv _ _)).mpr ⟨b1, b2⟩))

end K36
/-! ## part D1 -/
namespace K36
open PySem PySem.Spec
open R
theorem setI_lst {n : Nat} {j : Int} {q : Nat} {u : U} {G : GH} {P : GH → Prop} {us : List U} (hG : G[n]? = some (.lst us)) (hq : L2.ixN us.length j = some q) (h : P (G.set n (.lst (us.set q u)))) : setI (.r n) (.d (.int j)) u G P := by
  unfold setI
  simp only [hG, hq]
  exact h
theorem sq_sub {e o i : WE} {χ : WS} {ss : SS} {G : GH} {C : Cn} {u x y : U} (he : Ev e ss G u) (ho : Ev o ss G x) (hi : Ev i ss G y) (h : setI x y u G fun G1 => χ ss G1 C) : sSeq (sAsg e (gdSub o i)) χ ss G C := he _ _ (ho _ _ (hi _ _ h))
def primesD : List PyData := [.int 2147483587, .int 2147483579, .int 2147483563, .int 2147483549, .int 2147483543, .int 2147483497, .int 2147483489]
theorem prime_at (t : Int) : ∃ p, L2.atI primesD (t % 7) = some (.int p) ∧ 0 < p ∧ p < 2 ^ 31 := by
  have h : t % 7 = 0 ∨ t % 7 = 1 ∨ t % 7 = 2 ∨ t % 7 = 3 ∨ t % 7 = 4 ∨ t % 7 = 5 ∨ t % 7 = 6 := by omega
  rcases h with h | h | h | h | h | h | h <;> rw [h] <;> exact ⟨_, rfl, by decide, by decide⟩
theorem mulW {i j : Int} (h1 : 0 ≤ i ∧ i < 2 ^ 64) (h2 : 0 ≤ j ∧ j < 2 ^ 64) : L2.CMulW i j := L2.wide_mul (a := 64) (b := 64) (by omega) (by omega) (by omega) (by omega) (by omega)
theorem divW {i j : Int} (h : 0 < j ∧ j < 2 ^ 64) : L2.CDivW i j := L2.wide_div (b := 64) h.1 (by omega) (by omega) (by omega)
theorem sq_le {a b : Int} (h0 : 0 ≤ a) (h : a ≤ b) : 0 ≤ a * a ∧ a * a ≤ b * b := ⟨Int.mul_nonneg h0 h0, Int.mul_le_mul h h h0 (Int.le_trans h0 h)⟩
theorem law__law_draw : ∀ us G Q p, Closed G → sp__law_draw us G Q p → ph__law_draw (startU N__law_draw us) G (Cnd G Q p) := by
  rintro _ G Q p hG ⟨r, k, n, L, rfl, hk1, hk2, hr, ⟨a, b, t, rfl, ha, hb, hb2, ht, hn⟩, hn2, q⟩
  unfold ph__law_draw
  refine sq_if (p := decide (0 < a)) (et_test (ev_op (ev_op (ev_var rfl) ev_c (g_ixR hr (u := .d (.int a)) rfl)) ev_c g_cmp)) (fun h => ?_) (fun h => ?_)
  · refine sq_name (ev_op (ev_op (ev_var rfl) ev_c (g_ixR hr (u := .d (.int a)) rfl)) (ev_var rfl) (g_mod (by omega))) ?_
    refine sq_sub (ev_op (ev_op (ev_var rfl) ev_c (g_ixR hr (u := .d (.int a)) rfl)) (ev_var rfl) (g_fdiv (divW (by omega)))) (ev_var rfl) ev_c (setI_lst hr (q := 0) rfl ?_)
    refine st_ret (ev_var rfl) ⟨_, left_same, q _ _ (Int.emod_nonneg _ (by omega)) (Int.emod_lt_of_pos _ (by omega)) ⟨a / k, b, t, rfl, Int.ediv_nonneg ha (by omega), hb, hb2, ht, by omega⟩⟩
  · dsimp only [sSkip]
    have hp1 := prime_at (t + 1)
    have hp2 := prime_at (t + 1 + 3)
    obtain ⟨p1, e1, h1, h2⟩ := hp1
    obtain ⟨p2, e2, h3, h4⟩ := hp2
    refine sq_sub (ev_op (ev_op (ev_var rfl) ev_c (g_ixR hr (u := .d (.int t)) rfl)) ev_c g_addI) (ev_var rfl) ev_c (setI_lst hr (q := 2) rfl ?_)
    have hr2 := get_set (o' := .lst [.d (.int a), .d (.int b), .d (.int (t + 1))]) hr
    refine sq_name (ev_op (ev_var rfl) ev_c (g_ixR hr2 (u := .d (.int (t + 1))) rfl)) ?_
    refine sq_name (u := .d (.list primesD)) (ev_lst (ea_cons ev_c (ea_cons ev_c (ea_cons ev_c (ea_cons ev_c (ea_cons ev_c (ea_cons ev_c (ea_cons ev_c ea_nil))))))) rfl (Nat.le_of_ble_eq_true rfl)) ?_
    have hT := sq_le (a := t + 1) (b := 100001) (by omega) (by omega)
    have m1 : L2.CMulW (t + 1) (t + 1) := mulW (by omega) (by omega)
    have m2 : L2.CMulW (b + 7) ((t + 1) * (t + 1) + 48271) := mulW (by omega) (by omega)
    refine sq_name (ev_op (ev_op (ev_op (ev_op (ev_var rfl) ev_c (g_ixR hr2 (u := .d (.int b)) rfl)) ev_c g_addI) (ev_op (ev_op (ev_var rfl) (ev_var rfl) (g_mul m1)) ev_c g_addI) (g_mul m2)) (ev_op (ev_var rfl) (ev_op (ev_var rfl) ev_c (g_mod (by decide))) (g_ixL e1)) (g_mod h1)) ?_
    generalize hx : (b + 7) * ((t + 1) * (t + 1) + 48271) % p1 = x
    have x1 : 0 ≤ x := by rw [← hx]; exact Int.emod_nonneg _ (by omega)
    have x2 : x < 2 ^ 31 := by rw [← hx]; exact Int.lt_trans (Int.emod_lt_of_pos _ h1) h2
    have m3 : L2.CMulW x x := mulW (by omega) (by omega)
    have m4 : L2.CMulW 69621 (t + 1) := mulW (by omega) (by omega)
    refine sq_name (ev_op (ev_op (ev_op (ev_op (ev_var rfl) (ev_var rfl) (g_mul m3)) (ev_op ev_c (ev_var rfl) (g_mul m4)) g_addI) ev_c g_addI) (ev_op (ev_var rfl) (ev_op (ev_op (ev_var rfl) ev_c g_addI) ev_c (g_mod (by decide))) (g_ixL e2)) (g_mod h3)) ?_
    generalize hy : (x * x + 69621 * (t + 1) + 12345) % p2 = y
    have y1 : 0 ≤ y := by rw [← hy]; exact Int.emod_nonneg _ (by omega)
    have y2 : y < 2 ^ 31 := by rw [← hy]; exact Int.lt_trans (Int.emod_lt_of_pos _ h3) h4
    have m5 : L2.CMulW y (y + 40692) := mulW (by omega) (by omega)
    refine st_ret (ev_op (ev_op (ev_op (ev_op (ev_var rfl) (ev_op (ev_var rfl) ev_c g_addI) (g_mul m5)) ev_c (g_mod (by decide))) ev_c (g_fdiv (divW (by omega)))) (ev_var rfl) (g_mod (by omega))) ⟨_, left_same, q _ _ (Int.emod_nonneg _ (by omega)) (Int.emod_lt_of_pos _ (by omega)) ⟨a, b, t + 1, rfl, ha, hb, hb2, by omega, by omega⟩⟩
/-! ### with a reel -/
theorem Reel.up {n m : Nat} {L : List U} (h : Reel n L) (k : n ≤ m) : Reel m L := by
  obtain ⟨a, b, c, e, k1, k2, k3, k4, k5⟩ := h.is_
  exact ⟨a, b, c, e, k1, k2, k3, k4, by omega⟩
/-- at r there is a reel -/
structure AtR (G : GH) (r : Nat) (n : Nat) (L : List U) : Prop where
  at_ : G[r]? = some (.lst L)
  ok : Reel n L
theorem AtR.app {G T : GH} {r n : Nat} {L : List U} (a : AtR G r n L) : AtR (G ++ T) r n L := ⟨gapp a.at_, a.ok⟩
theorem AtR.set {G : GH} {r n n' : Nat} {L L' : List U} (a : AtR G r n L) (h : Reel n' L') : AtR (G.set r (.lst L')) r n' L' := ⟨get_set a.at_, h⟩
theorem wp_draw {o e : WE} {ss : SS} {G : GH} {r n : Nat} {k : Int} {L : List U} {P : PU} {p : PX} (hr : AtR G r n L) (hn : n ≤ 100000) (hk : 1 ≤ k ∧ k ≤ 100000) (ho : Ev o ss G (.r r)) (he : Ev e ss G (.d (.int k))) (h : ∀ v L', 0 ≤ v → v < k → Reel (n + 1) L' → P (.d (.int v)) (G.set r (.lst L'))) : eCall sp__law_draw 2 uPos (aCons o (aCons e aNil)) aNil 0 ss G P p :=
  wp_call (ea_cons ho (ea_cons he ea_nil)) rfl ⟨_, _, _, _, rfl, hk.1, hk.2, hr.at_, hr.ok, hn, h⟩
def lstK (P : PU) : List U → GH → Prop := fun us G1 => us.length ≤ sizeLine ∧ match dataOf us with
  | some xs => P (.d (.list xs)) G1
  | none => False
def tupK (P : PU) : List U → GH → Prop := fun us G1 => us.length ≤ sizeLine ∧ match dataOf us with
  | some xs => P (.d (.tuple xs)) G1
  | none => False
theorem lstK_of {P : PU} {us : List U} {xs : List PyData} {G : GH} (h : dataOf us = some xs) (hz : us.length ≤ 1000) (k : P (.d (.list xs)) G) : lstK P us G := ⟨few_size (by omega), by rw [h]; exact k⟩
theorem tupK_of {P : PU} {us : List U} {xs : List PyData} {G : GH} (h : dataOf us = some xs) (hz : us.length ≤ 1000) (k : P (.d (.tuple xs)) G) : tupK P us G := ⟨few_size (by omega), by rw [h]; exact k⟩
section
variable {t : WA} {a b : WE} {ss : SS} {G : GH} {P : PU} {p : PX} {Q : List U → GH → Prop} {u : U}
theorem wp_lst (h : t ss G (lstK P) p) : eLst t ss G P p := h
theorem wp_tup (h : t ss G (tupK P) p) : eTup t ss G P p := h
theorem wp_ac (ha : Ev a ss G u) (h : t ss G (fun xs G2 => Q (u :: xs) G2) p) : aCons a t ss G Q p := ha _ _ h
theorem wp_acw (h : a ss G (fun x G1 => t ss G1 (fun xs G2 => Q (x :: xs) G2) p) p) : aCons a t ss G Q p := h
theorem wp_nil (h : Q [] G) : aNil ss G Q p := h
theorem wp_opl {g : G2} (ha : Ev a ss G u) (h : b ss G (fun y G2 => g u y G2 P) p) : eOp g a b ss G P p := ha _ _ h
end
theorem law__law_room : ∀ us G Q p, Closed G → sp__law_room us G Q p → ph__law_room (startU N__law_room us) G (Cnd G Q p) := by
  rintro _ G Q p hG ⟨r, n, L, rfl, hr, hl, hn, q⟩
  have A : AtR G r n L := ⟨hr, hl⟩
  unfold ph__law_room
  refine st_retw (wp_op (wp_lst (wp_ac ev_c (wp_ac ev_c (wp_ac ev_c (wp_acw (wp_opl ev_c (wp_draw A (by omega) ⟨by decide, by decide⟩ (ev_var rfl) ev_c fun v L' h1 h2 h3 => ?_))))))))
  refine g_addI _ (wp_nil (lstK_of rfl (Nat.le_of_ble_eq_true rfl) ?_))
  refine wp_draw (A.set h3) (by omega) ⟨by decide, by decide⟩ (ev_var rfl) ev_c fun w M h4 h5 h6 => ?_
  have hw : w = 0 ∨ w = 1 ∨ w = 2 ∨ w = 3 := by omega
  have h7 : Reel (n + 100) M := h6.up (by omega)
  have fin : ∀ o : Option Int, (∀ i, o = some i → 1 ≤ i ∧ i ≤ 9) → L2.atI [PyData.none, .int 1, .int 2, .int (1 + v)] w = some (roomD o) → gIx (.d (.list [PyData.none, .int 1, .int 2, .int (1 + v)])) (.d (.int w)) ((G.set r (.lst L')).set r (.lst M)) fun u G1 => ∃ G', Left G.length u G1 G' ∧ Q u G' := fun o ho e => by
    refine g_ixL e _ ⟨_, left_same, ?_⟩
    rw [List.set_set]
    exact q o M ho h7
  rcases hw with rfl | rfl | rfl | rfl
  · exact fin none (fun i h => by cases h) rfl
  · exact fin (some 1) (fun i h => by cases h; decide) rfl
  · exact fin (some 2) (fun i h => by cases h; decide) rfl
  · exact fin (some (1 + v)) (fun i h => by cases h; omega) rfl
theorem n_lenK {l : List PyData} {G : GH} : En gLen [.k (.list l)] G (.d (.int l.length)) := fun _ q => q
theorem n_max {i j : Int} {G : GH} : En gMax2 [.d (.int i), .d (.int j)] G (.d (.int (if j > i then j else i))) := fun _ q => q
theorem n_min {i j : Int} {G : GH} : En gMin2 [.d (.int i), .d (.int j)] G (.d (.int (if j < i then j else i))) := fun _ q => q
theorem law__law_reel : ∀ us G Q p, Closed G → sp__law_reel us G Q p → ph__law_reel (startU N__law_reel us) G (Cnd G Q p) := by
  rintro _ G Q p hG ⟨ns, k, rfl, hk1, hk2, q⟩
  unfold ph__law_reel
  have fin : ∀ cell : Int, sRet (eLstH (aCons (eCallB gMax2 (aCons (eC (.int 0)) (aCons (eOp gSub (eVar 2) (eOp gPow (eC (.int 10)) (eC (.int 18)))) aNil))) (aCons (eOp gAdd (eOp gMod (eVar 2) (eC (.int 2147483629))) (eOp gMul (eC (.int 104729)) (eVar 1))) (aCons (eC (.int 0)) aNil)))) [some (.k (.list (ns.map PyData.int))), some (.d (.int k)), some (.d (.int cell))] G (Cnd G Q p) := by
    intro cell
    have h1 := Int.emod_nonneg cell (b := 2147483629) (by decide)
    have h2 := Int.emod_lt_of_pos cell (b := 2147483629) (by decide)
    have pw : Eg gPow (.d (.int 10)) (.d (.int 18)) G (.d (.int (10 ^ 18))) := fun P q => ⟨⟨by decide, by decide, by decide⟩, q⟩
    refine st_retw (wp_lstH (ea_cons (ev_callB (ea_cons ev_c (ea_cons (ev_op (ev_var rfl) (ev_op ev_c ev_c pw) g_sub) ea_nil)) n_max) (ea_cons (ev_op (ev_op (ev_var rfl) ev_c (g_mod (by decide))) (ev_op ev_c (ev_var rfl) (g_mul (mulW (by omega) (by omega)))) g_addI) (ea_cons ev_c ea_nil))) (Nat.le_of_ble_eq_true rfl) ⟨_, left_same, q _ ⟨_, _, _, rfl, ?_, ?_, ?_, by decide, by decide⟩⟩)
    · split <;> omega
    · omega
    · omega
  refine sq_name ev_c ?_
  refine sq_if (et_test (ev_op (ev_var rfl) (ev_callB (ea_cons (ev_var rfl) ea_nil) n_lenK) g_ltI)) (fun h => ?_) (fun h => ?_)
  · rw [List.length_map, decide_eq_true_eq] at h
    have hlt : k.toNat < ns.length := by omega
    refine st_name (u := .d (.int ns[k.toNat])) (ev_op (ev_var rfl) (ev_var rfl) (g_ixK (d := .int ns[k.toNat]) ?_)) (fin _)
    have := L2.atI_nat (xs := ns.map PyData.int) (j := k.toNat) (v := .int ns[k.toNat]) (by simp [hlt])
    rw [show ((k.toNat : Nat) : Int) = k by omega] at this
    exact this
  · exact fin 0

end K36
/-! ## part D2 -/
namespace K36
open PySem PySem.Spec
open R
theorem k_true {A B : Prop} (h : A) : if true = true then A else B := by rw [if_pos rfl]; exact h
theorem k_false {A B : Prop} (h : B) : if false = true then A else B := by rw [if_neg (by decide)]; exact h
def testK (P : Bool → GH → Prop) : PU := fun x G1 => match x with
  | .d (.bool b) => P b G1
  | _ => False
theorem wp_test {a : WE} {ss : SS} {G : GH} {P : Bool → GH → Prop} {p : PX} (h : a ss G (testK P) p) : cTest a ss G P p := h
theorem test_of {b c : Bool} {G : GH} {P : Bool → GH → Prop} (e : b = c) (h : P c G) : testK P (.d (.bool b)) G := by subst e; exact h
theorem set_same {G : List MO} {r : Nat} {o : MO} (h : G[r]? = some o) : G.set r o = G := by
  apply List.ext_getElem?
  intro i
  by_cases hi : r = i
  · rw [← hi, h, List.getElem?_set_self (List.getElem?_eq_some_iff.mp h).1]
  · rw [List.getElem?_set_ne hi]
theorem str_ext {a b : Str} (h : a.cps.toList = b.cps.toList) : a = b := PySem.W.str_of_cps h
theorem sortS_up {l : List Str} (h : l.Nodup) : (sortS l).Pairwise fun a b => a.cps.toList < b.cps.toList := by
  have p1 : (sortS l).Pairwise fun a b => PySem.W.dataLe false id (.str a) (.str b) = true := by
    have := List.pairwise_mergeSort le_trans_ le_total_ (l.map PyData.str)
    rw [show (l.map PyData.str).mergeSort (PySem.W.dataLe false id) = (sortS l).map PyData.str from sort_strs l, List.pairwise_map] at this
    exact this
  have p2 : (sortS l).Nodup := (List.mergeSort_perm _ _).nodup_iff.mpr h
  have p3 := p1.and p2
  refine p3.imp fun {a b} ⟨h1, h2⟩ => ?_
  rw [PySem.W.dataLe_eq] at h1
  simp only [id, cond_false, PySem.W.dataLt_str, Bool.not_eq_true', decide_eq_false_iff_not] at h1
  rcases List.le_iff_lt_or_eq.mp (List.not_lt.mp h1) with h3 | h3
  · exact h3
  · exact absurd (str_ext h3) h2
/-- what is done with an item -/
def nextK (n : Nat) (N : GH → Prop) : PU := fun y G3 => match G3[n]? with
  | some (.lst acc) => acc.length < sizeLine ∧ N (G3.set n (.lst (acc ++ [y])))
  | _ => False
theorem next_of {n : Nat} {N : GH → Prop} {d : PyData} {G : GH} {acc : List PyData} (hn : G.length = n) (hz : acc.length ≤ 100000) (h : N (G ++ [.lst ((acc ++ [d]).map .d)])) : nextK n N (.d d) (G ++ [.lst (acc.map .d)]) := by
  subst hn
  unfold nextK
  rw [get_last]
  refine ⟨by have := sizeLine_eq; rw [List.length_map]; omega, ?_⟩
  rw [set_last]
  rw [List.map_append] at h
  exact h
theorem lcL_J {β : Type} {cur : Cur} {all : List U} (hc : ∀ G', cur G' = some all) {γ : WG} {τ : WT} {ε : WE} {base : SS} {n : Nat} {P : GH → Prop} (f : β → U) (J : List β → List PyData → GH → Prop)
    (hs : ∀ a rest acc G', J (a :: rest) acc G' → ∀ N : GH → Prop, (∀ acc' G'', J rest acc' G'' → N (G'' ++ [MO.lst (acc'.map .d)])) → ∃ ss1, Pat γ (f a) base (G' ++ [MO.lst (acc.map .d)]) ss1 ∧ τ ss1 (G' ++ [MO.lst (acc.map .d)]) (fun b G2 => if b = true then ε ss1 G2 (nextK n N) noX else N G2) noX)
    (hd : ∀ acc G', J [] acc G' → P (G' ++ [MO.lst (acc.map .d)])) : ∀ {l : List β} {acc : List PyData} {G' : GH}, J l acc G' → lcL n cur all γ τ ε base (l.map f) (G' ++ [MO.lst (acc.map .d)]) P
  | [], acc, G', h => ⟨hc _, hd _ _ h⟩
  | a :: l, acc, G', h => by
    obtain ⟨ss1, h1, h2⟩ := hs a l acc G' h (fun G2 => lcL n cur all γ τ ε base (l.map f) G2 P) fun acc' G'' h' => lcL_J hc f J hs hd h'
    exact ⟨hc _, h1 _ h2⟩
/-- a list comprehension whose items do something to what lay there ahead of it -/
theorem wp_lcJ {β : Type} {ι : WI} {γ : WG} {τ : WT} {ε : WE} {ws : List Nat} {ss : SS} {G : GH} {us : List U} {l : List β} {P : PU} {p : PX} (f : β → U) (J : List β → List PyData → GH → Prop) (hι : Ei ι ss G us) (hu : us = l.map f)
    (hs : ∀ a rest acc G', J (a :: rest) acc G' → ∀ N : GH → Prop, (∀ acc' G'', J rest acc' G'' → N (G'' ++ [MO.lst (acc'.map .d)])) → ∃ ss1, Pat γ (f a) (wipeU ss ws) (G' ++ [MO.lst (acc.map .d)]) ss1 ∧ τ ss1 (G' ++ [MO.lst (acc.map .d)]) (fun b G2 => if b = true then ε ss1 G2 (nextK G.length N) noX else N G2) noX)
    (h0 : J l [] G) (hd : ∀ acc G', J [] acc G' → G'.length = G.length ∧ Closed G' ∧ P (.d (.list acc)) G') : eVal (eLc ι γ τ ε ws) ss G P p := by
  subst hu
  refine wp_lc hι fun cur hc => ?_
  refine lcL_J hc f J hs (fun acc G' h => ?_) h0
  obtain ⟨h1, h2, h3⟩ := hd acc G' h
  rw [← h1]
  refine frz_lst ?_
  rw [set_last]
  exact ⟨_, left_drop h2, h3⟩
theorem reel_closed {G : GH} {r n : Nat} {L : List U} (hG : Closed G) (h : Reel n L) : Closed (G.set r (.lst L)) := by
  obtain ⟨a, b, c, rfl, _⟩ := h.is_
  exact closed_set hG rfl
theorem law__law_weak : ∀ us G Q p, Closed G → sp__law_weak us G Q p → ph__law_weak (startU N__law_weak us) G (Cnd G Q p) := by
  rintro _ G Q p hG ⟨r, n, L, l, rfl, hl, hr, hL, hn, q⟩
  have A : AtR G r n L := ⟨hr, hL⟩
  have hf := hl.few
  unfold ph__law_weak
  refine st_retB ?_
  show eCallB gSorted (aCons (eVal _) aNil) _ _ _ _
  refine wp_lcJ (l := l) (fun e => .d (endD e)) (fun rest acc G' => ∃ (w : List Str) (L' : List U) (done : Ends), l = done ++ rest ∧ acc = w.map .str ∧ w.Sublist (done.map (·.1)) ∧ G' = G.set r (.lst L') ∧ Reel (n + done.length) L') (ei_T (ev_var rfl)) (by rw [List.map_map]; rfl) ?_ ⟨[], L, [], rfl, rfl, List.Sublist.refl _, by rw [set_same hr], hL⟩ ?_
  · rintro e rest acc _ ⟨w, L', done, rfl, rfl, hw, rfl, hR⟩ N hN
    have hd : done.length ≤ 6 := by rw [List.length_append] at hf; omega
    refine ⟨_, pat2, ?_⟩
    refine wp_test (wp_op (wp_draw (AtR.app ⟨get_set hr, hR⟩) (by omega) ⟨by decide, by decide⟩ (ev_var rfl) ev_c fun v M h1 h2 h3 => ?_))
    by_cases hv : v = 0
    · refine ev_c _ _ (g_eqI _ (test_of (c := true) (decide_eq_true hv) (k_true ?_)))
      rw [set_app (get_set hr), set2]
      refine (ev_var rfl : Ev (eVar 2) _ _ (.d (.str e.1))) _ _ (next_of (List.length_set) (by have := hw.length_le; rw [List.length_map] at this ⊢; omega) (hN (w.map .str ++ [.str e.1]) _ ⟨w ++ [e.1], M, done ++ [e], by simp, by simp, ?_, rfl, h3.up (by rw [List.length_append, List.length_singleton]; omega)⟩))
      rw [List.map_append]
      exact List.Sublist.append hw (List.Sublist.refl _)
    · refine ev_c _ _ (g_eqI _ (test_of (c := false) (decide_eq_false hv) (k_false ?_)))
      rw [set_app (get_set hr), set2]
      refine hN (w.map .str) _ ⟨w, M, done ++ [e], by simp, rfl, ?_, rfl, h3.up (by rw [List.length_append, List.length_singleton]; omega)⟩
      rw [List.map_append]
      exact hw.trans (List.sublist_append_left _ _)
  · rintro acc _ ⟨w, L', done, hd, rfl, hw, rfl, hR⟩
    rw [List.append_nil] at hd
    subst hd
    refine ⟨List.length_set, reel_closed hG hR, ?_⟩
    have hlen := hw.length_le
    rw [List.length_map] at hlen
    refine ⟨strs_sort (by omega), ?_⟩
    rw [sort_strs]
    refine ⟨_, left_same, q (sortS w) L' ?_ ?_ (hR.up (by omega))⟩
    · intro h hh
      exact hw.subset (mem_sortS.mp hh)
    · exact sortS_up (List.Nodup.sublist hw hl.nd)

end K36
/-! ## part D3 -/
namespace K36
open PySem PySem.Spec
open R
theorem map_erase {α β : Type} {f : α → β} : ∀ {l : List α} {k : Nat}, (l.map f).eraseIdx k = (l.eraseIdx k).map f
  | [], _ => by simp
  | a :: l, 0 => by simp
  | a :: l, k + 1 => by simp [map_erase (l := l) (k := k)]
def pD (p : Deed × Deed) : PyData := .tuple [p.1.d, p.2.d]
theorem deed_get (d : Deed) : ∃ k l, d.d = .tuple (.str k :: .str d.hand :: l) := by cases d <;> exact ⟨_, _, rfl⟩
theorem left_drop' {G G1 T : GH} {x : PyData} (h : G1.length = G.length) (hG : Closed G1) : Left G.length (.d x) (G1 ++ T) G1 := by
  rw [← h]; exact left_drop hG
theorem seq_nat {n j : Nat} (h : j < n) : seqIndex? (j : Int) n = some j := (L2.ixN_seq (show L2.ixN n (j : Int) = some j from by unfold L2.ixN; rw [if_pos (by omega), if_pos (by omega)]; simp)).1
theorem st_popAt {o e : WE} {C : Cn} {ss : SS} {G : GH} {n : Nat} (ho : Ev o ss G (.r n)) (hty : tyU "list" (.r n) G) (h : e ss G (fun w G1 => gPopAt (.r n) [w] G1 fun _ G2 => C.nx ss G2) fun x G1 => C.ex x ss G1) : sExpr (eMeth "list" gPopAt o (aCons e aNil)) ss G C := ho _ _ ⟨hty, h⟩
theorem law__law_pairs : ∀ us G Q p, Closed G → sp__law_pairs us G Q p → ph__law_pairs (startU N__law_pairs us) G (Cnd G Q p) := by
  rintro _ G Q p hG ⟨r, n, L, k, ds, rfl, hk1, hk2, hds, hr, hL, hn, q⟩
  unfold ph__law_pairs
  refine sq_lstH ea_nil (Nat.le_of_ble_eq_true rfl) ?_
  refine sq_for (l := ds) (fun d => .d d.d) (fun rest ss G' => ∃ (done : List Deed) (ps : List (Deed × Deed)), ds = done ++ rest ∧ G' = G ++ [.lst ((ps.map pD).map .d)] ∧ ps.length ≤ done.length * 246 ∧ (∀ p ∈ ps, p.1 ∈ ds ∧ p.2 ∈ ds ∧ p.1.hand ≠ p.2.hand) ∧ ∃ w4, ss = [some (.r r), some (.d (.tuple (ds.map Deed.d))), some (.d (.int k)), some (.r G.length), w4, none]) (ei_T (ev_var rfl)) (by rw [List.map_map]; rfl) ?_ ⟨[], [], rfl, rfl, Nat.le_refl _, (by intro p hp; cases hp), _, rfl⟩ ?_
  · rintro d rest ss _ ⟨done, ps, hd, rfl, hz, hp, w4, rfl⟩
    refine ⟨_, pat_name, fun C' hr' hnx => ?_⟩
    have hdl : done.length + 1 + rest.length ≤ 246 := by
      rw [hd, List.length_append, List.length_cons] at hds; omega
    have hfl : (ds.filter fun e => decide (d.hand.cps.toList < e.hand.cps.toList)).length ≤ 246 := Nat.le_trans (List.length_filter_le _ _) hds
    have e1 : (ds.filterMap fun e => if d.hand.cps.toList < e.hand.cps.toList then some (PyData.tuple [d.d, e.d]) else none) = ((ds.filter fun e => decide (d.hand.cps.toList < e.hand.cps.toList)).map fun e => (d, e)).map pD := by
      clear hd hp q hds hnx hfl
      induction ds with
      | nil => rfl
      | cons e l ih =>
        by_cases h : d.hand.cps.toList < e.hand.cps.toList
        · rw [List.filterMap_cons_some (by rw [if_pos h]), ih, List.filter_cons_of_pos (by simp [h])]; rfl
        · rw [List.filterMap_cons_none (by rw [if_neg h]), ih, List.filter_cons_of_neg (by simp [h])]
    refine st_ext_last (ev_var rfl) (ev_as (ev_lcf (l := ds) (fun e => .d e.d) (fun e => if d.hand.cps.toList < e.hand.cps.toList then some (PyData.tuple [d.d, e.d]) else none) (closed_add hG below_data) (ei_T (ev_var rfl)) (by rw [List.map_map]; rfl) ?_ (by omega)) (by rw [e1])) ?_ (hnx _ _ ⟨done ++ [d], ps ++ (ds.filter fun e => decide (d.hand.cps.toList < e.hand.cps.toList)).map fun e => (d, e), by rw [hd]; simp, by simp [List.map_append], ?_, ?_, _, rfl⟩)
    · intro e he T _
      obtain ⟨k1, l1, h1⟩ := deed_get d
      obtain ⟨k2, l2, h2⟩ := deed_get e
      refine ⟨_, decide (d.hand.cps.toList < e.hand.cps.toList), pat_name, et_test (ev_op (ev_op (ev_as (v := .d (.tuple (.str k1 :: .str d.hand :: l1))) (ev_var rfl) (by rw [h1])) ev_c (g_ixT (L2.atI_nat (j := 1) rfl))) (ev_op (ev_as (v := .d (.tuple (.str k2 :: .str e.hand :: l2))) (ev_var rfl) (by rw [h2])) ev_c (g_ixT (L2.atI_nat (j := 1) rfl))) g_ltS), ?_⟩
      by_cases h : d.hand.cps.toList < e.hand.cps.toList
      · rw [if_pos (decide_eq_true h)]
        exact ⟨_, if_pos h, ev_tup (ea_cons (ev_var rfl) (ea_cons (ev_var rfl) ea_nil)) rfl (Nat.le_of_ble_eq_true rfl)⟩
      · rw [if_neg (by simp [h])]
        exact if_neg h
    · rw [List.length_map, List.length_map, List.length_map]
      have : done.length * 246 ≤ 246 * 246 := Nat.mul_le_mul_right _ (by omega)
      omega
    · rw [List.length_append, List.length_map, List.length_append, List.length_singleton, Nat.add_mul]
      omega
    · intro p hp'
      rcases List.mem_append.mp hp' with hp' | hp'
      · exact hp p hp'
      · obtain ⟨e, he, rfl⟩ := List.mem_map.mp hp'
        obtain ⟨h1, h2⟩ := List.mem_filter.mp he
        refine ⟨by rw [hd]; simp, h1, fun h => ?_⟩
        simp only [decide_eq_true_eq, h] at h2
        exact absurd h2 (List.lt_irrefl _)
  · rintro ss _ ⟨done, ps, hd, rfl, hz, hp, w4, rfl⟩
    rw [List.append_nil] at hd
    subst hd
    have hz2 : ps.length ≤ 60516 := by
      have : ds.length * 246 ≤ 246 * 246 := Nat.mul_le_mul_right _ hds
      omega
    refine st_seq ⟨fun j ss G' => ∃ (ps : List (Deed × Deed)) (L' : List U), ps.length = j ∧ j ≤ 60516 ∧ G' = G.set r (.lst L') ++ [.lst ((ps.map pD).map .d)] ∧ Reel (n + (60516 - j)) L' ∧ (∀ p ∈ ps, p.1 ∈ ds ∧ p.2 ∈ ds ∧ p.1.hand ≠ p.2.hand) ∧ ss = [some (.r r), some (.d (.tuple (ds.map Deed.d))), some (.d (.int k)), some (.r G.length), w4, none], ⟨ps.length, ps, L, rfl, hz2, by rw [set_same hr], hL.up (by omega), hp, rfl⟩, ?_⟩
    rintro j ss _ ⟨ps, L', rfl, hj, rfl, hR, hp, rfl⟩
    have hlast : (G.set r (.lst L') ++ [MO.lst ((ps.map pD).map .d)])[G.length]? = some (.lst ((ps.map pD).map .d)) := by
      have := get_last (G := G.set r (.lst L')) (o := MO.lst ((ps.map pD).map .d))
      rw [List.length_set] at this
      exact this
    have hlen : (((ps.map pD).map U.d).length : Int) = ps.length := by rw [List.length_map, List.length_map]
    refine wp_test (ev_callB (ea_cons (ev_var rfl) ea_nil) (n_lenR hlast) _ _ (ev_var rfl _ _ (g_cmp _ ?_)))
    by_cases hgt : k < ps.length
    · refine test_of (c := true) (by rw [hlen]; exact decide_eq_true hgt) (k_true ?_)
      have hty : tyU "list" (.r G.length) (G.set r (.lst L') ++ [MO.lst ((ps.map pD).map .d)]) := by
        show (match (G.set r (.lst L') ++ [MO.lst ((ps.map pD).map U.d)])[G.length]? with
          | some (.lst _) => ("list" : String) = "list"
          | some (.dct _) => ("list" : String) = "dict"
          | _ => False)
        rw [hlast]
      refine st_popAt (ev_var rfl) hty (wp_draw (AtR.app ⟨get_set hr, hR⟩) (by omega) (k := ps.length) (by omega) (ev_var rfl) (ev_as (ev_callB (ea_cons (ev_var rfl) ea_nil) (n_lenR hlast)) (by rw [hlen])) fun v M h1 h2 h3 => ?_)
      rw [set_app (get_set hr), set2]
      have hlast2 : (G.set r (.lst M) ++ [MO.lst ((ps.map pD).map .d)])[G.length]? = some (.lst ((ps.map pD).map .d)) := by
        have := get_last (G := G.set r (.lst M)) (o := MO.lst ((ps.map pD).map .d))
        rw [List.length_set] at this
        exact this
      show (match (G.set r (.lst M) ++ [MO.lst ((ps.map pD).map U.d)])[G.length]? with
        | some (.lst xs) => -(2 ^ 63) ≤ v ∧ v < 2 ^ 63 ∧ match seqIndex? v xs.length with
          | some k => match xs[k]? with
            | some u => _
            | none => False
          | none => False
        | _ => False)
      rw [hlast2]
      refine ⟨by omega, by omega, ?_⟩
      have hv : v.toNat < ((ps.map pD).map U.d).length := by rw [List.length_map, List.length_map]; omega
      have hs := seq_nat hv
      rw [show ((v.toNat : Nat) : Int) = v by omega] at hs
      simp only [hs, List.getElem?_eq_getElem hv]
      refine ⟨ps.length - 1, by omega, ps.eraseIdx v.toNat, M, ?_, by omega, ?_, h3.up (by omega), fun p hp' => hp p (List.mem_of_mem_eraseIdx hp'), trivial⟩
      · rw [List.length_eraseIdx, if_pos (by omega)]
      · have := set_last (G := G.set r (.lst M)) (o := MO.lst ((ps.map pD).map .d)) (o' := MO.lst (((ps.map pD).map U.d).eraseIdx v.toNat))
        rw [List.length_set] at this
        rw [this, map_erase, map_erase]
    · refine test_of (c := false) (by rw [hlen]; exact decide_eq_false hgt) (k_false ?_)
      dsimp only
      refine st_retw (wp_valR (ev_var rfl) hlast ?_)
      have := set_last (G := G.set r (.lst L')) (o := MO.lst ((ps.map pD).map .d)) (o' := MO.dead)
      rw [List.length_set] at this
      rw [this]
      exact ⟨_, left_drop' List.length_set (reel_closed hG hR), q ps L' hp (by omega) (hR.up (by omega))⟩

end K36
/-! ## part D4 -/
namespace K36
open PySem PySem.Spec
open R
theorem lcJ_core {β : Type} {γ : WG} {τ : WT} {ε : WE} {base : SS} {G : GH} {l : List β} {P : PU} {cur : Cur} {all : List U} (hc : ∀ G', cur G' = some all) (f : β → U) (J : List β → List PyData → GH → Prop) {n0 : Nat} (hn0 : G.length = n0)
    (hs : ∀ a rest acc G', J (a :: rest) acc G' → ∀ N : GH → Prop, (∀ acc' G'', J rest acc' G'' → N (G'' ++ [MO.lst (acc'.map .d)])) → ∃ ss1, Pat γ (f a) base (G' ++ [MO.lst (acc.map .d)]) ss1 ∧ τ ss1 (G' ++ [MO.lst (acc.map .d)]) (fun b G2 => if b = true then ε ss1 G2 (nextK G.length N) noX else N G2) noX)
    (h0 : J l [] G) (hd : ∀ acc G', J [] acc G' → G'.length = G.length ∧ Closed G' ∧ P (.d (.list acc)) G') : lcL G.length cur all γ τ ε base (l.map f) (G ++ [MO.lst []]) fun G2 => frzU (.r G.length) G2 fun u G1 => ∃ G', Left n0 u G1 G' ∧ P u G' := by
  refine lcL_J hc f J hs (fun acc G' h => ?_) h0
  obtain ⟨h1, h2, h3⟩ := hd acc G' h
  rw [← hn0, ← h1]
  refine frz_lst ?_
  rw [set_last]
  exact ⟨_, left_drop h2, h3⟩
/-- what is done with the number of turns -/
def rngK (n0 : Nat) (γ : WG) (τ : WT) (ε : WE) (base : SS) (P : PU) : PU := fun u G1 => match [u] with
  | [.d (.int j)] => -(2 ^ 62) ≤ j ∧ j < 2 ^ 62 ∧ lcL G1.length (fun _ => some (rngU 0 j.toNat)) (rngU 0 j.toNat) γ τ ε base (rngU 0 j.toNat) (G1 ++ [MO.lst []]) fun G2 => frzU (.r G1.length) G2 fun u G1 => ∃ G', Left n0 u G1 G' ∧ P u G'
  | _ => False
theorem wp_lcRng {e : WE} {γ : WG} {τ : WT} {ε : WE} {ws : List Nat} {ss : SS} {G : GH} {P : PU} {p : PX} (h : ∀ p, e ss G (rngK G.length γ τ ε (wipeU ss ws) P) p) : eVal (eLc (iRng1 (aCons e aNil)) γ τ ε ws) ss G P p := h _
theorem rngK_of {n0 : Nat} {γ : WG} {τ : WT} {ε : WE} {base : SS} {G : GH} {P : PU} {j : Int} (J : List Nat → List PyData → GH → Prop) (hn0 : G.length = n0) (hj : 0 ≤ j ∧ j ≤ 100000)
    (hs : ∀ a rest acc G', J (a :: rest) acc G' → ∀ N : GH → Prop, (∀ acc' G'', J rest acc' G'' → N (G'' ++ [MO.lst (acc'.map .d)])) → ∃ ss1, Pat γ (.d (.int (0 + (a : Nat)))) base (G' ++ [MO.lst (acc.map .d)]) ss1 ∧ τ ss1 (G' ++ [MO.lst (acc.map .d)]) (fun b G2 => if b = true then ε ss1 G2 (nextK G.length N) noX else N G2) noX)
    (h0 : J (List.range j.toNat) [] G) (hd : ∀ acc G', J [] acc G' → G'.length = G.length ∧ Closed G' ∧ P (.d (.list acc)) G') : rngK n0 γ τ ε base P (.d (.int j)) G :=
  ⟨by omega, by omega, lcJ_core (fun _ => rfl) (fun i => .d (.int (0 + (i : Nat)))) J hn0 hs h0 hd⟩
abbrev SS_ (l : List Nat) : Str := ⟨l.toArray⟩
def letterL : List Nat := [97, 98, 99, 100, 101, 102, 103, 104, 105, 106, 107, 108, 109, 110, 111, 112, 113, 114, 115, 116, 117, 118, 119, 120, 121, 122]
theorem letters_list : letters.cps.toList = letterL := by decide
theorem letter_at {j : Nat} (h : j < 26) : letterL[j]? = some (97 + j) ∧ 97 + j ∈ letterL := by
  have : ∀ j, j < 26 → letterL[j]? = some (97 + j) := by decide
  exact ⟨this j h, List.mem_of_getElem? (this j h)⟩
theorem letter_get {v : Int} {G : GH} (h : 0 ≤ v ∧ v < 26) : Eg gIx (.d (.str letters)) (.d (.int v)) G (.d (.str (SS_ [97 + v.toNat]))) := by
  refine g_ixS (by decide) ?_
  rw [letters_list]
  have := L2.atI_nat (letter_at (j := v.toNat) (by omega)).1
  rw [show ((v.toNat : Nat) : Int) = v by omega] at this
  exact this
theorem joinL_nil : ∀ l : List Nat, TL.joinL [] (l.map fun c => [c]) = l
  | [] => rfl
  | [c] => rfl
  | a :: b :: r => by
    have := joinL_nil (b :: r)
    simp only [List.map_cons] at this ⊢
    rw [TL.joinL, this]
    rfl
theorem join_letters (l : List Nat) : Txt.join "" (l.map fun c => SS_ [c]) = SS_ l := by
  have := SX.join_S [] (l.map fun c => [c])
  rw [joinL_nil, List.map_map] at this
  exact this
theorem strs_letters : ∀ l : List Nat, strsOf (l.map fun c => PyData.str (SS_ [c])) = some (l.map fun c => SS_ [c])
  | [] => rfl
  | a :: l => by
    rw [List.map_cons, strsOf, strs_letters l]; rfl
theorem wp_letters {e : WE} {ss : SS} {G : GH} {r n n1 : Nat} {L : List U} {P : PU} {p : PX} {i j k : Nat} (D : Int → Prop) (hG : Closed G) (A : AtR G r n L) (hi2 : i ≠ j) (hi3 : i ≠ k)
    (hj : ss[j]? = some (some (.d (.str letters)))) (hk : ss[k]? = some (some (.r r))) (hn : n1 ≤ 95000)
    (hE : ∀ (Pe : PU) (pe : PX), (∀ v L', D v → Reel n1 L' → Pe (.d (.int v)) (G.set r (.lst L'))) → e ss G Pe pe)
    (hD : ∀ v, D v → 0 ≤ v ∧ v ≤ 8)
    (h : ∀ v ls L', D v → (ls.length : Int) = v → (∀ c ∈ ls, c ∈ letterL) → Reel (n1 + 8) L' → P (.d (.str (SS_ ls))) (G.set r (.lst L'))) :
    eMeth "str" gJoin (eC (.str "")) (aCons (eVal (eLc (iRng1 (aCons e aNil)) (gdName i) tYes' (eOp gIx (eVar j) (eCall sp__law_draw 2 uPos (aCons (eVar k) (aCons (eC (.int 26)) aNil)) aNil 0)) [i])) aNil) ss G P p := by
  refine (ev_c : Ev (eC (.str "")) ss G _) _ _ ⟨rfl, wp_acw (wp_lcRng fun p => hE _ _ fun v M hv hM => ?_)⟩
  obtain ⟨v0, v8⟩ := hD v hv
  refine rngK_of (fun rest acc G' => ∃ (ls : List Nat) (L' : List U), acc = ls.map (fun c => PyData.str (SS_ [c])) ∧ (∀ c ∈ ls, c ∈ letterL) ∧ ls.length + rest.length = v.toNat ∧ G' = G.set r (.lst L') ∧ Reel (n1 + ls.length) L') List.length_set (by omega) ?_ ⟨[], M, rfl, (by intro c hc; cases hc), by simp, rfl, hM⟩ ?_
  · rintro a rest acc _ ⟨ls, L', rfl, hls, hlen, rfl, hR⟩ N hN
    rw [List.length_cons] at hlen
    refine ⟨_, pat_name, ?_⟩
    have e1 : ∀ G', Ev (eVar j) ((wipeU ss [i]).set i (some (.d (.int (0 + (a : Nat)))))) G' (.d (.str letters)) := fun G' => ev_var (by
      show ((ss.set i none).set i _)[j]? = _
      rw [List.getElem?_set_ne hi2, List.getElem?_set_ne hi2]; exact hj)
    have e2 : ∀ G', Ev (eVar k) ((wipeU ss [i]).set i (some (.d (.int (0 + (a : Nat)))))) G' (.r r) := fun G' => ev_var (by
      show ((ss.set i none).set i _)[k]? = _
      rw [List.getElem?_set_ne hi3, List.getElem?_set_ne hi3]; exact hk)
    refine (show Et tYes' _ _ true from fun _ _ q => q) _ _ (k_true (wp_opl (e1 _) (wp_draw (AtR.app ⟨get_set A.at_, hR⟩) (by omega) (by decide) (e2 _) ev_c fun w M' h1 h2 h3 => ?_)))
    refine letter_get ⟨h1, h2⟩ _ ?_
    rw [set_app (get_set A.at_), set2]
    refine next_of (by rw [List.length_set, List.length_set]) (by rw [List.length_map]; omega) (hN _ _ ⟨ls ++ [97 + w.toNat], M', by simp, ?_, by rw [List.length_append, List.length_singleton]; omega, rfl, h3.up (by rw [List.length_append, List.length_singleton]; omega)⟩)
    intro c hc
    rcases List.mem_append.mp hc with hc | hc
    · exact hls c hc
    · rw [List.mem_singleton.mp hc]; exact (letter_at (by omega)).2
  · rintro acc _ ⟨ls, L', rfl, hls, hlen, rfl, hR⟩
    rw [List.length_nil, Nat.add_zero] at hlen
    refine ⟨by rw [List.length_set, List.length_set], reel_closed hG hR, wp_nil ?_⟩
    show (match strsOf (ls.map fun c => PyData.str (SS_ [c])) with
      | some ys => (ys.map (·.length)).sum + ys.length * ("" : Str).length ≤ 16777216 ∧ P (.d (.str (Txt.join "" ys))) (G.set r (.lst L'))
      | none => False)
    rw [strs_letters]
    refine ⟨?_, ?_⟩
    · have : ((ls.map fun c => SS_ [c]).map (·.length)).sum = ls.length := by
        rw [List.map_map]
        exact sum_ones ls
      rw [this, List.length_map]
      have : ("" : Str).length = 0 := rfl
      rw [this]
      omega
    · rw [join_letters]
      exact h v ls L' hv (by omega) hls (hR.up (by omega))

end K36
/-! ## part D5 -/
namespace K36
open PySem PySem.Spec
open R
theorem S_len (l : List Nat) : (SS_ l).length = l.length := by simp [SS_, Str.length]
theorem S_add (a b : List Nat) : SS_ a ++ SS_ b = SS_ (a ++ b) := SX.S_cat a b
theorem S_inj {a b : List Nat} (h : SS_ a = SS_ b) : a = b := SX.S_inj h
theorem S_to (l : List Nat) (k : Nat) : L2.cutS (SS_ l) none (some (k : Int)) = SS_ (l.take k) := by
  have h := cut_front k l
  unfold cutD at h
  unfold L2.cutS
  rw [S_len]
  exact congrArg (fun x : List Nat => SS_ x) h
theorem S_from (l : List Nat) (k : Nat) : L2.cutS (SS_ l) (some (k : Int)) none = SS_ (l.drop k) := by
  unfold L2.cutS
  rw [S_len]
  refine congrArg (fun x : List Nat => SS_ x) ?_
  rw [HT.sIx_nat]
  show (l.drop (min k l.length)).take (l.length - min k l.length) = l.drop k
  by_cases h : k ≤ l.length
  · rw [Nat.min_eq_left h, List.take_of_length_le (by rw [List.length_drop]; omega)]
  · rw [Nat.min_eq_right (by omega), List.drop_of_length_le (Nat.le_refl _), List.drop_of_length_le (by omega)]; simp
theorem S_name {l : List Nat} (h1 : 1 ≤ l.length) (h2 : l.length ≤ 8) (h : ∀ c ∈ l, c ∈ letterL) : nameB (SS_ l) = true := by
  unfold nameB
  rw [S_len, decide_eq_true h1, decide_eq_true h2, Bool.true_and, Bool.true_and, List.all_eq_true]
  intro c hc
  rw [letters_list]
  exact decide_eq_true (h c hc)
def sgN (F j : Nat) : Nat := 97 + (F + 7 * j) % 26
structure Good (w : Int) (st : List Nat) (at_ F j : Nat) (l : List Nat) : Prop where
  w0 : w = 0 → l = st.take at_ ++ [sgN F j] ++ st.drop (at_ + 1)
  w1 : w = 1 → l.length = (F + j) % 8 + 1
  w2 : w = 2 → l.head? = some (sgN F j)
  lo : 1 ≤ l.length
  hi : l.length ≤ 8
  abc : ∀ c ∈ l, c ∈ letterL
theorem good_ne {w : Int} {st : List Nat} {at_ F i j : Nat} {l : List Nat} (hw : w = 0 ∨ w = 1 ∨ w = 2) (hi : i < 6) (hj : j < 6) (h1 : Good w st at_ F i l) (h2 : Good w st at_ F j l) : i = j := by
  rcases hw with hw | hw | hw
  · have e := (h1.w0 hw).symm.trans (h2.w0 hw)
    rw [List.append_assoc, List.append_assoc] at e
    have e := List.append_cancel_left e
    simp only [List.cons_append, List.nil_append, List.cons.injEq] at e
    have := e.1
    unfold sgN at this
    omega
  · have e := (h1.w1 hw).symm.trans (h2.w1 hw)
    omega
  · have e := (h1.w2 hw).symm.trans (h2.w2 hw)
    have := Option.some.inj e
    unfold sgN at this
    omega
theorem good_nodup {w : Int} {st : List Nat} {at_ F : Nat} {ns : List (List Nat)} (hw : w = 0 ∨ w = 1 ∨ w = 2) (hn : ns.length ≤ 6) (h : ∀ j l, ns[j]? = some l → Good w st at_ F j l) : ns.Nodup := by
  rw [List.Nodup, List.pairwise_iff_getElem]
  intro i j hi hj hij e
  have h1 := h i ns[i] (List.getElem?_eq_getElem hi)
  have h2 := h j ns[j] (List.getElem?_eq_getElem hj)
  rw [← e] at h2
  have := good_ne hw (by omega) (by omega) h1 h2
  omega
theorem drop_range {m k a : Nat} {rest : List Nat} (h : a :: rest = (List.range m).drop k) : a = k ∧ rest = (List.range m).drop (k + 1) ∧ k < m := by
  have h1 : (List.range m)[k]? = some a := by
    have := congrArg (fun l : List Nat => l[0]?) h
    simp only [List.getElem?_cons_zero, List.getElem?_drop, Nat.add_zero] at this
    exact this.symm
  obtain ⟨h2, h3⟩ := List.getElem?_eq_some_iff.mp h1
  rw [List.length_range] at h2
  rw [List.getElem_range] at h3
  refine ⟨h3.symm, ?_, h2⟩
  have := congrArg List.tail h
  rw [List.tail_cons, List.tail_drop] at this
  exact this
theorem n_int {b : Bool} {G : GH} : En gInt [.d (.bool b)] G (.d (.int (if b then 1 else 0))) := fun _ q => q
theorem reel_set {G : GH} {r : Nat} {L L' : List U} (hr : G[r]? = some (.lst L)) {T : GH} : ((G.set r (.lst L')) ++ T)[r]? = some (.lst L') := gapp (get_set hr)
theorem law__law_names : ∀ us G Q p, Closed G → sp__law_names us G Q p → ph__law_names (startU N__law_names us) G (Cnd G Q p) := by
  rintro _ G Q p hG ⟨r, k, n, L, rfl, hk1, hk2, hr, hL, hn, q⟩
  unfold ph__law_names
  refine sq_name (u := .d (.str letters)) ev_c ?_
  refine sq_wname (wp_draw ⟨hr, hL⟩ (by omega) (by decide) (ev_var rfl) ev_c fun w L1 w1 w2 hL1 => ?_)
  have hw : w = 0 ∨ w = 1 ∨ w = 2 := by omega
  have A1 : AtR (G.set r (.lst L1)) r (n + 1) L1 := ⟨get_set hr, hL1⟩
  have hv4 : ∀ v : Int, (w = 0 → 1 ≤ v ∧ v ≤ 8) ∧ (w = 1 → v = 8) ∧ (w = 2 → v = 1) → 1 ≤ v ∧ v ≤ 8 := by
    rintro v ⟨q0, q1, q2⟩
    rcases hw with h | h | h
    · exact q0 h
    · have := q1 h; omega
    · have := q2 h; omega
  have hv3 : ∀ v : Int, (w = 0 → 1 ≤ v ∧ v ≤ 8) ∧ (w = 1 → v = 8) ∧ (w = 2 → v = 1) → 0 ≤ v ∧ v ≤ 8 := fun v hv => by have := hv4 v hv; omega
  refine sq_wname (wp_letters (n1 := n + 2) (fun v => (w = 0 → 1 ≤ v ∧ v ≤ 8) ∧ (w = 1 → v = 8) ∧ (w = 2 → v = 1)) (reel_closed hG hL1) A1 (by decide) (by decide) rfl rfl (by omega) (fun Pe pe hPe => ?_) (fun v hv => hv3 v hv) fun v ls Lb hv hlen hls hLb => ?_)
  · refine wp_op (wp_lst (wp_acw (wp_opl ev_c (wp_draw A1 (by omega) (by decide) (ev_var rfl) ev_c fun v M h1 h2 h3 => g_addI _ (wp_ac ev_c (wp_ac ev_c (wp_nil (lstK_of rfl (Nat.le_of_ble_eq_true rfl) ?_))))))))
    rcases hw with rfl | rfl | rfl
    · exact ev_var rfl _ _ (g_ixL (d := .int (1 + v)) rfl _ (hPe _ _ ⟨fun _ => by omega, fun h => by omega, fun h => by omega⟩ h3))
    · exact ev_var rfl _ _ (g_ixL (d := .int 8) rfl _ (hPe _ _ ⟨fun h => by omega, fun h => rfl, fun h => by omega⟩ h3))
    · exact ev_var rfl _ _ (g_ixL (d := .int 1) rfl _ (hPe _ _ ⟨fun h => by omega, fun h => by omega, fun h => rfl⟩ h3))
  rw [set2]
  have hv_ := hv
  have hlen1 : 1 ≤ ls.length ∧ ls.length ≤ 8 := by have := hv4 v hv; omega
  rw [← hlen] at hv_
  clear hv hlen
  have hzs : (SS_ ls).length ≤ sizeLine := few_size (by rw [S_len]; omega)
  have A2 : AtR (G.set r (.lst Lb)) r (n + 2 + 8) Lb := ⟨get_set hr, hLb⟩
  refine sq_wname (wp_draw A2 (by omega) (k := ls.length) (by omega) (ev_var rfl) (ev_as (ev_callB (ea_cons (ev_var rfl) ea_nil) (n_lenS hzs)) (by rw [S_len])) fun at_ L3 a1 a2 hL3 => ?_)
  rw [set2]
  have A3 : AtR (G.set r (.lst L3)) r (n + 2 + 8 + 1) L3 := ⟨get_set hr, hL3⟩
  refine sq_wname (wp_draw A3 (by omega) (by decide) (ev_var rfl) ev_c fun F L4 f1 f2 hL4 => ?_)
  rw [set2]
  refine sq_lstH ea_nil (Nat.le_of_ble_eq_true rfl) ?_
  rw [List.length_set]
  obtain ⟨at_, rfl⟩ : ∃ j : Nat, at_ = (j : Int) := ⟨at_.toNat, by omega⟩
  obtain ⟨F, rfl⟩ : ∃ j : Nat, F = (j : Int) := ⟨F.toNat, by omega⟩
  have hGl : ∀ L', (G.set r (.lst L')).length = G.length := fun L' => List.length_set
  refine sq_for (l := List.range k.toNat) (fun i => .d (.int (0 + (i : Nat)))) (fun rest ss G' => ∃ (ns : List (List Nat)) (L' : List U), rest = (List.range k.toNat).drop ns.length ∧ ns.length ≤ k.toNat ∧ G' = G.set r (.lst L') ++ [.lst ((ns.map fun l => PyData.str (SS_ l)).map .d)] ∧ Reel (n + 12 + 9 * ns.length) L' ∧ (∀ j l, ns[j]? = some l → Good w ls at_ F j l) ∧ ∃ w8 w9 w10, ss = [some (.r r), some (.d (.int k)), some (.d (.str letters)), some (.d (.int w)), some (.d (.str (SS_ ls))), some (.d (.int at_)), some (.d (.int F)), some (.r G.length), w8, w9, w10, none]) (ei_rng (ea_cons (ev_var rfl) ea_nil) (by omega)) rfl ?_ ⟨[], L4, rfl, Nat.zero_le _, rfl, hL4.up (by omega), (by intro j l h; cases h), _, _, _, rfl⟩ ?_
  · rintro i rest ss _ ⟨ns, L', hrest, hns, rfl, hR, hgood, w8, w9, w10, rfl⟩
    obtain ⟨rfl, hrest2, hlt⟩ := drop_range hrest
    refine ⟨_, pat_name, fun C' hr' hnx => ?_⟩
    have hi6 : ns.length ≤ 5 := by omega
    have m7 : L2.CMulW 7 (0 + (ns.length : Nat)) := mulW (by omega) (by omega)
    have hsg := Int.emod_nonneg (F + 7 * (0 + (ns.length : Nat)) : Int) (b := 26) (by decide)
    have hsg2 := Int.emod_lt_of_pos (F + 7 * (0 + (ns.length : Nat)) : Int) (b := 26) (by decide)
    have esg : 97 + ((F + 7 * (0 + (ns.length : Nat)) : Int) % 26).toNat = sgN F ns.length := by unfold sgN; omega
    refine sq_name (u := .d (.str (SS_ [sgN F ns.length]))) (ev_as (ev_op (ev_var rfl) (ev_op (ev_op (ev_var rfl) (ev_op ev_c (ev_var rfl) (g_mul m7)) g_addI) ev_c (g_mod (by decide))) (letter_get ⟨hsg, hsg2⟩)) (by rw [esg])) ?_
    have hcl : Closed (G.set r (.lst L') ++ [MO.lst ((ns.map fun l => PyData.str (SS_ l)).map U.d)]) := closed_add (reel_closed hG hR) below_data
    have A4 : AtR (G.set r (.lst L') ++ [MO.lst ((ns.map fun l => PyData.str (SS_ l)).map U.d)]) r (n + 12 + 9 * ns.length) L' := ⟨reel_set hr, hR⟩
    refine sq_wname (wp_letters (n1 := n + 12 + 9 * ns.length + 1) (fun v => 0 ≤ v ∧ v ≤ 7) hcl A4 (by decide) (by decide) rfl rfl (by omega) (fun Pe pe hPe => ?_) (fun v hv => by omega) fun v tl L5 hv htl htl2 hL5 => ?_)
    · refine wp_op (wp_draw A4 (by omega) (by decide) (ev_var rfl) ev_c fun v M h1 h2 h3 => ?_)
      refine ev_callB (ea_cons (ev_op (ev_var rfl) ev_c g_eqI) ea_nil) n_int _ _ (g_mul (mulW (by omega) (by split <;> omega)) _ (hPe _ _ ?_ h3))
      split <;> omega
    rw [set_app (get_set hr), set2]
    have hsl : sgN F ns.length ∈ letterL := by unfold sgN; exact (letter_at (Nat.mod_lt _ (by decide))).2
    have htl7 : tl.length ≤ 7 := by omega
    have hat : at_ < ls.length := by omega
    have zz : ∀ l : List Nat, l.length ≤ 100 → (SS_ l).length ≤ sizeLine := fun l h => few_size (by rw [S_len]; omega)
    have z2 : ∀ a b : List Nat, a.length ≤ 100 → b.length ≤ 100 → (SS_ a).length + (SS_ b).length ≤ sizeLine := fun a b h1 h2 => few_size (by rw [S_len, S_len]; omega)
    have t1 : (ls.take at_).length ≤ 8 := by rw [List.length_take]; omega
    have t2 : (ls.drop (at_ + 1)).length ≤ 100 := by rw [List.length_drop]; omega
    have app : ∀ l : List Nat, Good w ls at_ F ns.length l → L2.atI [PyData.str (SS_ (ls.take at_ ++ [sgN F ns.length] ++ ls.drop (at_ + 1))), .str (SS_ (ls.take ((F + ns.length) % 8 + 1))), .str (SS_ (sgN F ns.length :: tl))] w = some (.str (SS_ l)) → sExpr (eMeth "list" gAppend (eVar 7) (aCons (eOp gIx (eLst (aCons (eOp gAdd (eOp gAdd (eSl (eVar 4) oNone (oSome (eVar 5))) (eVar 9)) (eSl (eVar 4) (oSome (eOp gAdd (eVar 5) (eC (.int 1)))) oNone)) (aCons (eSl (eVar 4) oNone (oSome (eOp gAdd (eOp gMod (eOp gAdd (eVar 6) (eVar 8)) (eC (.int 8))) (eC (.int 1))))) (aCons (eOp gAdd (eVar 9) (eVar 10)) aNil)))) (eVar 3)) aNil)) [some (.r r), some (.d (.int k)), some (.d (.str letters)), some (.d (.int w)), some (.d (.str (SS_ ls))), some (.d (.int at_)), some (.d (.int F)), some (.r G.length), some (.d (.int (0 + (ns.length : Nat)))), some (.d (.str (SS_ [sgN F ns.length]))), some (.d (.str (SS_ tl))), none] (G.set r (.lst L5) ++ [MO.lst ((ns.map fun l => PyData.str (SS_ l)).map U.d)]) C' := by
      intro l hg hx
      have x1 := fun G' => (ev_as (ev_op (ev_as (v := .d (.str (SS_ (ls.take at_ ++ [sgN F ns.length])))) (ev_op (ev_as (v := .d (.str (SS_ (ls.take at_)))) (ev_sl (ev_var rfl) eo_none (eo_some (ev_var rfl)) (s_S hzs)) (by rw [S_to])) (ev_var rfl) (g_addS (z2 _ _ (Nat.le_trans t1 (by omega)) (by simp)))) (by rw [S_add])) (ev_as (v := .d (.str (SS_ (ls.drop (at_ + 1))))) (ev_sl (ev_var rfl) (eo_some (ev_op (ev_var rfl) ev_c g_addI)) eo_none (s_S hzs)) (by rw [show ((at_ : Nat) : Int) + 1 = ((at_ + 1 : Nat) : Int) by omega, S_from])) (g_addS (z2 _ _ (by rw [List.length_append, List.length_singleton]; omega) t2))) (by rw [S_add]) : Ev (eOp gAdd (eOp gAdd (eSl (eVar 4) oNone (oSome (eVar 5))) (eVar 9)) (eSl (eVar 4) (oSome (eOp gAdd (eVar 5) (eC (.int 1)))) oNone)) [some (.r r), some (.d (.int k)), some (.d (.str letters)), some (.d (.int w)), some (.d (.str (SS_ ls))), some (.d (.int at_)), some (.d (.int F)), some (.r G.length), some (.d (.int (0 + (ns.length : Nat)))), some (.d (.str (SS_ [sgN F ns.length]))), some (.d (.str (SS_ tl))), none] G' (.d (.str (SS_ (ls.take at_ ++ [sgN F ns.length] ++ ls.drop (at_ + 1))))))
      refine st_app (xs := (ns.map fun l => PyData.str (SS_ l)).map U.d) (u := .d (.str (SS_ l))) (ev_var rfl) (by rw [← hGl L5]; exact get_last) (ev_op (ev_lst (xs := [PyData.str (SS_ (ls.take at_ ++ [sgN F ns.length] ++ ls.drop (at_ + 1))), .str (SS_ (ls.take ((F + ns.length) % 8 + 1))), .str (SS_ (sgN F ns.length :: tl))]) (ea_cons (x1 _) (ea_cons (u := .d (.str (SS_ (ls.take ((F + ns.length) % 8 + 1))))) (ev_as (ev_sl (ev_var rfl) eo_none (eo_some (ev_op (ev_op (ev_op (ev_var rfl) (ev_var rfl) g_addI) ev_c (g_mod (by decide))) ev_c g_addI)) (s_S hzs)) ?_) (ea_cons (u := .d (.str (SS_ (sgN F ns.length :: tl)))) (ev_as (ev_op (ev_var rfl) (ev_var rfl) (g_addS (z2 _ _ (by simp) (by omega)))) (by rw [S_add]; rfl)) ea_nil))) rfl (Nat.le_of_ble_eq_true rfl)) (ev_var rfl) (g_ixL hx)) (by rw [List.length_map, List.length_map]; omega) (hnx _ _ ⟨ns ++ [l], L5, ?_, by rw [List.length_append, List.length_singleton]; omega, ?_, ?_, ?_, _, _, _, rfl⟩)
      · rw [show ((F : Nat) : Int) + (0 + (ns.length : Nat)) = ((F + ns.length : Nat) : Int) by omega, show (((F + ns.length : Nat) : Int) % 8 + 1) = (((F + ns.length) % 8 + 1 : Nat) : Int) by omega, S_to]
      · rw [List.length_append, List.length_singleton]; exact hrest2
      · have e1 := set_last (G := G.set r (.lst L5)) (o := MO.lst ((ns.map fun l => PyData.str (SS_ l)).map U.d)) (o' := MO.lst (((ns.map fun l => PyData.str (SS_ l)).map U.d) ++ [.d (.str (SS_ l))]))
        rw [hGl] at e1
        rw [e1]
        simp
      · exact hL5.up (by rw [List.length_append, List.length_singleton]; omega)
      · intro j l' hj
        rw [List.getElem?_append] at hj
        split at hj
        · exact hgood j l' hj
        · rename_i hge
          have : j - ns.length = 0 := by
            cases hjj : j - ns.length with
            | zero => rfl
            | succ m => rw [hjj] at hj; simp at hj
          rw [this] at hj
          cases hj
          rw [show j = ns.length by omega]
          exact hg
    have memt : ∀ {c m}, c ∈ ls.take m → c ∈ letterL := fun h => hls _ (List.mem_of_mem_take h)
    have memd : ∀ {c m}, c ∈ ls.drop m → c ∈ letterL := fun h => hls _ (List.mem_of_mem_drop h)
    obtain ⟨q0, q1, q2⟩ := hv_
    rcases hw with h | h | h
    · refine app (ls.take at_ ++ [sgN F ns.length] ++ ls.drop (at_ + 1)) ⟨fun _ => rfl, fun h' => by omega, fun h' => by omega, ?_, ?_, ?_⟩ (by rw [h]; rfl)
      · simp; omega
      · rw [List.length_append, List.length_append, List.length_take, List.length_drop, List.length_singleton]; omega
      · intro c hc
        rcases List.mem_append.mp hc with hc | hc
        · rcases List.mem_append.mp hc with hc | hc
          · exact memt hc
          · rw [List.mem_singleton.mp hc]; exact hsl
        · exact memd hc
    · have h8 : ls.length = 8 := by have := q1 h; omega
      have hm : (F + ns.length) % 8 + 1 ≤ 8 := by omega
      refine app (ls.take ((F + ns.length) % 8 + 1)) ⟨fun h' => by omega, fun _ => ?_, fun h' => by omega, ?_, ?_, fun c hc => memt hc⟩ (by rw [h]; rfl)
      · rw [List.length_take]; omega
      · rw [List.length_take]; omega
      · rw [List.length_take]; omega
    · refine app (sgN F ns.length :: tl) ⟨fun h' => by omega, fun h' => by omega, fun _ => rfl, by simp, by rw [List.length_cons]; omega, ?_⟩ (by rw [h]; rfl)
      intro c hc
      rcases List.mem_cons.mp hc with rfl | hc
      · exact hsl
      · exact htl2 c hc
  · rintro ss _ ⟨ns, L', hrest, hns, rfl, hR, hgood, w8, w9, w10, rfl⟩
    have hlen : ns.length = k.toNat := by
      have := congrArg List.length hrest
      rw [List.length_nil, List.length_drop, List.length_range] at this
      omega
    have hlast : (G.set r (.lst L') ++ [MO.lst ((ns.map fun l => PyData.str (SS_ l)).map U.d)])[G.length]? = some (.lst ((ns.map fun l => PyData.str (SS_ l)).map U.d)) := by
      have := get_last (G := G.set r (.lst L')) (o := MO.lst ((ns.map fun l => PyData.str (SS_ l)).map U.d))
      rw [hGl] at this
      exact this
    refine st_retw (wp_valR (ev_var rfl) hlast ?_)
    have e1 := set_last (G := G.set r (.lst L')) (o := MO.lst ((ns.map fun l => PyData.str (SS_ l)).map U.d)) (o' := MO.dead)
    rw [hGl] at e1
    rw [e1]
    refine ⟨_, left_drop' (hGl _) (reel_closed hG hR), ?_⟩
    have := q (ns.map SS_) L' (by rw [List.length_map]; omega) (nodup_map (fun a b h => S_inj h) (good_nodup hw (by omega) hgood)) ?_ (hR.up (by omega))
    · rw [List.map_map] at this
      exact this
    · intro x hx
      obtain ⟨l, hl, rfl⟩ := List.mem_map.mp hx
      obtain ⟨j, hj⟩ := List.getElem?_of_mem hl
      have g := hgood j l hj
      exact S_name g.lo g.hi g.abc

end K36
/-! ## part D6 -/
namespace K36
open PySem PySem.Spec
open R
theorem forL_J {β : Type} {γ : WG} {ψ : WS} {C : Cn} {cur : Cur} {all : List U} (f : β → U) (I : List β → SS → GH → Prop) (hc : ∀ l ss G, I l ss G → cur G = some all)
    (hs : ∀ a rest ss G, I (a :: rest) ss G → ∃ ss1, Pat γ (f a) ss G ss1 ∧ ∀ C' : Cn, C'.rt = C.rt → (∀ ss2 G2, I rest ss2 G2 → C'.nx ss2 G2) → ψ ss1 G C')
    (hd : ∀ ss G, I [] ss G → C.nx ss G) : ∀ {l : List β} {ss : SS} {G : GH}, I l ss G → forL cur all γ (sScope ψ) (l.map f) ss G C
  | [], ss, G, h => ⟨hc _ _ _ h, hd _ _ h⟩
  | a :: l, ss, G, h => by
    obtain ⟨ss1, h1, h2⟩ := hs a l ss G h
    exact ⟨hc _ _ _ h, h1 _ (st_scope fun C' e hn => h2 C' e fun ss2 G2 h3 => hn _ _ (forL_J f I hc hs hd h3))⟩
/-- what is done with the number of turns of a for -/
def forK (γ : WG) (ψ : WS) (ss : SS) (C : Cn) : PU := fun u G1 => match [u] with
  | [.d (.int j)] => -(2 ^ 62) ≤ j ∧ j < 2 ^ 62 ∧ forL (fun _ => some (rngU 0 j.toNat)) (rngU 0 j.toNat) γ ψ (rngU 0 j.toNat) ss G1 C
  | _ => False
theorem wp_forRng {e : WE} {γ : WG} {ψ : WS} {C : Cn} {ss : SS} {G : GH} (h : ∀ p, e ss G (forK γ ψ ss C) p) : sFor (iRng1 (aCons e aNil)) γ ψ ss G C := h _
theorem forK_of {γ : WG} {ψ : WS} {C : Cn} {ss : SS} {G : GH} {j : Int} (I : List Nat → SS → GH → Prop) (hj : 0 ≤ j ∧ j ≤ 100000)
    (hs : ∀ a rest ss G, I (a :: rest) ss G → ∃ ss1, Pat γ (.d (.int (0 + (a : Nat)))) ss G ss1 ∧ ∀ C' : Cn, C'.rt = C.rt → (∀ ss2 G2, I rest ss2 G2 → C'.nx ss2 G2) → ψ ss1 G C')
    (h0 : I (List.range j.toNat) ss G) (hd : ∀ ss G, I [] ss G → C.nx ss G) : forK γ (sScope ψ) ss C (.d (.int j)) G :=
  ⟨by omega, by omega, forL_J (fun i => .d (.int (0 + (i : Nat)))) I (fun _ _ _ _ => rfl) hs hd h0⟩
theorem st_forJ {β : Type} {γ : WG} {ψ : WS} {C : Cn} {ss : SS} {G : GH} {a : WE} {u : U} {l : List β} (f : β → U) (I : List β → SS → GH → Prop) (ha : Ev a ss G u) (hc : ∀ l' ss G, I l' ss G → curU u G = some (l.map f))
    (hs : ∀ a rest ss G, I (a :: rest) ss G → ∃ ss1, Pat γ (f a) ss G ss1 ∧ ∀ C' : Cn, C'.rt = C.rt → (∀ ss2 G2, I rest ss2 G2 → C'.nx ss2 G2) → ψ ss1 G C')
    (h0 : I l ss G) (hd : ∀ ss G, I [] ss G → C.nx ss G) : sFor (iSeq a) γ (sScope ψ) ss G C := ha _ _ ⟨by rw [hc _ _ _ h0]; rfl, by
  show (match curU u G with
    | some us => forL (curU u) us γ (sScope ψ) us ss G C
    | none => False)
  rw [hc _ _ _ h0]
  exact forL_J f I hc hs hd h0⟩
theorem cur_r {G : GH} {n : Nat} {us : List U} (h : G[n]? = some (.lst us)) : curU (.r n) G = some us := by
  show (match G[n]? with
    | some (.lst us) => some us
    | _ => none) = _
  rw [h]
/-- a list comprehension over a list that may change -/
theorem ev_lcR {β : Type} {γ : WG} {ε : WE} {ws : List Nat} {ss : SS} {G : GH} {a : WE} {n : Nat} {l : List β} (f : β → U) (h : β → PyData) (hG : Closed G) (ha : Ev a ss G (.r n)) (hn : G[n]? = some (.lst (l.map f))) (he : ∀ a ∈ l, ∀ T, ∃ ss1, Pat γ (f a) (wipeU ss ws) (G ++ T) ss1 ∧ Ev ε ss1 (G ++ T) (.d (h a))) (hz : l.length ≤ 100000) : Ev (eVal (eLc (iSeq a) γ tYes' ε ws)) ss G (.d (.list (l.map h))) := fun P p q => by
  have key : ∀ (l' : List β) (acc : List PyData), (∀ a ∈ l', a ∈ l) → acc.length + l'.length ≤ 100000 → ∀ N : GH → Prop, N (G ++ [MO.lst ((acc ++ l'.map h).map .d)]) → lcL G.length (curU (.r n)) (l.map f) γ tYes' ε (wipeU ss ws) (l'.map f) (G ++ [MO.lst (acc.map .d)]) N := by
    intro l'
    induction l' with
    | nil => intro acc _ _ N k; exact ⟨cur_r (gapp hn), by simpa using k⟩
    | cons b l' ih =>
      intro acc hm hz N k
      rw [List.length_cons] at hz
      obtain ⟨ss1, h1, h2⟩ := he b (hm b List.mem_cons_self) [MO.lst (acc.map .d)]
      refine ⟨cur_r (gapp hn), h1 _ ((show Et tYes' ss1 _ true from fun _ _ q => q) _ _ (k_true (h2 _ _ ?_)))⟩
      show (match (G ++ [MO.lst (acc.map U.d)])[G.length]? with
        | some (.lst acc) => acc.length < sizeLine ∧ lcL G.length (curU (.r n)) (l.map f) γ tYes' ε (wipeU ss ws) (l'.map f) ((G ++ [MO.lst _]).set G.length (.lst (acc ++ [.d (h b)]))) N
        | _ => False)
      rw [get_last]
      refine ⟨by have := sizeLine_eq; rw [List.length_map]; omega, ?_⟩
      rw [set_last, show acc.map U.d ++ [.d (h b)] = (acc ++ [h b]).map .d from by simp]
      exact ih _ (fun a ha => hm a (List.mem_cons_of_mem _ ha)) (by rw [List.length_append, List.length_singleton]; omega) N (by rw [List.append_assoc]; exact k)
  refine ha _ _ ⟨by rw [cur_r hn]; rfl, ?_⟩
  show (match curU (.r n) G with
    | some us => lcL G.length (curU (.r n)) us γ tYes' ε (wipeU ss ws) us (G ++ [MO.lst []]) _
    | none => False)
  rw [cur_r hn]
  refine key l [] (fun _ h => h) (by simpa using hz) _ ?_
  rw [List.nil_append]
  refine frz_lst ?_
  rw [set_last]
  exact ⟨G, left_drop hG, q⟩
/-! ### sorted events -/
theorem evt_inj {v v' : Evt} (h : v.d = v'.d) : v = v' := by
  cases v; cases v'
  simp only [Evt.d, PyData.tuple.injEq, List.cons.injEq, PyData.str.injEq, PyData.int.injEq] at h
  obtain ⟨rfl, rfl, rfl, rfl, _⟩ := h
  rfl
theorem evts_sort {l : List Evt} (h : l.length ≤ 100000) : SortOk (l.map Evt.d) := by
  refine ⟨PySem.W.AllAlike.of alike_evt, PySem.W.Sortable.tuples fun d => ⟨_, _, rfl⟩, by rw [List.length_map]; exact few_size h, ?_⟩
  intro b hb
  obtain ⟨d, _, rfl⟩ := List.mem_map.mp hb
  exact Nat.le_trans (evt_depth d) (by omega)
theorem evts_sorted {l : List Evt} (hn : (l.map Evt.d3).Nodup) : ∃ s : List Evt, sortD (l.map Evt.d) = s.map Evt.d ∧ s.Perm l ∧ (s.Pairwise fun v v' => PySem.W.dataLt v.d v'.d = true) ∧ (s.map Evt.d3).Nodup := by
  refine ⟨l.mergeSort fun a b => PySem.W.dataLe false id a.d b.d, ?_, List.mergeSort_perm _ _, ?_, ?_⟩
  · unfold sortD
    rw [List.map_mergeSort]
    intro a _ b _; rfl
  · have p1 : ((l.mergeSort fun a b => PySem.W.dataLe false id a.d b.d).Pairwise fun a b => PySem.W.dataLe false id a.d b.d = true) := List.pairwise_mergeSort (le := fun a b : Evt => PySem.W.dataLe false id a.d b.d) (fun a b c => le_trans_ a.d b.d c.d) (fun a b => le_total_ a.d b.d) l
    have p2 : ((l.mergeSort fun a b => PySem.W.dataLe false id a.d b.d).map Evt.d3).Nodup := ((List.mergeSort_perm _ _).map _).nodup_iff.mpr hn
    rw [List.Nodup, List.pairwise_map] at p2
    refine (p1.and p2).imp fun {a b} ⟨h1, h2⟩ => ?_
    cases h : PySem.W.dataLt a.d b.d with
    | true => rfl
    | false =>
      have h3 : PySem.W.dataLe false id b.d a.d = true := by rw [PySem.W.dataLe_eq]; simp [h]
      have := le_anti (alike_evt a b) (by simp [Evt.d, nz, nzAll]) (by simp [Evt.d, nz, nzAll]) h1 h3
      exact absurd (congrArg Evt.d3 (evt_inj this)) h2
  · exact ((List.mergeSort_perm _ _).map _).nodup_iff.mpr hn

end K36
/-! ## part D7 -/
namespace K36
open PySem PySem.Spec
open R
def evL (l : List Evt) : MO := .lst ((l.map Evt.d).map .d)
theorem get_at {α : Type} {l : List α} {v : Int} (h : 0 ≤ v ∧ v < l.length) : ∃ x, l[v.toNat]? = some x ∧ x ∈ l := by
  have : v.toNat < l.length := by omega
  exact ⟨l[v.toNat], List.getElem?_eq_getElem this, List.getElem_mem this⟩
theorem g_pick {l : List Str} {v : Int} {x : Str} {G : GH} (h0 : 0 ≤ v) (h : l[v.toNat]? = some x) : Eg gIx (.d (.list (l.map .str))) (.d (.int v)) G (.d (.str x)) := by
  refine g_ixL ?_
  have := L2.atI_nat (xs := l.map PyData.str) (j := v.toNat) (v := .str x) (by rw [List.getElem?_map, h]; rfl)
  rw [show ((v.toNat : Nat) : Int) = v by omega] at this
  exact this
theorem st_appw {o e : WE} {C : Cn} {ss : SS} {G : GH} {n : Nat} {us : List U} (ho : Ev o ss G (.r n)) (hn : G[n]? = some (.lst us)) (h : e ss G (fun w G1 => gAppend (.r n) [w] G1 fun _ G2 => C.nx ss G2) fun x G1 => C.ex x ss G1) : sExpr (eMeth "list" gAppend o (aCons e aNil)) ss G C := ho _ _ ⟨by
  show (match G[n]? with
      | some (.lst _) => ("list" : String) = "list"
      | some (.dct _) => ("list" : String) = "dict"
      | _ => False)
  rw [hn], h⟩
theorem append_of {G : GH} {n : Nat} {xs : List U} {u : U} {P : PU} (hn : G[n]? = some (.lst xs)) (hz : xs.length < 100000) (k : P (.d .none) (G.set n (.lst (xs ++ [u])))) : gAppend (.r n) [u] G P := by
  show (match G[n]? with
      | some (.lst xs) => xs.length < sizeLine ∧ P (.d .none) (G.set n (.lst (xs ++ [u])))
      | _ => False)
  rw [hn]
  exact ⟨by have := sizeLine_eq; omega, k⟩
theorem st_wif {t : WT} {a b : WS} {ss : SS} {G : GH} {C : Cn} (h : t ss G (fun k G1 => if k = true then a ss G1 C else b ss G1 C) fun x G1 => C.ex x ss G1) : sIf t a b ss G C := h
theorem evl_add {fd : List Evt} {e : Evt} : MO.lst ((fd.map Evt.d).map .d ++ [.d e.d]) = evL (fd ++ [e]) := by unfold evL; simp
structure EvG (others : List Str) (k : Int) (e : Evt) : Prop where
  ok : evB e = true
  o : e.o ∈ others
  lo : 0 ≤ e.b
  hi : e.b < k
theorem law__law_state : ∀ us G Q p, Closed G → sp__law_state us G Q p → ph__law_state (startU N__law_state us) G (Cnd G Q p) := by
  rintro _ G Q p hG ⟨r, k, n, L, others, words, rfl, hk1, hk2, ho1, ho2, hw1, hw2, hon, hwn, hr, hL, hn, q⟩
  unfold ph__law_state
  have hol : 0 < others.length := List.length_pos_iff.mpr ho1
  have hwl : 0 < words.length := List.length_pos_iff.mpr hw1
  have hGl : ∀ L', (G.set r (.lst L')).length = G.length := fun L' => List.length_set
  have hlast : ∀ L' o, (G.set r (.lst L') ++ [o])[G.length]? = some o := fun L' o => by
    have := get_last (G := G.set r (.lst L')) (o := o)
    rw [hGl] at this; exact this
  have slast : ∀ L' o o', (G.set r (.lst L') ++ [o]).set G.length o' = G.set r (.lst L') ++ [o'] := fun L' o o' => by
    have := set_last (G := G.set r (.lst L')) (o := o) (o' := o')
    rw [hGl] at this; exact this
  have AA : ∀ {m L' T}, Reel m L' → AtR (G.set r (.lst L') ++ T) r m L' := fun h => ⟨reel_set hr, h⟩
  have sT : ∀ {L' M T}, (G.set r (.lst L') ++ T).set r (.lst M) = G.set r (.lst M) ++ T := fun {L' M T} => by rw [set_app (get_set hr), set2]
  have cT : ∀ {m L' l}, Reel m L' → Closed (G.set r (.lst L') ++ [evL l]) := fun h => closed_add (reel_closed hG h) below_data
  refine sq_wname (wp_draw ⟨hr, hL⟩ (by omega) (by decide) (ev_var rfl) ev_c fun w L1 w1 w2 hL1 => ?_)
  refine sq_lstH ea_nil (Nat.le_of_ble_eq_true rfl) ?_
  rw [hGl]
  -- the last part: the first of those alike, sorted
  have rest3 : ∀ (fd : List Evt) (L' : List U) w6 w7 w8, (∀ e ∈ fd, EvG others k e) → fd.length ≤ 20 → Reel (n + 100) L' → (sSeq (sAsg (eLstH aNil) (gdName 9)) (sSeq (sFor (iSeq (eVar 5)) (gdName 10) (sScope (sIf (cTest (eOp gNotIn (eSl (eVar 10) oNone (oSome (eC (.int 3)))) (eVal (eLc (iSeq (eVar 9)) (gdName 11) tYes' (eSl (eVar 11) oNone (oSome (eC (.int 3)))) [11])))) (sExpr (eMeth "list" gAppend (eVar 9) (aCons (eVar 10) aNil))) sSkip))) (sRet (eCallB gTuple (aCons (eCallB gSorted (aCons (eVar 9) aNil)) aNil))))) [some (.r r), some (.d (.list (others.map .str))), some (.d (.list (words.map .str))), some (.d (.int k)), some (.d (.int w)), some (.r G.length), w6, w7, w8, none, none, none] (G.set r (.lst L') ++ [evL fd]) (Cnd G Q p) := by
    intro fd L' w6 w7 w8 hfd hfl hR
    refine sq_lstH ea_nil (Nat.le_of_ble_eq_true rfl) ?_
    have hl2 : (G.set r (.lst L') ++ [evL fd]).length = G.length + 1 := by rw [List.length_append, hGl]; rfl
    rw [hl2]
    have klast : ∀ o, ((G.set r (.lst L') ++ [evL fd]) ++ [o])[G.length + 1]? = some o := fun o => by
      have := get_last (G := G.set r (.lst L') ++ [evL fd]) (o := o)
      rw [hl2] at this; exact this
    have kset : ∀ o o', ((G.set r (.lst L') ++ [evL fd]) ++ [o]).set (G.length + 1) o' = (G.set r (.lst L') ++ [evL fd]) ++ [o'] := fun o o' => by
      have := set_last (G := G.set r (.lst L') ++ [evL fd]) (o := o) (o' := o')
      rw [hl2] at this; exact this
    refine st_seq (st_forJ (l := fd) (u := .r G.length) (fun e => .d e.d) (fun rest ss G' => ∃ (done kept : List Evt), fd = done ++ rest ∧ kept.length ≤ done.length ∧ (∀ e ∈ kept, e ∈ fd) ∧ (kept.map Evt.d3).Nodup ∧ G' = (G.set r (.lst L') ++ [evL fd]) ++ [evL kept] ∧ ∃ w10, ss = [some (.r r), some (.d (.list (others.map .str))), some (.d (.list (words.map .str))), some (.d (.int k)), some (.d (.int w)), some (.r G.length), w6, w7, w8, some (.r (G.length + 1)), w10, none]) (ev_var rfl) ?_ ?_ ⟨[], [], rfl, Nat.le_refl _, (by intro e he; cases he), List.Pairwise.nil, rfl, _, rfl⟩ ?_)
    · rintro rest ss _ ⟨done, kept, hd, _, _, _, rfl, w10, rfl⟩
      refine cur_r ?_
      have := gapp (T := [evL kept]) (hlast L' (evL fd))
      rw [this]
      unfold evL
      rw [List.map_map]; rfl
    · rintro e rest ss _ ⟨done, kept, hd, hkl, hkm, hkn, rfl, w10, rfl⟩
      refine ⟨_, pat_name, fun C' hr' hnx => ?_⟩
      have hfl2 : done.length + 1 + rest.length ≤ 20 := by rw [hd, List.length_append, List.length_cons] at hfl; omega
      have hin : e ∈ fd := by rw [hd]; simp
      have cl : Closed ((G.set r (.lst L') ++ [evL fd]) ++ [evL kept]) := closed_add (cT hR) below_data
      have nzk : nzAll (kept.map Evt.d3) = true := nzAll_iff.mpr fun x hx => by
        obtain ⟨y, _, rfl⟩ := List.mem_map.mp hx
        exact (evt3_key y).2.2
      refine st_if (p := !((kept.map Evt.d3).any fun y => PyData.eqv y e.d3)) (et_as (et_test (ev_op (ev_as (v := .d e.d3) (ev_sl (ev_var rfl) eo_none (eo_some ev_c) fun P q => s_T P q) rfl) (ev_lcR (l := kept) (fun v => .d v.d) (fun v => v.d3) cl (ev_var rfl) (by rw [klast]; unfold evL; rw [List.map_map]; rfl) (fun v hv T => ⟨_, pat_name, ev_sl (ev_var rfl) eo_none (eo_some ev_c) fun P q => s_T P q⟩) (by omega)) (g_inL (inOk_nz (evt3_key e).2.2 nzk ?_)))) ?_) (fun hne => ?_) (fun hne => ?_)
      · exact Nat.le_trans (Nat.min_le_right _ _) (by simp [Evt.d3, PyData.depth, PyData.depthAll])
      · cases ((kept.map Evt.d3).any fun y => PyData.eqv y e.d3) <;> rfl
      · have hm : e.d3 ∉ kept.map Evt.d3 := fun hm => by
          rw [(any_nz nzk (evt3_key e).2.2).mpr hm] at hne
          cases hne
        refine st_app (xs := (kept.map Evt.d).map .d) (u := .d e.d) (ev_var rfl) (klast _) (ev_var rfl) (by rw [List.length_map, List.length_map]; omega) (hnx _ _ ⟨done ++ [e], kept ++ [e], by rw [hd]; simp, by simp; exact hkl, ?_, ?_, ?_, _, rfl⟩)
        · intro v hv
          rcases List.mem_append.mp hv with hv | hv
          · exact hkm v hv
          · rw [List.mem_singleton.mp hv]; exact hin
        · rw [List.map_append, List.nodup_append]
          refine ⟨hkn, by simp, ?_⟩
          intro a ha b hb
          simp only [List.map_cons, List.map_nil, List.mem_singleton] at hb
          rw [hb]
          exact fun h => hm (h ▸ ha)
        · rw [kset]; unfold evL; simp
      · exact hnx _ _ ⟨done ++ [e], kept, by rw [hd]; simp, by rw [List.length_append, List.length_singleton]; omega, hkm, hkn, rfl, _, rfl⟩
    · rintro ss _ ⟨done, kept, hd, hkl, hkm, hkn, rfl, w10, rfl⟩
      rw [List.append_nil] at hd
      subst hd
      obtain ⟨s, e1, e2, e3, e4⟩ := evts_sorted hkn
      dsimp only
      refine st_ret (u := .d (stateD s)) (ev_callB (ea_cons (ev_as (ev_callB (ea_cons (ev_var rfl) ea_nil) (n_sortedR (klast _) (evts_sort (by omega)))) (by rw [e1])) ea_nil) n_tupL) ⟨_, ?_, q s L' ?_ ?_ e3 e4 hR⟩
      · rw [List.append_assoc]
        exact left_drop' (hGl _) (reel_closed hG hR)
      · intro v hv
        have g := hfd v (hkm v (e2.mem_iff.mp hv))
        exact ⟨g.ok, g.o, g.lo, g.hi⟩
      · rw [e2.length_eq]; omega
  have oth : ∀ {v : Int} {x : Str} {G' : GH}, 0 ≤ v → others[v.toNat]? = some x → Eg gIx (.d (.list (others.map .str))) (.d (.int v)) G' (.d (.str x)) := fun h0 h => g_pick h0 h
  have rest2 : ∀ (fd : List Evt) (L' : List U) w6 w7 w8, (∀ e ∈ fd, EvG others k e) → fd.length ≤ 3 → Reel (n + 11) L' → (sSeq (sIf (cTest (eOp gGt (eVar 4) (eC (.int 3)))) (sFor (iRng1 (aCons (eOp gAdd (eC (.int 1)) (eCall sp__law_draw 2 uPos (aCons (eVar 0) (aCons (eC (.int 2)) aNil)) aNil 0)) aNil)) (gdName 6) (sScope (sSeq (sAsg (eOp gIx (eVar 1) (eCall sp__law_draw 2 uPos (aCons (eVar 0) (aCons (eCallB gLen (aCons (eVar 1) aNil)) aNil)) aNil 0)) (gdName 7)) (sFor (iSeq (eOp gAdd (eVar 2) (eLst (aCons (eC (.str "!")) aNil)))) (gdName 8) (sScope (sIf (cTest (eOp gGt (eCall sp__law_draw 2 uPos (aCons (eVar 0) (aCons (eC (.int 5)) aNil)) aNil 0) (eC (.int 0)))) (sExpr (eMeth "list" gAppend (eVar 5) (aCons (eTup (aCons (eC (.str "hear")) (aCons (eVar 7) (aCons (eVar 8) (aCons (eCall sp__law_draw 2 uPos (aCons (eVar 0) (aCons (eVar 3) aNil)) aNil 0) aNil))))) aNil))) sSkip)))))) sSkip) (sSeq (sAsg (eLstH aNil) (gdName 9)) (sSeq (sFor (iSeq (eVar 5)) (gdName 10) (sScope (sIf (cTest (eOp gNotIn (eSl (eVar 10) oNone (oSome (eC (.int 3)))) (eVal (eLc (iSeq (eVar 9)) (gdName 11) tYes' (eSl (eVar 11) oNone (oSome (eC (.int 3)))) [11])))) (sExpr (eMeth "list" gAppend (eVar 9) (aCons (eVar 10) aNil))) sSkip))) (sRet (eCallB gTuple (aCons (eCallB gSorted (aCons (eVar 9) aNil)) aNil)))))) [some (.r r), some (.d (.list (others.map .str))), some (.d (.list (words.map .str))), some (.d (.int k)), some (.d (.int w)), some (.r G.length), w6, w7, w8, none, none, none] (G.set r (.lst L') ++ [evL fd]) (Cnd G Q p) := by
    intro fd L' w6 w7 w8 hfd hfl hR
    refine sq_if (et_test (ev_op (ev_var rfl) ev_c g_cmp)) (fun _ => ?_) (fun _ => rest3 fd L' w6 w7 w8 hfd (by omega) (hR.up (by omega)))
    refine wp_forRng fun p => wp_opl ev_c (wp_draw (AA hR) (by omega) (by decide) (ev_var rfl) ev_c fun v M h1 h2 h3 => ?_)
    rw [sT]
    refine g_addI _ (forK_of (fun rest ss G' => ∃ (fd : List Evt) (L' : List U) (dn : Nat), dn + rest.length ≤ 2 ∧ fd.length ≤ 3 + 4 * dn ∧ Reel (n + 12 + 9 * dn) L' ∧ (∀ e ∈ fd, EvG others k e) ∧ G' = G.set r (.lst L') ++ [evL fd] ∧ ∃ w6 w7 w8, ss = [some (.r r), some (.d (.list (others.map .str))), some (.d (.list (words.map .str))), some (.d (.int k)), some (.d (.int w)), some (.r G.length), w6, w7, w8, none, none, none]) (by omega) ?_ ⟨fd, M, 0, by rw [List.length_range]; omega, by omega, h3, hfd, rfl, _, _, _, rfl⟩ ?_)
    · rintro a rest ss _ ⟨fd, L', dn, hdn, hfl, hR, hfd, rfl, w6, w7, w8, rfl⟩
      rw [List.length_cons] at hdn
      refine ⟨_, pat_name, fun C' hr' hnx => ?_⟩
      refine sq_wname (wp_opl (ev_var rfl) (wp_draw (AA hR) (by omega) (k := others.length) (by omega) (ev_var rfl) (ev_as (ev_callB (ea_cons (ev_var rfl) ea_nil) n_lenL) (by rw [List.length_map])) fun v M h1 h2 h3 => ?_))
      obtain ⟨x, hx, hxm⟩ := get_at ⟨h1, h2⟩
      rw [sT]
      refine oth h1 hx _ ?_
      refine st_forJ (l := words ++ [("!" : Str)]) (u := .d (.list ((words ++ [("!" : Str)]).map .str))) (fun y => .d (.str y)) (fun rest2 ss G' => ∃ (fd : List Evt) (L' : List U) (dv : Nat), dv + rest2.length ≤ 4 ∧ (∀ y ∈ rest2, y ∈ words ++ [("!" : Str)]) ∧ fd.length ≤ 3 + 4 * dn + dv ∧ Reel (n + 12 + 9 * dn + 1 + 2 * dv) L' ∧ (∀ e ∈ fd, EvG others k e) ∧ G' = G.set r (.lst L') ++ [evL fd] ∧ ∃ w6 w8, ss = [some (.r r), some (.d (.list (others.map .str))), some (.d (.list (words.map .str))), some (.d (.int k)), some (.d (.int w)), some (.r G.length), w6, some (.d (.str x)), w8, none, none, none]) (ev_as (ev_op (ev_var rfl) (ev_lst (ea_cons ev_c ea_nil) rfl (Nat.le_of_ble_eq_true rfl)) (g_addL (few_size (by rw [List.length_map, List.length_singleton]; omega)))) (by simp)) (fun _ _ _ _ => by show some (((words ++ [("!" : Str)]).map PyData.str).map U.d) = _; rw [List.map_map]; rfl) ?_ ⟨fd, M, 0, by rw [List.length_append, List.length_singleton]; omega, fun y hy => hy, by omega, h3, hfd, rfl, _, _, rfl⟩ ?_
      · rintro y rest2 ss _ ⟨fd, L', dv, hdv, hym, hfl, hR, hfd, rfl, w6, w8, rfl⟩
        rw [List.length_cons] at hdv
        refine ⟨_, pat_name, fun C2 hr2 hnx2 => ?_⟩
        refine st_wif (wp_test (wp_op (wp_draw (AA hR) (by omega) (by decide) (ev_var rfl) ev_c fun v M h1 h2 h3 => ?_)))
        rw [sT]
        refine ev_c _ _ (g_cmp _ ?_)
        by_cases hv : (0 : Int) < v
        · refine test_of (c := true) (decide_eq_true hv) (k_true ?_)
          refine st_appw (ev_var rfl) (hlast _ _) (wp_tup (wp_ac ev_c (wp_ac (ev_var rfl) (wp_ac (ev_var rfl) (wp_acw (wp_draw (AA h3) (by omega) (by omega) (ev_var rfl) (ev_var rfl) fun b M2 b1 b2 b3 => ?_))))))
          rw [sT]
          refine wp_nil (tupK_of rfl (Nat.le_of_ble_eq_true rfl) (append_of (xs := (fd.map Evt.d).map .d) (hlast _ _) (by rw [List.length_map, List.length_map]; omega) (hnx2 _ _ ⟨fd ++ [⟨"hear", x, y, b⟩], M2, dv + 1, by omega, fun z hz => hym z (List.mem_cons_of_mem _ hz), by rw [List.length_append, List.length_singleton]; omega, b3.up (by omega), ?_, ?_, _, _, rfl⟩)))
          · intro e he
            rcases List.mem_append.mp he with he | he
            · exact hfd e he
            · rw [List.mem_singleton.mp he]
              refine ⟨?_, hxm, b1, b2⟩
              have hy := hym y List.mem_cons_self
              simp only [evB, hon x hxm]
              rcases List.mem_append.mp hy with hy | hy
              · simp [hwn y hy]
              · simp [List.mem_singleton.mp hy]
          · rw [slast]
            exact congrArg (fun z => G.set r (.lst M2) ++ [z]) (evl_add (e := ⟨"hear", x, y, b⟩))
        · refine test_of (c := false) (decide_eq_false hv) (k_false (hnx2 _ _ ⟨fd, M, dv + 1, by omega, fun z hz => hym z (List.mem_cons_of_mem _ hz), by omega, h3.up (by omega), hfd, rfl, _, _, rfl⟩))
      · rintro ss _ ⟨fd, L', dv, hdv, hym, hfl, hR, hfd, rfl, w6, w8, rfl⟩
        rw [List.length_nil] at hdv
        exact hnx _ _ ⟨fd, L', dn + 1, by omega, by omega, hR.up (by omega), hfd, rfl, _, _, _, rfl⟩
    · rintro ss _ ⟨fd, L', dn, hdn, hfl, hR, hfd, rfl, w6, w7, w8, rfl⟩
      rw [List.length_nil] at hdn
      exact rest3 fd L' w6 w7 w8 hfd (by omega) (hR.up (by omega))
  refine sq_if (et_test (ev_op (ev_var rfl) (ev_tup (ea_cons ev_c (ea_cons ev_c (ea_cons ev_c (ea_cons ev_c ea_nil)))) rfl (Nat.le_of_ble_eq_true rfl)) (g_inT (inOk_nz rfl rfl (by simp [PyData.depth, PyData.depthAll]))))) (fun _ => ?_) (fun _ => rest2 [] L1 _ _ _ (by intro e he; cases he) (by simp) (hL1.up (by omega)))
  have A1 := AA (T := [evL []]) hL1
  refine wp_forRng fun p => wp_opl ev_c (wp_draw A1 (by omega) (by decide) (ev_var rfl) ev_c fun v M h1 h2 h3 => ?_)
  refine g_addI _ (forK_of (fun rest ss G' => ∃ (fd : List Evt) (L' : List U) (dn : Nat), dn + rest.length ≤ 3 ∧ fd.length ≤ dn ∧ Reel (n + 2 + 3 * dn) L' ∧ (∀ e ∈ fd, EvG others k e) ∧ G' = G.set r (.lst L') ++ [evL fd] ∧ ∃ w6 w7, ss = [some (.r r), some (.d (.list (others.map .str))), some (.d (.list (words.map .str))), some (.d (.int k)), some (.d (.int w)), some (.r G.length), w6, w7, none, none, none, none]) (by omega) ?_ ⟨[], M, 0, by rw [List.length_range]; omega, by simp, h3, (by intro e he; cases he), sT, _, _, rfl⟩ ?_)
  · rintro a rest ss _ ⟨fd, L', dn, hdn, hfl, hR, hfd, rfl, w6, w7, rfl⟩
    rw [List.length_cons] at hdn
    refine ⟨_, pat_name, fun C' hr' hnx => ?_⟩
    refine sq_wname (wp_opl (ev_var rfl) (wp_draw (AA hR) (by omega) (k := others.length) (by omega) (ev_var rfl) (ev_as (ev_callB (ea_cons (ev_var rfl) ea_nil) n_lenL) (by rw [List.length_map])) fun v M h1 h2 h3 => ?_))
    obtain ⟨x, hx, hxm⟩ := get_at ⟨h1, h2⟩
    rw [sT]
    refine oth h1 hx _ ?_
    refine st_appw (ev_var rfl) (hlast _ _) (wp_tup (wp_ac ev_c (wp_ac (ev_var rfl) (wp_acw (wp_opl (ev_var rfl) (wp_draw (AA h3) (by omega) (k := words.length) (by omega) (ev_var rfl) (ev_as (ev_callB (ea_cons (ev_var rfl) ea_nil) n_lenL) (by rw [List.length_map])) fun v2 M2 h4 h5 h6 => ?_))))))
    obtain ⟨y, hy, hym⟩ := get_at ⟨h4, h5⟩
    rw [sT]
    refine g_pick h4 hy _ (wp_acw (wp_draw (AA h6) (by omega) (by omega) (ev_var rfl) (ev_var rfl) fun b M3 b1 b2 b3 => ?_))
    rw [sT]
    refine wp_nil (tupK_of rfl (Nat.le_of_ble_eq_true rfl) (append_of (xs := (fd.map Evt.d).map .d) (hlast _ _) (by rw [List.length_map, List.length_map]; omega) (hnx _ _ ⟨fd ++ [⟨"say", x, y, b⟩], M3, dn + 1, by omega, by rw [List.length_append, List.length_singleton]; omega, b3.up (by omega), ?_, ?_, _, _, rfl⟩)))
    · intro e he
      rcases List.mem_append.mp he with he | he
      · exact hfd e he
      · rw [List.mem_singleton.mp he]
        refine ⟨?_, hxm, b1, b2⟩
        simp [evB, hon x hxm, hwn y hym]
    · rw [slast]
      exact congrArg (fun z => G.set r (.lst M3) ++ [z]) (evl_add (e := ⟨"say", x, y, b⟩))
  · rintro ss _ ⟨fd, L', dn, hdn, hfl, hR, hfd, rfl, w6, w7, rfl⟩
    rw [List.length_nil] at hdn
    exact rest2 fd L' w6 w7 none hfd (by omega) (hR.up (by omega))

end K36
/-! ## part D8 -/
namespace K36
open PySem PySem.Spec
open R
theorem n_tupR {G : GH} {n : Nat} {xs : List PyData} (hG : G[n]? = some (.lst (xs.map .d))) : En gTuple [.r n] G (.d (.tuple xs)) := fun P q => by
  show (match G[n]? with
    | some (.lst us) => match dataOf us with
      | some xs => P (.d (.tuple xs)) G
      | none => False
    | _ => False)
  rw [hG]
  show (match dataOf (xs.map U.d) with
      | some xs => P (.d (.tuple xs)) G
      | none => False)
  rw [dataOf_map]
  exact q
theorem wp_callB1 {g : Gn} {e : WE} {ss : SS} {G : GH} {P : PU} {p : PX} (h : e ss G (fun u G1 => g [u] G1 P) p) : eCallB g (aCons e aNil) ss G P p := h
def callK (sp : SpU) (n : Nat) (P : PU) (p : PX) : List U → GH → Prop := fun us G1 => us.length = n ∧ ([] : List U).length = 0 ∧ sp (uPos us []) G1 P p
theorem wp_callw {sp : SpU} {n : Nat} {α : WA} {ss : SS} {G : GH} {P : PU} {p : PX} (h : α ss G (callK sp n P p) p) : eCall sp n uPos α aNil 0 ss G P p := h
theorem callK_of {sp : SpU} {n : Nat} {P : PU} {p : PX} {us : List U} {G : GH} (hn : us.length = n) (h : sp us G P p) : callK sp n P p us G := ⟨hn, rfl, h⟩
theorem others_filter (hands : List Str) (who : Str) : (hands.filterMap fun o => if o = who then none else some (PyData.str o)) = (hands.filter fun o => !decide (o = who)).map .str := by
  induction hands with
  | nil => rfl
  | cons x l ih =>
    by_cases hx : x = who
    · rw [List.filterMap_cons_none (by rw [if_pos hx]), ih, List.filter_cons_of_neg (by simp [hx])]
    · rw [List.filterMap_cons_some (by rw [if_neg hx]), ih, List.filter_cons_of_pos (by simp [hx]), List.map_cons]
def endL (l : Ends) : MO := .lst ((l.map endD).map .d)
theorem law__law_ends : ∀ us G Q p, Closed G → sp__law_ends us G Q p → ph__law_ends (startU N__law_ends us) G (Cnd G Q p) := by
  rintro _ G Q p hG ⟨r, k, n, L, rfl, hk1, hk2, hr, hL, hn, q⟩
  unfold ph__law_ends
  have hGl : ∀ L', (G.set r (.lst L')).length = G.length := fun L' => List.length_set
  have hlast : ∀ L' o, (G.set r (.lst L') ++ [o])[G.length]? = some o := fun L' o => by
    have := get_last (G := G.set r (.lst L')) (o := o)
    rw [hGl] at this; exact this
  have slast : ∀ L' o o', (G.set r (.lst L') ++ [o]).set G.length o' = G.set r (.lst L') ++ [o'] := fun L' o o' => by
    have := set_last (G := G.set r (.lst L')) (o := o) (o' := o')
    rw [hGl] at this; exact this
  have AA : ∀ {m L' T}, Reel m L' → AtR (G.set r (.lst L') ++ T) r m L' := fun h => ⟨reel_set hr, h⟩
  have sT : ∀ {L' M T}, (G.set r (.lst L') ++ T).set r (.lst M) = G.set r (.lst M) ++ T := fun {L' M T} => by rw [set_app (get_set hr), set2]
  have cT : ∀ {m L' l}, Reel m L' → Closed (G.set r (.lst L') ++ [endL l]) := fun h => closed_add (reel_closed hG h) below_data
  have A0 : ∀ {m L'}, Reel m L' → AtR (G.set r (.lst L')) r m L' := fun h => ⟨get_set hr, h⟩
  refine sq_wname (wp_callw (wp_ac (ev_var rfl) (wp_acw (wp_opl ev_c (wp_draw ⟨hr, hL⟩ (by omega) (k := k - 1) (by omega) (ev_var rfl) (ev_op (ev_var rfl) ev_c g_sub) fun v L1 h1 h2 h3 => ?_)))))
  refine g_addI _ (wp_nil (callK_of rfl ⟨r, 2 + v, n + 1, L1, rfl, by omega, by omega, get_set hr, h3, by omega, fun hands L2 l1 l2 l3 l4 => ?_⟩))
  rw [set2]
  refine sq_wname (wp_callw (wp_ac (ev_var rfl) (wp_acw (wp_opl ev_c (wp_draw (A0 l4) (by omega) (by decide) (ev_var rfl) ev_c fun v2 L3 h4 h5 h6 => ?_)))))
  rw [set2]
  refine g_addI _ (wp_nil (callK_of rfl ⟨r, 1 + v2, n + 1 + 100 + 1, L3, rfl, by omega, by omega, get_set hr, h6, by omega, fun words L4 m1 m2 m3 m4 => ?_⟩))
  rw [set2]
  refine sq_lstH ea_nil (Nat.le_of_ble_eq_true rfl) ?_
  rw [hGl]
  have hh : 2 ≤ hands.length ∧ hands.length ≤ 6 := by omega
  have hwd : 1 ≤ words.length ∧ words.length ≤ 3 := by omega
  refine sq_for (l := hands) (fun h => .d (.str h)) (fun rest ss G' => ∃ (done : List Str) (fd : Ends) (L' : List U), hands = done ++ rest ∧ fd.map (·.1) = done ∧ (∀ e ∈ fd, EndOk e ∧ ∀ s ∈ e.2, ∀ v ∈ s, v.o ∈ hands) ∧ Reel (n + 300 + 600 * done.length) L' ∧ G' = G.set r (.lst L') ++ [endL fd] ∧ ∃ w5 w6 w7, ss = [some (.r r), some (.d (.int k)), some (.d (.list (hands.map .str))), some (.d (.list (words.map .str))), some (.r G.length), w5, w6, w7, none, none]) (ei_L (ev_var rfl)) (by rw [List.map_map]; rfl) ?_ ⟨[], [], L4, rfl, rfl, (by intro e he; cases he), m4.up (by omega), rfl, _, _, _, rfl⟩ ?_
  · rintro who rest ss _ ⟨done, fd, L', hd, hfm, hfd, hR, rfl, w5, w6, w7, rfl⟩
    have hwho : who ∈ hands := by rw [hd]; simp
    have hdl : done.length + 1 + rest.length ≤ 6 := by
      have := congrArg List.length hd
      rw [List.length_append, List.length_cons] at this
      omega
    refine ⟨_, pat_name, fun C' hr' hnx => ?_⟩
    refine sq_name (u := .d (.list ((hands.filter fun o => !decide (o = who)).map .str))) (ev_as (ev_lcf (l := hands) (fun o => .d (.str o)) (fun o => if o = who then none else some (.str o)) (cT hR) (ei_L (ev_var rfl)) (by rw [List.map_map]; rfl) ?_ (by omega)) (by rw [others_filter])) ?_
    · intro o ho T _
      refine ⟨_, !decide (o = who), pat_name, et_test (ev_op (ev_var rfl) (ev_var rfl) g_neS), ?_⟩
      by_cases e : o = who
      · rw [if_neg (by simp [e])]; exact if_pos e
      · rw [if_pos (by simp [e])]; exact ⟨_, if_neg e, ev_var rfl⟩
    refine sq_wname (wp_opl ev_c (wp_draw (AA hR) (by omega) (by decide) (ev_var rfl) ev_c fun v3 L5 h7 h8 h9 => ?_))
    rw [sT]
    refine g_addI _ ?_
    have ho1 : (hands.filter fun o => !decide (o = who)) ≠ [] := by
      have : ∃ x ∈ hands, x ≠ who := by
        cases hands with
        | nil => simp at hh
        | cons a l =>
          cases l with
          | nil => simp at hh
          | cons b l =>
            by_cases ha : a = who
            · refine ⟨b, by simp, fun hb => ?_⟩
              rw [List.nodup_cons] at l2
              exact l2.1 (by rw [ha, ← hb]; simp)
            · exact ⟨a, by simp, ha⟩
      obtain ⟨x, hx, hne⟩ := this
      exact List.ne_nil_of_mem (List.mem_filter.mpr ⟨hx, by simpa using hne⟩)
    have ho2 : (hands.filter fun o => !decide (o = who)).length ≤ 5 := by
      have h1 := nodup_length_le (List.Nodup.sublist List.filter_sublist l2 : (hands.filter fun o => !decide (o = who)).Nodup) (m := hands.erase who) fun a ha => by
        obtain ⟨h1, h2⟩ := List.mem_filter.mp ha
        exact (List.mem_erase_of_ne (by simpa using h2)).mpr h1
      rw [List.length_erase_of_mem hwho] at h1
      omega
    have ho3 : ∀ x ∈ hands.filter fun o => !decide (o = who), nameB x = true := fun x hx => l3 x (List.mem_filter.mp hx).1
    have many : ((1 + v3).toNat : Int) = 1 + v3 := by omega
    refine st_appw (ev_var rfl) (hlast _ _) (wp_tup (wp_ac (ev_var rfl) (wp_acw (wp_callB1 (wp_lcJ (l := List.range (1 + v3).toNat) (fun i => .d (.int (0 + (i : Nat)))) (fun rest acc G' => ∃ (sts : States) (L' : List U), acc = sts.map stateD ∧ sts.length + rest.length = (1 + v3).toNat ∧ (∀ s ∈ sts, StateOk who (1 + v3) s ∧ ∀ v ∈ s, v.o ∈ hands) ∧ G' = G.set r (.lst L') ++ [endL fd] ∧ Reel (n + 300 + 600 * done.length + 1 + 100 * sts.length) L') (ei_rng (ea_cons (ev_var rfl) ea_nil) (by omega)) rfl ?_ ⟨[], L5, rfl, by simp, (by intro s hs; cases hs), rfl, h9⟩ ?_)))))
    · rintro i rest2 acc _ ⟨sts, L', rfl, hlen, hsts, rfl, hR2⟩ N hN
      rw [List.length_cons] at hlen
      refine ⟨_, pat_name, (show Et tYes' _ _ true from fun _ _ q => q) _ _ (k_true ?_)⟩
      refine wp_call (ea_cons (ev_var rfl) (ea_cons (ev_var rfl) (ea_cons (ev_var rfl) (ea_cons (ev_var rfl) ea_nil)))) rfl ⟨r, 1 + v3, _, L', _, words, rfl, by omega, by omega, ho1, ho2, List.ne_nil_of_length_pos (by omega), hwd.2, ho3, m3, gapp (reel_set hr), hR2, by omega, fun s M k1 k2 k3 k4 k5 => ?_⟩
      rw [set_app (reel_set hr), sT]
      refine next_of (by rw [List.length_append, hGl, List.length_append, hGl]) (by rw [List.length_map]; omega) (hN _ _ ⟨sts ++ [s], M, by simp, by rw [List.length_append, List.length_singleton]; omega, ?_, rfl, k5.up (by rw [List.length_append, List.length_singleton]; omega)⟩)
      intro s' hs'
      rcases List.mem_append.mp hs' with hs' | hs'
      · exact hsts s' hs'
      · rw [List.mem_singleton.mp hs']
        refine ⟨⟨fun v hv => ?_, k2, k3, k4⟩, fun v hv => ?_⟩
        · obtain ⟨e1, e2, e3, e4⟩ := k1 v hv
          obtain ⟨e5, e6⟩ := List.mem_filter.mp e2
          exact ⟨e1, by simpa using e6, e3, e4⟩
        · exact (List.mem_filter.mp (k1 v hv).2.1).1
    · rintro acc _ ⟨sts, L', rfl, hlen, hsts, rfl, hR2⟩
      rw [List.length_nil, Nat.add_zero] at hlen
      refine ⟨by rw [List.length_append, hGl, List.length_append, hGl], cT hR2, ?_⟩
      refine n_tupL _ (wp_nil (tupK_of rfl (Nat.le_of_ble_eq_true rfl) (append_of (xs := (fd.map endD).map .d) (hlast _ _) ?_ (hnx _ _ ⟨done ++ [who], fd ++ [(who, sts)], L', by rw [hd]; simp, by rw [List.map_append, hfm]; rfl, ?_, hR2.up (by rw [List.length_append, List.length_singleton]; omega), ?_, _, _, _, rfl⟩))))
      · have := congrArg List.length hfm
        rw [List.length_map] at this
        rw [List.length_map, List.length_map]; omega
      · intro e he
        rcases List.mem_append.mp he with he | he
        · exact hfd e he
        · rw [List.mem_singleton.mp he]
          have hm : ((sts.length : Nat) : Int) = 1 + v3 := by omega
          refine ⟨⟨l3 who hwho, by simp only; omega, fun s hs => ?_⟩, fun s hs => (hsts s hs).2⟩
          show StateOk who (sts.length : Int) s
          rw [hm]
          exact (hsts s hs).1
      · rw [slast]
        unfold endL
        simp [endD]
        rfl
  · rintro ss _ ⟨done, fd, L', hd, hfm, hfd, hR, rfl, w5, w6, w7, rfl⟩
    rw [List.append_nil] at hd
    subst hd
    refine st_ret (ev_callB (ea_cons (ev_var rfl) ea_nil) (n_tupR (hlast _ _))) ⟨_, left_drop' (hGl _) (reel_closed hG hR), q fd L' ⟨?_, fun e he => (hfd e he).1, ?_, fun e he s hs v hv => ?_⟩ (hR.up ?_)⟩
    · have := congrArg List.length hfm
      rw [List.length_map] at this
      omega
    · rw [hfm]; exact l2
    · rw [hfm]; exact (hfd e he).2 s hs v hv
    · omega

end K36
/-! ## part D9 -/
namespace K36
open PySem PySem.Spec
open R
theorem st_scopeG {φ : WS} {C : Cn} {ss : SS} {G : GH} (h : ∀ C' : Cn, C'.rt = C.rt → (∀ ss1 G1 ss' G', Cut G.length ss1 G1 ss' G' → C.nx ss' G' → C'.nx ss1 G1) → φ ss G C') : sScope φ ss G C := h _ rfl fun ss1 G1 ss' G' c k => ⟨ss', G', c, k⟩
theorem forL_G {β : Type} {γ : WG} {ψ : WS} {C : Cn} {cur : Cur} {all : List U} (f : β → U) (I : List β → SS → GH → Prop) (hc : ∀ l ss G, I l ss G → cur G = some all)
    (hs : ∀ a rest ss G, I (a :: rest) ss G → ∃ ss1, Pat γ (f a) ss G ss1 ∧ ∀ C' : Cn, C'.rt = C.rt → (∀ ss2 G2 ss' G', Cut G.length ss2 G2 ss' G' → I rest ss' G' → C'.nx ss2 G2) → ψ ss1 G C')
    (hd : ∀ ss G, I [] ss G → C.nx ss G) : ∀ {l : List β} {ss : SS} {G : GH}, I l ss G → forL cur all γ (sScope ψ) (l.map f) ss G C
  | [], ss, G, h => ⟨hc _ _ _ h, hd _ _ h⟩
  | a :: l, ss, G, h => by
    obtain ⟨ss1, h1, h2⟩ := hs a l ss G h
    exact ⟨hc _ _ _ h, h1 _ (st_scopeG fun C' e hn => h2 C' e fun ss2 G2 ss' G' c h3 => hn _ _ _ _ c (forL_G f I hc hs hd h3))⟩
theorem forK_G {γ : WG} {ψ : WS} {C : Cn} {ss : SS} {G : GH} {j : Int} (I : List Nat → SS → GH → Prop) (hj : 0 ≤ j ∧ j ≤ 100000)
    (hs : ∀ a rest ss G, I (a :: rest) ss G → ∃ ss1, Pat γ (.d (.int (0 + (a : Nat)))) ss G ss1 ∧ ∀ C' : Cn, C'.rt = C.rt → (∀ ss2 G2 ss' G', Cut G.length ss2 G2 ss' G' → I rest ss' G' → C'.nx ss2 G2) → ψ ss1 G C')
    (h0 : I (List.range j.toNat) ss G) (hd : ∀ ss G, I [] ss G → C.nx ss G) : forK γ (sScope ψ) ss C (.d (.int j)) G :=
  ⟨by omega, by omega, forL_G (fun i => .d (.int (0 + (i : Nat)))) I (fun _ _ _ _ => rfl) hs hd h0⟩
def seqK (γ : WG) (ψ : WS) (ss : SS) (C : Cn) : PU := fun u G1 => (curU u G1).isSome = true ∧ match curU u G1 with
  | some us => forL (curU u) us γ ψ us ss G1 C
  | none => False
theorem wp_forSeq {e : WE} {γ : WG} {ψ : WS} {C : Cn} {ss : SS} {G : GH} (h : ∀ p, e ss G (seqK γ ψ ss C) p) : sFor (iSeq e) γ ψ ss G C := h _
theorem seqK_of {β : Type} {γ : WG} {ψ : WS} {C : Cn} {ss : SS} {G : GH} {xs : List PyData} {l : List β} (f : β → U) (I : List β → SS → GH → Prop) (hx : xs.map U.d = l.map f)
    (hs : ∀ a rest ss G, I (a :: rest) ss G → ∃ ss1, Pat γ (f a) ss G ss1 ∧ ∀ C' : Cn, C'.rt = C.rt → (∀ ss2 G2, I rest ss2 G2 → C'.nx ss2 G2) → ψ ss1 G C')
    (h0 : I l ss G) (hd : ∀ ss G, I [] ss G → C.nx ss G) : seqK γ (sScope ψ) ss C (.d (.list xs)) G := ⟨rfl, by
  show forL (fun _ => some (xs.map U.d)) (xs.map U.d) γ (sScope ψ) (xs.map U.d) ss G C
  rw [hx]
  exact forL_J f I (fun _ _ _ _ => rfl) hs hd h0⟩
theorem can_list {c : Cfg} {s : HS} : ∃ ds : List Deed, canD c s = ds.map Deed.d ∧ ds.Perm (deeds0 c s) := by
  refine ⟨(deeds0 c s).mergeSort fun a b => PySem.W.dataLe false id a.d b.d, ?_, List.mergeSort_perm _ _⟩
  unfold canD sortD
  rw [List.map_mergeSort]
  intro a _ b _; rfl
theorem start_ok {c : Cfg} (hc : CfgOk c) : HsOk c (start c.ends) := by
  refine ⟨by simp [start], ?_, List.Pairwise.nil, ?_, ?_, ?_, ?_, ?_, List.Pairwise.nil, Nat.zero_le _⟩
  · intro h S b h1 h2
    have hb : b = 0 := by
      have : ∀ l : Ends, (l.map fun e => (e.1, (0 : Int))).lookup h = some b → b = 0 := by
        intro l
        induction l with
        | nil => intro h; cases h
        | cons x l ih =>
          intro h2
          rw [List.map_cons, List.lookup_cons] at h2
          split at h2
          · cases h2; rfl
          · exact ih h2
      exact this _ h2
    have hm : (h, S) ∈ c.ends := by
      have : ∀ l : Ends, l.lookup h = some S → (h, S) ∈ l := by
        intro l
        induction l with
        | nil => intro h; cases h
        | cons x l ih =>
          intro h2
          rw [List.lookup_cons] at h2
          by_cases e : h = x.1
          · rw [show (h == x.1) = true by simpa using e] at h2
            cases h2
            rw [e]
            exact List.mem_cons_self
          · rw [show (h == x.1) = false by simpa using e] at h2
            exact List.mem_cons_of_mem _ (ih h2)
      exact this _ h1
    have := (hc.ends.each _ hm).few.1
    simp only at this
    omega
  all_goals
    intro x hx
    cases hx
theorem nz_deed (d : Deed) : nz d.d = true := by cases d <;> rfl
theorem nz_deeds (l : List Deed) : nz (.tuple (l.map Deed.d)) = true := nz_tup (nzAll_iff.mpr fun x hx => by
  obtain ⟨y, _, rfl⟩ := List.mem_map.mp hx
  exact nz_deed y)
def makeK (c : Str) (sp : SpU) (gU : List U → List U → List U) (us : List U) (n l : Nat) (P : PU) (p : PX) : List U → GH → Prop := fun ws G2 => us.length + 1 = n ∧ ws.length = l ∧ sp (gU (.r G2.length :: us) ws) (G2 ++ [.ins c []]) (fun u G3 => u = .d .none ∧ P (.r G2.length) G3) p
theorem wp_make {c : Str} {sp : SpU} {n l : Nat} {gU : List U → List U → List U} {α κ : WA} {ss : SS} {G : GH} {us : List U} {P : PU} {p : PX} (ha : Ea α ss G us) (h : κ ss G (makeK c sp gU us n l P p) p) : eMake c sp n gU α κ l ss G P p := ha _ _ h
/-! ### the last hall -/
def endsZ : Ends := [("a", [[⟨"say", "b", "w", 1⟩], []]), ("b", [[⟨"hear", "a", "w", 1⟩], []])]
def cfgZ : Cfg := ⟨endsZ, none, []⟩
theorem cfgZ_ok : CfgOk cfgZ := by
  have st : ∀ h : Str, ∀ e : Evt, evB e = true → e.o ≠ h → 0 ≤ e.b → e.b < 2 → EndOk (h, [[e], []]) ∨ nameB h = false := fun h e h1 h2 h3 h4 => by
    cases hn : nameB h with
    | false => exact .inr rfl
    | true =>
      refine .inl ⟨hn, ⟨by simp, by simp⟩, fun s hs => ?_⟩
      simp only [List.mem_cons, List.not_mem_nil, or_false] at hs
      rcases hs with rfl | rfl
      · refine ⟨fun v hv => ?_, by simp, by simp, by simp⟩
        rw [List.mem_singleton.mp hv]
        exact ⟨h1, h2, h3, by simpa using h4⟩
      · exact ⟨(fun v hv => by cases hv), by simp, List.Pairwise.nil, List.Pairwise.nil⟩
  refine ⟨Nat.zero_le _, ⟨by decide, fun e he => ?_, by decide, fun e he s hs v hv => ?_⟩, (fun r h => by cases h), (fun h hh => by cases hh), List.Pairwise.nil⟩
  · simp only [cfgZ, endsZ, List.mem_cons, List.not_mem_nil, or_false] at he
    rcases he with rfl | rfl
    · exact (st _ ⟨"say", "b", "w", 1⟩ (by decide) (by decide) (by decide) (by decide)).resolve_right (by decide)
    · exact (st _ ⟨"hear", "a", "w", 1⟩ (by decide) (by decide) (by decide) (by decide)).resolve_right (by decide)
  · simp only [cfgZ, endsZ, List.mem_cons, List.not_mem_nil, or_false] at he
    rcases he with rfl | rfl
    all_goals
      simp only [List.mem_cons, List.not_mem_nil, or_false] at hs
      rcases hs with rfl | rfl
      · rw [List.mem_singleton.mp hv]; decide
      · cases hv
theorem deedsZ : deeds0 cfgZ (start endsZ) = [.say "a" "b" "w"] := by decide
theorem canZ : canD cfgZ (start endsZ) = [Deed.d (.say "a" "b" "w")] := by
  unfold canD
  rw [deedsZ]
  simp [sortD]

theorem ev_two {a b : Int} {c : WE} {ss : SS} {G : GH} {p : Bool} (h : Ev c ss G (.d (.bool p))) : Ev (eOp gIx (eLst (aCons (eC (.int a)) (aCons (eC (.int b)) aNil))) (eCallB gInt (aCons c aNil))) ss G (.d (.int (if p = true then b else a))) := by
  refine ev_op (ev_lst (ea_cons ev_c (ea_cons ev_c ea_nil)) rfl (Nat.le_of_ble_eq_true rfl)) (ev_callB (ea_cons h ea_nil) n_int) (g_ixL ?_)
  cases p <;> rfl
theorem up_nodup {l : List Str} (h : l.Pairwise fun a b => a.cps.toList < b.cps.toList) : l.Nodup := h.imp fun {a b} h e => by
  rw [e] at h
  exact List.lt_irrefl _ h
theorem st_methw {c mt : Str} {sp : SpU} {n i : Nat} {o e : WE} {fs : List (Str × U)} {ss : SS} {G : GH} {C : Cn} (ho : Ev o ss G (.r i)) (hG : G[i]? = some (.ins c fs)) (hm : fs.lookup mt = none) (h : e ss G (fun u G2 => ([u] : List U).length + 1 = n ∧ sp [.r i, u] G2 (fun _ G1 => C.nx ss G1) fun x G1 => C.ex x ss G1) fun x G1 => C.ex x ss G1) : sExpr (eMethC c mt sp n uPos o (aCons e aNil)) ss G C := ho _ _ (by
  show (match G[i]? with
    | some (.ins d fs) => d = c ∧ fs.lookup mt = none ∧ aCons e aNil ss G (fun us G2 => us.length + 1 = n ∧ sp (uPos (.r i :: us) []) G2 (fun _ G1 => C.nx ss G1) fun x G1 => C.ex x ss G1) fun x G1 => C.ex x ss G1
    | _ => False)
  rw [hG]
  exact ⟨rfl, hm, h⟩)
theorem law_law : ∀ us G Q p, Closed G → sp_law us G Q p → ph_law (startU N_law us) G (Cnd G Q p) := by
  rintro _ G Q p hG ⟨ns, rfl, rfl, q⟩
  unfold ph_law
  -- the last hall
  have fin : ∀ w1 w2 w3 w4 w5 w6 w7 w8 w9, (sSeq (sAsg (eMake "Hall" sp_Hall___init__ 2 uDfl (aCons (eTup (aCons (eTup (aCons (eC (.str "a")) (aCons (eTup (aCons (eTup (aCons (eTup (aCons (eC (.str "say")) (aCons (eC (.str "b")) (aCons (eC (.str "w")) (aCons (eC (.int 1)) aNil))))) aNil)) (aCons (eTup aNil) aNil))) aNil))) (aCons (eTup (aCons (eC (.str "b")) (aCons (eTup (aCons (eTup (aCons (eTup (aCons (eC (.str "hear")) (aCons (eC (.str "a")) (aCons (eC (.str "w")) (aCons (eC (.int 1)) aNil))))) aNil)) (aCons (eTup aNil) aNil))) aNil))) aNil))) aNil) aNil 0) (gdName 4)) (sRet (eOp gEq (eCallB gRepr (aCons (eMethC "Hall" "can_do" sp_Hall_can_do 1 uPos (eVar 4) aNil) aNil)) (eCallB gRepr (aCons (eTup (aCons (eTup (aCons (eC (.str "say")) (aCons (eC (.str "a")) (aCons (eC (.str "b")) (aCons (eC (.str "w")) aNil))))) aNil)) aNil))))) [some (.k (.list (ns.map PyData.int))), w1, w2, w3, w4, w5, w6, w7, w8, w9] [] (Cnd [] Q p) := by
    intro w1 w2 w3 w4 w5 w6 w7 w8 w9
    have et : ∀ {α : WA} {us : List U} {xs : List PyData} {ss : SS} {G : GH}, Ea α ss G us → dataOf us = some xs → us.length ≤ 1000 → Ev (eTup α) ss G (.d (.tuple xs)) := fun a b c => ev_tup a b c
    refine sq_wname (wp_make (us := [.d (endsD endsZ)]) (ea_cons (et (ea_cons (et (ea_cons ev_c (ea_cons (et (ea_cons (et (ea_cons (et (ea_cons ev_c (ea_cons ev_c (ea_cons ev_c (ea_cons ev_c ea_nil)))) rfl (Nat.le_of_ble_eq_true rfl)) ea_nil) rfl (Nat.le_of_ble_eq_true rfl)) (ea_cons (et ea_nil rfl (Nat.le_of_ble_eq_true rfl)) ea_nil)) rfl (Nat.le_of_ble_eq_true rfl)) ea_nil)) rfl (Nat.le_of_ble_eq_true rfl)) (ea_cons (et (ea_cons ev_c (ea_cons (et (ea_cons (et (ea_cons (et (ea_cons ev_c (ea_cons ev_c (ea_cons ev_c (ea_cons ev_c ea_nil)))) rfl (Nat.le_of_ble_eq_true rfl)) ea_nil) rfl (Nat.le_of_ble_eq_true rfl)) (ea_cons (et ea_nil rfl (Nat.le_of_ble_eq_true rfl)) ea_nil)) rfl (Nat.le_of_ble_eq_true rfl)) ea_nil)) rfl (Nat.le_of_ble_eq_true rfl)) ea_nil)) rfl (Nat.le_of_ble_eq_true rfl)) ea_nil) (wp_nil ⟨rfl, rfl, ⟨0, cfgZ, rfl, cfgZ_ok, rfl, rfl, ?_⟩⟩))
    have hz := cfgZ_ok
    have A : At ([hallO cfgZ (start endsZ) 1 0 0, .lst []] : GH) 0 cfgZ (start endsZ) 1 0 0 := ⟨rfl, hz, start_ok hz⟩
    have sm := sm_can (start_ok hz) hz
    rw [show start cfgZ.ends = start endsZ from rfl, canZ] at sm
    have rp : ∀ {G : GH}, En gRepr [.d (.tuple [Deed.d (.say "a" "b" "w")])] G (.d (.str (PyData.tuple [Deed.d (.say "a" "b" "w")]).shown)) := fun P k => ⟨sm.show_, told_fits sm (by omega), Nat.le_trans sm.dep (by omega), k⟩
    refine st_ret' (ev_op (ev_callB (ea_cons (ev_as (ev_can A (ev_var rfl)) (by rw [canZ])) ea_nil) rp) (ev_callB (ea_cons (u := .d (.tuple [Deed.d (.say "a" "b" "w")])) (et (ea_cons (et (ea_cons ev_c (ea_cons ev_c (ea_cons ev_c (ea_cons ev_c ea_nil)))) rfl (Nat.le_of_ble_eq_true rfl)) ea_nil) rfl (Nat.le_of_ble_eq_true rfl)) ea_nil) rp) g_eqS) (v := yes) (by simp [yes]) ⟨[], left_drop (G := []) (T := [hallO cfgZ (start endsZ) 1 0 0, .lst []]) hG, q⟩
  refine st_seq (wp_forRng fun p => (ev_callB (ea_cons ev_c (ea_cons (ev_callB (ea_cons ev_c (ea_cons (ev_callB (ea_cons (ev_var rfl) ea_nil) n_lenK) ea_nil)) n_min) ea_nil)) n_max) _ _ (forK_G (fun rest ss G' => G' = [] ∧ (∀ i ∈ rest, i < 63) ∧ ∃ w1 w2 w3 w4 w5 w6 w7 w8 w9, ss = [some (.k (.list (ns.map PyData.int))), w1, w2, w3, w4, w5, w6, w7, w8, w9]) ?_ ?_ ⟨rfl, fun i hi => ?_, _, _, _, _, _, _, _, _, _, rfl⟩ ?_))
  · split <;> split <;> omega
  · rintro a rest ss _ ⟨rfl, hlt, w1, w2, w3, w4, w5, w6, w7, w8, w9, rfl⟩
    have ha : a < 63 := hlt a List.mem_cons_self
    refine ⟨_, pat_name, fun C' hr' hnx => ?_⟩
    refine sq_wname (wp_call (ea_cons (ev_var rfl) (ea_cons (ev_var rfl) ea_nil)) rfl ⟨ns, 0 + (a : Nat), rfl, by omega, by omega, fun L1 hL1 => ?_⟩)
    refine sq_wname (wp_call (ea_cons (ev_var rfl) (ea_cons (ev_two (ev_op (ev_var rfl) ev_c g_cmp)) ea_nil)) rfl ⟨0, _, 0, L1, rfl, ?_, ?_, rfl, hL1, by omega, fun l Lb hl hLb => ?_⟩)
    · split <;> decide
    · split <;> decide
    refine sq_wname (wp_make (ea_cons (ev_var rfl) ea_nil) (wp_acw (wp_call (ea_cons (ev_var rfl) ea_nil) rfl ⟨0, _, Lb, rfl, rfl, hLb, by omega, fun o L3 ho hL3 => wp_acw (wp_call (ea_cons (ev_var rfl) (ea_cons (ev_var rfl) ea_nil)) rfl ⟨0, _, L3, l, rfl, hl, rfl, hL3, by omega, fun w L4 hw1 hw2 hL4 => ?_⟩)⟩)))
    have hc : CfgOk ⟨l, o, w⟩ := ⟨by
      have := nodup_length_le (up_nodup hw2) hw1
      rw [List.length_map] at this
      have := hl.few.2
      show w.length ≤ 100
      omega, hl, ho, hw1, hw2⟩
    refine wp_nil ⟨rfl, rfl, ⟨1, ⟨l, o, w⟩, rfl, hc, rfl, rfl, ?_⟩⟩
    show sSeq _ _ _ [MO.lst L4, hallO ⟨l, o, w⟩ (start l) 2 0 0, .lst []] C'
    refine st_seq (wp_forRng fun p => wp_draw (G := [MO.lst L4, hallO ⟨l, o, w⟩ (start l) 2 0 0, .lst []]) (r := 0) ⟨rfl, hL4⟩ (by omega) ?_ (ev_var rfl) (ev_two (ev_op (ev_var rfl) ev_c g_ltI)) fun v L5 h1 h2 h3 => ?_)
    · split <;> decide
    have hv : v ≤ 20 := by
      split at h2 <;> omega
    show forK _ _ _ _ _ [MO.lst L5, hallO ⟨l, o, w⟩ (start l) 2 0 0, .lst []]
    refine forK_of (fun rest ss G' => ∃ (s : HS) (M La : List U) (ca ba : Int) (d : Nat), G' = [.lst M, hallO ⟨l, o, w⟩ s 2 ca ba, .lst La] ∧ HsOk ⟨l, o, w⟩ s ∧ d + rest.length ≤ 20 ∧ s.ld.length ≤ d ∧ La.length ≤ d ∧ Reel (0 + 10000 + 100 + 100 + 1 + d) M ∧ ∃ w5 w6, ss = [some (.k (.list (ns.map PyData.int))), some (.d (.int (0 + (a : Nat)))), some (.r 0), some (.d (endsD l)), some (.r 1), w5, w6, w7, w8, w9]) (by omega) ?_ ⟨start l, L5, [], 0, 0, 0, rfl, start_ok hc, by rw [List.length_range]; omega, Nat.zero_le _, Nat.zero_le _, h3, _, _, rfl⟩ ?_
    · rintro i rest2 ss _ ⟨s, M, La, ca, ba, d, rfl, hs, hd, hsl, hla, hM, w5, w6, rfl⟩
      rw [List.length_cons] at hd
      refine ⟨_, pat_name, fun C2 hr2 hnx2 => ?_⟩
      have A : At ([.lst M, hallO ⟨l, o, w⟩ s 2 ca ba, .lst La] : GH) 1 ⟨l, o, w⟩ s 2 ca ba := ⟨rfl, hc, hs⟩
      obtain ⟨ds, e1, e2⟩ := can_list (c := ⟨l, o, w⟩) (s := s)
      have dl : ds.length ≤ 246 := by rw [e2.length_eq]; exact deeds0_len hs hc
      refine sq_name (u := .d (.tuple (ds.map Deed.d))) (ev_as (ev_can A (ev_var rfl)) (by rw [e1])) ?_
      refine st_if (et_test (ev_op (ev_var rfl) (ev_tup ea_nil rfl (Nat.le_of_ble_eq_true rfl)) (g_ne (eqOk_nz (nz_deeds ds) rfl (Nat.le_trans (Nat.min_le_right _ _) (by simp [PyData.depth, PyData.depthAll])))))) (fun hne => ?_) (fun _ => hnx2 _ _ ⟨s, M, La, ca, ba, d + 1, rfl, hs, by omega, by omega, by omega, hM.up (by omega), _, _, rfl⟩)
      have hpos : 0 < ds.length := by
        cases ds with
        | nil => exact absurd hne (by decide)
        | cons x l => simp
      refine st_methw (ev_var rfl) (i := 1) A.at_ rfl (wp_opl (ev_var rfl) (wp_draw (r := 0) ⟨rfl, hM⟩ (by omega) (k := ds.length) (by omega) (ev_var rfl) (ev_as (ev_callB (ea_cons (ev_var rfl) ea_nil) n_lenT) (by rw [List.length_map])) fun v M2 h1 h2 h3 => ?_))
      obtain ⟨x, hx, hxm⟩ := get_at ⟨h1, h2⟩
      have hcan : Can ⟨l, o, w⟩ s x := can_of hc hs (e2.mem_iff.mp hxm)
      have ix : L2.atI (ds.map Deed.d) v = some x.d := by
        have := L2.atI_nat (xs := ds.map Deed.d) (j := v.toNat) (v := x.d) (by rw [List.getElem?_map, hx]; rfl)
        rw [show ((v.toNat : Nat) : Int) = v by omega] at this
        exact this
      refine g_ixT ix _ ⟨rfl, ?_⟩
      refine ⟨1, ⟨l, o, w⟩, s, 2, ca, ba, x, La, rfl, ⟨rfl, hc, hs⟩, hcan, by decide, rfl, by omega, ?_⟩
      refine hnx2 _ _ ⟨(step ⟨l, o, w⟩ s x).2, M2, La ++ [.d (aheadD s)], ca + 1, ba, d + 1, rfl, step_ok hc hs hcan (by omega), by omega, ?_, ?_, h3.up (by omega), _, _, rfl⟩
      · rw [step_ld, List.length_append, List.length_singleton]; omega
      · rw [List.length_append, List.length_singleton]; omega
    · rintro ss _ ⟨s, M, La, ca, ba, d, rfl, hs, hd, hsl, hla, hM, w5, w6, rfl⟩
      rw [List.length_nil] at hd
      have A : ∀ {M : List U}, At ([.lst M, hallO ⟨l, o, w⟩ s 2 ca ba, .lst La] : GH) 1 ⟨l, o, w⟩ s 2 ca ba := ⟨rfl, hc, hs⟩
      obtain ⟨ds, e1, e2⟩ := can_list (c := ⟨l, o, w⟩) (s := s)
      have dl : ds.length ≤ 246 := by rw [e2.length_eq]; exact deeds0_len hs hc
      dsimp only
      refine sq_name (ev_told A (ev_var rfl)) ?_
      refine st_seq (wp_forSeq fun p => wp_call (ea_cons (ev_var rfl) (ea_cons (ev_as (v := .d (.tuple (ds.map Deed.d))) (ev_can A (ev_var rfl)) (by rw [e1])) (ea_cons (ev_two (ev_op (ev_var rfl) ev_c g_ltI)) ea_nil))) rfl ⟨0, _, M, _, ds, rfl, ?_, ?_, dl, rfl, hM, by omega, fun ps M2 hps hpl hM2 => ?_⟩)
      · split <;> decide
      · split <;> decide
      show seqK _ _ _ _ _ [MO.lst M2, hallO ⟨l, o, w⟩ s 2 ca ba, .lst La]
      refine seqK_of (l := ps) (fun p => .d (.tuple [p.1.d, p.2.d])) (fun rest2 ss G' => G' = [.lst M2, hallO ⟨l, o, w⟩ s 2 ca ba, .lst La] ∧ (∀ p ∈ rest2, p ∈ ps) ∧ ∃ w8 w9, ss = [some (.k (.list (ns.map PyData.int))), some (.d (.int (0 + (a : Nat)))), some (.r 0), some (.d (endsD l)), some (.r 1), w5, w6, some (.d (.str (toldD ⟨l, o, w⟩ s).shown)), w8, w9]) (by rw [List.map_map]; rfl) ?_ ⟨rfl, fun p hp => hp, _, _, rfl⟩ ?_
      · rintro x rest2 ss _ ⟨rfl, hin, w8, w9, rfl⟩
        obtain ⟨k1, k2, k3⟩ := hps x (hin x List.mem_cons_self)
        refine ⟨_, pat2, fun C2 hr2 hnx2 => ?_⟩
        refine st_else (p := !true) (et_not (et_test (ev_call (ea_cons (ev_var rfl) (ea_cons (ev_var rfl) (ea_cons (ev_var rfl) ea_nil))) rfl fun P p k => ⟨1, ⟨l, o, w⟩, s, 2, ca, ba, x.1, x.2, La, rfl, A, can_of hc hs (e2.mem_iff.mp k1), can_of hc hs (e2.mem_iff.mp k2), k3, by decide, rfl, by omega, by omega, k⟩))) rfl ?_
        exact hnx2 _ _ ⟨rfl, fun p hp => hin p (List.mem_cons_of_mem _ hp), _, _, rfl⟩
      · rintro ss _ ⟨rfl, _, w8, w9, rfl⟩
        dsimp only
        refine st_else (et_test (ev_op (ev_told A (ev_var rfl)) (ev_var rfl) g_neS)) (by simp) ?_
        refine hnx _ _ [some (.k (.list (ns.map PyData.int))), none, none, none, none, none, none, none, none, none] [] (.inr ⟨⟨_, rfl⟩, hG, Nat.zero_le _, rfl, ?_⟩) ⟨rfl, fun i hi => hlt i (List.mem_cons_of_mem _ hi), _, _, _, _, _, _, _, _, _, rfl⟩
        intro i u hu
        match i, hu with
        | 0, hu => cases hu; exact ⟨rfl, rfl⟩
        | i + 1, hu => exact absurd hu (by
            intro h
            match i, h with
            | 0, h => cases h
            | 1, h => cases h
            | 2, h => cases h
            | 3, h => cases h
            | 4, h => cases h
            | 5, h => cases h
            | 6, h => cases h
            | 7, h => cases h
            | 8, h => cases h
            | i + 9, h => simp at h)
  · rw [List.mem_range] at hi
    split at hi <;> split at hi <;> omega
  · rintro ss _ ⟨rfl, _, w1, w2, w3, w4, w5, w6, w7, w8, w9, rfl⟩
    exact fin _ _ _ _ _ _ _ _ _

end K36
/-! ## part W0 -/
namespace K36
open PySem PySem.Spec
open PyProof.Rows hiding St
open L2 R
def top (i : Nat) : Stmt := PySem.Challenge.pw_sayloom_k36_whole_deeds_in_either_order.main.body.getD i (.Pass ⟨0, 0, 0, 0⟩)
def pos0 : Pos := ⟨0, 0, 0, 0⟩
structure MG (K : PySem.W.Frag) (mg : Str → Option Value) : Prop where
  b_KeyError : mg "KeyError" = none
  b_LookupError : mg "LookupError" = none
  b_OverflowError : mg "OverflowError" = none
  b_ValueError : mg "ValueError" = none
  b_all : mg "all" = none
  b_bool : mg "bool" = none
  b_int : mg "int" = none
  b_isinstance : mg "isinstance" = none
  b_len : mg "len" = none
  b_list : mg "list" = none
  b_max : mg "max" = none
  b_min : mg "min" = none
  b_range : mg "range" = none
  b_repr : mg "repr" = none
  b_sorted : mg "sorted" = none
  b_str : mg "str" = none
  b_tuple : mg "tuple" = none
  b_zip : mg "zip" = none
  s_FAULT : CStr mg "FAULT" "!"
  s_LETTERS : CStr mg "LETTERS" "abcdefghijklmnopqrstuvwxyz"
  i_MOST_LETTERS : CInt mg "MOST_LETTERS" 8
  i_MOST_OF_AN_END : CInt mg "MOST_OF_AN_END" 100
  s_SAY : CStr mg "SAY" "say"
  s_HEAR : CStr mg "HEAR" "hear"
  i_FEWEST_HANDS : CInt mg "FEWEST_HANDS" 2
  i_MOST_HANDS : CInt mg "MOST_HANDS" 6
  i_MOST_ROOM : CInt mg "MOST_ROOM" 9
  t_DEED_SHAPES : CTup K mg "DEED_SHAPES" (.tuple [(.tuple [(.str "say"), (.int 4)]), (.tuple [(.str "hear"), (.int 3)]), (.tuple [(.str "fall"), (.int 2)])])
  g_Hall : mg "Hall" = some (.ref (He.ga K "Hall"))
  k_Hall : PySem.W.keepIn K (.ref (He.ga K "Hall")) = true

end K36
/-! ## part W1 -/
namespace K36
open PySem PySem.Spec
open PyProof.Rows hiding St
open L2 R
/-! ### is_name -/
theorem sc_is_name : FnScope N_is_name ps_is_name (defScope (top 13)) := ⟨rfl, rfl, rfl, by decide +kernel, rfl, by decide +kernel, by decide +kernel⟩
theorem walk_is_name {P : Program} {w : World} {K : PySem.W.Frag} {mg : Str → Option Value} {base : Heap} {f : Addr} {fd : FuncData} {dvs : List V} {kws : List (Str × V)} (sm : SM K) (M : MG K mg) (tab : TabOk K TT) (insk : InsK K "Hall")
    (F : FunD K "is_name" "is_name" (defArgs (top 13)) (defBody (top 13)) (defScope (top 13)) dvs kws f fd)
    (law : ∀ us G Q p, Closed G → sp_is_name us G Q p → ph_is_name (startU N_is_name us) G { nx := fun _ G1 => ∃ G', Left G.length (.d .none) G1 G' ∧ Q (.d .none) G', rt := fun u G1 => ∃ G', Left G.length u G1 G' ∧ Q u G', ex := fun x _ G' => p x G' })
    (len : ∀ us G Q p, sp_is_name us G Q p → us.length = ps_is_name.length) : FnG P w K mg base 1 f fd ps_is_name sp_is_name :=
  FnG.mk' F sc_is_name len fun cdv A outer s H E hr gd => by
    have un := hr.un
    have un : (A.deeper (envOfC "is_name" (defScope (top 13)) s.heap.objs.size f cdv)).units + 64 < cLine := by omega
    have ca : (cxOf (L2.CX P w) P w K mg base N_is_name "is_name" (defScope (top 13)) f cdv A outer s H E).calm = true := rfl
    have nd := sc_is_name.nd
    have tk : Takes (cxOf (L2.CX P w) P w K mg base N_is_name "is_name" (defScope (top 13)) f cdv A outer s H E) (fun c d _ H' => E c d H') := takes_of rfl rfl rfl rfl
    have hp := passes_of (X := cxOf (L2.CX P w) P w K mg base N_is_name "is_name" (defScope (top 13)) f cdv A outer s H E) rfl
    exact ⟨ph_is_name, (s_cons (s_if (r_or (r_not (r_tval (r_isB (T := "str") (by decide) M.b_isinstance M.b_str (r_var 0)))) (r_or1 (r_not (r_tchain k_le k_le r_int (r_callB c_len M.b_len (r_acons (r_var 0) r_anil)) (r_gint M.i_MOST_LETTERS))))).pt (s_one (s_ret r_bl)) s_nil) (s_one (s_ret (r_callB (c_all ca) M.b_all (r_acons (e_val (r_lc ca nd (blkOk_by (N := N_is_name) (sc := defScope (top 13)) (own := [("letter", 1)]) (by decide +kernel)) (i_seq (r_var 0)) (fun _ _ _ _ _ => (c_name 1 nd)) (fun _ _ _ _ _ => p_none) (fun _ _ _ _ _ => (r_cmp (k_in sm un) (r_var 1) (r_gstr M.s_LETTERS))))) r_anil))))), law⟩
/-! ### is_rising -/
theorem sc_is_rising : FnScope N_is_rising ps_is_rising (defScope (top 15)) := ⟨rfl, rfl, rfl, by decide +kernel, rfl, by decide +kernel, by decide +kernel⟩
theorem walk_is_rising {P : Program} {w : World} {K : PySem.W.Frag} {mg : Str → Option Value} {base : Heap} {f : Addr} {fd : FuncData} {dvs : List V} {kws : List (Str × V)} (sm : SM K) (M : MG K mg) (tab : TabOk K TT) (insk : InsK K "Hall")
    (F : FunD K "is_rising" "is_rising" (defArgs (top 15)) (defBody (top 15)) (defScope (top 15)) dvs kws f fd)
    (law : ∀ us G Q p, Closed G → sp_is_rising us G Q p → ph_is_rising (startU N_is_rising us) G { nx := fun _ G1 => ∃ G', Left G.length (.d .none) G1 G' ∧ Q (.d .none) G', rt := fun u G1 => ∃ G', Left G.length u G1 G' ∧ Q u G', ex := fun x _ G' => p x G' })
    (len : ∀ us G Q p, sp_is_rising us G Q p → us.length = ps_is_rising.length) : FnG P w K mg base 1 f fd ps_is_rising sp_is_rising :=
  FnG.mk' F sc_is_rising len fun cdv A outer s H E hr gd => by
    have un := hr.un
    have un : (A.deeper (envOfC "is_rising" (defScope (top 15)) s.heap.objs.size f cdv)).units + 64 < cLine := by omega
    have ca : (cxOf (L2.CX P w) P w K mg base N_is_rising "is_rising" (defScope (top 15)) f cdv A outer s H E).calm = true := rfl
    have nd := sc_is_rising.nd
    have tk : Takes (cxOf (L2.CX P w) P w K mg base N_is_rising "is_rising" (defScope (top 15)) f cdv A outer s H E) (fun c d _ H' => E c d H') := takes_of rfl rfl rfl rfl
    have hp := passes_of (X := cxOf (L2.CX P w) P w K mg base N_is_rising "is_rising" (defScope (top 15)) f cdv A outer s H E) rfl
    exact ⟨ph_is_rising, (s_one (s_ret (r_callB (c_all ca) M.b_all (r_acons (e_val (r_lc ca nd (blkOk_by (N := N_is_rising) (sc := defScope (top 15)) (own := [("one", 1), ("other", 2)]) (by decide +kernel)) (i_zip M.b_zip (r_acons (r_var 0) (r_acons (r_slice (r_var 0) (r_osome r_int) r_onone) r_anil))) (fun _ _ _ _ _ => (c_tup ca (c_cons (c_name 1 nd) (c_cons (c_name 2 nd) c_nil)))) (fun _ _ _ _ _ => p_none) (fun _ _ _ _ _ => (r_cmp (k_lt sm un) (r_var 1) (r_var 2))))) r_anil)))), law⟩
/-! ### is_below -/
theorem sc_is_below : FnScope N_is_below ps_is_below (defScope (top 14)) := ⟨rfl, rfl, rfl, by decide +kernel, rfl, by decide +kernel, by decide +kernel⟩
theorem walk_is_below {P : Program} {w : World} {K : PySem.W.Frag} {mg : Str → Option Value} {base : Heap} {f : Addr} {fd : FuncData} {dvs : List V} {kws : List (Str × V)} (sm : SM K) (M : MG K mg) (tab : TabOk K TT) (insk : InsK K "Hall")
    (F : FunD K "is_below" "is_below" (defArgs (top 14)) (defBody (top 14)) (defScope (top 14)) dvs kws f fd)
    (law : ∀ us G Q p, Closed G → sp_is_below us G Q p → ph_is_below (startU N_is_below us) G { nx := fun _ G1 => ∃ G', Left G.length (.d .none) G1 G' ∧ Q (.d .none) G', rt := fun u G1 => ∃ G', Left G.length u G1 G' ∧ Q u G', ex := fun x _ G' => p x G' })
    (len : ∀ us G Q p, sp_is_below us G Q p → us.length = ps_is_below.length) : FnG P w K mg base 1 f fd ps_is_below sp_is_below :=
  FnG.mk' F sc_is_below len fun cdv A outer s H E hr gd => by
    have un := hr.un
    have un : (A.deeper (envOfC "is_below" (defScope (top 14)) s.heap.objs.size f cdv)).units + 64 < cLine := by omega
    have ca : (cxOf (L2.CX P w) P w K mg base N_is_below "is_below" (defScope (top 14)) f cdv A outer s H E).calm = true := rfl
    have nd := sc_is_below.nd
    have tk : Takes (cxOf (L2.CX P w) P w K mg base N_is_below "is_below" (defScope (top 14)) f cdv A outer s H E) (fun c d _ H' => E c d H') := takes_of rfl rfl rfl rfl
    have hp := passes_of (X := cxOf (L2.CX P w) P w K mg base N_is_below "is_below" (defScope (top 14)) f cdv A outer s H E) rfl
    exact ⟨ph_is_below, (s_one (s_ret (r_andV (r_isB (T := "int") (by decide) M.b_isinstance M.b_int (r_var 0)) (r_andV (r_notV (r_isB (T := "bool") (by decide) M.b_isinstance M.b_bool (r_var 0))) (r_one (r_chain k_le (k_lt sm un) r_int (r_var 0) (r_var 1))))))), law⟩
/-! ### is_event -/
theorem sc_is_event : FnScope N_is_event ps_is_event (defScope (top 20)) := ⟨rfl, rfl, rfl, by decide +kernel, rfl, by decide +kernel, by decide +kernel⟩
theorem walk_is_event {P : Program} {w : World} {K : PySem.W.Frag} {mg : Str → Option Value} {base : Heap} {f : Addr} {fd : FuncData} {dvs : List V} {kws : List (Str × V)} (sm : SM K) (M : MG K mg) (tab : TabOk K TT) (insk : InsK K "Hall") (c_is_name : CallD P w K mg base 1 "is_name" 1 sp_is_name)
    (F : FunD K "is_event" "is_event" (defArgs (top 20)) (defBody (top 20)) (defScope (top 20)) dvs kws f fd)
    (law : ∀ us G Q p, Closed G → sp_is_event us G Q p → ph_is_event (startU N_is_event us) G { nx := fun _ G1 => ∃ G', Left G.length (.d .none) G1 G' ∧ Q (.d .none) G', rt := fun u G1 => ∃ G', Left G.length u G1 G' ∧ Q u G', ex := fun x _ G' => p x G' })
    (len : ∀ us G Q p, sp_is_event us G Q p → us.length = ps_is_event.length) : FnG P w K mg base 2 f fd ps_is_event sp_is_event :=
  FnG.mk' F sc_is_event len fun cdv A outer s H E hr gd => by
    have un := hr.un
    have un : (A.deeper (envOfC "is_event" (defScope (top 20)) s.heap.objs.size f cdv)).units + 64 < cLine := by omega
    have ca : (cxOf (L2.CX P w) P w K mg base N_is_event "is_event" (defScope (top 20)) f cdv A outer s H E).calm = true := rfl
    have nd := sc_is_event.nd
    have tk : Takes (cxOf (L2.CX P w) P w K mg base N_is_event "is_event" (defScope (top 20)) f cdv A outer s H E) (fun c d _ H' => E c d H') := takes_of rfl rfl rfl rfl
    have hp := passes_of (X := cxOf (L2.CX P w) P w K mg base N_is_event "is_event" (defScope (top 20)) f cdv A outer s H E) rfl
    exact ⟨ph_is_event, (s_cons (s_if (r_or (r_not (r_tval (r_isB (T := "tuple") (by decide) M.b_isinstance M.b_tuple (r_var 0)))) (r_or (r_tcmp (k_ne sm un) (r_callB c_len M.b_len (r_acons (r_var 0) r_anil)) r_int) (r_or1 (r_not (r_tval (r_callB (c_all ca) M.b_all (r_acons (e_val (r_lc ca nd (blkOk_by (N := N_is_event) (sc := defScope (top 20)) (own := [("part", 4)]) (by decide +kernel)) (i_seq (r_var 0)) (fun _ _ _ _ _ => (c_name 4 nd)) (fun _ _ _ _ _ => p_none) (fun _ _ _ _ _ => (r_isB (T := "str") (by decide) M.b_isinstance M.b_str (r_var 4))))) r_anil))))))).pt (s_one (s_ret r_bl)) s_nil) (s_cons (s_asg (r_var 0) (t_tup ca (t_cons (t_name 1 nd) (t_cons (t_name 2 nd) (t_cons (t_name 3 nd) t_nil))))) (s_cons (s_if (r_or (r_tcmp (k_notIn sm un) (r_var 1) (r_tup (r_acons (r_gstr M.s_SAY) (r_acons (r_gstr M.s_HEAR) r_anil)))) (r_or1 (r_not (r_tval (r_callD c_is_name (by decide) hr gd tk (r_acons (r_var 2) r_anil)))))).pt (s_one (s_ret r_bl)) s_nil) (s_one (s_ret (r_orV (r_callD c_is_name (by decide) hr gd tk (r_acons (r_var 3) r_anil)) (r_one (r_andV (r_cmp (k_eq sm un) (r_var 1) (r_gstr M.s_HEAR)) (r_one (r_cmp (k_eq sm un) (r_var 3) (r_gstr M.s_FAULT))))))))))), law⟩
/-! ### is_step -/
theorem sc_is_step : FnScope N_is_step ps_is_step (defScope (top 21)) := ⟨rfl, rfl, rfl, by decide +kernel, rfl, by decide +kernel, by decide +kernel⟩
theorem walk_is_step {P : Program} {w : World} {K : PySem.W.Frag} {mg : Str → Option Value} {base : Heap} {f : Addr} {fd : FuncData} {dvs : List V} {kws : List (Str × V)} (sm : SM K) (M : MG K mg) (tab : TabOk K TT) (insk : InsK K "Hall") (c_is_event : CallD P w K mg base 2 "is_event" 1 sp_is_event) (c_is_below : CallD P w K mg base 1 "is_below" 2 sp_is_below)
    (F : FunD K "is_step" "is_step" (defArgs (top 21)) (defBody (top 21)) (defScope (top 21)) dvs kws f fd)
    (law : ∀ us G Q p, Closed G → sp_is_step us G Q p → ph_is_step (startU N_is_step us) G { nx := fun _ G1 => ∃ G', Left G.length (.d .none) G1 G' ∧ Q (.d .none) G', rt := fun u G1 => ∃ G', Left G.length u G1 G' ∧ Q u G', ex := fun x _ G' => p x G' })
    (len : ∀ us G Q p, sp_is_step us G Q p → us.length = ps_is_step.length) : FnG P w K mg base 3 f fd ps_is_step sp_is_step :=
  FnG.mk' F sc_is_step len fun cdv A outer s H E hr gd => by
    have un := hr.un
    have un : (A.deeper (envOfC "is_step" (defScope (top 21)) s.heap.objs.size f cdv)).units + 64 < cLine := by omega
    have ca : (cxOf (L2.CX P w) P w K mg base N_is_step "is_step" (defScope (top 21)) f cdv A outer s H E).calm = true := rfl
    have nd := sc_is_step.nd
    have tk : Takes (cxOf (L2.CX P w) P w K mg base N_is_step "is_step" (defScope (top 21)) f cdv A outer s H E) (fun c d _ H' => E c d H') := takes_of rfl rfl rfl rfl
    have hp := passes_of (X := cxOf (L2.CX P w) P w K mg base N_is_step "is_step" (defScope (top 21)) f cdv A outer s H E) rfl
    exact ⟨ph_is_step, (s_cons (s_if (r_or (r_not (r_tval (r_isB (T := "tuple") (by decide) M.b_isinstance M.b_tuple (r_var 2)))) (r_or (r_tcmp (k_ne sm un) (r_callB c_len M.b_len (r_acons (r_var 2) r_anil)) r_int) (r_or1 (r_not (r_tval (r_callD c_is_event (by decide) hr gd tk (r_acons (r_slice (r_var 2) r_onone (r_osome r_int)) r_anil))))))).pt (s_one (s_ret r_bl)) s_nil) (s_one (s_ret (r_andV (r_cmp (k_ne sm un) (r_ix (x_ix un) (r_var 2) r_int) (r_var 0)) (r_one (r_callD c_is_below (by decide) hr gd tk (r_acons (r_ix (x_ix un) (r_var 2) r_int) (r_acons (r_var 1) r_anil)))))))), law⟩
/-! ### is_state -/
theorem sc_is_state : FnScope N_is_state ps_is_state (defScope (top 22)) := ⟨rfl, rfl, rfl, by decide +kernel, rfl, by decide +kernel, by decide +kernel⟩
theorem walk_is_state {P : Program} {w : World} {K : PySem.W.Frag} {mg : Str → Option Value} {base : Heap} {f : Addr} {fd : FuncData} {dvs : List V} {kws : List (Str × V)} (sm : SM K) (M : MG K mg) (tab : TabOk K TT) (insk : InsK K "Hall") (c_is_step : CallD P w K mg base 3 "is_step" 3 sp_is_step) (c_is_rising : CallD P w K mg base 1 "is_rising" 1 sp_is_rising)
    (F : FunD K "is_state" "is_state" (defArgs (top 22)) (defBody (top 22)) (defScope (top 22)) dvs kws f fd)
    (law : ∀ us G Q p, Closed G → sp_is_state us G Q p → ph_is_state (startU N_is_state us) G { nx := fun _ G1 => ∃ G', Left G.length (.d .none) G1 G' ∧ Q (.d .none) G', rt := fun u G1 => ∃ G', Left G.length u G1 G' ∧ Q u G', ex := fun x _ G' => p x G' })
    (len : ∀ us G Q p, sp_is_state us G Q p → us.length = ps_is_state.length) : FnG P w K mg base 4 f fd ps_is_state sp_is_state :=
  FnG.mk' F sc_is_state len fun cdv A outer s H E hr gd => by
    have un := hr.un
    have un : (A.deeper (envOfC "is_state" (defScope (top 22)) s.heap.objs.size f cdv)).units + 64 < cLine := by omega
    have ca : (cxOf (L2.CX P w) P w K mg base N_is_state "is_state" (defScope (top 22)) f cdv A outer s H E).calm = true := rfl
    have nd := sc_is_state.nd
    have tk : Takes (cxOf (L2.CX P w) P w K mg base N_is_state "is_state" (defScope (top 22)) f cdv A outer s H E) (fun c d _ H' => E c d H') := takes_of rfl rfl rfl rfl
    have hp := passes_of (X := cxOf (L2.CX P w) P w K mg base N_is_state "is_state" (defScope (top 22)) f cdv A outer s H E) rfl
    exact ⟨ph_is_state, (s_cons (s_if (r_or (r_not (r_tval (r_isB (T := "tuple") (by decide) M.b_isinstance M.b_tuple (r_var 2)))) (r_or1 (r_not (r_tval (r_callB (c_all ca) M.b_all (r_acons (e_val (r_lc ca nd (blkOk_by (N := N_is_state) (sc := defScope (top 22)) (own := [("step", 4)]) (by decide +kernel)) (i_seq (r_var 2)) (fun _ _ _ _ _ => (c_name 4 nd)) (fun _ _ _ _ _ => p_none) (fun _ _ _ _ _ => (r_callD c_is_step (by decide) hr gd R.takes0 (r_acons (r_var 0) (r_acons (r_var 1) (r_acons (r_var 4) r_anil))))))) r_anil)))))).pt (s_one (s_ret r_bl)) s_nil) (s_cons (s_setLcF 3 ca nd (blkOk_by (N := N_is_state) (sc := defScope (top 22)) (own := [("step", 4)]) (by decide +kernel)) (i_seq (r_var 2)) (fun _ _ _ _ _ => (c_name 4 nd)) (fun _ _ _ _ _ => p_none) (fun _ _ _ _ _ => (r_slice (r_var 4) r_onone (r_osome r_int)))) (s_one (s_ret (r_andV (r_callD c_is_rising (by decide) hr gd tk (r_acons (r_var 2) r_anil)) (r_one (r_cmp (k_eq sm un) (r_lenSc un ca nd M.b_len (blkOk_by (N := N_is_state) (sc := defScope (top 22)) (own := [("event", 5)]) (by decide +kernel)) (i_seq (r_var 3)) (fun _ _ _ _ _ => (c_name 5 nd)) (fun _ _ _ _ _ => p_none) (fun _ _ _ _ _ => (r_var 5))) (r_callB c_len M.b_len (r_acons (r_var 3) r_anil))))))))), law⟩
/-! ### is_end -/
theorem sc_is_end : FnScope N_is_end ps_is_end (defScope (top 23)) := ⟨rfl, rfl, rfl, by decide +kernel, rfl, by decide +kernel, by decide +kernel⟩
theorem walk_is_end {P : Program} {w : World} {K : PySem.W.Frag} {mg : Str → Option Value} {base : Heap} {f : Addr} {fd : FuncData} {dvs : List V} {kws : List (Str × V)} (sm : SM K) (M : MG K mg) (tab : TabOk K TT) (insk : InsK K "Hall") (c_is_name : CallD P w K mg base 1 "is_name" 1 sp_is_name) (c_is_state : CallD P w K mg base 4 "is_state" 3 sp_is_state)
    (F : FunD K "is_end" "is_end" (defArgs (top 23)) (defBody (top 23)) (defScope (top 23)) dvs kws f fd)
    (law : ∀ us G Q p, Closed G → sp_is_end us G Q p → ph_is_end (startU N_is_end us) G { nx := fun _ G1 => ∃ G', Left G.length (.d .none) G1 G' ∧ Q (.d .none) G', rt := fun u G1 => ∃ G', Left G.length u G1 G' ∧ Q u G', ex := fun x _ G' => p x G' })
    (len : ∀ us G Q p, sp_is_end us G Q p → us.length = ps_is_end.length) : FnG P w K mg base 5 f fd ps_is_end sp_is_end :=
  FnG.mk' F sc_is_end len fun cdv A outer s H E hr gd => by
    have un := hr.un
    have un : (A.deeper (envOfC "is_end" (defScope (top 23)) s.heap.objs.size f cdv)).units + 64 < cLine := by omega
    have ca : (cxOf (L2.CX P w) P w K mg base N_is_end "is_end" (defScope (top 23)) f cdv A outer s H E).calm = true := rfl
    have nd := sc_is_end.nd
    have tk : Takes (cxOf (L2.CX P w) P w K mg base N_is_end "is_end" (defScope (top 23)) f cdv A outer s H E) (fun c d _ H' => E c d H') := takes_of rfl rfl rfl rfl
    have hp := passes_of (X := cxOf (L2.CX P w) P w K mg base N_is_end "is_end" (defScope (top 23)) f cdv A outer s H E) rfl
    exact ⟨ph_is_end, (s_cons (s_if (r_or (r_not (r_tval (r_isB (T := "tuple") (by decide) M.b_isinstance M.b_tuple (r_var 0)))) (r_or (r_tcmp (k_ne sm un) (r_callB c_len M.b_len (r_acons (r_var 0) r_anil)) r_int) (r_or1 (r_not (r_tval (r_callD c_is_name (by decide) hr gd tk (r_acons (r_ix (x_ix un) (r_var 0) r_int) r_anil))))))).pt (s_one (s_ret r_bl)) s_nil) (s_cons (s_asg (r_var 0) (t_tup ca (t_cons (t_name 1 nd) (t_cons (t_name 2 nd) t_nil)))) (s_cons (s_if (r_or (r_not (r_tval (r_isB (T := "tuple") (by decide) M.b_isinstance M.b_tuple (r_var 2)))) (r_or1 (r_not (r_tchain k_le k_le r_int (r_callB c_len M.b_len (r_acons (r_var 2) r_anil)) (r_gint M.i_MOST_OF_AN_END))))).pt (s_one (s_ret r_bl)) s_nil) (s_one (s_ret (r_callB (c_all ca) M.b_all (r_acons (e_val (r_lc ca nd (blkOk_by (N := N_is_end) (sc := defScope (top 23)) (own := [("state", 3)]) (by decide +kernel)) (i_seq (r_var 2)) (fun _ _ _ _ _ => (c_name 3 nd)) (fun _ _ _ _ _ => p_none) (fun _ _ _ _ _ => (r_callD c_is_state (by decide) hr gd R.takes0 (r_acons (r_var 1) (r_acons (r_callB c_len M.b_len (r_acons (r_var 2) r_anil)) (r_acons (r_var 3) r_anil))))))) r_anil))))))), law⟩
end K36
/-! ## part W2 -/
namespace K36
open PySem PySem.Spec
open PyProof.Rows hiding St
open L2 R
/-! ### are_ends -/
theorem sc_are_ends : FnScope N_are_ends ps_are_ends (defScope (top 29)) := ⟨rfl, rfl, rfl, by decide +kernel, rfl, by decide +kernel, by decide +kernel⟩
theorem walk_are_ends {P : Program} {w : World} {K : PySem.W.Frag} {mg : Str → Option Value} {base : Heap} {f : Addr} {fd : FuncData} {dvs : List V} {kws : List (Str × V)} (sm : SM K) (M : MG K mg) (tab : TabOk K TT) (insk : InsK K "Hall") (c_is_end : CallD P w K mg base 5 "is_end" 1 sp_is_end)
    (F : FunD K "are_ends" "are_ends" (defArgs (top 29)) (defBody (top 29)) (defScope (top 29)) dvs kws f fd)
    (law : ∀ us G Q p, Closed G → sp_are_ends us G Q p → ph_are_ends (startU N_are_ends us) G { nx := fun _ G1 => ∃ G', Left G.length (.d .none) G1 G' ∧ Q (.d .none) G', rt := fun u G1 => ∃ G', Left G.length u G1 G' ∧ Q u G', ex := fun x _ G' => p x G' })
    (len : ∀ us G Q p, sp_are_ends us G Q p → us.length = ps_are_ends.length) : FnG P w K mg base 6 f fd ps_are_ends sp_are_ends :=
  FnG.mk' F sc_are_ends len fun cdv A outer s H E hr gd => by
    have un := hr.un
    have un : (A.deeper (envOfC "are_ends" (defScope (top 29)) s.heap.objs.size f cdv)).units + 64 < cLine := by omega
    have ca : (cxOf (L2.CX P w) P w K mg base N_are_ends "are_ends" (defScope (top 29)) f cdv A outer s H E).calm = true := rfl
    have nd := sc_are_ends.nd
    have tk : Takes (cxOf (L2.CX P w) P w K mg base N_are_ends "are_ends" (defScope (top 29)) f cdv A outer s H E) (fun c d _ H' => E c d H') := takes_of rfl rfl rfl rfl
    have hp := passes_of (X := cxOf (L2.CX P w) P w K mg base N_are_ends "are_ends" (defScope (top 29)) f cdv A outer s H E) rfl
    exact ⟨ph_are_ends, (s_cons (s_if (r_or (r_not (r_tval (r_isB (T := "tuple") (by decide) M.b_isinstance M.b_tuple (r_var 0)))) (r_or1 (r_not (r_tchain k_le k_le (r_gint M.i_FEWEST_HANDS) (r_callB c_len M.b_len (r_acons (r_var 0) r_anil)) (r_gint M.i_MOST_HANDS))))).pt (s_one (s_ret r_bl)) s_nil) (s_cons (s_if (r_not (r_tval (r_callB (c_all ca) M.b_all (r_acons (e_val (r_lc ca nd (blkOk_by (N := N_are_ends) (sc := defScope (top 29)) (own := [("end", 6)]) (by decide +kernel)) (i_seq (r_var 0)) (fun _ _ _ _ _ => (c_name 6 nd)) (fun _ _ _ _ _ => p_none) (fun _ _ _ _ _ => (r_callD c_is_end (by decide) hr gd R.takes0 (r_acons (r_var 6) r_anil))))) r_anil)))) (s_one (s_ret r_bl)) s_nil) (s_cons (s_asg (e_val (r_lc ca nd (blkOk_by (N := N_are_ends) (sc := defScope (top 29)) (own := [("hand", 2), ("states", 3)]) (by decide +kernel)) (i_seq (r_var 0)) (fun _ _ _ _ _ => (c_tup ca (c_cons (c_name 2 nd) (c_cons (c_name 3 nd) c_nil)))) (fun _ _ _ _ _ => p_none) (fun _ _ _ _ _ => (r_var 2)))) (t_name 1 nd)) (s_cons (s_if (r_tcmp (k_ne sm un) (r_lenSc un ca nd M.b_len (blkOk_by (N := N_are_ends) (sc := defScope (top 29)) (own := [("hand", 2)]) (by decide +kernel)) (i_seq (r_var 1)) (fun _ _ _ _ _ => (c_name 2 nd)) (fun _ _ _ _ _ => p_none) (fun _ _ _ _ _ => (r_var 2))) (r_callB c_len M.b_len (r_acons (r_var 1) r_anil))) (s_one (s_ret r_bl)) s_nil) (s_one (s_ret (r_callB (c_all ca) M.b_all (r_acons (e_val (r_lc3 [4, 5] [5] ca nd (blkOk_by (N := N_are_ends) (sc := defScope (top 29)) (own := [("hand", 2), ("states", 3), ("state", 4), ("event", 5)]) (by decide +kernel)) (i_seq (r_var 0)) (fun _ _ _ _ _ => (c_tup ca (c_cons (c_name 2 nd) (c_cons (c_name 3 nd) c_nil)))) (fun _ _ _ _ _ => (i_seq (r_var 3))) (fun _ _ _ _ _ => (c_name 4 nd)) (fun _ _ _ _ _ => (i_seq (r_var 4))) (fun _ _ _ _ _ => (c_name 5 nd)) (fun _ _ _ _ _ => (r_cmp (k_in sm un) (r_ix (x_ix un) (r_var 5) r_int) (r_var 1))))) r_anil)))))))), law⟩
/-! ### are_weak -/
theorem sc_are_weak : FnScope N_are_weak ps_are_weak (defScope (top 31)) := ⟨rfl, rfl, rfl, by decide +kernel, rfl, by decide +kernel, by decide +kernel⟩
theorem walk_are_weak {P : Program} {w : World} {K : PySem.W.Frag} {mg : Str → Option Value} {base : Heap} {f : Addr} {fd : FuncData} {dvs : List V} {kws : List (Str × V)} (sm : SM K) (M : MG K mg) (tab : TabOk K TT) (insk : InsK K "Hall")
    (F : FunD K "are_weak" "are_weak" (defArgs (top 31)) (defBody (top 31)) (defScope (top 31)) dvs kws f fd)
    (law : ∀ us G Q p, Closed G → sp_are_weak us G Q p → ph_are_weak (startU N_are_weak us) G { nx := fun _ G1 => ∃ G', Left G.length (.d .none) G1 G' ∧ Q (.d .none) G', rt := fun u G1 => ∃ G', Left G.length u G1 G' ∧ Q u G', ex := fun x _ G' => p x G' })
    (len : ∀ us G Q p, sp_are_weak us G Q p → us.length = ps_are_weak.length) : FnG P w K mg base 1 f fd ps_are_weak sp_are_weak :=
  FnG.mk' F sc_are_weak len fun cdv A outer s H E hr gd => by
    have un := hr.un
    have un : (A.deeper (envOfC "are_weak" (defScope (top 31)) s.heap.objs.size f cdv)).units + 64 < cLine := by omega
    have ca : (cxOf (L2.CX P w) P w K mg base N_are_weak "are_weak" (defScope (top 31)) f cdv A outer s H E).calm = true := rfl
    have nd := sc_are_weak.nd
    have tk : Takes (cxOf (L2.CX P w) P w K mg base N_are_weak "are_weak" (defScope (top 31)) f cdv A outer s H E) (fun c d _ H' => E c d H') := takes_of rfl rfl rfl rfl
    have hp := passes_of (X := cxOf (L2.CX P w) P w K mg base N_are_weak "are_weak" (defScope (top 31)) f cdv A outer s H E) rfl
    exact ⟨ph_are_weak, (s_cons (s_asg (e_val (r_lc ca nd (blkOk_by (N := N_are_weak) (sc := defScope (top 31)) (own := [("hand", 3), ("states", 4)]) (by decide +kernel)) (i_seq (r_var 0)) (fun _ _ _ _ _ => (c_tup ca (c_cons (c_name 3 nd) (c_cons (c_name 4 nd) c_nil)))) (fun _ _ _ _ _ => p_none) (fun _ _ _ _ _ => (r_var 3)))) (t_name 2 nd)) (s_cons (s_if (r_or (r_not (r_tval (r_isB (T := "tuple") (by decide) M.b_isinstance M.b_tuple (r_var 1)))) (r_or1 (r_not (r_tval (r_callB (c_all ca) M.b_all (r_acons (e_val (r_lc ca nd (blkOk_by (N := N_are_weak) (sc := defScope (top 31)) (own := [("hand", 3)]) (by decide +kernel)) (i_seq (r_var 1)) (fun _ _ _ _ _ => (c_name 3 nd)) (fun _ _ _ _ _ => p_none) (fun _ _ _ _ _ => (r_cmp (k_in sm un) (r_var 3) (r_var 2))))) r_anil)))))).pt (s_one (s_ret r_bl)) s_nil) (s_one (s_ret (r_callB (c_all ca) M.b_all (r_acons (e_val (r_lc ca nd (blkOk_by (N := N_are_weak) (sc := defScope (top 31)) (own := [("one", 5), ("other", 6)]) (by decide +kernel)) (i_zip M.b_zip (r_acons (r_var 1) (r_acons (r_slice (r_var 1) (r_osome r_int) r_onone) r_anil))) (fun _ _ _ _ _ => (c_tup ca (c_cons (c_name 5 nd) (c_cons (c_name 6 nd) c_nil)))) (fun _ _ _ _ _ => p_none) (fun _ _ _ _ _ => (r_cmp (k_lt sm un) (r_var 5) (r_var 6))))) r_anil)))))), law⟩
/-! ### is_room -/
theorem sc_is_room : FnScope N_is_room ps_is_room (defScope (top 30)) := ⟨rfl, rfl, rfl, by decide +kernel, rfl, by decide +kernel, by decide +kernel⟩
theorem walk_is_room {P : Program} {w : World} {K : PySem.W.Frag} {mg : Str → Option Value} {base : Heap} {f : Addr} {fd : FuncData} {dvs : List V} {kws : List (Str × V)} (sm : SM K) (M : MG K mg) (tab : TabOk K TT) (insk : InsK K "Hall")
    (F : FunD K "is_room" "is_room" (defArgs (top 30)) (defBody (top 30)) (defScope (top 30)) dvs kws f fd)
    (law : ∀ us G Q p, Closed G → sp_is_room us G Q p → ph_is_room (startU N_is_room us) G { nx := fun _ G1 => ∃ G', Left G.length (.d .none) G1 G' ∧ Q (.d .none) G', rt := fun u G1 => ∃ G', Left G.length u G1 G' ∧ Q u G', ex := fun x _ G' => p x G' })
    (len : ∀ us G Q p, sp_is_room us G Q p → us.length = ps_is_room.length) : FnG P w K mg base 1 f fd ps_is_room sp_is_room :=
  FnG.mk' F sc_is_room len fun cdv A outer s H E hr gd => by
    have un := hr.un
    have un : (A.deeper (envOfC "is_room" (defScope (top 30)) s.heap.objs.size f cdv)).units + 64 < cLine := by omega
    have ca : (cxOf (L2.CX P w) P w K mg base N_is_room "is_room" (defScope (top 30)) f cdv A outer s H E).calm = true := rfl
    have nd := sc_is_room.nd
    have tk : Takes (cxOf (L2.CX P w) P w K mg base N_is_room "is_room" (defScope (top 30)) f cdv A outer s H E) (fun c d _ H' => E c d H') := takes_of rfl rfl rfl rfl
    have hp := passes_of (X := cxOf (L2.CX P w) P w K mg base N_is_room "is_room" (defScope (top 30)) f cdv A outer s H E) rfl
    exact ⟨ph_is_room, (s_cons (s_if (r_tcmp k_is (r_var 0) r_non) (s_one (s_ret r_bl)) s_nil) (s_one (s_ret (r_andV (r_isB (T := "int") (by decide) M.b_isinstance M.b_int (r_var 0)) (r_andV (r_notV (r_isB (T := "bool") (by decide) M.b_isinstance M.b_bool (r_var 0))) (r_one (r_chain k_le k_le r_int (r_var 0) (r_gint M.i_MOST_ROOM)))))))), law⟩
/-! ### Hall.__init__ -/
theorem sc_Hall___init__ : FnScope N_Hall___init__ ps_Hall___init__ (defScope (inClass (top 34) 0)) := ⟨rfl, rfl, rfl, by decide +kernel, rfl, by decide +kernel, by decide +kernel⟩
theorem walk_Hall___init__ {P : Program} {w : World} {K : PySem.W.Frag} {mg : Str → Option Value} {base : Heap} {f : Addr} {fd : FuncData} {dvs : List V} {kws : List (Str × V)} (sm : SM K) (M : MG K mg) (tab : TabOk K TT) (insk : InsK K "Hall") (c_are_ends : CallD P w K mg base 6 "are_ends" 1 sp_are_ends) (c_is_room : CallD P w K mg base 1 "is_room" 1 sp_is_room) (c_are_weak : CallD P w K mg base 1 "are_weak" 2 sp_are_weak)
    (F : FunD K "__init__" "Hall.__init__" (defArgs (inClass (top 34) 0)) (defBody (inClass (top 34) 0)) (defScope (inClass (top 34) 0)) dvs kws f fd)
    (law : ∀ us G Q p, Closed G → sp_Hall___init__ us G Q p → ph_Hall___init__ (startU N_Hall___init__ us) G { nx := fun _ G1 => ∃ G', Left G.length (.d .none) G1 G' ∧ Q (.d .none) G', rt := fun u G1 => ∃ G', Left G.length u G1 G' ∧ Q u G', ex := fun x _ G' => p x G' })
    (len : ∀ us G Q p, sp_Hall___init__ us G Q p → us.length = ps_Hall___init__.length) : FnG P w K mg base 7 f fd ps_Hall___init__ sp_Hall___init__ :=
  FnG.mk' F sc_Hall___init__ len fun cdv A outer s H E hr gd => by
    have un := hr.un
    have un : (A.deeper (envOfC "Hall.__init__" (defScope (inClass (top 34) 0)) s.heap.objs.size f cdv)).units + 64 < cLine := by omega
    have ca : (cxOf (L2.CX P w) P w K mg base N_Hall___init__ "Hall.__init__" (defScope (inClass (top 34) 0)) f cdv A outer s H E).calm = true := rfl
    have nd := sc_Hall___init__.nd
    have tk : Takes (cxOf (L2.CX P w) P w K mg base N_Hall___init__ "Hall.__init__" (defScope (inClass (top 34) 0)) f cdv A outer s H E) (fun c d _ H' => E c d H') := takes_of rfl rfl rfl rfl
    have hp := passes_of (X := cxOf (L2.CX P w) P w K mg base N_Hall___init__ "Hall.__init__" (defScope (inClass (top 34) 0)) f cdv A outer s H E) rfl
    exact ⟨ph_Hall___init__, (s_cons (s_if (r_not (r_tval (r_callD c_are_ends (by decide) hr gd tk (r_acons (r_var 1) r_anil)))) (s_one s_never) s_nil) (s_cons (s_if (r_not (r_tval (r_callD c_is_room (by decide) hr gd tk (r_acons (r_var 2) r_anil)))) (s_one s_never) s_nil) (s_cons (s_if (r_not (r_tval (r_callD c_are_weak (by decide) hr gd tk (r_acons (r_var 1) (r_acons (r_var 3) r_anil))))) (s_one s_never) s_nil) (s_cons (s_unp (n := 3) ca (r_acons (r_var 1) (r_acons (r_var 2) (r_acons (r_var 3) r_anil))) (t_cons (t_fld (W := W0) tab (r_var 0)) (t_cons (t_fld (W := W0) tab (r_var 0)) (t_cons (t_fld (W := W0) tab (r_var 0)) t_nil)))) (s_cons (s_asg (e_val (r_dc un ca nd (blkOk_by (N := N_Hall___init__) (sc := defScope (inClass (top 34) 0)) (own := [("hand", 4), ("states", 5)]) (by decide +kernel)) (i_seq (r_var 1)) (fun _ _ _ _ _ => (c_tup ca (c_cons (c_name 4 nd) (c_cons (c_name 5 nd) c_nil)))) (fun _ _ _ _ _ => p_none) (fun _ _ _ _ _ => (r_var 4)) (fun _ _ _ _ _ => (r_var 5)))) (t_fld (W := W0) tab (r_var 0))) (s_cons (s_asg (e_val (r_dc un ca nd (blkOk_by (N := N_Hall___init__) (sc := defScope (inClass (top 34) 0)) (own := [("hand", 4), ("states", 5)]) (by decide +kernel)) (i_seq (r_var 1)) (fun _ _ _ _ _ => (c_tup ca (c_cons (c_name 4 nd) (c_cons (c_name 5 nd) c_nil)))) (fun _ _ _ _ _ => p_none) (fun _ _ _ _ _ => (r_var 4)) (fun _ _ _ _ _ => r_int))) (t_fld (W := W0) tab (r_var 0))) (s_cons (s_asg (e_val r_dict0) (t_fld (W := W0) tab (r_var 0))) (s_cons (s_asg (r_tup r_anil) (t_fld (W := W0) tab (r_var 0))) (s_cons (s_asg (r_lst r_anil) (t_fld (W := W0) tab (r_var 0))) (s_cons (s_asg (r_lstH r_anil) (t_fld (W := W0) tab (r_var 0))) (s_one (s_asg2 r_int (t_fld (W := W0) tab (r_var 0)) (t_fld (W := W0) tab (r_var 0)))))))))))))), law⟩
/-! ### Hall.lies_on -/
theorem sc_Hall_lies_on : FnScope N_Hall_lies_on ps_Hall_lies_on (defScope (inClass (top 34) 13)) := ⟨rfl, rfl, rfl, by decide +kernel, rfl, by decide +kernel, by decide +kernel⟩
theorem walk_Hall_lies_on {P : Program} {w : World} {K : PySem.W.Frag} {mg : Str → Option Value} {base : Heap} {f : Addr} {fd : FuncData} {dvs : List V} {kws : List (Str × V)} (sm : SM K) (M : MG K mg) (tab : TabOk K TT) (insk : InsK K "Hall")
    (F : FunD K "lies_on" "Hall.lies_on" (defArgs (inClass (top 34) 13)) (defBody (inClass (top 34) 13)) (defScope (inClass (top 34) 13)) dvs kws f fd)
    (law : ∀ us G Q p, Closed G → sp_Hall_lies_on us G Q p → ph_Hall_lies_on (startU N_Hall_lies_on us) G { nx := fun _ G1 => ∃ G', Left G.length (.d .none) G1 G' ∧ Q (.d .none) G', rt := fun u G1 => ∃ G', Left G.length u G1 G' ∧ Q u G', ex := fun x _ G' => p x G' })
    (len : ∀ us G Q p, sp_Hall_lies_on us G Q p → us.length = ps_Hall_lies_on.length) : FnG P w K mg base 1 f fd ps_Hall_lies_on sp_Hall_lies_on :=
  FnG.mk' F sc_Hall_lies_on len fun cdv A outer s H E hr gd => by
    have un := hr.un
    have un : (A.deeper (envOfC "Hall.lies_on" (defScope (inClass (top 34) 13)) s.heap.objs.size f cdv)).units + 64 < cLine := by omega
    have ca : (cxOf (L2.CX P w) P w K mg base N_Hall_lies_on "Hall.lies_on" (defScope (inClass (top 34) 13)) f cdv A outer s H E).calm = true := rfl
    have nd := sc_Hall_lies_on.nd
    have tk : Takes (cxOf (L2.CX P w) P w K mg base N_Hall_lies_on "Hall.lies_on" (defScope (inClass (top 34) 13)) f cdv A outer s H E) (fun c d _ H' => E c d H') := takes_of rfl rfl rfl rfl
    have hp := passes_of (X := cxOf (L2.CX P w) P w K mg base N_Hall_lies_on "Hall.lies_on" (defScope (inClass (top 34) 13)) f cdv A outer s H E) rfl
    exact ⟨ph_Hall_lies_on, (s_one (s_ret (r_meth PySem.F.plainAttrs_dict PySem.F.slot_dict_get PySem.F.type_dict_get (m_get2 un) (r_fld tab (r_var 0)) (r_acons (r_tup (r_acons (r_var 1) (r_acons (r_var 2) r_anil))) (r_acons (r_tup r_anil) r_anil))))), law⟩
/-! ### Hall.has_room -/
theorem sc_Hall_has_room : FnScope N_Hall_has_room ps_Hall_has_room (defScope (inClass (top 34) 14)) := ⟨rfl, rfl, rfl, by decide +kernel, rfl, by decide +kernel, by decide +kernel⟩
theorem walk_Hall_has_room {P : Program} {w : World} {K : PySem.W.Frag} {mg : Str → Option Value} {base : Heap} {f : Addr} {fd : FuncData} {dvs : List V} {kws : List (Str × V)} (sm : SM K) (M : MG K mg) (tab : TabOk K TT) (insk : InsK K "Hall") (c_Hall_lies_on : CallM P w K mg base 1 "Hall" "lies_on" 3 sp_Hall_lies_on)
    (F : FunD K "has_room" "Hall.has_room" (defArgs (inClass (top 34) 14)) (defBody (inClass (top 34) 14)) (defScope (inClass (top 34) 14)) dvs kws f fd)
    (law : ∀ us G Q p, Closed G → sp_Hall_has_room us G Q p → ph_Hall_has_room (startU N_Hall_has_room us) G { nx := fun _ G1 => ∃ G', Left G.length (.d .none) G1 G' ∧ Q (.d .none) G', rt := fun u G1 => ∃ G', Left G.length u G1 G' ∧ Q u G', ex := fun x _ G' => p x G' })
    (len : ∀ us G Q p, sp_Hall_has_room us G Q p → us.length = ps_Hall_has_room.length) : FnG P w K mg base 2 f fd ps_Hall_has_room sp_Hall_has_room :=
  FnG.mk' F sc_Hall_has_room len fun cdv A outer s H E hr gd => by
    have un := hr.un
    have un : (A.deeper (envOfC "Hall.has_room" (defScope (inClass (top 34) 14)) s.heap.objs.size f cdv)).units + 64 < cLine := by omega
    have ca : (cxOf (L2.CX P w) P w K mg base N_Hall_has_room "Hall.has_room" (defScope (inClass (top 34) 14)) f cdv A outer s H E).calm = true := rfl
    have nd := sc_Hall_has_room.nd
    have tk : Takes (cxOf (L2.CX P w) P w K mg base N_Hall_has_room "Hall.has_room" (defScope (inClass (top 34) 14)) f cdv A outer s H E) (fun c d _ H' => E c d H') := takes_of rfl rfl rfl rfl
    have hp := passes_of (X := cxOf (L2.CX P w) P w K mg base N_Hall_has_room "Hall.has_room" (defScope (inClass (top 34) 14)) f cdv A outer s H E) rfl
    exact ⟨ph_Hall_has_room, (s_one (s_ret (r_orV (r_cmp k_is (r_fld tab (r_var 0)) r_non) (r_one (r_cmp (k_lt sm un) (r_callB c_len M.b_len (r_acons (r_callM c_Hall_lies_on (by decide) hr gd tk (r_var 0) (r_acons (r_var 1) (r_acons (r_var 2) r_anil))) r_anil)) (r_fld tab (r_var 0))))))), law⟩
/-! ### Hall.deeds_of -/
theorem sc_Hall_deeds_of : FnScope N_Hall_deeds_of ps_Hall_deeds_of (defScope (inClass (top 34) 20)) := ⟨rfl, rfl, rfl, by decide +kernel, rfl, by decide +kernel, by decide +kernel⟩
theorem walk_Hall_deeds_of {P : Program} {w : World} {K : PySem.W.Frag} {mg : Str → Option Value} {base : Heap} {f : Addr} {fd : FuncData} {dvs : List V} {kws : List (Str × V)} (sm : SM K) (M : MG K mg) (tab : TabOk K TT) (insk : InsK K "Hall") (c_Hall_has_room : CallM P w K mg base 2 "Hall" "has_room" 3 sp_Hall_has_room) (c_Hall_lies_on : CallM P w K mg base 1 "Hall" "lies_on" 3 sp_Hall_lies_on)
    (F : FunD K "deeds_of" "Hall.deeds_of" (defArgs (inClass (top 34) 20)) (defBody (inClass (top 34) 20)) (defScope (inClass (top 34) 20)) dvs kws f fd)
    (law : ∀ us G Q p, Closed G → sp_Hall_deeds_of us G Q p → ph_Hall_deeds_of (startU N_Hall_deeds_of us) G { nx := fun _ G1 => ∃ G', Left G.length (.d .none) G1 G' ∧ Q (.d .none) G', rt := fun u G1 => ∃ G', Left G.length u G1 G' ∧ Q u G', ex := fun x _ G' => p x G' })
    (len : ∀ us G Q p, sp_Hall_deeds_of us G Q p → us.length = ps_Hall_deeds_of.length) : FnG P w K mg base 3 f fd ps_Hall_deeds_of sp_Hall_deeds_of :=
  FnG.mk' F sc_Hall_deeds_of len fun cdv A outer s H E hr gd => by
    have un := hr.un
    have un : (A.deeper (envOfC "Hall.deeds_of" (defScope (inClass (top 34) 20)) s.heap.objs.size f cdv)).units + 64 < cLine := by omega
    have ca : (cxOf (L2.CX P w) P w K mg base N_Hall_deeds_of "Hall.deeds_of" (defScope (inClass (top 34) 20)) f cdv A outer s H E).calm = true := rfl
    have nd := sc_Hall_deeds_of.nd
    have tk : Takes (cxOf (L2.CX P w) P w K mg base N_Hall_deeds_of "Hall.deeds_of" (defScope (inClass (top 34) 20)) f cdv A outer s H E) (fun c d _ H' => E c d H') := takes_of rfl rfl rfl rfl
    have hp := passes_of (X := cxOf (L2.CX P w) P w K mg base N_Hall_deeds_of "Hall.deeds_of" (defScope (inClass (top 34) 20)) f cdv A outer s H E) rfl
    exact ⟨ph_Hall_deeds_of, (s_cons (s_asg (r_ifx (r_tcmp (k_in sm un) (r_var 1) (r_fld tab (r_var 0))) (r_lstH (r_acons (r_tup (r_acons r_str (r_acons (r_var 1) r_anil))) r_anil)) (r_lstH r_anil)) (t_name 2 nd)) (s_cons (s_for hp ca (i_seq (r_ix (x_ix un) (r_ix (x_ix un) (r_fld tab (r_var 0)) (r_var 1)) (r_ix (x_ix un) (r_fld tab (r_var 0)) (r_var 1)))) (t_tup ca (t_cons (t_name 3 nd) (t_cons (t_name 4 nd) (t_cons (t_name 5 nd) (t_cons (t_name 6 nd) t_nil))))) (s_scope (s_cons (s_if (r_and (r_tcmp (k_eq sm un) (r_var 3) r_str) (r_and1 (r_tval (r_callM c_Hall_has_room (by decide) hr gd tk (r_var 0) (r_acons (r_var 1) (r_acons (r_var 4) r_anil)))))).pt (s_one (s_expr (r_meth PySem.F.plainAttrs_list PySem.F.slot_list_append PySem.F.type_list_append m_append (r_var 2) (r_acons (r_tup (r_acons r_str (r_acons (r_var 1) (r_acons (r_var 4) (r_acons (r_var 5) r_anil))))) r_anil)))) s_nil) (s_one (s_if (r_and (r_tcmp (k_eq sm un) (r_var 3) r_str) (r_and1 (r_tcmp (k_eq sm un) (r_slice (r_callM c_Hall_lies_on (by decide) hr gd tk (r_var 0) (r_acons (r_var 4) (r_acons (r_var 1) r_anil))) r_onone (r_osome r_int)) (r_tup (r_acons (r_var 5) r_anil))))).pt (s_one (s_expr (r_meth PySem.F.plainAttrs_list PySem.F.slot_list_append PySem.F.type_list_append m_append (r_var 2) (r_acons (r_tup (r_acons r_str (r_acons (r_var 1) (r_acons (r_var 4) r_anil)))) r_anil)))) s_nil))))) (s_one (s_ret (e_val (r_var 2)))))), law⟩
end K36
/-! ## part W3 -/
namespace K36
open PySem PySem.Spec
open PyProof.Rows hiding St
open L2 R
/-! ### Hall.can_do -/
theorem sc_Hall_can_do : FnScope N_Hall_can_do ps_Hall_can_do (defScope (inClass (top 34) 21)) := ⟨rfl, rfl, rfl, by decide +kernel, rfl, by decide +kernel, by decide +kernel⟩
theorem walk_Hall_can_do {P : Program} {w : World} {K : PySem.W.Frag} {mg : Str → Option Value} {base : Heap} {f : Addr} {fd : FuncData} {dvs : List V} {kws : List (Str × V)} (sm : SM K) (M : MG K mg) (tab : TabOk K TT) (insk : InsK K "Hall") (c_Hall_deeds_of : CallM P w K mg base 3 "Hall" "deeds_of" 2 sp_Hall_deeds_of)
    (F : FunD K "can_do" "Hall.can_do" (defArgs (inClass (top 34) 21)) (defBody (inClass (top 34) 21)) (defScope (inClass (top 34) 21)) dvs kws f fd)
    (law : ∀ us G Q p, Closed G → sp_Hall_can_do us G Q p → ph_Hall_can_do (startU N_Hall_can_do us) G { nx := fun _ G1 => ∃ G', Left G.length (.d .none) G1 G' ∧ Q (.d .none) G', rt := fun u G1 => ∃ G', Left G.length u G1 G' ∧ Q u G', ex := fun x _ G' => p x G' })
    (len : ∀ us G Q p, sp_Hall_can_do us G Q p → us.length = ps_Hall_can_do.length) : FnG P w K mg base 4 f fd ps_Hall_can_do sp_Hall_can_do :=
  FnG.mk' F sc_Hall_can_do len fun cdv A outer s H E hr gd => by
    have un := hr.un
    have un : (A.deeper (envOfC "Hall.can_do" (defScope (inClass (top 34) 21)) s.heap.objs.size f cdv)).units + 64 < cLine := by omega
    have ca : (cxOf (L2.CX P w) P w K mg base N_Hall_can_do "Hall.can_do" (defScope (inClass (top 34) 21)) f cdv A outer s H E).calm = true := rfl
    have nd := sc_Hall_can_do.nd
    have tk : Takes (cxOf (L2.CX P w) P w K mg base N_Hall_can_do "Hall.can_do" (defScope (inClass (top 34) 21)) f cdv A outer s H E) (fun c d _ H' => E c d H') := takes_of rfl rfl rfl rfl
    have hp := passes_of (X := cxOf (L2.CX P w) P w K mg base N_Hall_can_do "Hall.can_do" (defScope (inClass (top 34) 21)) f cdv A outer s H E) rfl
    exact ⟨ph_Hall_can_do, (s_cons (s_asg (r_lstH r_anil) (t_name 1 nd)) (s_cons (s_for hp ca (i_seq (r_fld tab (r_var 0))) (t_name 2 nd) (s_scope (s_one (s_if (r_tcmp (k_notIn sm un) (r_var 2) (r_fld tab (r_var 0))) (s_one (s_expr (r_meth PySem.F.plainAttrs_list PySem.F.slot_list_extend PySem.F.type_list_extend m_extend (r_var 1) (r_acons (r_callM c_Hall_deeds_of (by decide) hr gd tk (r_var 0) (r_acons (r_var 2) r_anil)) r_anil)))) s_nil)))) (s_one (s_ret (r_callTy c_tuple M.b_tuple (r_acons (r_callB (c_sorted sm ca un) M.b_sorted (r_acons (r_var 1) r_anil)) r_anil)))))), law⟩
/-! ### Hall.lay_road -/
theorem sc_Hall_lay_road : FnScope N_Hall_lay_road ps_Hall_lay_road (defScope (inClass (top 34) 12)) := ⟨rfl, rfl, rfl, by decide +kernel, rfl, by decide +kernel, by decide +kernel⟩
theorem walk_Hall_lay_road {P : Program} {w : World} {K : PySem.W.Frag} {mg : Str → Option Value} {base : Heap} {f : Addr} {fd : FuncData} {dvs : List V} {kws : List (Str × V)} (sm : SM K) (M : MG K mg) (tab : TabOk K TT) (insk : InsK K "Hall")
    (F : FunD K "lay_road" "Hall.lay_road" (defArgs (inClass (top 34) 12)) (defBody (inClass (top 34) 12)) (defScope (inClass (top 34) 12)) dvs kws f fd)
    (law : ∀ us G Q p, Closed G → sp_Hall_lay_road us G Q p → ph_Hall_lay_road (startU N_Hall_lay_road us) G { nx := fun _ G1 => ∃ G', Left G.length (.d .none) G1 G' ∧ Q (.d .none) G', rt := fun u G1 => ∃ G', Left G.length u G1 G' ∧ Q u G', ex := fun x _ G' => p x G' })
    (len : ∀ us G Q p, sp_Hall_lay_road us G Q p → us.length = ps_Hall_lay_road.length) : FnG P w K mg base 1 f fd ps_Hall_lay_road sp_Hall_lay_road :=
  FnG.mk' F sc_Hall_lay_road len fun cdv A outer s H E hr gd => by
    have un := hr.un
    have un : (A.deeper (envOfC "Hall.lay_road" (defScope (inClass (top 34) 12)) s.heap.objs.size f cdv)).units + 64 < cLine := by omega
    have ca : (cxOf (L2.CX P w) P w K mg base N_Hall_lay_road "Hall.lay_road" (defScope (inClass (top 34) 12)) f cdv A outer s H E).calm = true := rfl
    have nd := sc_Hall_lay_road.nd
    have tk : Takes (cxOf (L2.CX P w) P w K mg base N_Hall_lay_road "Hall.lay_road" (defScope (inClass (top 34) 12)) f cdv A outer s H E) (fun c d _ H' => E c d H') := takes_of rfl rfl rfl rfl
    have hp := passes_of (X := cxOf (L2.CX P w) P w K mg base N_Hall_lay_road "Hall.lay_road" (defScope (inClass (top 34) 12)) f cdv A outer s H E) rfl
    exact ⟨ph_Hall_lay_road, (s_cons (s_setDc 3 un ca nd (blkOk_by (N := N_Hall_lay_road) (sc := defScope (inClass (top 34) 12)) (own := [("one", 4)]) (by decide +kernel)) (i_seq (r_fld tab (r_var 0))) (fun _ _ _ _ _ => (c_name 4 nd)) (fun _ _ _ _ _ => (p_one (r_tcmp (k_ne sm un) (r_var 4) (r_var 1)))) (fun _ _ _ _ _ => (r_var 4)) (fun _ _ _ _ _ => (r_ix (x_ix un) (r_fld tab (r_var 0)) (r_var 4)))) (s_cons (s_if (r_tcmp (k_ne sm un) (r_var 2) (r_tup r_anil)) (s_one (s_asg (r_var 2) (t_sub (W := W0) un (r_var 3) (r_var 1)))) s_nil) (s_frz 3 (s_one (s_asg (r_var 3) (t_fld (W := W0) tab (r_var 0))))))), law⟩
/-! ### Hall.need_hand -/
theorem sc_Hall_need_hand : FnScope N_Hall_need_hand ps_Hall_need_hand (defScope (inClass (top 34) 16)) := ⟨rfl, rfl, rfl, by decide +kernel, rfl, by decide +kernel, by decide +kernel⟩
theorem walk_Hall_need_hand {P : Program} {w : World} {K : PySem.W.Frag} {mg : Str → Option Value} {base : Heap} {f : Addr} {fd : FuncData} {dvs : List V} {kws : List (Str × V)} (sm : SM K) (M : MG K mg) (tab : TabOk K TT) (insk : InsK K "Hall") (c_is_name : CallD P w K mg base 1 "is_name" 1 sp_is_name)
    (F : FunD K "need_hand" "Hall.need_hand" (defArgs (inClass (top 34) 16)) (defBody (inClass (top 34) 16)) (defScope (inClass (top 34) 16)) dvs kws f fd)
    (law : ∀ us G Q p, Closed G → sp_Hall_need_hand us G Q p → ph_Hall_need_hand (startU N_Hall_need_hand us) G { nx := fun _ G1 => ∃ G', Left G.length (.d .none) G1 G' ∧ Q (.d .none) G', rt := fun u G1 => ∃ G', Left G.length u G1 G' ∧ Q u G', ex := fun x _ G' => p x G' })
    (len : ∀ us G Q p, sp_Hall_need_hand us G Q p → us.length = ps_Hall_need_hand.length) : FnG P w K mg base 2 f fd ps_Hall_need_hand sp_Hall_need_hand :=
  FnG.mk' F sc_Hall_need_hand len fun cdv A outer s H E hr gd => by
    have un := hr.un
    have un : (A.deeper (envOfC "Hall.need_hand" (defScope (inClass (top 34) 16)) s.heap.objs.size f cdv)).units + 64 < cLine := by omega
    have ca : (cxOf (L2.CX P w) P w K mg base N_Hall_need_hand "Hall.need_hand" (defScope (inClass (top 34) 16)) f cdv A outer s H E).calm = true := rfl
    have nd := sc_Hall_need_hand.nd
    have tk : Takes (cxOf (L2.CX P w) P w K mg base N_Hall_need_hand "Hall.need_hand" (defScope (inClass (top 34) 16)) f cdv A outer s H E) (fun c d _ H' => E c d H') := takes_of rfl rfl rfl rfl
    have hp := passes_of (X := cxOf (L2.CX P w) P w K mg base N_Hall_need_hand "Hall.need_hand" (defScope (inClass (top 34) 16)) f cdv A outer s H E) rfl
    exact ⟨ph_Hall_need_hand, (s_one (s_if (r_or (r_not (r_tval (r_callD c_is_name (by decide) hr gd tk (r_acons (r_var 1) r_anil)))) (r_or1 (r_tcmp (k_notIn sm un) (r_var 1) (r_fld tab (r_var 0))))).pt (s_one s_never) s_nil)), law⟩
/-! ### Hall.need_up -/
theorem sc_Hall_need_up : FnScope N_Hall_need_up ps_Hall_need_up (defScope (inClass (top 34) 18)) := ⟨rfl, rfl, rfl, by decide +kernel, rfl, by decide +kernel, by decide +kernel⟩
theorem walk_Hall_need_up {P : Program} {w : World} {K : PySem.W.Frag} {mg : Str → Option Value} {base : Heap} {f : Addr} {fd : FuncData} {dvs : List V} {kws : List (Str × V)} (sm : SM K) (M : MG K mg) (tab : TabOk K TT) (insk : InsK K "Hall")
    (F : FunD K "need_up" "Hall.need_up" (defArgs (inClass (top 34) 18)) (defBody (inClass (top 34) 18)) (defScope (inClass (top 34) 18)) dvs kws f fd)
    (law : ∀ us G Q p, Closed G → sp_Hall_need_up us G Q p → ph_Hall_need_up (startU N_Hall_need_up us) G { nx := fun _ G1 => ∃ G', Left G.length (.d .none) G1 G' ∧ Q (.d .none) G', rt := fun u G1 => ∃ G', Left G.length u G1 G' ∧ Q u G', ex := fun x _ G' => p x G' })
    (len : ∀ us G Q p, sp_Hall_need_up us G Q p → us.length = ps_Hall_need_up.length) : FnG P w K mg base 1 f fd ps_Hall_need_up sp_Hall_need_up :=
  FnG.mk' F sc_Hall_need_up len fun cdv A outer s H E hr gd => by
    have un := hr.un
    have un : (A.deeper (envOfC "Hall.need_up" (defScope (inClass (top 34) 18)) s.heap.objs.size f cdv)).units + 64 < cLine := by omega
    have ca : (cxOf (L2.CX P w) P w K mg base N_Hall_need_up "Hall.need_up" (defScope (inClass (top 34) 18)) f cdv A outer s H E).calm = true := rfl
    have nd := sc_Hall_need_up.nd
    have tk : Takes (cxOf (L2.CX P w) P w K mg base N_Hall_need_up "Hall.need_up" (defScope (inClass (top 34) 18)) f cdv A outer s H E) (fun c d _ H' => E c d H') := takes_of rfl rfl rfl rfl
    have hp := passes_of (X := cxOf (L2.CX P w) P w K mg base N_Hall_need_up "Hall.need_up" (defScope (inClass (top 34) 18)) f cdv A outer s H E) rfl
    exact ⟨ph_Hall_need_up, (s_one (s_if (r_tcmp (k_in sm un) (r_var 1) (r_fld tab (r_var 0))) (s_one s_never) s_nil)), law⟩
/-! ### Hall.put_fall -/
theorem sc_Hall_put_fall : FnScope N_Hall_put_fall ps_Hall_put_fall (defScope (inClass (top 34) 11)) := ⟨rfl, rfl, rfl, by decide +kernel, rfl, by decide +kernel, by decide +kernel⟩
theorem walk_Hall_put_fall {P : Program} {w : World} {K : PySem.W.Frag} {mg : Str → Option Value} {base : Heap} {f : Addr} {fd : FuncData} {dvs : List V} {kws : List (Str × V)} (sm : SM K) (M : MG K mg) (tab : TabOk K TT) (insk : InsK K "Hall") (c_Hall_need_hand : CallM P w K mg base 2 "Hall" "need_hand" 2 sp_Hall_need_hand) (c_Hall_need_up : CallM P w K mg base 1 "Hall" "need_up" 2 sp_Hall_need_up) (c_Hall_lay_road : CallM P w K mg base 1 "Hall" "lay_road" 3 sp_Hall_lay_road) (c_Hall_lies_on : CallM P w K mg base 1 "Hall" "lies_on" 3 sp_Hall_lies_on)
    (F : FunD K "put_fall" "Hall.put_fall" (defArgs (inClass (top 34) 11)) (defBody (inClass (top 34) 11)) (defScope (inClass (top 34) 11)) dvs kws f fd)
    (law : ∀ us G Q p, Closed G → sp_Hall_put_fall us G Q p → ph_Hall_put_fall (startU N_Hall_put_fall us) G { nx := fun _ G1 => ∃ G', Left G.length (.d .none) G1 G' ∧ Q (.d .none) G', rt := fun u G1 => ∃ G', Left G.length u G1 G' ∧ Q u G', ex := fun x _ G' => p x G' })
    (len : ∀ us G Q p, sp_Hall_put_fall us G Q p → us.length = ps_Hall_put_fall.length) : FnG P w K mg base 3 f fd ps_Hall_put_fall sp_Hall_put_fall :=
  FnG.mk' F sc_Hall_put_fall len fun cdv A outer s H E hr gd => by
    have un := hr.un
    have un : (A.deeper (envOfC "Hall.put_fall" (defScope (inClass (top 34) 11)) s.heap.objs.size f cdv)).units + 64 < cLine := by omega
    have ca : (cxOf (L2.CX P w) P w K mg base N_Hall_put_fall "Hall.put_fall" (defScope (inClass (top 34) 11)) f cdv A outer s H E).calm = true := rfl
    have nd := sc_Hall_put_fall.nd
    have tk : Takes (cxOf (L2.CX P w) P w K mg base N_Hall_put_fall "Hall.put_fall" (defScope (inClass (top 34) 11)) f cdv A outer s H E) (fun c d _ H' => E c d H') := takes_of rfl rfl rfl rfl
    have hp := passes_of (X := cxOf (L2.CX P w) P w K mg base N_Hall_put_fall "Hall.put_fall" (defScope (inClass (top 34) 11)) f cdv A outer s H E) rfl
    exact ⟨ph_Hall_put_fall, (s_cons (s_expr (r_callM c_Hall_need_hand (by decide) hr gd tk (r_var 0) (r_acons (r_var 1) r_anil))) (s_cons (s_expr (r_callM c_Hall_need_up (by decide) hr gd tk (r_var 0) (r_acons (r_var 1) r_anil))) (s_cons (s_if (r_tcmp (k_notIn sm un) (r_var 1) (r_fld tab (r_var 0))) (s_one s_never) s_nil) (s_cons (s_asg (r_callTy c_tuple M.b_tuple (r_acons (r_callB (c_sorted sm ca un) M.b_sorted (r_acons (r_op k_add (r_fld tab (r_var 0)) (r_tup (r_acons (r_var 1) r_anil))) r_anil)) r_anil)) (t_fld (W := W0) tab (r_var 0))) (s_cons (s_for hp ca (i_seq (r_fld tab (r_var 0))) (t_name 2 nd) (s_scope (s_cons (s_expr (r_callM c_Hall_lay_road (by decide) hr gd tk (r_var 0) (r_acons (r_tup (r_acons (r_var 2) (r_acons (r_var 1) r_anil))) (r_acons (r_tup r_anil) r_anil)))) (s_one (s_if (r_tcmp (k_notIn sm un) (r_var 2) (r_fld tab (r_var 0))) (s_one (s_expr (r_callM c_Hall_lay_road (by decide) hr gd tk (r_var 0) (r_acons (r_tup (r_acons (r_var 1) (r_acons (r_var 2) r_anil))) (r_acons (r_op k_add (r_callM c_Hall_lies_on (by decide) hr gd tk (r_var 0) (r_acons (r_var 1) (r_acons (r_var 2) r_anil))) (r_tup (r_acons (r_gstr M.s_FAULT) r_anil))) r_anil))))) s_nil))))) (s_one (s_ret (r_tup (r_acons r_str (r_acons (r_var 1) r_anil)))))))))), law⟩
/-! ### Hall.need_pair -/
theorem sc_Hall_need_pair : FnScope N_Hall_need_pair ps_Hall_need_pair (defScope (inClass (top 34) 17)) := ⟨rfl, rfl, rfl, by decide +kernel, rfl, by decide +kernel, by decide +kernel⟩
theorem walk_Hall_need_pair {P : Program} {w : World} {K : PySem.W.Frag} {mg : Str → Option Value} {base : Heap} {f : Addr} {fd : FuncData} {dvs : List V} {kws : List (Str × V)} (sm : SM K) (M : MG K mg) (tab : TabOk K TT) (insk : InsK K "Hall") (c_Hall_need_hand : CallM P w K mg base 2 "Hall" "need_hand" 2 sp_Hall_need_hand)
    (F : FunD K "need_pair" "Hall.need_pair" (defArgs (inClass (top 34) 17)) (defBody (inClass (top 34) 17)) (defScope (inClass (top 34) 17)) dvs kws f fd)
    (law : ∀ us G Q p, Closed G → sp_Hall_need_pair us G Q p → ph_Hall_need_pair (startU N_Hall_need_pair us) G { nx := fun _ G1 => ∃ G', Left G.length (.d .none) G1 G' ∧ Q (.d .none) G', rt := fun u G1 => ∃ G', Left G.length u G1 G' ∧ Q u G', ex := fun x _ G' => p x G' })
    (len : ∀ us G Q p, sp_Hall_need_pair us G Q p → us.length = ps_Hall_need_pair.length) : FnG P w K mg base 3 f fd ps_Hall_need_pair sp_Hall_need_pair :=
  FnG.mk' F sc_Hall_need_pair len fun cdv A outer s H E hr gd => by
    have un := hr.un
    have un : (A.deeper (envOfC "Hall.need_pair" (defScope (inClass (top 34) 17)) s.heap.objs.size f cdv)).units + 64 < cLine := by omega
    have ca : (cxOf (L2.CX P w) P w K mg base N_Hall_need_pair "Hall.need_pair" (defScope (inClass (top 34) 17)) f cdv A outer s H E).calm = true := rfl
    have nd := sc_Hall_need_pair.nd
    have tk : Takes (cxOf (L2.CX P w) P w K mg base N_Hall_need_pair "Hall.need_pair" (defScope (inClass (top 34) 17)) f cdv A outer s H E) (fun c d _ H' => E c d H') := takes_of rfl rfl rfl rfl
    have hp := passes_of (X := cxOf (L2.CX P w) P w K mg base N_Hall_need_pair "Hall.need_pair" (defScope (inClass (top 34) 17)) f cdv A outer s H E) rfl
    exact ⟨ph_Hall_need_pair, (s_cons (s_expr (r_callM c_Hall_need_hand (by decide) hr gd tk (r_var 0) (r_acons (r_var 1) r_anil))) (s_cons (s_expr (r_callM c_Hall_need_hand (by decide) hr gd tk (r_var 0) (r_acons (r_var 2) r_anil))) (s_one (s_if (r_tcmp (k_eq sm un) (r_var 2) (r_var 1)) (s_one s_never) s_nil)))), law⟩
/-! ### Hall.state_behind -/
theorem sc_Hall_state_behind : FnScope N_Hall_state_behind ps_Hall_state_behind (defScope (inClass (top 34) 15)) := ⟨rfl, rfl, rfl, by decide +kernel, rfl, by decide +kernel, by decide +kernel⟩
theorem walk_Hall_state_behind {P : Program} {w : World} {K : PySem.W.Frag} {mg : Str → Option Value} {base : Heap} {f : Addr} {fd : FuncData} {dvs : List V} {kws : List (Str × V)} (sm : SM K) (M : MG K mg) (tab : TabOk K TT) (insk : InsK K "Hall")
    (F : FunD K "state_behind" "Hall.state_behind" (defArgs (inClass (top 34) 15)) (defBody (inClass (top 34) 15)) (defScope (inClass (top 34) 15)) dvs kws f fd)
    (law : ∀ us G Q p, Closed G → sp_Hall_state_behind us G Q p → ph_Hall_state_behind (startU N_Hall_state_behind us) G { nx := fun _ G1 => ∃ G', Left G.length (.d .none) G1 G' ∧ Q (.d .none) G', rt := fun u G1 => ∃ G', Left G.length u G1 G' ∧ Q u G', ex := fun x _ G' => p x G' })
    (len : ∀ us G Q p, sp_Hall_state_behind us G Q p → us.length = ps_Hall_state_behind.length) : FnG P w K mg base 1 f fd ps_Hall_state_behind sp_Hall_state_behind :=
  FnG.mk' F sc_Hall_state_behind len fun cdv A outer s H E hr gd => by
    have un := hr.un
    have un : (A.deeper (envOfC "Hall.state_behind" (defScope (inClass (top 34) 15)) s.heap.objs.size f cdv)).units + 64 < cLine := by omega
    have ca : (cxOf (L2.CX P w) P w K mg base N_Hall_state_behind "Hall.state_behind" (defScope (inClass (top 34) 15)) f cdv A outer s H E).calm = true := rfl
    have nd := sc_Hall_state_behind.nd
    have tk : Takes (cxOf (L2.CX P w) P w K mg base N_Hall_state_behind "Hall.state_behind" (defScope (inClass (top 34) 15)) f cdv A outer s H E) (fun c d _ H' => E c d H') := takes_of rfl rfl rfl rfl
    have hp := passes_of (X := cxOf (L2.CX P w) P w K mg base N_Hall_state_behind "Hall.state_behind" (defScope (inClass (top 34) 15)) f cdv A outer s H E) rfl
    exact ⟨ph_Hall_state_behind, (s_cons (s_for hp ca (i_seq (r_ix (x_ix un) (r_ix (x_ix un) (r_fld tab (r_var 0)) (r_var 1)) (r_ix (x_ix un) (r_fld tab (r_var 0)) (r_var 1)))) (t_tup ca (t_cons (t_name 3 nd) (t_cons (t_name 4 nd) (t_cons (t_name 5 nd) (t_cons (t_name 6 nd) t_nil))))) (s_scope (s_one (s_if (r_tcmp (k_eq sm un) (r_tup (r_acons (r_var 3) (r_acons (r_var 4) (r_acons (r_var 5) r_anil)))) (r_var 2)) (s_one (s_ret (r_var 6))) s_nil)))) (s_one (s_ret r_non))), law⟩
end K36
/-! ## part W4 -/
namespace K36
open PySem PySem.Spec
open PyProof.Rows hiding St
open L2 R
/-! ### Hall.put_hear -/
theorem sc_Hall_put_hear : FnScope N_Hall_put_hear ps_Hall_put_hear (defScope (inClass (top 34) 10)) := ⟨rfl, rfl, rfl, by decide +kernel, rfl, by decide +kernel, by decide +kernel⟩
theorem walk_Hall_put_hear {P : Program} {w : World} {K : PySem.W.Frag} {mg : Str → Option Value} {base : Heap} {f : Addr} {fd : FuncData} {dvs : List V} {kws : List (Str × V)} (sm : SM K) (M : MG K mg) (tab : TabOk K TT) (insk : InsK K "Hall") (c_Hall_need_pair : CallM P w K mg base 3 "Hall" "need_pair" 3 sp_Hall_need_pair) (c_Hall_need_up : CallM P w K mg base 1 "Hall" "need_up" 2 sp_Hall_need_up) (c_Hall_lies_on : CallM P w K mg base 1 "Hall" "lies_on" 3 sp_Hall_lies_on) (c_Hall_state_behind : CallM P w K mg base 1 "Hall" "state_behind" 3 sp_Hall_state_behind) (c_Hall_lay_road : CallM P w K mg base 1 "Hall" "lay_road" 3 sp_Hall_lay_road)
    (F : FunD K "put_hear" "Hall.put_hear" (defArgs (inClass (top 34) 10)) (defBody (inClass (top 34) 10)) (defScope (inClass (top 34) 10)) dvs kws f fd)
    (law : ∀ us G Q p, Closed G → sp_Hall_put_hear us G Q p → ph_Hall_put_hear (startU N_Hall_put_hear us) G { nx := fun _ G1 => ∃ G', Left G.length (.d .none) G1 G' ∧ Q (.d .none) G', rt := fun u G1 => ∃ G', Left G.length u G1 G' ∧ Q u G', ex := fun x _ G' => p x G' })
    (len : ∀ us G Q p, sp_Hall_put_hear us G Q p → us.length = ps_Hall_put_hear.length) : FnG P w K mg base 4 f fd ps_Hall_put_hear sp_Hall_put_hear :=
  FnG.mk' F sc_Hall_put_hear len fun cdv A outer s H E hr gd => by
    have un := hr.un
    have un : (A.deeper (envOfC "Hall.put_hear" (defScope (inClass (top 34) 10)) s.heap.objs.size f cdv)).units + 64 < cLine := by omega
    have ca : (cxOf (L2.CX P w) P w K mg base N_Hall_put_hear "Hall.put_hear" (defScope (inClass (top 34) 10)) f cdv A outer s H E).calm = true := rfl
    have nd := sc_Hall_put_hear.nd
    have tk : Takes (cxOf (L2.CX P w) P w K mg base N_Hall_put_hear "Hall.put_hear" (defScope (inClass (top 34) 10)) f cdv A outer s H E) (fun c d _ H' => E c d H') := takes_of rfl rfl rfl rfl
    have hp := passes_of (X := cxOf (L2.CX P w) P w K mg base N_Hall_put_hear "Hall.put_hear" (defScope (inClass (top 34) 10)) f cdv A outer s H E) rfl
    exact ⟨ph_Hall_put_hear, (s_cons (s_expr (r_callM c_Hall_need_pair (by decide) hr gd tk (r_var 0) (r_acons (r_var 1) (r_acons (r_var 2) r_anil)))) (s_cons (s_expr (r_callM c_Hall_need_up (by decide) hr gd tk (r_var 0) (r_acons (r_var 1) r_anil))) (s_cons (s_if (r_tcmp (k_eq sm un) (r_callM c_Hall_lies_on (by decide) hr gd tk (r_var 0) (r_acons (r_var 2) (r_acons (r_var 1) r_anil))) (r_tup r_anil)) (s_one s_never) s_nil) (s_cons (s_asg (r_callM c_Hall_lies_on (by decide) hr gd tk (r_var 0) (r_acons (r_var 2) (r_acons (r_var 1) r_anil))) (t_star (i := 1) ca (t_cons (t_name 3 nd) (t_consS (t_name 4 nd) t_nil)))) (s_cons (s_asg (r_callM c_Hall_state_behind (by decide) hr gd tk (r_var 0) (r_acons (r_var 1) (r_acons (r_tup (r_acons r_str (r_acons (r_var 2) (r_acons (r_var 3) r_anil)))) r_anil))) (t_name 5 nd)) (s_cons (s_if (r_tcmp k_is (r_var 5) r_non) (s_one s_never) s_nil) (s_cons (s_asg (e_val (r_dc un ca nd (blkOk_by (N := N_Hall_put_hear) (sc := defScope (inClass (top 34) 10)) (own := [("one", 6), ("state", 7)]) (by decide +kernel)) (i_items (r_fld tab (r_var 0))) (fun _ _ _ _ _ => (c_tup ca (c_cons (c_name 6 nd) (c_cons (c_name 7 nd) c_nil)))) (fun _ _ _ _ _ => p_none) (fun _ _ _ _ _ => (r_var 6)) (fun _ _ _ _ _ => (r_ifx (r_tcmp (k_eq sm un) (r_var 6) (r_var 1)) (r_var 5) (r_var 7))))) (t_fld (W := W0) tab (r_var 0))) (s_cons (s_expr (r_callM c_Hall_lay_road (by decide) hr gd tk (r_var 0) (r_acons (r_tup (r_acons (r_var 2) (r_acons (r_var 1) r_anil))) (r_acons (r_callTy c_tuple M.b_tuple (r_acons (r_var 4) r_anil)) r_anil)))) (s_one (s_ret (r_tup (r_acons r_str (r_acons (r_var 1) (r_acons (r_var 2) (r_acons (r_var 3) r_anil))))))))))))))), law⟩
/-! ### Hall.put_say -/
theorem sc_Hall_put_say : FnScope N_Hall_put_say ps_Hall_put_say (defScope (inClass (top 34) 9)) := ⟨rfl, rfl, rfl, by decide +kernel, rfl, by decide +kernel, by decide +kernel⟩
theorem walk_Hall_put_say {P : Program} {w : World} {K : PySem.W.Frag} {mg : Str → Option Value} {base : Heap} {f : Addr} {fd : FuncData} {dvs : List V} {kws : List (Str × V)} (sm : SM K) (M : MG K mg) (tab : TabOk K TT) (insk : InsK K "Hall") (c_Hall_need_pair : CallM P w K mg base 3 "Hall" "need_pair" 3 sp_Hall_need_pair) (c_Hall_need_up : CallM P w K mg base 1 "Hall" "need_up" 2 sp_Hall_need_up) (c_Hall_state_behind : CallM P w K mg base 1 "Hall" "state_behind" 3 sp_Hall_state_behind) (c_Hall_has_room : CallM P w K mg base 2 "Hall" "has_room" 3 sp_Hall_has_room) (c_Hall_lies_on : CallM P w K mg base 1 "Hall" "lies_on" 3 sp_Hall_lies_on) (c_Hall_lay_road : CallM P w K mg base 1 "Hall" "lay_road" 3 sp_Hall_lay_road)
    (F : FunD K "put_say" "Hall.put_say" (defArgs (inClass (top 34) 9)) (defBody (inClass (top 34) 9)) (defScope (inClass (top 34) 9)) dvs kws f fd)
    (law : ∀ us G Q p, Closed G → sp_Hall_put_say us G Q p → ph_Hall_put_say (startU N_Hall_put_say us) G { nx := fun _ G1 => ∃ G', Left G.length (.d .none) G1 G' ∧ Q (.d .none) G', rt := fun u G1 => ∃ G', Left G.length u G1 G' ∧ Q u G', ex := fun x _ G' => p x G' })
    (len : ∀ us G Q p, sp_Hall_put_say us G Q p → us.length = ps_Hall_put_say.length) : FnG P w K mg base 4 f fd ps_Hall_put_say sp_Hall_put_say :=
  FnG.mk' F sc_Hall_put_say len fun cdv A outer s H E hr gd => by
    have un := hr.un
    have un : (A.deeper (envOfC "Hall.put_say" (defScope (inClass (top 34) 9)) s.heap.objs.size f cdv)).units + 64 < cLine := by omega
    have ca : (cxOf (L2.CX P w) P w K mg base N_Hall_put_say "Hall.put_say" (defScope (inClass (top 34) 9)) f cdv A outer s H E).calm = true := rfl
    have nd := sc_Hall_put_say.nd
    have tk : Takes (cxOf (L2.CX P w) P w K mg base N_Hall_put_say "Hall.put_say" (defScope (inClass (top 34) 9)) f cdv A outer s H E) (fun c d _ H' => E c d H') := takes_of rfl rfl rfl rfl
    have hp := passes_of (X := cxOf (L2.CX P w) P w K mg base N_Hall_put_say "Hall.put_say" (defScope (inClass (top 34) 9)) f cdv A outer s H E) rfl
    exact ⟨ph_Hall_put_say, (s_cons (s_expr (r_callM c_Hall_need_pair (by decide) hr gd tk (r_var 0) (r_acons (r_var 1) (r_acons (r_var 2) r_anil)))) (s_cons (s_expr (r_callM c_Hall_need_up (by decide) hr gd tk (r_var 0) (r_acons (r_var 1) r_anil))) (s_cons (s_asg (r_callM c_Hall_state_behind (by decide) hr gd tk (r_var 0) (r_acons (r_var 1) (r_acons (r_tup (r_acons r_str (r_acons (r_var 2) (r_acons (r_var 3) r_anil)))) r_anil))) (t_name 4 nd)) (s_cons (s_if (r_tcmp k_is (r_var 4) r_non) (s_one s_never) s_nil) (s_cons (s_if (r_not (r_tval (r_callM c_Hall_has_room (by decide) hr gd tk (r_var 0) (r_acons (r_var 1) (r_acons (r_var 2) r_anil))))) (s_one s_never) s_nil) (s_cons (s_asg (e_val (r_dc un ca nd (blkOk_by (N := N_Hall_put_say) (sc := defScope (inClass (top 34) 9)) (own := [("one", 5), ("state", 6)]) (by decide +kernel)) (i_items (r_fld tab (r_var 0))) (fun _ _ _ _ _ => (c_tup ca (c_cons (c_name 5 nd) (c_cons (c_name 6 nd) c_nil)))) (fun _ _ _ _ _ => p_none) (fun _ _ _ _ _ => (r_var 5)) (fun _ _ _ _ _ => (r_ifx (r_tcmp (k_eq sm un) (r_var 5) (r_var 1)) (r_var 4) (r_var 6))))) (t_fld (W := W0) tab (r_var 0))) (s_cons (s_if (r_tcmp (k_notIn sm un) (r_var 2) (r_fld tab (r_var 0))) (s_one (s_expr (r_callM c_Hall_lay_road (by decide) hr gd tk (r_var 0) (r_acons (r_tup (r_acons (r_var 1) (r_acons (r_var 2) r_anil))) (r_acons (r_op k_add (r_callM c_Hall_lies_on (by decide) hr gd tk (r_var 0) (r_acons (r_var 1) (r_acons (r_var 2) r_anil))) (r_tup (r_acons (r_var 3) r_anil))) r_anil))))) s_nil) (s_one (s_ret (r_tup (r_acons r_str (r_acons (r_var 1) (r_acons (r_var 2) (r_acons (r_var 3) r_anil)))))))))))))), law⟩
/-! ### is_shaped -/
theorem sc_is_shaped : FnScope N_is_shaped ps_is_shaped (defScope (top 32)) := ⟨rfl, rfl, rfl, by decide +kernel, rfl, by decide +kernel, by decide +kernel⟩
theorem walk_is_shaped {P : Program} {w : World} {K : PySem.W.Frag} {mg : Str → Option Value} {base : Heap} {f : Addr} {fd : FuncData} {dvs : List V} {kws : List (Str × V)} (sm : SM K) (M : MG K mg) (tab : TabOk K TT) (insk : InsK K "Hall")
    (F : FunD K "is_shaped" "is_shaped" (defArgs (top 32)) (defBody (top 32)) (defScope (top 32)) dvs kws f fd)
    (law : ∀ us G Q p, Closed G → sp_is_shaped us G Q p → ph_is_shaped (startU N_is_shaped us) G { nx := fun _ G1 => ∃ G', Left G.length (.d .none) G1 G' ∧ Q (.d .none) G', rt := fun u G1 => ∃ G', Left G.length u G1 G' ∧ Q u G', ex := fun x _ G' => p x G' })
    (len : ∀ us G Q p, sp_is_shaped us G Q p → us.length = ps_is_shaped.length) : FnG P w K mg base 1 f fd ps_is_shaped sp_is_shaped :=
  FnG.mk' F sc_is_shaped len fun cdv A outer s H E hr gd => by
    have un := hr.un
    have un : (A.deeper (envOfC "is_shaped" (defScope (top 32)) s.heap.objs.size f cdv)).units + 64 < cLine := by omega
    have ca : (cxOf (L2.CX P w) P w K mg base N_is_shaped "is_shaped" (defScope (top 32)) f cdv A outer s H E).calm = true := rfl
    have nd := sc_is_shaped.nd
    have tk : Takes (cxOf (L2.CX P w) P w K mg base N_is_shaped "is_shaped" (defScope (top 32)) f cdv A outer s H E) (fun c d _ H' => E c d H') := takes_of rfl rfl rfl rfl
    have hp := passes_of (X := cxOf (L2.CX P w) P w K mg base N_is_shaped "is_shaped" (defScope (top 32)) f cdv A outer s H E) rfl
    exact ⟨ph_is_shaped, (s_cons (s_if (r_or (r_not (r_tval (r_isB (T := "tuple") (by decide) M.b_isinstance M.b_tuple (r_var 0)))) (r_or (r_tcmp (k_eq sm un) (r_callB c_len M.b_len (r_acons (r_var 0) r_anil)) r_int) (r_or1 (r_not (r_tval (r_isB (T := "str") (by decide) M.b_isinstance M.b_str (r_ix (x_ix un) (r_var 0) r_int))))))).pt (s_one (s_ret r_bl)) s_nil) (s_one (s_ret (r_cmp (k_in sm un) (r_tup (r_acons (r_ix (x_ix un) (r_var 0) r_int) (r_acons (r_callB c_len M.b_len (r_acons (r_var 0) r_anil)) r_anil))) (r_var 1))))), law⟩
/-! ### Hall.put -/
theorem sc_Hall_put : FnScope N_Hall_put ps_Hall_put (defScope (inClass (top 34) 8)) := ⟨rfl, rfl, rfl, by decide +kernel, rfl, by decide +kernel, by decide +kernel⟩
theorem walk_Hall_put {P : Program} {w : World} {K : PySem.W.Frag} {mg : Str → Option Value} {base : Heap} {f : Addr} {fd : FuncData} {dvs : List V} {kws : List (Str × V)} (sm : SM K) (M : MG K mg) (tab : TabOk K TT) (insk : InsK K "Hall") (c_is_shaped : CallD P w K mg base 1 "is_shaped" 2 sp_is_shaped) (c_Hall_put_say : CallM P w K mg base 4 "Hall" "put_say" 4 sp_Hall_put_say) (c_Hall_put_hear : CallM P w K mg base 4 "Hall" "put_hear" 3 sp_Hall_put_hear) (c_Hall_put_fall : CallM P w K mg base 3 "Hall" "put_fall" 2 sp_Hall_put_fall)
    (F : FunD K "put" "Hall.put" (defArgs (inClass (top 34) 8)) (defBody (inClass (top 34) 8)) (defScope (inClass (top 34) 8)) dvs kws f fd)
    (law : ∀ us G Q p, Closed G → sp_Hall_put us G Q p → ph_Hall_put (startU N_Hall_put us) G { nx := fun _ G1 => ∃ G', Left G.length (.d .none) G1 G' ∧ Q (.d .none) G', rt := fun u G1 => ∃ G', Left G.length u G1 G' ∧ Q u G', ex := fun x _ G' => p x G' })
    (len : ∀ us G Q p, sp_Hall_put us G Q p → us.length = ps_Hall_put.length) : FnG P w K mg base 5 f fd ps_Hall_put sp_Hall_put :=
  FnG.mk' F sc_Hall_put len fun cdv A outer s H E hr gd => by
    have un := hr.un
    have un : (A.deeper (envOfC "Hall.put" (defScope (inClass (top 34) 8)) s.heap.objs.size f cdv)).units + 64 < cLine := by omega
    have ca : (cxOf (L2.CX P w) P w K mg base N_Hall_put "Hall.put" (defScope (inClass (top 34) 8)) f cdv A outer s H E).calm = true := rfl
    have nd := sc_Hall_put.nd
    have tk : Takes (cxOf (L2.CX P w) P w K mg base N_Hall_put "Hall.put" (defScope (inClass (top 34) 8)) f cdv A outer s H E) (fun c d _ H' => E c d H') := takes_of rfl rfl rfl rfl
    have hp := passes_of (X := cxOf (L2.CX P w) P w K mg base N_Hall_put "Hall.put" (defScope (inClass (top 34) 8)) f cdv A outer s H E) rfl
    exact ⟨ph_Hall_put, (s_cons (s_if (r_not (r_tval (r_callD c_is_shaped (by decide) hr gd tk (r_acons (r_var 1) (r_acons (r_gtup M.t_DEED_SHAPES) r_anil))))) (s_one s_never) s_nil) (s_cons (s_asg (r_var 1) (t_star (i := 2) ca (t_cons (t_name 2 nd) (t_cons (t_name 3 nd) (t_consS (t_name 4 nd) t_nil))))) (s_cons (s_if (r_tcmp (k_eq sm un) (r_var 2) r_str) (s_one (s_asg (r_callM c_Hall_put_say (by decide) hr gd tk (r_var 0) (r_acons (r_var 3) (r_acons (r_ix (x_ix un) (r_var 4) r_int) (r_acons (r_ix (x_ix un) (r_var 4) r_int) r_anil)))) (t_name 5 nd))) (s_one (s_if (r_tcmp (k_eq sm un) (r_var 2) r_str) (s_one (s_asg (r_callM c_Hall_put_hear (by decide) hr gd tk (r_var 0) (r_acons (r_var 3) (r_acons (r_ix (x_ix un) (r_var 4) r_int) r_anil))) (t_name 5 nd))) (s_one (s_asg (r_callM c_Hall_put_fall (by decide) hr gd tk (r_var 0) (r_acons (r_var 3) r_anil)) (t_name 5 nd)))))) (s_cons (s_asg (r_op k_add (r_fld tab (r_var 0)) (r_lst (r_acons (r_var 5) r_anil))) (t_fld (W := W0) tab (r_var 0))) (s_one (s_ret (r_var 5))))))), law⟩
/-! ### Hall.each_put -/
theorem sc_Hall_each_put : FnScope N_Hall_each_put ps_Hall_each_put (defScope (inClass (top 34) 7)) := ⟨rfl, rfl, rfl, by decide +kernel, rfl, by decide +kernel, by decide +kernel⟩
theorem walk_Hall_each_put {P : Program} {w : World} {K : PySem.W.Frag} {mg : Str → Option Value} {base : Heap} {f : Addr} {fd : FuncData} {dvs : List V} {kws : List (Str × V)} (sm : SM K) (M : MG K mg) (tab : TabOk K TT) (insk : InsK K "Hall") (c_Hall_put : CallM P w K mg base 5 "Hall" "put" 2 sp_Hall_put)
    (F : FunD K "each_put" "Hall.each_put" (defArgs (inClass (top 34) 7)) (defBody (inClass (top 34) 7)) (defScope (inClass (top 34) 7)) dvs kws f fd)
    (law : ∀ us G Q p, Closed G → sp_Hall_each_put us G Q p → ph_Hall_each_put (startU N_Hall_each_put us) G { nx := fun _ G1 => ∃ G', Left G.length (.d .none) G1 G' ∧ Q (.d .none) G', rt := fun u G1 => ∃ G', Left G.length u G1 G' ∧ Q u G', ex := fun x _ G' => p x G' })
    (len : ∀ us G Q p, sp_Hall_each_put us G Q p → us.length = ps_Hall_each_put.length) : FnG P w K mg base 6 f fd ps_Hall_each_put sp_Hall_each_put :=
  FnG.mk' F sc_Hall_each_put len fun cdv A outer s H E hr gd => by
    have un := hr.un
    have un : (A.deeper (envOfC "Hall.each_put" (defScope (inClass (top 34) 7)) s.heap.objs.size f cdv)).units + 64 < cLine := by omega
    have ca : (cxOf (L2.CX P w) P w K mg base N_Hall_each_put "Hall.each_put" (defScope (inClass (top 34) 7)) f cdv A outer s H E).calm = true := rfl
    have nd := sc_Hall_each_put.nd
    have tk : Takes (cxOf (L2.CX P w) P w K mg base N_Hall_each_put "Hall.each_put" (defScope (inClass (top 34) 7)) f cdv A outer s H E) (fun c d _ H' => E c d H') := takes_of rfl rfl rfl rfl
    have hp := passes_of (X := cxOf (L2.CX P w) P w K mg base N_Hall_each_put "Hall.each_put" (defScope (inClass (top 34) 7)) f cdv A outer s H E) rfl
    exact ⟨ph_Hall_each_put, (s_cons (s_if (r_or (r_not (r_tval (r_isB (T := "tuple") (by decide) M.b_isinstance M.b_tuple (r_var 1)))) (r_or1 (r_tcmp (k_eq sm un) (r_callB c_len M.b_len (r_acons (r_var 1) r_anil)) r_int))).pt (s_one s_never) s_nil) (s_one (s_ret (r_callTy c_tuple M.b_tuple (r_acons (e_val (r_lc ca nd (blkOk_by (N := N_Hall_each_put) (sc := defScope (inClass (top 34) 7)) (own := [("deed", 2)]) (by decide +kernel)) (i_seq (r_var 1)) (fun _ _ _ _ _ => (c_name 2 nd)) (fun _ _ _ _ _ => p_none) (fun _ _ _ _ _ => (r_callM c_Hall_put (by decide) hr gd R.takes0 (r_var 0) (r_acons (r_var 2) r_anil))))) r_anil))))), law⟩
/-! ### Hall.told -/
theorem sc_Hall_told : FnScope N_Hall_told ps_Hall_told (defScope (inClass (top 34) 6)) := ⟨rfl, rfl, rfl, by decide +kernel, rfl, by decide +kernel, by decide +kernel⟩
theorem walk_Hall_told {P : Program} {w : World} {K : PySem.W.Frag} {mg : Str → Option Value} {base : Heap} {f : Addr} {fd : FuncData} {dvs : List V} {kws : List (Str × V)} (sm : SM K) (M : MG K mg) (tab : TabOk K TT) (insk : InsK K "Hall") (c_Hall_each_put : CallM P w K mg base 6 "Hall" "each_put" 2 sp_Hall_each_put)
    (F : FunD K "told" "Hall.told" (defArgs (inClass (top 34) 6)) (defBody (inClass (top 34) 6)) (defScope (inClass (top 34) 6)) dvs kws f fd)
    (law : ∀ us G Q p, Closed G → sp_Hall_told us G Q p → ph_Hall_told (startU N_Hall_told us) G { nx := fun _ G1 => ∃ G', Left G.length (.d .none) G1 G' ∧ Q (.d .none) G', rt := fun u G1 => ∃ G', Left G.length u G1 G' ∧ Q u G', ex := fun x _ G' => p x G' })
    (len : ∀ us G Q p, sp_Hall_told us G Q p → us.length = ps_Hall_told.length) : FnG P w K mg base 7 f fd ps_Hall_told sp_Hall_told :=
  FnG.mk' F sc_Hall_told len fun cdv A outer s H E hr gd => by
    have un := hr.un
    have un : (A.deeper (envOfC "Hall.told" (defScope (inClass (top 34) 6)) s.heap.objs.size f cdv)).units + 64 < cLine := by omega
    have ca : (cxOf (L2.CX P w) P w K mg base N_Hall_told "Hall.told" (defScope (inClass (top 34) 6)) f cdv A outer s H E).calm = true := rfl
    have nd := sc_Hall_told.nd
    have tk : Takes (cxOf (L2.CX P w) P w K mg base N_Hall_told "Hall.told" (defScope (inClass (top 34) 6)) f cdv A outer s H E) (fun c d _ H' => E c d H') := takes_of rfl rfl rfl rfl
    have hp := passes_of (X := cxOf (L2.CX P w) P w K mg base N_Hall_told "Hall.told" (defScope (inClass (top 34) 6)) f cdv A outer s H E) rfl
    exact ⟨ph_Hall_told, (s_cons (s_unp (n := 4) ca (r_acons (r_fld tab (r_var 0)) (r_acons (r_fld tab (r_var 0)) (r_acons (r_fld tab (r_var 0)) (r_acons (r_fld tab (r_var 0)) r_anil)))) (t_cons (t_name 2 nd) (t_cons (t_name 3 nd) (t_cons (t_name 4 nd) (t_cons (t_name 5 nd) t_nil))))) (s_cons (s_asg r_non (t_name 6 nd)) (s_cons (s_fldaug tab (r_var 0) r_int k_iadd) (s_cons (s_fldaug tab (r_var 0) r_int k_iadd) (s_cons (s_fin (s_one (s_asg (r_callM c_Hall_each_put (by decide) hr gd R.takes0 (r_var 0) (r_acons (r_var 1) r_anil)) (t_name 6 nd))) (s_one (s_if (r_tcmp k_is (r_var 6) r_non) (s_one (s_unp (n := 4) ca (r_acons (r_var 2) (r_acons (r_var 3) (r_acons (r_var 4) (r_acons (r_var 5) r_anil)))) (t_cons (t_fld (W := W0) tab (r_var 0)) (t_cons (t_fld (W := W0) tab (r_var 0)) (t_cons (t_fld (W := W0) tab (r_var 0)) (t_cons (t_fld (W := W0) tab (r_var 0)) t_nil)))))) s_nil))) (s_cons (s_fldaug tab (r_var 0) r_int k_isub) (s_cons (s_expr (r_meth PySem.F.plainAttrs_list PySem.F.slot_list_append PySem.F.type_list_append m_append (r_fld tab (r_var 0)) (r_acons (r_tup (r_acons (r_var 2) (r_acons (r_var 3) (r_acons (r_var 4) (r_acons (r_var 5) r_anil))))) r_anil))) (s_one (s_ret (r_var 6)))))))))), law⟩
/-! ### Hall.do -/
theorem sc_Hall_do : FnScope N_Hall_do ps_Hall_do (defScope (inClass (top 34) 4)) := ⟨rfl, rfl, rfl, by decide +kernel, rfl, by decide +kernel, by decide +kernel⟩
theorem walk_Hall_do {P : Program} {w : World} {K : PySem.W.Frag} {mg : Str → Option Value} {base : Heap} {f : Addr} {fd : FuncData} {dvs : List V} {kws : List (Str × V)} (sm : SM K) (M : MG K mg) (tab : TabOk K TT) (insk : InsK K "Hall") (c_Hall_told : CallM P w K mg base 7 "Hall" "told" 2 sp_Hall_told)
    (F : FunD K "do" "Hall.do" (defArgs (inClass (top 34) 4)) (defBody (inClass (top 34) 4)) (defScope (inClass (top 34) 4)) dvs kws f fd)
    (law : ∀ us G Q p, Closed G → sp_Hall_do us G Q p → ph_Hall_do (startU N_Hall_do us) G { nx := fun _ G1 => ∃ G', Left G.length (.d .none) G1 G' ∧ Q (.d .none) G', rt := fun u G1 => ∃ G', Left G.length u G1 G' ∧ Q u G', ex := fun x _ G' => p x G' })
    (len : ∀ us G Q p, sp_Hall_do us G Q p → us.length = ps_Hall_do.length) : FnG P w K mg base 8 f fd ps_Hall_do sp_Hall_do :=
  FnG.mk' F sc_Hall_do len fun cdv A outer s H E hr gd => by
    have un := hr.un
    have un : (A.deeper (envOfC "Hall.do" (defScope (inClass (top 34) 4)) s.heap.objs.size f cdv)).units + 64 < cLine := by omega
    have ca : (cxOf (L2.CX P w) P w K mg base N_Hall_do "Hall.do" (defScope (inClass (top 34) 4)) f cdv A outer s H E).calm = true := rfl
    have nd := sc_Hall_do.nd
    have tk : Takes (cxOf (L2.CX P w) P w K mg base N_Hall_do "Hall.do" (defScope (inClass (top 34) 4)) f cdv A outer s H E) (fun c d _ H' => E c d H') := takes_of rfl rfl rfl rfl
    have hp := passes_of (X := cxOf (L2.CX P w) P w K mg base N_Hall_do "Hall.do" (defScope (inClass (top 34) 4)) f cdv A outer s H E) rfl
    exact ⟨ph_Hall_do, (s_one (s_ret (r_ix (x_ix un) (r_callM c_Hall_told (by decide) hr gd tk (r_var 0) (r_acons (r_tup (r_acons (r_var 1) r_anil)) r_anil)) r_int))), law⟩
end K36
/-! ## part W5 -/
namespace K36
open PySem PySem.Spec
open PyProof.Rows hiding St
open L2 R
/-! ### _law_draw -/
theorem sc__law_draw : FnScope N__law_draw ps__law_draw (defScope (top 37)) := ⟨rfl, rfl, rfl, by decide +kernel, rfl, by decide +kernel, by decide +kernel⟩
theorem walk__law_draw {P : Program} {w : World} {K : PySem.W.Frag} {mg : Str → Option Value} {base : Heap} {f : Addr} {fd : FuncData} {dvs : List V} {kws : List (Str × V)} (sm : SM K) (M : MG K mg) (tab : TabOk K TT) (insk : InsK K "Hall")
    (F : FunD K "_law_draw" "_law_draw" (defArgs (top 37)) (defBody (top 37)) (defScope (top 37)) dvs kws f fd)
    (law : ∀ us G Q p, Closed G → sp__law_draw us G Q p → ph__law_draw (startU N__law_draw us) G { nx := fun _ G1 => ∃ G', Left G.length (.d .none) G1 G' ∧ Q (.d .none) G', rt := fun u G1 => ∃ G', Left G.length u G1 G' ∧ Q u G', ex := fun x _ G' => p x G' })
    (len : ∀ us G Q p, sp__law_draw us G Q p → us.length = ps__law_draw.length) : FnG P w K mg base 1 f fd ps__law_draw sp__law_draw :=
  FnG.mk' F sc__law_draw len fun cdv A outer s H E hr gd => by
    have un := hr.un
    have un : (A.deeper (envOfC "_law_draw" (defScope (top 37)) s.heap.objs.size f cdv)).units + 64 < cLine := by omega
    have ca : (cxOf (L2.CX P w) P w K mg base N__law_draw "_law_draw" (defScope (top 37)) f cdv A outer s H E).calm = true := rfl
    have nd := sc__law_draw.nd
    have tk : Takes (cxOf (L2.CX P w) P w K mg base N__law_draw "_law_draw" (defScope (top 37)) f cdv A outer s H E) (fun c d _ H' => E c d H') := takes_of rfl rfl rfl rfl
    have hp := passes_of (X := cxOf (L2.CX P w) P w K mg base N__law_draw "_law_draw" (defScope (top 37)) f cdv A outer s H E) rfl
    exact ⟨ph__law_draw, (s_cons (s_if (r_tcmp k_gt (r_ix (x_ix un) (r_var 0) r_int) r_int) (s_cons (s_asg (r_op k_mod (r_ix (x_ix un) (r_var 0) r_int) (r_var 1)) (t_name 2 nd)) (s_cons (s_asg (r_op k_fdiv (r_ix (x_ix un) (r_var 0) r_int) (r_var 1)) (t_sub (W := W0) un (r_var 0) r_int)) (s_one (s_ret (r_var 2))))) s_nil) (s_cons (s_asg (r_op k_add (r_ix (x_ix un) (r_var 0) r_int) r_int) (t_sub (W := W0) un (r_var 0) r_int)) (s_cons (s_asg (r_ix (x_ix un) (r_var 0) r_int) (t_name 3 nd)) (s_cons (s_asg (r_lst (r_acons r_int (r_acons r_int (r_acons r_int (r_acons r_int (r_acons r_int (r_acons r_int (r_acons r_int r_anil)))))))) (t_name 4 nd)) (s_cons (s_asg (r_op k_mod (r_op k_mul (r_op k_add (r_ix (x_ix un) (r_var 0) r_int) r_int) (r_op k_add (r_op k_mul (r_var 3) (r_var 3)) r_int)) (r_ix (x_ix un) (r_var 4) (r_op k_mod (r_var 3) r_int))) (t_name 5 nd)) (s_cons (s_asg (r_op k_mod (r_op k_add (r_op k_add (r_op k_mul (r_var 5) (r_var 5)) (r_op k_mul r_int (r_var 3))) r_int) (r_ix (x_ix un) (r_var 4) (r_op k_mod (r_op k_add (r_var 3) r_int) r_int))) (t_name 5 nd)) (s_one (s_ret (r_op k_mod (r_op k_fdiv (r_op k_mod (r_op k_mul (r_var 5) (r_op k_add (r_var 5) r_int)) r_int) r_int) (r_var 1)))))))))), law⟩
/-! ### Hall.__eq__ -/
theorem sc_Hall___eq__ : FnScope N_Hall___eq__ ps_Hall___eq__ (defScope (inClass (top 34) 33)) := ⟨rfl, rfl, rfl, by decide +kernel, rfl, by decide +kernel, by decide +kernel⟩
theorem walk_Hall___eq__ {P : Program} {w : World} {K : PySem.W.Frag} {mg : Str → Option Value} {base : Heap} {f : Addr} {fd : FuncData} {dvs : List V} {kws : List (Str × V)} (sm : SM K) (M : MG K mg) (tab : TabOk K TT) (insk : InsK K "Hall")
    (F : FunD K "__eq__" "Hall.__eq__" (defArgs (inClass (top 34) 33)) (defBody (inClass (top 34) 33)) (defScope (inClass (top 34) 33)) dvs kws f fd)
    (law : ∀ us G Q p, Closed G → sp_Hall___eq__ us G Q p → ph_Hall___eq__ (startU N_Hall___eq__ us) G { nx := fun _ G1 => ∃ G', Left G.length (.d .none) G1 G' ∧ Q (.d .none) G', rt := fun u G1 => ∃ G', Left G.length u G1 G' ∧ Q u G', ex := fun x _ G' => p x G' })
    (len : ∀ us G Q p, sp_Hall___eq__ us G Q p → us.length = ps_Hall___eq__.length) : FnG P w K mg base 1 f fd ps_Hall___eq__ sp_Hall___eq__ :=
  FnG.mk' F sc_Hall___eq__ len fun cdv A outer s H E hr gd => by
    have un := hr.un
    have un : (A.deeper (envOfC "Hall.__eq__" (defScope (inClass (top 34) 33)) s.heap.objs.size f cdv)).units + 64 < cLine := by omega
    have ca : (cxOf (L2.CX P w) P w K mg base N_Hall___eq__ "Hall.__eq__" (defScope (inClass (top 34) 33)) f cdv A outer s H E).calm = true := rfl
    have nd := sc_Hall___eq__.nd
    have tk : Takes (cxOf (L2.CX P w) P w K mg base N_Hall___eq__ "Hall.__eq__" (defScope (inClass (top 34) 33)) f cdv A outer s H E) (fun c d _ H' => E c d H') := takes_of rfl rfl rfl rfl
    have hp := passes_of (X := cxOf (L2.CX P w) P w K mg base N_Hall___eq__ "Hall.__eq__" (defScope (inClass (top 34) 33)) f cdv A outer s H E) rfl
    exact ⟨ph_Hall___eq__, (s_cons (s_if (r_or (r_not (r_tval (r_isC insk M.b_isinstance M.g_Hall M.k_Hall (r_var 1)))) (r_or1 (r_tcmp (k_ne sm un) (r_tup (r_acons (r_fld tab (r_var 0)) (r_acons (r_fld tab (r_var 0)) (r_acons (r_fld tab (r_var 0)) r_anil)))) (r_tup (r_acons (r_fld tab (r_var 1)) (r_acons (r_fld tab (r_var 1)) (r_acons (r_fld tab (r_var 1)) r_anil))))))).pt (s_one (s_ret r_bl)) s_nil) (s_one (s_ret (r_cmp (k_eq sm un) (r_fld tab (r_var 0)) (r_fld tab (r_var 1)))))), law⟩
/-! ### Hall.log -/
theorem sc_Hall_log : FnScope N_Hall_log ps_Hall_log (defScope (inClass (top 34) 29)) := ⟨rfl, rfl, rfl, by decide +kernel, rfl, by decide +kernel, by decide +kernel⟩
theorem walk_Hall_log {P : Program} {w : World} {K : PySem.W.Frag} {mg : Str → Option Value} {base : Heap} {f : Addr} {fd : FuncData} {dvs : List V} {kws : List (Str × V)} (sm : SM K) (M : MG K mg) (tab : TabOk K TT) (insk : InsK K "Hall")
    (F : FunD K "log" "Hall.log" (defArgs (inClass (top 34) 29)) (defBody (inClass (top 34) 29)) (defScope (inClass (top 34) 29)) dvs kws f fd)
    (law : ∀ us G Q p, Closed G → sp_Hall_log us G Q p → ph_Hall_log (startU N_Hall_log us) G { nx := fun _ G1 => ∃ G', Left G.length (.d .none) G1 G' ∧ Q (.d .none) G', rt := fun u G1 => ∃ G', Left G.length u G1 G' ∧ Q u G', ex := fun x _ G' => p x G' })
    (len : ∀ us G Q p, sp_Hall_log us G Q p → us.length = ps_Hall_log.length) : FnG P w K mg base 1 f fd ps_Hall_log sp_Hall_log :=
  FnG.mk' F sc_Hall_log len fun cdv A outer s H E hr gd => by
    have un := hr.un
    have un : (A.deeper (envOfC "Hall.log" (defScope (inClass (top 34) 29)) s.heap.objs.size f cdv)).units + 64 < cLine := by omega
    have ca : (cxOf (L2.CX P w) P w K mg base N_Hall_log "Hall.log" (defScope (inClass (top 34) 29)) f cdv A outer s H E).calm = true := rfl
    have nd := sc_Hall_log.nd
    have tk : Takes (cxOf (L2.CX P w) P w K mg base N_Hall_log "Hall.log" (defScope (inClass (top 34) 29)) f cdv A outer s H E) (fun c d _ H' => E c d H') := takes_of rfl rfl rfl rfl
    have hp := passes_of (X := cxOf (L2.CX P w) P w K mg base N_Hall_log "Hall.log" (defScope (inClass (top 34) 29)) f cdv A outer s H E) rfl
    exact ⟨ph_Hall_log, (s_one (s_ret (r_callTy c_tuple M.b_tuple (r_acons (r_fld tab (r_var 0)) r_anil)))), law⟩
/-! ### Hall.twin -/
theorem sc_Hall_twin : FnScope N_Hall_twin ps_Hall_twin (defScope (inClass (top 34) 31)) := ⟨rfl, rfl, rfl, by decide +kernel, rfl, by decide +kernel, by decide +kernel⟩
theorem walk_Hall_twin {P : Program} {w : World} {K : PySem.W.Frag} {mg : Str → Option Value} {base : Heap} {f : Addr} {fd : FuncData} {dvs : List V} {kws : List (Str × V)} (sm : SM K) (M : MG K mg) (tab : TabOk K TT) (insk : InsK K "Hall") (c_Hall___init__ : CallC P w K mg base 7 "Hall" 2 [] uDfl sp_Hall___init__) (c_Hall___init__K : CallC P w K mg base 7 "Hall" 2 ["room", "weak"] uKw sp_Hall___init__)
    (F : FunD K "twin" "Hall.twin" (defArgs (inClass (top 34) 31)) (defBody (inClass (top 34) 31)) (defScope (inClass (top 34) 31)) dvs kws f fd)
    (law : ∀ us G Q p, Closed G → sp_Hall_twin us G Q p → ph_Hall_twin (startU N_Hall_twin us) G { nx := fun _ G1 => ∃ G', Left G.length (.d .none) G1 G' ∧ Q (.d .none) G', rt := fun u G1 => ∃ G', Left G.length u G1 G' ∧ Q u G', ex := fun x _ G' => p x G' })
    (len : ∀ us G Q p, sp_Hall_twin us G Q p → us.length = ps_Hall_twin.length) : FnG P w K mg base 9 f fd ps_Hall_twin sp_Hall_twin :=
  FnG.mk' F sc_Hall_twin len fun cdv A outer s H E hr gd => by
    have un := hr.un
    have un : (A.deeper (envOfC "Hall.twin" (defScope (inClass (top 34) 31)) s.heap.objs.size f cdv)).units + 64 < cLine := by omega
    have ca : (cxOf (L2.CX P w) P w K mg base N_Hall_twin "Hall.twin" (defScope (inClass (top 34) 31)) f cdv A outer s H E).calm = true := rfl
    have nd := sc_Hall_twin.nd
    have tk : Takes (cxOf (L2.CX P w) P w K mg base N_Hall_twin "Hall.twin" (defScope (inClass (top 34) 31)) f cdv A outer s H E) (fun c d _ H' => E c d H') := takes_of rfl rfl rfl rfl
    have hp := passes_of (X := cxOf (L2.CX P w) P w K mg base N_Hall_twin "Hall.twin" (defScope (inClass (top 34) 31)) f cdv A outer s H E) rfl
    exact ⟨ph_Hall_twin, (s_cons (s_asg (r_callCK c_Hall___init__K (by decide) hr gd tk (r_acons (r_fld tab (r_var 0)) r_anil) (r_kcons (r_fld tab (r_var 0)) (r_kcons (r_fld tab (r_var 0)) r_knil))) (t_name 1 nd)) (s_cons (s_unp (n := 3) ca (r_acons (r_fld tab (r_var 0)) (r_acons (r_fld tab (r_var 0)) (r_acons (r_fld tab (r_var 0)) r_anil))) (t_cons (t_fld (W := W0) tab (r_var 1)) (t_cons (t_fld (W := W0) tab (r_var 1)) (t_cons (t_fld (W := W0) tab (r_var 1)) t_nil)))) (s_cons (s_unp (n := 2) ca (r_acons (r_fld tab (r_var 0)) (r_acons (r_callTy c_listH M.b_list (r_acons (r_fld tab (r_var 0)) r_anil)) r_anil)) (t_cons (t_fld (W := W0) tab (r_var 1)) (t_cons (t_fld (W := W0) tab (r_var 1)) t_nil))) (s_one (s_ret (r_var 1)))))), law⟩
/-! ### Hall.__len__ -/
theorem sc_Hall___len__ : FnScope N_Hall___len__ ps_Hall___len__ (defScope (inClass (top 34) 34)) := ⟨rfl, rfl, rfl, by decide +kernel, rfl, by decide +kernel, by decide +kernel⟩
theorem walk_Hall___len__ {P : Program} {w : World} {K : PySem.W.Frag} {mg : Str → Option Value} {base : Heap} {f : Addr} {fd : FuncData} {dvs : List V} {kws : List (Str × V)} (sm : SM K) (M : MG K mg) (tab : TabOk K TT) (insk : InsK K "Hall")
    (F : FunD K "__len__" "Hall.__len__" (defArgs (inClass (top 34) 34)) (defBody (inClass (top 34) 34)) (defScope (inClass (top 34) 34)) dvs kws f fd)
    (law : ∀ us G Q p, Closed G → sp_Hall___len__ us G Q p → ph_Hall___len__ (startU N_Hall___len__ us) G { nx := fun _ G1 => ∃ G', Left G.length (.d .none) G1 G' ∧ Q (.d .none) G', rt := fun u G1 => ∃ G', Left G.length u G1 G' ∧ Q u G', ex := fun x _ G' => p x G' })
    (len : ∀ us G Q p, sp_Hall___len__ us G Q p → us.length = ps_Hall___len__.length) : FnG P w K mg base 1 f fd ps_Hall___len__ sp_Hall___len__ :=
  FnG.mk' F sc_Hall___len__ len fun cdv A outer s H E hr gd => by
    have un := hr.un
    have un : (A.deeper (envOfC "Hall.__len__" (defScope (inClass (top 34) 34)) s.heap.objs.size f cdv)).units + 64 < cLine := by omega
    have ca : (cxOf (L2.CX P w) P w K mg base N_Hall___len__ "Hall.__len__" (defScope (inClass (top 34) 34)) f cdv A outer s H E).calm = true := rfl
    have nd := sc_Hall___len__.nd
    have tk : Takes (cxOf (L2.CX P w) P w K mg base N_Hall___len__ "Hall.__len__" (defScope (inClass (top 34) 34)) f cdv A outer s H E) (fun c d _ H' => E c d H') := takes_of rfl rfl rfl rfl
    have hp := passes_of (X := cxOf (L2.CX P w) P w K mg base N_Hall___len__ "Hall.__len__" (defScope (inClass (top 34) 34)) f cdv A outer s H E) rfl
    exact ⟨ph_Hall___len__, (s_one (s_ret (r_callB c_len M.b_len (r_acons (r_fld tab (r_var 0)) r_anil)))), law⟩
/-! ### Hall.fallen -/
theorem sc_Hall_fallen : FnScope N_Hall_fallen ps_Hall_fallen (defScope (inClass (top 34) 26)) := ⟨rfl, rfl, rfl, by decide +kernel, rfl, by decide +kernel, by decide +kernel⟩
theorem walk_Hall_fallen {P : Program} {w : World} {K : PySem.W.Frag} {mg : Str → Option Value} {base : Heap} {f : Addr} {fd : FuncData} {dvs : List V} {kws : List (Str × V)} (sm : SM K) (M : MG K mg) (tab : TabOk K TT) (insk : InsK K "Hall")
    (F : FunD K "fallen" "Hall.fallen" (defArgs (inClass (top 34) 26)) (defBody (inClass (top 34) 26)) (defScope (inClass (top 34) 26)) dvs kws f fd)
    (law : ∀ us G Q p, Closed G → sp_Hall_fallen us G Q p → ph_Hall_fallen (startU N_Hall_fallen us) G { nx := fun _ G1 => ∃ G', Left G.length (.d .none) G1 G' ∧ Q (.d .none) G', rt := fun u G1 => ∃ G', Left G.length u G1 G' ∧ Q u G', ex := fun x _ G' => p x G' })
    (len : ∀ us G Q p, sp_Hall_fallen us G Q p → us.length = ps_Hall_fallen.length) : FnG P w K mg base 1 f fd ps_Hall_fallen sp_Hall_fallen :=
  FnG.mk' F sc_Hall_fallen len fun cdv A outer s H E hr gd => by
    have un := hr.un
    have un : (A.deeper (envOfC "Hall.fallen" (defScope (inClass (top 34) 26)) s.heap.objs.size f cdv)).units + 64 < cLine := by omega
    have ca : (cxOf (L2.CX P w) P w K mg base N_Hall_fallen "Hall.fallen" (defScope (inClass (top 34) 26)) f cdv A outer s H E).calm = true := rfl
    have nd := sc_Hall_fallen.nd
    have tk : Takes (cxOf (L2.CX P w) P w K mg base N_Hall_fallen "Hall.fallen" (defScope (inClass (top 34) 26)) f cdv A outer s H E) (fun c d _ H' => E c d H') := takes_of rfl rfl rfl rfl
    have hp := passes_of (X := cxOf (L2.CX P w) P w K mg base N_Hall_fallen "Hall.fallen" (defScope (inClass (top 34) 26)) f cdv A outer s H E) rfl
    exact ⟨ph_Hall_fallen, (s_one (s_ret (r_fld tab (r_var 0)))), law⟩
/-! ### Hall.is_done -/
theorem sc_Hall_is_done : FnScope N_Hall_is_done ps_Hall_is_done (defScope (inClass (top 34) 23)) := ⟨rfl, rfl, rfl, by decide +kernel, rfl, by decide +kernel, by decide +kernel⟩
theorem walk_Hall_is_done {P : Program} {w : World} {K : PySem.W.Frag} {mg : Str → Option Value} {base : Heap} {f : Addr} {fd : FuncData} {dvs : List V} {kws : List (Str × V)} (sm : SM K) (M : MG K mg) (tab : TabOk K TT) (insk : InsK K "Hall") (c_Hall_need_hand : CallM P w K mg base 2 "Hall" "need_hand" 2 sp_Hall_need_hand)
    (F : FunD K "is_done" "Hall.is_done" (defArgs (inClass (top 34) 23)) (defBody (inClass (top 34) 23)) (defScope (inClass (top 34) 23)) dvs kws f fd)
    (law : ∀ us G Q p, Closed G → sp_Hall_is_done us G Q p → ph_Hall_is_done (startU N_Hall_is_done us) G { nx := fun _ G1 => ∃ G', Left G.length (.d .none) G1 G' ∧ Q (.d .none) G', rt := fun u G1 => ∃ G', Left G.length u G1 G' ∧ Q u G', ex := fun x _ G' => p x G' })
    (len : ∀ us G Q p, sp_Hall_is_done us G Q p → us.length = ps_Hall_is_done.length) : FnG P w K mg base 3 f fd ps_Hall_is_done sp_Hall_is_done :=
  FnG.mk' F sc_Hall_is_done len fun cdv A outer s H E hr gd => by
    have un := hr.un
    have un : (A.deeper (envOfC "Hall.is_done" (defScope (inClass (top 34) 23)) s.heap.objs.size f cdv)).units + 64 < cLine := by omega
    have ca : (cxOf (L2.CX P w) P w K mg base N_Hall_is_done "Hall.is_done" (defScope (inClass (top 34) 23)) f cdv A outer s H E).calm = true := rfl
    have nd := sc_Hall_is_done.nd
    have tk : Takes (cxOf (L2.CX P w) P w K mg base N_Hall_is_done "Hall.is_done" (defScope (inClass (top 34) 23)) f cdv A outer s H E) (fun c d _ H' => E c d H') := takes_of rfl rfl rfl rfl
    have hp := passes_of (X := cxOf (L2.CX P w) P w K mg base N_Hall_is_done "Hall.is_done" (defScope (inClass (top 34) 23)) f cdv A outer s H E) rfl
    exact ⟨ph_Hall_is_done, (s_cons (s_expr (r_callM c_Hall_need_hand (by decide) hr gd tk (r_var 0) (r_acons (r_var 1) r_anil))) (s_one (s_ret (r_cmp (k_eq sm un) (r_ix (x_ix un) (r_ix (x_ix un) (r_fld tab (r_var 0)) (r_var 1)) (r_ix (x_ix un) (r_fld tab (r_var 0)) (r_var 1))) (r_tup r_anil))))), law⟩
end K36
/-! ## part W6 -/
namespace K36
open PySem PySem.Spec
open PyProof.Rows hiding St
open L2 R
/-! ### Hall.state_of -/
theorem sc_Hall_state_of : FnScope N_Hall_state_of ps_Hall_state_of (defScope (inClass (top 34) 22)) := ⟨rfl, rfl, rfl, by decide +kernel, rfl, by decide +kernel, by decide +kernel⟩
theorem walk_Hall_state_of {P : Program} {w : World} {K : PySem.W.Frag} {mg : Str → Option Value} {base : Heap} {f : Addr} {fd : FuncData} {dvs : List V} {kws : List (Str × V)} (sm : SM K) (M : MG K mg) (tab : TabOk K TT) (insk : InsK K "Hall") (c_Hall_need_hand : CallM P w K mg base 2 "Hall" "need_hand" 2 sp_Hall_need_hand)
    (F : FunD K "state_of" "Hall.state_of" (defArgs (inClass (top 34) 22)) (defBody (inClass (top 34) 22)) (defScope (inClass (top 34) 22)) dvs kws f fd)
    (law : ∀ us G Q p, Closed G → sp_Hall_state_of us G Q p → ph_Hall_state_of (startU N_Hall_state_of us) G { nx := fun _ G1 => ∃ G', Left G.length (.d .none) G1 G' ∧ Q (.d .none) G', rt := fun u G1 => ∃ G', Left G.length u G1 G' ∧ Q u G', ex := fun x _ G' => p x G' })
    (len : ∀ us G Q p, sp_Hall_state_of us G Q p → us.length = ps_Hall_state_of.length) : FnG P w K mg base 3 f fd ps_Hall_state_of sp_Hall_state_of :=
  FnG.mk' F sc_Hall_state_of len fun cdv A outer s H E hr gd => by
    have un := hr.un
    have un : (A.deeper (envOfC "Hall.state_of" (defScope (inClass (top 34) 22)) s.heap.objs.size f cdv)).units + 64 < cLine := by omega
    have ca : (cxOf (L2.CX P w) P w K mg base N_Hall_state_of "Hall.state_of" (defScope (inClass (top 34) 22)) f cdv A outer s H E).calm = true := rfl
    have nd := sc_Hall_state_of.nd
    have tk : Takes (cxOf (L2.CX P w) P w K mg base N_Hall_state_of "Hall.state_of" (defScope (inClass (top 34) 22)) f cdv A outer s H E) (fun c d _ H' => E c d H') := takes_of rfl rfl rfl rfl
    have hp := passes_of (X := cxOf (L2.CX P w) P w K mg base N_Hall_state_of "Hall.state_of" (defScope (inClass (top 34) 22)) f cdv A outer s H E) rfl
    exact ⟨ph_Hall_state_of, (s_cons (s_expr (r_callM c_Hall_need_hand (by decide) hr gd tk (r_var 0) (r_acons (r_var 1) r_anil))) (s_one (s_ret (r_ix (x_ix un) (r_fld tab (r_var 0)) (r_var 1))))), law⟩
/-! ### Hall.under_way -/
theorem sc_Hall_under_way : FnScope N_Hall_under_way ps_Hall_under_way (defScope (inClass (top 34) 28)) := ⟨rfl, rfl, rfl, by decide +kernel, rfl, by decide +kernel, by decide +kernel⟩
theorem walk_Hall_under_way {P : Program} {w : World} {K : PySem.W.Frag} {mg : Str → Option Value} {base : Heap} {f : Addr} {fd : FuncData} {dvs : List V} {kws : List (Str × V)} (sm : SM K) (M : MG K mg) (tab : TabOk K TT) (insk : InsK K "Hall")
    (F : FunD K "under_way" "Hall.under_way" (defArgs (inClass (top 34) 28)) (defBody (inClass (top 34) 28)) (defScope (inClass (top 34) 28)) dvs kws f fd)
    (law : ∀ us G Q p, Closed G → sp_Hall_under_way us G Q p → ph_Hall_under_way (startU N_Hall_under_way us) G { nx := fun _ G1 => ∃ G', Left G.length (.d .none) G1 G' ∧ Q (.d .none) G', rt := fun u G1 => ∃ G', Left G.length u G1 G' ∧ Q u G', ex := fun x _ G' => p x G' })
    (len : ∀ us G Q p, sp_Hall_under_way us G Q p → us.length = ps_Hall_under_way.length) : FnG P w K mg base 1 f fd ps_Hall_under_way sp_Hall_under_way :=
  FnG.mk' F sc_Hall_under_way len fun cdv A outer s H E hr gd => by
    have un := hr.un
    have un : (A.deeper (envOfC "Hall.under_way" (defScope (inClass (top 34) 28)) s.heap.objs.size f cdv)).units + 64 < cLine := by omega
    have ca : (cxOf (L2.CX P w) P w K mg base N_Hall_under_way "Hall.under_way" (defScope (inClass (top 34) 28)) f cdv A outer s H E).calm = true := rfl
    have nd := sc_Hall_under_way.nd
    have tk : Takes (cxOf (L2.CX P w) P w K mg base N_Hall_under_way "Hall.under_way" (defScope (inClass (top 34) 28)) f cdv A outer s H E) (fun c d _ H' => E c d H') := takes_of rfl rfl rfl rfl
    have hp := passes_of (X := cxOf (L2.CX P w) P w K mg base N_Hall_under_way "Hall.under_way" (defScope (inClass (top 34) 28)) f cdv A outer s H E) rfl
    exact ⟨ph_Hall_under_way, (s_one (s_ret (e_val (r_dc un ca nd (blkOk_by (N := N_Hall_under_way) (sc := defScope (inClass (top 34) 28)) (own := [("pair", 1)]) (by decide +kernel)) (i_seq (r_callB (c_sorted sm ca un) M.b_sorted (r_acons (r_fld tab (r_var 0)) r_anil))) (fun _ _ _ _ _ => (c_name 1 nd)) (fun _ _ _ _ _ => p_none) (fun _ _ _ _ _ => (r_var 1)) (fun _ _ _ _ _ => (r_ix (x_ix un) (r_fld tab (r_var 0)) (r_var 1))))))), law⟩
/-! ### Hall.view_of -/
theorem sc_Hall_view_of : FnScope N_Hall_view_of ps_Hall_view_of (defScope (inClass (top 34) 24)) := ⟨rfl, rfl, rfl, by decide +kernel, rfl, by decide +kernel, by decide +kernel⟩
theorem walk_Hall_view_of {P : Program} {w : World} {K : PySem.W.Frag} {mg : Str → Option Value} {base : Heap} {f : Addr} {fd : FuncData} {dvs : List V} {kws : List (Str × V)} (sm : SM K) (M : MG K mg) (tab : TabOk K TT) (insk : InsK K "Hall") (c_Hall_need_hand : CallM P w K mg base 2 "Hall" "need_hand" 2 sp_Hall_need_hand)
    (F : FunD K "view_of" "Hall.view_of" (defArgs (inClass (top 34) 24)) (defBody (inClass (top 34) 24)) (defScope (inClass (top 34) 24)) dvs kws f fd)
    (law : ∀ us G Q p, Closed G → sp_Hall_view_of us G Q p → ph_Hall_view_of (startU N_Hall_view_of us) G { nx := fun _ G1 => ∃ G', Left G.length (.d .none) G1 G' ∧ Q (.d .none) G', rt := fun u G1 => ∃ G', Left G.length u G1 G' ∧ Q u G', ex := fun x _ G' => p x G' })
    (len : ∀ us G Q p, sp_Hall_view_of us G Q p → us.length = ps_Hall_view_of.length) : FnG P w K mg base 3 f fd ps_Hall_view_of sp_Hall_view_of :=
  FnG.mk' F sc_Hall_view_of len fun cdv A outer s H E hr gd => by
    have un := hr.un
    have un : (A.deeper (envOfC "Hall.view_of" (defScope (inClass (top 34) 24)) s.heap.objs.size f cdv)).units + 64 < cLine := by omega
    have ca : (cxOf (L2.CX P w) P w K mg base N_Hall_view_of "Hall.view_of" (defScope (inClass (top 34) 24)) f cdv A outer s H E).calm = true := rfl
    have nd := sc_Hall_view_of.nd
    have tk : Takes (cxOf (L2.CX P w) P w K mg base N_Hall_view_of "Hall.view_of" (defScope (inClass (top 34) 24)) f cdv A outer s H E) (fun c d _ H' => E c d H') := takes_of rfl rfl rfl rfl
    have hp := passes_of (X := cxOf (L2.CX P w) P w K mg base N_Hall_view_of "Hall.view_of" (defScope (inClass (top 34) 24)) f cdv A outer s H E) rfl
    exact ⟨ph_Hall_view_of, (s_cons (s_expr (r_callM c_Hall_need_hand (by decide) hr gd tk (r_var 0) (r_acons (r_var 1) r_anil))) (s_one (s_ret (r_callTy c_tuple M.b_tuple (r_acons (e_val (r_lc ca nd (blkOk_by (N := N_Hall_view_of) (sc := defScope (inClass (top 34) 24)) (own := [("row", 2)]) (by decide +kernel)) (i_seq (r_fld tab (r_var 0))) (fun _ _ _ _ _ => (c_name 2 nd)) (fun _ _ _ _ _ => (p_one (r_and (r_tcmp (k_eq sm un) (r_ix (x_ix un) (r_var 2) r_int) (r_var 1)) (r_and1 (r_tcmp (k_ne sm un) (r_ix (x_ix un) (r_var 2) r_int) r_str))).pt)) (fun _ _ _ _ _ => (r_tup (r_acons (r_ix (x_ix un) (r_var 2) r_int) (r_acons (r_ix (x_ix un) (r_var 2) r_int) (r_acons (r_ix (x_ix un) (r_var 2) r_int) r_anil))))))) r_anil))))), law⟩
/-! ### Hall.views -/
theorem sc_Hall_views : FnScope N_Hall_views ps_Hall_views (defScope (inClass (top 34) 25)) := ⟨rfl, rfl, rfl, by decide +kernel, rfl, by decide +kernel, by decide +kernel⟩
theorem walk_Hall_views {P : Program} {w : World} {K : PySem.W.Frag} {mg : Str → Option Value} {base : Heap} {f : Addr} {fd : FuncData} {dvs : List V} {kws : List (Str × V)} (sm : SM K) (M : MG K mg) (tab : TabOk K TT) (insk : InsK K "Hall") (c_Hall_view_of : CallM P w K mg base 3 "Hall" "view_of" 2 sp_Hall_view_of)
    (F : FunD K "views" "Hall.views" (defArgs (inClass (top 34) 25)) (defBody (inClass (top 34) 25)) (defScope (inClass (top 34) 25)) dvs kws f fd)
    (law : ∀ us G Q p, Closed G → sp_Hall_views us G Q p → ph_Hall_views (startU N_Hall_views us) G { nx := fun _ G1 => ∃ G', Left G.length (.d .none) G1 G' ∧ Q (.d .none) G', rt := fun u G1 => ∃ G', Left G.length u G1 G' ∧ Q u G', ex := fun x _ G' => p x G' })
    (len : ∀ us G Q p, sp_Hall_views us G Q p → us.length = ps_Hall_views.length) : FnG P w K mg base 4 f fd ps_Hall_views sp_Hall_views :=
  FnG.mk' F sc_Hall_views len fun cdv A outer s H E hr gd => by
    have un := hr.un
    have un : (A.deeper (envOfC "Hall.views" (defScope (inClass (top 34) 25)) s.heap.objs.size f cdv)).units + 64 < cLine := by omega
    have ca : (cxOf (L2.CX P w) P w K mg base N_Hall_views "Hall.views" (defScope (inClass (top 34) 25)) f cdv A outer s H E).calm = true := rfl
    have nd := sc_Hall_views.nd
    have tk : Takes (cxOf (L2.CX P w) P w K mg base N_Hall_views "Hall.views" (defScope (inClass (top 34) 25)) f cdv A outer s H E) (fun c d _ H' => E c d H') := takes_of rfl rfl rfl rfl
    have hp := passes_of (X := cxOf (L2.CX P w) P w K mg base N_Hall_views "Hall.views" (defScope (inClass (top 34) 25)) f cdv A outer s H E) rfl
    exact ⟨ph_Hall_views, (s_one (s_ret (e_val (r_dc un ca nd (blkOk_by (N := N_Hall_views) (sc := defScope (inClass (top 34) 25)) (own := [("hand", 1)]) (by decide +kernel)) (i_seq (r_fld tab (r_var 0))) (fun _ _ _ _ _ => (c_name 1 nd)) (fun _ _ _ _ _ => p_none) (fun _ _ _ _ _ => (r_var 1)) (fun _ _ _ _ _ => (r_callM c_Hall_view_of (by decide) hr gd R.takes0 (r_var 0) (r_acons (r_var 1) r_anil))))))), law⟩
/-! ### _law_told -/
theorem sc__law_told : FnScope N__law_told ps__law_told (defScope (top 43)) := ⟨rfl, rfl, rfl, by decide +kernel, rfl, by decide +kernel, by decide +kernel⟩
theorem walk__law_told {P : Program} {w : World} {K : PySem.W.Frag} {mg : Str → Option Value} {base : Heap} {f : Addr} {fd : FuncData} {dvs : List V} {kws : List (Str × V)} (sm : SM K) (M : MG K mg) (tab : TabOk K TT) (insk : InsK K "Hall") (c_Hall_views : CallM P w K mg base 4 "Hall" "views" 1 sp_Hall_views) (c_Hall_is_done : CallM P w K mg base 3 "Hall" "is_done" 2 sp_Hall_is_done) (c_Hall_state_of : CallM P w K mg base 3 "Hall" "state_of" 2 sp_Hall_state_of) (c_Hall___len__ : CallS P w K mg base 1 "Hall" "__len__" 1 sp_Hall___len__) (c_Hall_log : CallM P w K mg base 1 "Hall" "log" 1 sp_Hall_log) (c_Hall_fallen : CallM P w K mg base 1 "Hall" "fallen" 1 sp_Hall_fallen) (c_Hall_under_way : CallM P w K mg base 1 "Hall" "under_way" 1 sp_Hall_under_way) (c_Hall_can_do : CallM P w K mg base 4 "Hall" "can_do" 1 sp_Hall_can_do)
    (F : FunD K "_law_told" "_law_told" (defArgs (top 43)) (defBody (top 43)) (defScope (top 43)) dvs kws f fd)
    (law : ∀ us G Q p, Closed G → sp__law_told us G Q p → ph__law_told (startU N__law_told us) G { nx := fun _ G1 => ∃ G', Left G.length (.d .none) G1 G' ∧ Q (.d .none) G', rt := fun u G1 => ∃ G', Left G.length u G1 G' ∧ Q u G', ex := fun x _ G' => p x G' })
    (len : ∀ us G Q p, sp__law_told us G Q p → us.length = ps__law_told.length) : FnG P w K mg base 5 f fd ps__law_told sp__law_told :=
  FnG.mk' F sc__law_told len fun cdv A outer s H E hr gd => by
    have un := hr.un
    have un : (A.deeper (envOfC "_law_told" (defScope (top 43)) s.heap.objs.size f cdv)).units + 64 < cLine := by omega
    have ca : (cxOf (L2.CX P w) P w K mg base N__law_told "_law_told" (defScope (top 43)) f cdv A outer s H E).calm = true := rfl
    have nd := sc__law_told.nd
    have tk : Takes (cxOf (L2.CX P w) P w K mg base N__law_told "_law_told" (defScope (top 43)) f cdv A outer s H E) (fun c d _ H' => E c d H') := takes_of rfl rfl rfl rfl
    have hp := passes_of (X := cxOf (L2.CX P w) P w K mg base N__law_told "_law_told" (defScope (top 43)) f cdv A outer s H E) rfl
    exact ⟨ph__law_told, (s_cons (s_setLcF 1 ca nd (blkOk_by (N := N__law_told) (sc := defScope (top 43)) (own := [("who", 2)]) (by decide +kernel)) (i_seq (r_callM0 c_Hall_views (by decide) hr gd tk (r_var 0))) (fun _ _ _ _ _ => (c_name 2 nd)) (fun _ _ _ _ _ => p_none) (fun _ _ _ _ _ => (r_tup (r_acons (r_var 2) (r_acons (r_callM c_Hall_state_of (by decide) hr gd R.takes0 (r_var 0) (r_acons (r_var 2) r_anil)) (r_acons (r_callM c_Hall_is_done (by decide) hr gd R.takes0 (r_var 0) (r_acons (r_var 2) r_anil)) r_anil)))))) (s_one (s_ret (r_callB (c_repr sm gd un) M.b_repr (r_acons (r_tup (r_acons (r_callM0 c_Hall_can_do (by decide) hr gd tk (r_var 0)) (r_acons (r_callM0 c_Hall_under_way (by decide) hr gd tk (r_var 0)) (r_acons (r_callM0 c_Hall_views (by decide) hr gd tk (r_var 0)) (r_acons (r_callM0 c_Hall_fallen (by decide) hr gd tk (r_var 0)) (r_acons (r_var 1) (r_acons (r_callB (c_sorted sm ca un) M.b_sorted (r_acons (r_callM0 c_Hall_log (by decide) hr gd tk (r_var 0)) r_anil)) (r_acons (r_callS c_Hall___len__ (by decide) hr gd tk M.b_len (r_acons (r_var 0) r_anil)) r_anil)))))))) r_anil))))), law⟩
/-! ### _law_either_right -/
theorem sc__law_either_right : FnScope N__law_either_right ps__law_either_right (defScope (top 45)) := ⟨rfl, rfl, rfl, by decide +kernel, rfl, by decide +kernel, by decide +kernel⟩
theorem walk__law_either_right {P : Program} {w : World} {K : PySem.W.Frag} {mg : Str → Option Value} {base : Heap} {f : Addr} {fd : FuncData} {dvs : List V} {kws : List (Str × V)} (sm : SM K) (M : MG K mg) (tab : TabOk K TT) (insk : InsK K "Hall") (c_Hall_twin : CallM P w K mg base 9 "Hall" "twin" 1 sp_Hall_twin) (c_Hall_do : CallM P w K mg base 8 "Hall" "do" 2 sp_Hall_do) (c__law_told : CallD P w K mg base 5 "_law_told" 1 sp__law_told) (c_Hall___eq__ : CallS P w K mg base 1 "Hall" "__eq__" 2 sp_Hall___eq__) (c_Hall_log : CallM P w K mg base 1 "Hall" "log" 1 sp_Hall_log)
    (F : FunD K "_law_either_right" "_law_either_right" (defArgs (top 45)) (defBody (top 45)) (defScope (top 45)) dvs kws f fd)
    (law : ∀ us G Q p, Closed G → sp__law_either_right us G Q p → ph__law_either_right (startU N__law_either_right us) G { nx := fun _ G1 => ∃ G', Left G.length (.d .none) G1 G' ∧ Q (.d .none) G', rt := fun u G1 => ∃ G', Left G.length u G1 G' ∧ Q u G', ex := fun x _ G' => p x G' })
    (len : ∀ us G Q p, sp__law_either_right us G Q p → us.length = ps__law_either_right.length) : FnG P w K mg base 10 f fd ps__law_either_right sp__law_either_right :=
  FnG.mk' F sc__law_either_right len fun cdv A outer s H E hr gd => by
    have un := hr.un
    have un : (A.deeper (envOfC "_law_either_right" (defScope (top 45)) s.heap.objs.size f cdv)).units + 64 < cLine := by omega
    have ca : (cxOf (L2.CX P w) P w K mg base N__law_either_right "_law_either_right" (defScope (top 45)) f cdv A outer s H E).calm = true := rfl
    have nd := sc__law_either_right.nd
    have tk : Takes (cxOf (L2.CX P w) P w K mg base N__law_either_right "_law_either_right" (defScope (top 45)) f cdv A outer s H E) (fun c d _ H' => E c d H') := takes_of rfl rfl rfl rfl
    have hp := passes_of (X := cxOf (L2.CX P w) P w K mg base N__law_either_right "_law_either_right" (defScope (top 45)) f cdv A outer s H E) rfl
    exact ⟨ph__law_either_right, (s_cons (s_par (j := 3) (l := 4) ca nd (r_acons (r_callM0 c_Hall_twin (by decide) hr gd tk (r_var 0)) (r_acons (r_callM0 c_Hall_twin (by decide) hr gd tk (r_var 0)) r_anil))) (s_cons (s_asg (r_lst (r_acons (r_callM c_Hall_do (by decide) hr gd tk (r_var 3) (r_acons (r_var 1) r_anil)) (r_acons (r_callM c_Hall_do (by decide) hr gd tk (r_var 3) (r_acons (r_var 2) r_anil)) r_anil))) (t_name 5 nd)) (s_cons (s_if (r_or (r_tcmp (k_ne sm un) (r_lst (r_acons (r_callM c_Hall_do (by decide) hr gd tk (r_var 4) (r_acons (r_var 2) r_anil)) (r_acons (r_callM c_Hall_do (by decide) hr gd tk (r_var 4) (r_acons (r_var 1) r_anil)) r_anil))) (r_rev (r_var 5))) (r_or1 (r_tcmp (k_ne sm un) (r_callD c__law_told (by decide) hr gd tk (r_acons (r_var 3) r_anil)) (r_callD c__law_told (by decide) hr gd tk (r_acons (r_var 4) r_anil))))).pt (s_one (s_ret r_bl)) s_nil) (s_cons (s_if (r_or (r_tcmp k_isNot (r_cmp (k_eqS c_Hall___eq__ (by decide) hr gd) (r_var 3) (r_var 4)) r_bl) (r_or1 (r_tcmp k_isNot (r_cmp (k_eqS c_Hall___eq__ (by decide) hr gd) (r_var 3) (r_var 0)) r_bl))).pt (s_one (s_ret r_bl)) s_nil) (s_one (s_ret (r_andV (r_cmp (k_eq sm un) (r_callM0 c_Hall_log (by decide) hr gd tk (r_var 3)) (r_op k_add (r_callM0 c_Hall_log (by decide) hr gd tk (r_var 0)) (r_callTy c_tuple M.b_tuple (r_acons (r_var 5) r_anil)))) (r_one (r_cmp (k_eq sm un) (r_callM0 c_Hall_log (by decide) hr gd tk (r_var 4)) (r_op k_add (r_callM0 c_Hall_log (by decide) hr gd tk (r_var 0)) (r_callTy c_tuple M.b_tuple (r_acons (r_rev (r_var 5)) r_anil)))))))))))), law⟩
/-! ### _law_names -/
theorem sc__law_names : FnScope N__law_names ps__law_names (defScope (top 38)) := ⟨rfl, rfl, rfl, by decide +kernel, rfl, by decide +kernel, by decide +kernel⟩
theorem walk__law_names {P : Program} {w : World} {K : PySem.W.Frag} {mg : Str → Option Value} {base : Heap} {f : Addr} {fd : FuncData} {dvs : List V} {kws : List (Str × V)} (sm : SM K) (M : MG K mg) (tab : TabOk K TT) (insk : InsK K "Hall") (c__law_draw : CallD P w K mg base 1 "_law_draw" 2 sp__law_draw)
    (F : FunD K "_law_names" "_law_names" (defArgs (top 38)) (defBody (top 38)) (defScope (top 38)) dvs kws f fd)
    (law : ∀ us G Q p, Closed G → sp__law_names us G Q p → ph__law_names (startU N__law_names us) G { nx := fun _ G1 => ∃ G', Left G.length (.d .none) G1 G' ∧ Q (.d .none) G', rt := fun u G1 => ∃ G', Left G.length u G1 G' ∧ Q u G', ex := fun x _ G' => p x G' })
    (len : ∀ us G Q p, sp__law_names us G Q p → us.length = ps__law_names.length) : FnG P w K mg base 2 f fd ps__law_names sp__law_names :=
  FnG.mk' F sc__law_names len fun cdv A outer s H E hr gd => by
    have un := hr.un
    have un : (A.deeper (envOfC "_law_names" (defScope (top 38)) s.heap.objs.size f cdv)).units + 64 < cLine := by omega
    have ca : (cxOf (L2.CX P w) P w K mg base N__law_names "_law_names" (defScope (top 38)) f cdv A outer s H E).calm = true := rfl
    have nd := sc__law_names.nd
    have tk : Takes (cxOf (L2.CX P w) P w K mg base N__law_names "_law_names" (defScope (top 38)) f cdv A outer s H E) (fun c d _ H' => E c d H') := takes_of rfl rfl rfl rfl
    have hp := passes_of (X := cxOf (L2.CX P w) P w K mg base N__law_names "_law_names" (defScope (top 38)) f cdv A outer s H E) rfl
    exact ⟨ph__law_names, (s_cons (s_asg r_str (t_name 2 nd)) (s_cons (s_asg (r_callD c__law_draw (by decide) hr gd tk (r_acons (r_var 0) (r_acons r_int r_anil))) (t_name 3 nd)) (s_cons (s_asg (r_meth PySem.F.plainAttrs_str PySem.F.slot_str_join PySem.F.type_str_join m_join r_str (r_acons (e_val (r_lc ca nd (blkOk_by (N := N__law_names) (sc := defScope (top 38)) (own := [("turn", 11)]) (by decide +kernel)) (i_rng1 M.b_range (r_acons (r_ix (x_ix un) (r_lst (r_acons (r_op k_add r_int (r_callD c__law_draw (by decide) hr gd tk (r_acons (r_var 0) (r_acons r_int r_anil)))) (r_acons r_int (r_acons r_int r_anil)))) (r_var 3)) r_anil)) (fun _ _ _ _ _ => (c_name 11 nd)) (fun _ _ _ _ _ => p_none) (fun _ _ _ _ _ => (r_ix (x_ix un) (r_var 2) (r_callD c__law_draw (by decide) hr gd R.takes0 (r_acons (r_var 0) (r_acons r_int r_anil))))))) r_anil)) (t_name 4 nd)) (s_cons (s_asg (r_callD c__law_draw (by decide) hr gd tk (r_acons (r_var 0) (r_acons (r_callB c_len M.b_len (r_acons (r_var 4) r_anil)) r_anil))) (t_name 5 nd)) (s_cons (s_asg (r_callD c__law_draw (by decide) hr gd tk (r_acons (r_var 0) (r_acons r_int r_anil))) (t_name 6 nd)) (s_cons (s_asg (r_lstH r_anil) (t_name 7 nd)) (s_cons (s_for hp ca (i_rng1 M.b_range (r_acons (r_var 1) r_anil)) (t_name 8 nd) (s_scope (s_cons (s_asg (r_ix (x_ix un) (r_var 2) (r_op k_mod (r_op k_add (r_var 6) (r_op k_mul r_int (r_var 8))) r_int)) (t_name 9 nd)) (s_cons (s_asg (r_meth PySem.F.plainAttrs_str PySem.F.slot_str_join PySem.F.type_str_join m_join r_str (r_acons (e_val (r_lc ca nd (blkOk_by (N := N__law_names) (sc := defScope (top 38)) (own := [("turn", 11)]) (by decide +kernel)) (i_rng1 M.b_range (r_acons (r_op k_mul (r_callD c__law_draw (by decide) hr gd tk (r_acons (r_var 0) (r_acons r_int r_anil))) (r_callTy c_int M.b_int (r_acons (r_cmp (k_eq sm un) (r_var 3) r_int) r_anil))) r_anil)) (fun _ _ _ _ _ => (c_name 11 nd)) (fun _ _ _ _ _ => p_none) (fun _ _ _ _ _ => (r_ix (x_ix un) (r_var 2) (r_callD c__law_draw (by decide) hr gd R.takes0 (r_acons (r_var 0) (r_acons r_int r_anil))))))) r_anil)) (t_name 10 nd)) (s_one (s_expr (r_meth PySem.F.plainAttrs_list PySem.F.slot_list_append PySem.F.type_list_append m_append (r_var 7) (r_acons (r_ix (x_ix un) (r_lst (r_acons (r_op k_add (r_op k_add (r_slice (r_var 4) r_onone (r_osome (r_var 5))) (r_var 9)) (r_slice (r_var 4) (r_osome (r_op k_add (r_var 5) r_int)) r_onone)) (r_acons (r_slice (r_var 4) r_onone (r_osome (r_op k_add (r_op k_mod (r_op k_add (r_var 6) (r_var 8)) r_int) r_int))) (r_acons (r_op k_add (r_var 9) (r_var 10)) r_anil)))) (r_var 3)) r_anil)))))))) (s_one (s_ret (e_val (r_var 7))))))))))), law⟩
end K36
/-! ## part W7 -/
namespace K36
open PySem PySem.Spec
open PyProof.Rows hiding St
open L2 R
/-! ### _law_state -/
theorem sc__law_state : FnScope N__law_state ps__law_state (defScope (top 39)) := ⟨rfl, rfl, rfl, by decide +kernel, rfl, by decide +kernel, by decide +kernel⟩
theorem walk__law_state {P : Program} {w : World} {K : PySem.W.Frag} {mg : Str → Option Value} {base : Heap} {f : Addr} {fd : FuncData} {dvs : List V} {kws : List (Str × V)} (sm : SM K) (M : MG K mg) (tab : TabOk K TT) (insk : InsK K "Hall") (c__law_draw : CallD P w K mg base 1 "_law_draw" 2 sp__law_draw)
    (F : FunD K "_law_state" "_law_state" (defArgs (top 39)) (defBody (top 39)) (defScope (top 39)) dvs kws f fd)
    (law : ∀ us G Q p, Closed G → sp__law_state us G Q p → ph__law_state (startU N__law_state us) G { nx := fun _ G1 => ∃ G', Left G.length (.d .none) G1 G' ∧ Q (.d .none) G', rt := fun u G1 => ∃ G', Left G.length u G1 G' ∧ Q u G', ex := fun x _ G' => p x G' })
    (len : ∀ us G Q p, sp__law_state us G Q p → us.length = ps__law_state.length) : FnG P w K mg base 2 f fd ps__law_state sp__law_state :=
  FnG.mk' F sc__law_state len fun cdv A outer s H E hr gd => by
    have un := hr.un
    have un : (A.deeper (envOfC "_law_state" (defScope (top 39)) s.heap.objs.size f cdv)).units + 64 < cLine := by omega
    have ca : (cxOf (L2.CX P w) P w K mg base N__law_state "_law_state" (defScope (top 39)) f cdv A outer s H E).calm = true := rfl
    have nd := sc__law_state.nd
    have tk : Takes (cxOf (L2.CX P w) P w K mg base N__law_state "_law_state" (defScope (top 39)) f cdv A outer s H E) (fun c d _ H' => E c d H') := takes_of rfl rfl rfl rfl
    have hp := passes_of (X := cxOf (L2.CX P w) P w K mg base N__law_state "_law_state" (defScope (top 39)) f cdv A outer s H E) rfl
    exact ⟨ph__law_state, (s_cons (s_asg (r_callD c__law_draw (by decide) hr gd tk (r_acons (r_var 0) (r_acons r_int r_anil))) (t_name 4 nd)) (s_cons (s_asg (r_lstH r_anil) (t_name 5 nd)) (s_cons (s_if (r_tcmp (k_in sm un) (r_var 4) (r_tup (r_acons r_int (r_acons r_int (r_acons r_int (r_acons r_int r_anil)))))) (s_one (s_for hp ca (i_rng1 M.b_range (r_acons (r_op k_add r_int (r_callD c__law_draw (by decide) hr gd tk (r_acons (r_var 0) (r_acons r_int r_anil)))) r_anil)) (t_name 6 nd) (s_scope (s_cons (s_asg (r_ix (x_ix un) (r_var 1) (r_callD c__law_draw (by decide) hr gd tk (r_acons (r_var 0) (r_acons (r_callB c_len M.b_len (r_acons (r_var 1) r_anil)) r_anil)))) (t_name 7 nd)) (s_one (s_expr (r_meth PySem.F.plainAttrs_list PySem.F.slot_list_append PySem.F.type_list_append m_append (r_var 5) (r_acons (r_tup (r_acons r_str (r_acons (r_var 7) (r_acons (r_ix (x_ix un) (r_var 2) (r_callD c__law_draw (by decide) hr gd tk (r_acons (r_var 0) (r_acons (r_callB c_len M.b_len (r_acons (r_var 2) r_anil)) r_anil)))) (r_acons (r_callD c__law_draw (by decide) hr gd tk (r_acons (r_var 0) (r_acons (r_var 3) r_anil))) r_anil))))) r_anil)))))))) s_nil) (s_cons (s_if (r_tcmp k_gt (r_var 4) r_int) (s_one (s_for hp ca (i_rng1 M.b_range (r_acons (r_op k_add r_int (r_callD c__law_draw (by decide) hr gd tk (r_acons (r_var 0) (r_acons r_int r_anil)))) r_anil)) (t_name 6 nd) (s_scope (s_cons (s_asg (r_ix (x_ix un) (r_var 1) (r_callD c__law_draw (by decide) hr gd tk (r_acons (r_var 0) (r_acons (r_callB c_len M.b_len (r_acons (r_var 1) r_anil)) r_anil)))) (t_name 7 nd)) (s_one (s_for hp ca (i_seq (r_op k_add (r_var 2) (r_lst (r_acons r_str r_anil)))) (t_name 8 nd) (s_scope (s_one (s_if (r_tcmp k_gt (r_callD c__law_draw (by decide) hr gd tk (r_acons (r_var 0) (r_acons r_int r_anil))) r_int) (s_one (s_expr (r_meth PySem.F.plainAttrs_list PySem.F.slot_list_append PySem.F.type_list_append m_append (r_var 5) (r_acons (r_tup (r_acons r_str (r_acons (r_var 7) (r_acons (r_var 8) (r_acons (r_callD c__law_draw (by decide) hr gd tk (r_acons (r_var 0) (r_acons (r_var 3) r_anil))) r_anil))))) r_anil)))) s_nil))))))))) s_nil) (s_cons (s_asg (r_lstH r_anil) (t_name 9 nd)) (s_cons (s_for hp ca (i_seq (r_var 5)) (t_name 10 nd) (s_scope (s_one (s_if (r_tcmp (k_notIn sm un) (r_slice (r_var 10) r_onone (r_osome r_int)) (e_val (r_lc ca nd (blkOk_by (N := N__law_state) (sc := defScope (top 39)) (own := [("one", 11)]) (by decide +kernel)) (i_seq (r_var 9)) (fun _ _ _ _ _ => (c_name 11 nd)) (fun _ _ _ _ _ => p_none) (fun _ _ _ _ _ => (r_slice (r_var 11) r_onone (r_osome r_int)))))) (s_one (s_expr (r_meth PySem.F.plainAttrs_list PySem.F.slot_list_append PySem.F.type_list_append m_append (r_var 9) (r_acons (r_var 10) r_anil)))) s_nil)))) (s_one (s_ret (r_callTy c_tuple M.b_tuple (r_acons (r_callB (c_sorted sm ca un) M.b_sorted (r_acons (r_var 9) r_anil)) r_anil)))))))))), law⟩
/-! ### _law_ends -/
theorem sc__law_ends : FnScope N__law_ends ps__law_ends (defScope (top 40)) := ⟨rfl, rfl, rfl, by decide +kernel, rfl, by decide +kernel, by decide +kernel⟩
theorem walk__law_ends {P : Program} {w : World} {K : PySem.W.Frag} {mg : Str → Option Value} {base : Heap} {f : Addr} {fd : FuncData} {dvs : List V} {kws : List (Str × V)} (sm : SM K) (M : MG K mg) (tab : TabOk K TT) (insk : InsK K "Hall") (c__law_draw : CallD P w K mg base 1 "_law_draw" 2 sp__law_draw) (c__law_names : CallD P w K mg base 2 "_law_names" 2 sp__law_names) (c__law_state : CallD P w K mg base 2 "_law_state" 4 sp__law_state)
    (F : FunD K "_law_ends" "_law_ends" (defArgs (top 40)) (defBody (top 40)) (defScope (top 40)) dvs kws f fd)
    (law : ∀ us G Q p, Closed G → sp__law_ends us G Q p → ph__law_ends (startU N__law_ends us) G { nx := fun _ G1 => ∃ G', Left G.length (.d .none) G1 G' ∧ Q (.d .none) G', rt := fun u G1 => ∃ G', Left G.length u G1 G' ∧ Q u G', ex := fun x _ G' => p x G' })
    (len : ∀ us G Q p, sp__law_ends us G Q p → us.length = ps__law_ends.length) : FnG P w K mg base 3 f fd ps__law_ends sp__law_ends :=
  FnG.mk' F sc__law_ends len fun cdv A outer s H E hr gd => by
    have un := hr.un
    have un : (A.deeper (envOfC "_law_ends" (defScope (top 40)) s.heap.objs.size f cdv)).units + 64 < cLine := by omega
    have ca : (cxOf (L2.CX P w) P w K mg base N__law_ends "_law_ends" (defScope (top 40)) f cdv A outer s H E).calm = true := rfl
    have nd := sc__law_ends.nd
    have tk : Takes (cxOf (L2.CX P w) P w K mg base N__law_ends "_law_ends" (defScope (top 40)) f cdv A outer s H E) (fun c d _ H' => E c d H') := takes_of rfl rfl rfl rfl
    have hp := passes_of (X := cxOf (L2.CX P w) P w K mg base N__law_ends "_law_ends" (defScope (top 40)) f cdv A outer s H E) rfl
    exact ⟨ph__law_ends, (s_cons (s_asg (r_callD c__law_names (by decide) hr gd tk (r_acons (r_var 0) (r_acons (r_op k_add r_int (r_callD c__law_draw (by decide) hr gd tk (r_acons (r_var 0) (r_acons (r_op k_sub (r_var 1) r_int) r_anil)))) r_anil))) (t_name 2 nd)) (s_cons (s_asg (r_callD c__law_names (by decide) hr gd tk (r_acons (r_var 0) (r_acons (r_op k_add r_int (r_callD c__law_draw (by decide) hr gd tk (r_acons (r_var 0) (r_acons r_int r_anil)))) r_anil))) (t_name 3 nd)) (s_cons (s_asg (r_lstH r_anil) (t_name 4 nd)) (s_cons (s_for hp ca (i_seq (r_var 2)) (t_name 5 nd) (s_scope (s_cons (s_asg (e_val (r_lc ca nd (blkOk_by (N := N__law_ends) (sc := defScope (top 40)) (own := [("other", 8)]) (by decide +kernel)) (i_seq (r_var 2)) (fun _ _ _ _ _ => (c_name 8 nd)) (fun _ _ _ _ _ => (p_one (r_tcmp (k_ne sm un) (r_var 8) (r_var 5)))) (fun _ _ _ _ _ => (r_var 8)))) (t_name 6 nd)) (s_cons (s_asg (r_op k_add r_int (r_callD c__law_draw (by decide) hr gd tk (r_acons (r_var 0) (r_acons r_int r_anil)))) (t_name 7 nd)) (s_one (s_expr (r_meth PySem.F.plainAttrs_list PySem.F.slot_list_append PySem.F.type_list_append m_append (r_var 4) (r_acons (r_tup (r_acons (r_var 5) (r_acons (r_callTy c_tuple M.b_tuple (r_acons (e_val (r_lc ca nd (blkOk_by (N := N__law_ends) (sc := defScope (top 40)) (own := [("turn", 9)]) (by decide +kernel)) (i_rng1 M.b_range (r_acons (r_var 7) r_anil)) (fun _ _ _ _ _ => (c_name 9 nd)) (fun _ _ _ _ _ => p_none) (fun _ _ _ _ _ => (r_callD c__law_state (by decide) hr gd R.takes0 (r_acons (r_var 0) (r_acons (r_var 6) (r_acons (r_var 3) (r_acons (r_var 7) r_anil)))))))) r_anil)) r_anil))) r_anil)))))))) (s_one (s_ret (r_callTy c_tuple M.b_tuple (r_acons (r_var 4) r_anil)))))))), law⟩
/-! ### _law_pairs -/
theorem sc__law_pairs : FnScope N__law_pairs ps__law_pairs (defScope (top 44)) := ⟨rfl, rfl, rfl, by decide +kernel, rfl, by decide +kernel, by decide +kernel⟩
theorem walk__law_pairs {P : Program} {w : World} {K : PySem.W.Frag} {mg : Str → Option Value} {base : Heap} {f : Addr} {fd : FuncData} {dvs : List V} {kws : List (Str × V)} (sm : SM K) (M : MG K mg) (tab : TabOk K TT) (insk : InsK K "Hall") (c__law_draw : CallD P w K mg base 1 "_law_draw" 2 sp__law_draw)
    (F : FunD K "_law_pairs" "_law_pairs" (defArgs (top 44)) (defBody (top 44)) (defScope (top 44)) dvs kws f fd)
    (law : ∀ us G Q p, Closed G → sp__law_pairs us G Q p → ph__law_pairs (startU N__law_pairs us) G { nx := fun _ G1 => ∃ G', Left G.length (.d .none) G1 G' ∧ Q (.d .none) G', rt := fun u G1 => ∃ G', Left G.length u G1 G' ∧ Q u G', ex := fun x _ G' => p x G' })
    (len : ∀ us G Q p, sp__law_pairs us G Q p → us.length = ps__law_pairs.length) : FnG P w K mg base 2 f fd ps__law_pairs sp__law_pairs :=
  FnG.mk' F sc__law_pairs len fun cdv A outer s H E hr gd => by
    have un := hr.un
    have un : (A.deeper (envOfC "_law_pairs" (defScope (top 44)) s.heap.objs.size f cdv)).units + 64 < cLine := by omega
    have ca : (cxOf (L2.CX P w) P w K mg base N__law_pairs "_law_pairs" (defScope (top 44)) f cdv A outer s H E).calm = true := rfl
    have nd := sc__law_pairs.nd
    have tk : Takes (cxOf (L2.CX P w) P w K mg base N__law_pairs "_law_pairs" (defScope (top 44)) f cdv A outer s H E) (fun c d _ H' => E c d H') := takes_of rfl rfl rfl rfl
    have hp := passes_of (X := cxOf (L2.CX P w) P w K mg base N__law_pairs "_law_pairs" (defScope (top 44)) f cdv A outer s H E) rfl
    exact ⟨ph__law_pairs, (s_cons (s_asg (r_lstH r_anil) (t_name 3 nd)) (s_cons (s_for hp ca (i_seq (r_var 1)) (t_name 4 nd) (s_scope (s_one (s_expr (r_meth PySem.F.plainAttrs_list PySem.F.slot_list_extend PySem.F.type_list_extend m_extend (r_var 3) (r_acons (e_val (r_lc ca nd (blkOk_by (N := N__law_pairs) (sc := defScope (top 44)) (own := [("other", 5)]) (by decide +kernel)) (i_seq (r_var 1)) (fun _ _ _ _ _ => (c_name 5 nd)) (fun _ _ _ _ _ => (p_one (r_tcmp (k_lt sm un) (r_ix (x_ix un) (r_var 4) r_int) (r_ix (x_ix un) (r_var 5) r_int)))) (fun _ _ _ _ _ => (r_tup (r_acons (r_var 4) (r_acons (r_var 5) r_anil)))))) r_anil)))))) (s_cons (s_while hp (r_tcmp k_gt (r_callB c_len M.b_len (r_acons (r_var 3) r_anil)) (r_var 2)) (s_one (s_expr (r_meth PySem.F.plainAttrs_list PySem.F.slot_list_pop PySem.F.type_list_pop m_popAt (r_var 3) (r_acons (r_callD c__law_draw (by decide) hr gd tk (r_acons (r_var 0) (r_acons (r_callB c_len M.b_len (r_acons (r_var 3) r_anil)) r_anil))) r_anil))))) (s_one (s_ret (e_val (r_var 3))))))), law⟩
/-! ### _law_reel -/
theorem sc__law_reel : FnScope N__law_reel ps__law_reel (defScope (top 36)) := ⟨rfl, rfl, rfl, by decide +kernel, rfl, by decide +kernel, by decide +kernel⟩
theorem walk__law_reel {P : Program} {w : World} {K : PySem.W.Frag} {mg : Str → Option Value} {base : Heap} {f : Addr} {fd : FuncData} {dvs : List V} {kws : List (Str × V)} (sm : SM K) (M : MG K mg) (tab : TabOk K TT) (insk : InsK K "Hall")
    (F : FunD K "_law_reel" "_law_reel" (defArgs (top 36)) (defBody (top 36)) (defScope (top 36)) dvs kws f fd)
    (law : ∀ us G Q p, Closed G → sp__law_reel us G Q p → ph__law_reel (startU N__law_reel us) G { nx := fun _ G1 => ∃ G', Left G.length (.d .none) G1 G' ∧ Q (.d .none) G', rt := fun u G1 => ∃ G', Left G.length u G1 G' ∧ Q u G', ex := fun x _ G' => p x G' })
    (len : ∀ us G Q p, sp__law_reel us G Q p → us.length = ps__law_reel.length) : FnG P w K mg base 1 f fd ps__law_reel sp__law_reel :=
  FnG.mk' F sc__law_reel len fun cdv A outer s H E hr gd => by
    have un := hr.un
    have un : (A.deeper (envOfC "_law_reel" (defScope (top 36)) s.heap.objs.size f cdv)).units + 64 < cLine := by omega
    have ca : (cxOf (L2.CX P w) P w K mg base N__law_reel "_law_reel" (defScope (top 36)) f cdv A outer s H E).calm = true := rfl
    have nd := sc__law_reel.nd
    have tk : Takes (cxOf (L2.CX P w) P w K mg base N__law_reel "_law_reel" (defScope (top 36)) f cdv A outer s H E) (fun c d _ H' => E c d H') := takes_of rfl rfl rfl rfl
    have hp := passes_of (X := cxOf (L2.CX P w) P w K mg base N__law_reel "_law_reel" (defScope (top 36)) f cdv A outer s H E) rfl
    exact ⟨ph__law_reel, (s_cons (s_asg r_int (t_name 2 nd)) (s_cons (s_if (r_tcmp (k_lt sm un) (r_var 1) (r_callB c_len M.b_len (r_acons (r_var 0) r_anil))) (s_one (s_asg (r_ix (x_ix un) (r_var 0) (r_var 1)) (t_name 2 nd))) s_nil) (s_one (s_ret (r_lstH (r_acons (r_callB (c_max2 ca) M.b_max (r_acons r_int (r_acons (r_op k_sub (r_var 2) (r_op k_pow r_int r_int)) r_anil))) (r_acons (r_op k_add (r_op k_mod (r_var 2) r_int) (r_op k_mul r_int (r_var 1))) (r_acons r_int r_anil)))))))), law⟩
/-! ### _law_room -/
theorem sc__law_room : FnScope N__law_room ps__law_room (defScope (top 41)) := ⟨rfl, rfl, rfl, by decide +kernel, rfl, by decide +kernel, by decide +kernel⟩
theorem walk__law_room {P : Program} {w : World} {K : PySem.W.Frag} {mg : Str → Option Value} {base : Heap} {f : Addr} {fd : FuncData} {dvs : List V} {kws : List (Str × V)} (sm : SM K) (M : MG K mg) (tab : TabOk K TT) (insk : InsK K "Hall") (c__law_draw : CallD P w K mg base 1 "_law_draw" 2 sp__law_draw)
    (F : FunD K "_law_room" "_law_room" (defArgs (top 41)) (defBody (top 41)) (defScope (top 41)) dvs kws f fd)
    (law : ∀ us G Q p, Closed G → sp__law_room us G Q p → ph__law_room (startU N__law_room us) G { nx := fun _ G1 => ∃ G', Left G.length (.d .none) G1 G' ∧ Q (.d .none) G', rt := fun u G1 => ∃ G', Left G.length u G1 G' ∧ Q u G', ex := fun x _ G' => p x G' })
    (len : ∀ us G Q p, sp__law_room us G Q p → us.length = ps__law_room.length) : FnG P w K mg base 2 f fd ps__law_room sp__law_room :=
  FnG.mk' F sc__law_room len fun cdv A outer s H E hr gd => by
    have un := hr.un
    have un : (A.deeper (envOfC "_law_room" (defScope (top 41)) s.heap.objs.size f cdv)).units + 64 < cLine := by omega
    have ca : (cxOf (L2.CX P w) P w K mg base N__law_room "_law_room" (defScope (top 41)) f cdv A outer s H E).calm = true := rfl
    have nd := sc__law_room.nd
    have tk : Takes (cxOf (L2.CX P w) P w K mg base N__law_room "_law_room" (defScope (top 41)) f cdv A outer s H E) (fun c d _ H' => E c d H') := takes_of rfl rfl rfl rfl
    have hp := passes_of (X := cxOf (L2.CX P w) P w K mg base N__law_room "_law_room" (defScope (top 41)) f cdv A outer s H E) rfl
    exact ⟨ph__law_room, (s_one (s_ret (r_ix (x_ix un) (r_lst (r_acons r_non (r_acons r_int (r_acons r_int (r_acons (r_op k_add r_int (r_callD c__law_draw (by decide) hr gd tk (r_acons (r_var 0) (r_acons r_int r_anil)))) r_anil))))) (r_callD c__law_draw (by decide) hr gd tk (r_acons (r_var 0) (r_acons r_int r_anil)))))), law⟩
/-! ### _law_weak -/
theorem sc__law_weak : FnScope N__law_weak ps__law_weak (defScope (top 42)) := ⟨rfl, rfl, rfl, by decide +kernel, rfl, by decide +kernel, by decide +kernel⟩
theorem walk__law_weak {P : Program} {w : World} {K : PySem.W.Frag} {mg : Str → Option Value} {base : Heap} {f : Addr} {fd : FuncData} {dvs : List V} {kws : List (Str × V)} (sm : SM K) (M : MG K mg) (tab : TabOk K TT) (insk : InsK K "Hall") (c__law_draw : CallD P w K mg base 1 "_law_draw" 2 sp__law_draw)
    (F : FunD K "_law_weak" "_law_weak" (defArgs (top 42)) (defBody (top 42)) (defScope (top 42)) dvs kws f fd)
    (law : ∀ us G Q p, Closed G → sp__law_weak us G Q p → ph__law_weak (startU N__law_weak us) G { nx := fun _ G1 => ∃ G', Left G.length (.d .none) G1 G' ∧ Q (.d .none) G', rt := fun u G1 => ∃ G', Left G.length u G1 G' ∧ Q u G', ex := fun x _ G' => p x G' })
    (len : ∀ us G Q p, sp__law_weak us G Q p → us.length = ps__law_weak.length) : FnG P w K mg base 2 f fd ps__law_weak sp__law_weak :=
  FnG.mk' F sc__law_weak len fun cdv A outer s H E hr gd => by
    have un := hr.un
    have un : (A.deeper (envOfC "_law_weak" (defScope (top 42)) s.heap.objs.size f cdv)).units + 64 < cLine := by omega
    have ca : (cxOf (L2.CX P w) P w K mg base N__law_weak "_law_weak" (defScope (top 42)) f cdv A outer s H E).calm = true := rfl
    have nd := sc__law_weak.nd
    have tk : Takes (cxOf (L2.CX P w) P w K mg base N__law_weak "_law_weak" (defScope (top 42)) f cdv A outer s H E) (fun c d _ H' => E c d H') := takes_of rfl rfl rfl rfl
    have hp := passes_of (X := cxOf (L2.CX P w) P w K mg base N__law_weak "_law_weak" (defScope (top 42)) f cdv A outer s H E) rfl
    exact ⟨ph__law_weak, (s_one (s_ret (r_callTy c_tuple M.b_tuple (r_acons (r_callB (c_sorted sm ca un) M.b_sorted (r_acons (e_val (r_lc ca nd (blkOk_by (N := N__law_weak) (sc := defScope (top 42)) (own := [("who", 2), ("states", 3)]) (by decide +kernel)) (i_seq (r_var 1)) (fun _ _ _ _ _ => (c_tup ca (c_cons (c_name 2 nd) (c_cons (c_name 3 nd) c_nil)))) (fun _ _ _ _ _ => (p_one (r_tcmp (k_eq sm un) (r_callD c__law_draw (by decide) hr gd R.takes0 (r_acons (r_var 0) (r_acons r_int r_anil))) r_int))) (fun _ _ _ _ _ => (r_var 2)))) r_anil)) r_anil)))), law⟩
/-! ### law -/
theorem sc_law : FnScope N_law ps_law (defScope (top 46)) := ⟨rfl, rfl, rfl, by decide +kernel, rfl, by decide +kernel, by decide +kernel⟩
theorem walk_law {P : Program} {w : World} {K : PySem.W.Frag} {mg : Str → Option Value} {base : Heap} {f : Addr} {fd : FuncData} {dvs : List V} {kws : List (Str × V)} (sm : SM K) (M : MG K mg) (tab : TabOk K TT) (insk : InsK K "Hall") (c__law_reel : CallD P w K mg base 1 "_law_reel" 2 sp__law_reel) (c__law_ends : CallD P w K mg base 3 "_law_ends" 2 sp__law_ends) (c__law_weak : CallD P w K mg base 2 "_law_weak" 2 sp__law_weak) (c__law_room : CallD P w K mg base 2 "_law_room" 1 sp__law_room) (c_Hall___init__ : CallC P w K mg base 7 "Hall" 2 [] uDfl sp_Hall___init__) (c_Hall___init__K : CallC P w K mg base 7 "Hall" 2 ["room", "weak"] uKw sp_Hall___init__) (c__law_draw : CallD P w K mg base 1 "_law_draw" 2 sp__law_draw) (c_Hall_can_do : CallM P w K mg base 4 "Hall" "can_do" 1 sp_Hall_can_do) (c_Hall_do : CallM P w K mg base 8 "Hall" "do" 2 sp_Hall_do) (c__law_told : CallD P w K mg base 5 "_law_told" 1 sp__law_told) (c__law_pairs : CallD P w K mg base 2 "_law_pairs" 3 sp__law_pairs) (c__law_either_right : CallD P w K mg base 10 "_law_either_right" 3 sp__law_either_right)
    (F : FunD K "law" "law" (defArgs (top 46)) (defBody (top 46)) (defScope (top 46)) dvs kws f fd)
    (law : ∀ us G Q p, Closed G → sp_law us G Q p → ph_law (startU N_law us) G { nx := fun _ G1 => ∃ G', Left G.length (.d .none) G1 G' ∧ Q (.d .none) G', rt := fun u G1 => ∃ G', Left G.length u G1 G' ∧ Q u G', ex := fun x _ G' => p x G' })
    (len : ∀ us G Q p, sp_law us G Q p → us.length = ps_law.length) : FnG P w K mg base 11 f fd ps_law sp_law :=
  FnG.mk' F sc_law len fun cdv A outer s H E hr gd => by
    have un := hr.un
    have un : (A.deeper (envOfC "law" (defScope (top 46)) s.heap.objs.size f cdv)).units + 64 < cLine := by omega
    have ca : (cxOf (L2.CX P w) P w K mg base N_law "law" (defScope (top 46)) f cdv A outer s H E).calm = true := rfl
    have nd := sc_law.nd
    have tk : Takes (cxOf (L2.CX P w) P w K mg base N_law "law" (defScope (top 46)) f cdv A outer s H E) (fun c d _ H' => E c d H') := takes_of rfl rfl rfl rfl
    have hp := passes_of (X := cxOf (L2.CX P w) P w K mg base N_law "law" (defScope (top 46)) f cdv A outer s H E) rfl
    exact ⟨ph_law, (s_cons (s_for hp ca (i_rng1 M.b_range (r_acons (r_callB (c_max2 ca) M.b_max (r_acons r_int (r_acons (r_callB (c_min2 ca) M.b_min (r_acons r_int (r_acons (r_callB c_len M.b_len (r_acons (r_var 0) r_anil)) r_anil))) r_anil))) r_anil)) (t_name 1 nd) (s_scope (s_cons (s_asg (r_callD c__law_reel (by decide) hr gd tk (r_acons (r_var 0) (r_acons (r_var 1) r_anil))) (t_name 2 nd)) (s_cons (s_asg (r_callD c__law_ends (by decide) hr gd tk (r_acons (r_var 2) (r_acons (r_ix (x_ix un) (r_lst (r_acons r_int (r_acons r_int r_anil))) (r_callTy c_int M.b_int (r_acons (r_cmp k_gt (r_var 1) r_int) r_anil))) r_anil))) (t_name 3 nd)) (s_cons (s_asg (r_callCK c_Hall___init__K (by decide) hr gd tk (r_acons (r_var 3) r_anil) (r_kcons (r_callD c__law_room (by decide) hr gd tk (r_acons (r_var 2) r_anil)) (r_kcons (r_callD c__law_weak (by decide) hr gd tk (r_acons (r_var 2) (r_acons (r_var 3) r_anil))) r_knil))) (t_name 4 nd)) (s_cons (s_for hp ca (i_rng1 M.b_range (r_acons (r_callD c__law_draw (by decide) hr gd tk (r_acons (r_var 2) (r_acons (r_ix (x_ix un) (r_lst (r_acons r_int (r_acons r_int r_anil))) (r_callTy c_int M.b_int (r_acons (r_cmp (k_lt sm un) (r_var 1) r_int) r_anil))) r_anil))) r_anil)) (t_name 5 nd) (s_scope (s_cons (s_asg (r_callM0 c_Hall_can_do (by decide) hr gd tk (r_var 4)) (t_name 6 nd)) (s_one (s_if (r_tcmp (k_ne sm un) (r_var 6) (r_tup r_anil)) (s_one (s_expr (r_callM c_Hall_do (by decide) hr gd tk (r_var 4) (r_acons (r_ix (x_ix un) (r_var 6) (r_callD c__law_draw (by decide) hr gd tk (r_acons (r_var 2) (r_acons (r_callB c_len M.b_len (r_acons (r_var 6) r_anil)) r_anil)))) r_anil)))) s_nil))))) (s_cons (s_asg (r_callD c__law_told (by decide) hr gd tk (r_acons (r_var 4) r_anil)) (t_name 7 nd)) (s_cons (s_for hp ca (i_seq (r_callD c__law_pairs (by decide) hr gd tk (r_acons (r_var 2) (r_acons (r_callM0 c_Hall_can_do (by decide) hr gd tk (r_var 4)) (r_acons (r_ix (x_ix un) (r_lst (r_acons r_int (r_acons r_int r_anil))) (r_callTy c_int M.b_int (r_acons (r_cmp (k_lt sm un) (r_var 1) r_int) r_anil))) r_anil))))) (t_tup ca (t_cons (t_name 8 nd) (t_cons (t_name 9 nd) t_nil))) (s_scope (s_one (s_if (r_not (r_tval (r_callD c__law_either_right (by decide) hr gd tk (r_acons (r_var 4) (r_acons (r_var 8) (r_acons (r_var 9) r_anil)))))) (s_one (s_ret r_bl)) s_nil)))) (s_one (s_if (r_tcmp (k_ne sm un) (r_callD c__law_told (by decide) hr gd tk (r_acons (r_var 4) r_anil)) (r_var 7)) (s_one (s_ret r_bl)) s_nil)))))))))) (s_cons (s_asg (r_callC c_Hall___init__ (by decide) hr gd tk (r_acons (r_tup (r_acons (r_tup (r_acons r_str (r_acons (r_tup (r_acons (r_tup (r_acons (r_tup (r_acons r_str (r_acons r_str (r_acons r_str (r_acons r_int r_anil))))) r_anil)) (r_acons (r_tup r_anil) r_anil))) r_anil))) (r_acons (r_tup (r_acons r_str (r_acons (r_tup (r_acons (r_tup (r_acons (r_tup (r_acons r_str (r_acons r_str (r_acons r_str (r_acons r_int r_anil))))) r_anil)) (r_acons (r_tup r_anil) r_anil))) r_anil))) r_anil))) r_anil)) (t_name 4 nd)) (s_one (s_ret (r_cmp (k_eq sm un) (r_callB (c_repr sm gd un) M.b_repr (r_acons (r_callM0 c_Hall_can_do (by decide) hr gd tk (r_var 4)) r_anil)) (r_callB (c_repr sm gd un) M.b_repr (r_acons (r_tup (r_acons (r_tup (r_acons r_str (r_acons r_str (r_acons r_str (r_acons r_str r_anil))))) r_anil)) r_anil))))))), law⟩

end K36
/-! ## part H1 -/
namespace Hd
open PySem PySem.Spec
open PyProof.Rows hiding St
open L2 R K36
def dd_is_name : He.DefD := ⟨("is_name", none), "is_name", "is_name", defArgs (top 13), defBody (top 13), defScope (top 13), [], []⟩
def dd_is_rising : He.DefD := ⟨("is_rising", none), "is_rising", "is_rising", defArgs (top 15), defBody (top 15), defScope (top 15), [], []⟩
def dd_is_below : He.DefD := ⟨("is_below", none), "is_below", "is_below", defArgs (top 14), defBody (top 14), defScope (top 14), [], []⟩
def dd_is_event : He.DefD := ⟨("is_event", none), "is_event", "is_event", defArgs (top 20), defBody (top 20), defScope (top 20), [], []⟩
def dd_is_step : He.DefD := ⟨("is_step", none), "is_step", "is_step", defArgs (top 21), defBody (top 21), defScope (top 21), [], []⟩
def dd_is_state : He.DefD := ⟨("is_state", none), "is_state", "is_state", defArgs (top 22), defBody (top 22), defScope (top 22), [], []⟩
def dd_is_end : He.DefD := ⟨("is_end", none), "is_end", "is_end", defArgs (top 23), defBody (top 23), defScope (top 23), [], []⟩
def dd_are_ends : He.DefD := ⟨("are_ends", none), "are_ends", "are_ends", defArgs (top 29), defBody (top 29), defScope (top 29), [], []⟩
def dd_are_weak : He.DefD := ⟨("are_weak", none), "are_weak", "are_weak", defArgs (top 31), defBody (top 31), defScope (top 31), [], []⟩
def dd_is_room : He.DefD := ⟨("is_room", none), "is_room", "is_room", defArgs (top 30), defBody (top 30), defScope (top 30), [], []⟩
def dd_Hall___init__ : He.DefD := ⟨("Hall", some "__init__"), "__init__", "Hall.__init__", defArgs (inClass (top 34) 0), defBody (inClass (top 34) 0), defScope (inClass (top 34) 0), [], [("room", .non), ("weak", .adr (kwdAt ("Hall", some "__init__") "weak"))]⟩
def dd_Hall_lies_on : He.DefD := ⟨("Hall", some "lies_on"), "lies_on", "Hall.lies_on", defArgs (inClass (top 34) 13), defBody (inClass (top 34) 13), defScope (inClass (top 34) 13), [], []⟩
def dd_Hall_has_room : He.DefD := ⟨("Hall", some "has_room"), "has_room", "Hall.has_room", defArgs (inClass (top 34) 14), defBody (inClass (top 34) 14), defScope (inClass (top 34) 14), [], []⟩
def dd_Hall_deeds_of : He.DefD := ⟨("Hall", some "deeds_of"), "deeds_of", "Hall.deeds_of", defArgs (inClass (top 34) 20), defBody (inClass (top 34) 20), defScope (inClass (top 34) 20), [], []⟩
def dd_Hall_can_do : He.DefD := ⟨("Hall", some "can_do"), "can_do", "Hall.can_do", defArgs (inClass (top 34) 21), defBody (inClass (top 34) 21), defScope (inClass (top 34) 21), [], []⟩
def dd_Hall_lay_road : He.DefD := ⟨("Hall", some "lay_road"), "lay_road", "Hall.lay_road", defArgs (inClass (top 34) 12), defBody (inClass (top 34) 12), defScope (inClass (top 34) 12), [], []⟩
def dd_Hall_need_hand : He.DefD := ⟨("Hall", some "need_hand"), "need_hand", "Hall.need_hand", defArgs (inClass (top 34) 16), defBody (inClass (top 34) 16), defScope (inClass (top 34) 16), [], []⟩
def dd_Hall_need_up : He.DefD := ⟨("Hall", some "need_up"), "need_up", "Hall.need_up", defArgs (inClass (top 34) 18), defBody (inClass (top 34) 18), defScope (inClass (top 34) 18), [], []⟩
def dd_Hall_put_fall : He.DefD := ⟨("Hall", some "put_fall"), "put_fall", "Hall.put_fall", defArgs (inClass (top 34) 11), defBody (inClass (top 34) 11), defScope (inClass (top 34) 11), [], []⟩
def dd_Hall_need_pair : He.DefD := ⟨("Hall", some "need_pair"), "need_pair", "Hall.need_pair", defArgs (inClass (top 34) 17), defBody (inClass (top 34) 17), defScope (inClass (top 34) 17), [], []⟩
def dd_Hall_state_behind : He.DefD := ⟨("Hall", some "state_behind"), "state_behind", "Hall.state_behind", defArgs (inClass (top 34) 15), defBody (inClass (top 34) 15), defScope (inClass (top 34) 15), [], []⟩
def dd_Hall_put_hear : He.DefD := ⟨("Hall", some "put_hear"), "put_hear", "Hall.put_hear", defArgs (inClass (top 34) 10), defBody (inClass (top 34) 10), defScope (inClass (top 34) 10), [], []⟩
def dd_Hall_put_say : He.DefD := ⟨("Hall", some "put_say"), "put_say", "Hall.put_say", defArgs (inClass (top 34) 9), defBody (inClass (top 34) 9), defScope (inClass (top 34) 9), [], []⟩
def dd_is_shaped : He.DefD := ⟨("is_shaped", none), "is_shaped", "is_shaped", defArgs (top 32), defBody (top 32), defScope (top 32), [], []⟩
def dd_Hall_put : He.DefD := ⟨("Hall", some "put"), "put", "Hall.put", defArgs (inClass (top 34) 8), defBody (inClass (top 34) 8), defScope (inClass (top 34) 8), [], []⟩
def dd_Hall_each_put : He.DefD := ⟨("Hall", some "each_put"), "each_put", "Hall.each_put", defArgs (inClass (top 34) 7), defBody (inClass (top 34) 7), defScope (inClass (top 34) 7), [], []⟩
def dd_Hall_told : He.DefD := ⟨("Hall", some "told"), "told", "Hall.told", defArgs (inClass (top 34) 6), defBody (inClass (top 34) 6), defScope (inClass (top 34) 6), [], []⟩
def dd_Hall_do : He.DefD := ⟨("Hall", some "do"), "do", "Hall.do", defArgs (inClass (top 34) 4), defBody (inClass (top 34) 4), defScope (inClass (top 34) 4), [], []⟩
def dd__law_draw : He.DefD := ⟨("_law_draw", none), "_law_draw", "_law_draw", defArgs (top 37), defBody (top 37), defScope (top 37), [], []⟩
def dd_Hall___eq__ : He.DefD := ⟨("Hall", some "__eq__"), "__eq__", "Hall.__eq__", defArgs (inClass (top 34) 33), defBody (inClass (top 34) 33), defScope (inClass (top 34) 33), [], []⟩
def dd_Hall_log : He.DefD := ⟨("Hall", some "log"), "log", "Hall.log", defArgs (inClass (top 34) 29), defBody (inClass (top 34) 29), defScope (inClass (top 34) 29), [], []⟩
def dd_Hall_twin : He.DefD := ⟨("Hall", some "twin"), "twin", "Hall.twin", defArgs (inClass (top 34) 31), defBody (inClass (top 34) 31), defScope (inClass (top 34) 31), [], []⟩
def dd_Hall___len__ : He.DefD := ⟨("Hall", some "__len__"), "__len__", "Hall.__len__", defArgs (inClass (top 34) 34), defBody (inClass (top 34) 34), defScope (inClass (top 34) 34), [], []⟩
def dd_Hall_fallen : He.DefD := ⟨("Hall", some "fallen"), "fallen", "Hall.fallen", defArgs (inClass (top 34) 26), defBody (inClass (top 34) 26), defScope (inClass (top 34) 26), [], []⟩
def dd_Hall_is_done : He.DefD := ⟨("Hall", some "is_done"), "is_done", "Hall.is_done", defArgs (inClass (top 34) 23), defBody (inClass (top 34) 23), defScope (inClass (top 34) 23), [], []⟩
def dd_Hall_state_of : He.DefD := ⟨("Hall", some "state_of"), "state_of", "Hall.state_of", defArgs (inClass (top 34) 22), defBody (inClass (top 34) 22), defScope (inClass (top 34) 22), [], []⟩
def dd_Hall_under_way : He.DefD := ⟨("Hall", some "under_way"), "under_way", "Hall.under_way", defArgs (inClass (top 34) 28), defBody (inClass (top 34) 28), defScope (inClass (top 34) 28), [], []⟩
def dd_Hall_view_of : He.DefD := ⟨("Hall", some "view_of"), "view_of", "Hall.view_of", defArgs (inClass (top 34) 24), defBody (inClass (top 34) 24), defScope (inClass (top 34) 24), [], []⟩
def dd_Hall_views : He.DefD := ⟨("Hall", some "views"), "views", "Hall.views", defArgs (inClass (top 34) 25), defBody (inClass (top 34) 25), defScope (inClass (top 34) 25), [], []⟩
def dd__law_told : He.DefD := ⟨("_law_told", none), "_law_told", "_law_told", defArgs (top 43), defBody (top 43), defScope (top 43), [], []⟩
def dd__law_either_right : He.DefD := ⟨("_law_either_right", none), "_law_either_right", "_law_either_right", defArgs (top 45), defBody (top 45), defScope (top 45), [], []⟩
def dd__law_names : He.DefD := ⟨("_law_names", none), "_law_names", "_law_names", defArgs (top 38), defBody (top 38), defScope (top 38), [], []⟩
def dd__law_state : He.DefD := ⟨("_law_state", none), "_law_state", "_law_state", defArgs (top 39), defBody (top 39), defScope (top 39), [], []⟩
def dd__law_ends : He.DefD := ⟨("_law_ends", none), "_law_ends", "_law_ends", defArgs (top 40), defBody (top 40), defScope (top 40), [], []⟩
def dd__law_pairs : He.DefD := ⟨("_law_pairs", none), "_law_pairs", "_law_pairs", defArgs (top 44), defBody (top 44), defScope (top 44), [], []⟩
def dd__law_reel : He.DefD := ⟨("_law_reel", none), "_law_reel", "_law_reel", defArgs (top 36), defBody (top 36), defScope (top 36), [], []⟩
def dd__law_room : He.DefD := ⟨("_law_room", none), "_law_room", "_law_room", defArgs (top 41), defBody (top 41), defScope (top 41), [], []⟩
def dd__law_weak : He.DefD := ⟨("_law_weak", none), "_law_weak", "_law_weak", defArgs (top 42), defBody (top 42), defScope (top 42), [], []⟩
def dd_law : He.DefD := ⟨("law", none), "law", "law", defArgs (top 46), defBody (top 46), defScope (top 46), [], []⟩
def fn : List He.DefD := [dd_is_name, dd_is_rising, dd_is_below, dd_is_event, dd_is_step, dd_is_state, dd_is_end, dd_are_ends, dd_are_weak, dd_is_room, dd_Hall___init__, dd_Hall_lies_on, dd_Hall_has_room, dd_Hall_deeds_of, dd_Hall_can_do, dd_Hall_lay_road, dd_Hall_need_hand, dd_Hall_need_up, dd_Hall_put_fall, dd_Hall_need_pair, dd_Hall_state_behind, dd_Hall_put_hear, dd_Hall_put_say, dd_is_shaped, dd_Hall_put, dd_Hall_each_put, dd_Hall_told, dd_Hall_do, dd__law_draw, dd_Hall___eq__, dd_Hall_log, dd_Hall_twin, dd_Hall___len__, dd_Hall_fallen, dd_Hall_is_done, dd_Hall_state_of, dd_Hall_under_way, dd_Hall_view_of, dd_Hall_views, dd__law_told, dd__law_either_right, dd__law_names, dd__law_state, dd__law_ends, dd__law_pairs, dd__law_reel, dd__law_room, dd__law_weak, dd_law]
def fa : List He.Fa := [.glo "is_name", .glo "is_rising", .glo "is_below", .glo "is_event", .glo "is_step", .glo "is_state", .glo "is_end", .glo "are_ends", .glo "are_weak", .glo "is_room", .glo "is_shaped", .glo "_law_draw", .glo "_law_told", .glo "_law_either_right", .glo "_law_names", .glo "_law_state", .glo "_law_ends", .glo "_law_pairs", .glo "_law_reel", .glo "_law_room", .glo "_law_weak", .glo "law", .glo "Hall", .glo "DEED_SHAPES", .free "KeyError", .free "LookupError", .free "OverflowError", .free "ValueError", .free "all", .free "bool", .free "int", .free "isinstance", .free "len", .free "list", .free "max", .free "min", .free "range", .free "repr", .free "sorted", .free "str", .free "tuple", .free "zip", .str "FAULT" "!", .str "LETTERS" "abcdefghijklmnopqrstuvwxyz", .int "MOST_LETTERS" 8, .int "MOST_OF_AN_END" 100, .str "SAY" "say", .str "HEAR" "hear", .int "FEWEST_HANDS" 2, .int "MOST_HANDS" 6, .int "MOST_ROOM" 9, .cls "Hall", .mkr "Hall", .noat "Hall" "aheads", .noat "Hall" "barred", .noat "Hall" "called", .noat "Hall" "down", .noat "Hall" "end_states", .noat "Hall" "ends", .noat "Hall" "laid", .noat "Hall" "on_roads", .noat "Hall" "room", .noat "Hall" "standing", .noat "Hall" "weak", .meth "Hall" "lies_on", .meth "Hall" "has_room", .meth "Hall" "deeds_of", .meth "Hall" "can_do", .meth "Hall" "lay_road", .meth "Hall" "need_hand", .meth "Hall" "need_up", .meth "Hall" "put_fall", .meth "Hall" "need_pair", .meth "Hall" "state_behind", .meth "Hall" "put_hear", .meth "Hall" "put_say", .meth "Hall" "put", .meth "Hall" "each_put", .meth "Hall" "told", .meth "Hall" "do", .meth "Hall" "log", .meth "Hall" "twin", .meth "Hall" "fallen", .meth "Hall" "is_done", .meth "Hall" "state_of", .meth "Hall" "under_way", .meth "Hall" "view_of", .meth "Hall" "views"]
def tupV (K : PySem.W.Frag) (a : Addr) : Option (List Value) := match K.lookup a with
  | some ⟨.type c, _, .seq its _, _⟩ => if (decide (c = "tuple") && decide (its.size ≤ sizeLine)) = true then some its.toList else none
  | _ => none
theorem tupV_ok {K : PySem.W.Frag} {a : Addr} {us : List Value} {vs : List V} (h : tupV K a = some us) (hv : Vals vs us) : SqT K (fun _ => none) a vs := by
  unfold tupV at h
  split at h
  · rename_i c d its n sl e
    split at h
    · rename_i hc
      obtain ⟨h1, h2⟩ := He.ba hc
      have e1 := of_decide_eq_true h1
      have e2 := of_decide_eq_true h2
      cases h
      exact .inr ⟨_, its, n, e, by rw [e1], rfl, e2, hv⟩
    · cases h
  · cases h
def pairV (K : PySem.W.Frag) (a : Addr) (s : Str) (n : Int) : Bool := match tupV K a with
  | some [.str x _, .int i _] => decide (x = s) && decide (i = n)
  | _ => false
theorem pairV_ok {K : PySem.W.Frag} {a : Addr} {s : Str} {n : Int} (h : pairV K a s n = true) (H : Hp) : RepK K H (.ref a) (.tuple [.str s, .int n]) := by
  unfold pairV at h
  split at h
  · rename_i x t i t' e
    obtain ⟨h1, h2⟩ := He.ba h
    have e1 := of_decide_eq_true h1
    have e2 := of_decide_eq_true h2
    subst e1 e2
    refine .tup (vs := [.str x, .int i]) (tupV_ok e (.cons ⟨_, rfl⟩ (.cons ⟨_, rfl⟩ .nil))) rfl fun j v y hv hy => ?_
    match j, hv, hy with
    | 0, hv, hy => cases hv; cases hy; exact .str _
    | 1, hv, hy => cases hv; cases hy; exact .int _
    | j + 2, hv, hy => cases hv
  · cases h
def shapesB (K : PySem.W.Frag) : Bool := match tupV K (He.ga K "DEED_SHAPES") with
  | some [.ref a, .ref b, .ref c] => pairV K a "say" 4 && (pairV K b "hear" 3 && pairV K c "fall" 2)
  | _ => false
theorem shapesB_ok {K : PySem.W.Frag} (h : shapesB K = true) (H : Hp) : RepK K H (.ref (He.ga K "DEED_SHAPES")) (.tuple [(.tuple [(.str "say"), (.int 4)]), (.tuple [(.str "hear"), (.int 3)]), (.tuple [(.str "fall"), (.int 2)])]) := by
  unfold shapesB at h
  split at h
  · rename_i a b c e
    obtain ⟨h1, h2⟩ := He.ba h
    obtain ⟨h2, h3⟩ := He.ba h2
    refine .tup (vs := [.ref a, .ref b, .ref c]) (tupV_ok e (.cons rfl (.cons rfl (.cons rfl .nil)))) rfl fun j v y hv hy => ?_
    match j, hv, hy with
    | 0, hv, hy => cases hv; cases hy; exact pairV_ok h1 H
    | 1, hv, hy => cases hv; cases hy; exact pairV_ok h2 H
    | 2, hv, hy => cases hv; cases hy; exact pairV_ok h3 H
    | j + 3, hv, hy => cases hv
  · cases h
def ex : Ex := fun K => smB K && (insB K "Hall" && (spcB K "Hall" "__len__" && (spcB K "Hall" "__eq__" && (tup0B K (kwdAt ("Hall", some "__init__") "weak" K) && (shapesB K && PySem.W.keepIn K (.ref (He.ga K "Hall")))))))
abbrev RO : PySem.W.OpenRow := PySem.W.OpenLaw.row PySem.Challenge.rw_sayloom_k36_whole_deeds_in_either_order
def names0 : List PySem.Str := ["_wall", "is_name", "is_below", "is_rising", "is_event", "is_step", "is_state", "is_end", "are_ends", "is_room", "are_weak", "is_shaped", "row_text", "_law_reel", "_law_draw", "_law_names", "_law_state", "_law_ends", "_law_room", "_law_weak", "_law_told", "_law_pairs", "_law_either_right", "LoomError", "NoEnds", "NoDeed", "NoRoom", "NoHand", "Empty", "Full"]
def names1 : List PySem.Str := ["Hall", "FAULT", "LETTERS", "MOST_LETTERS", "MOST_OF_AN_END", "SAY", "HEAR", "FEWEST_HANDS", "MOST_HANDS", "MOST_ROOM", "DEED_SHAPES"]
def names : List PySem.Str := names0 ++ names1
abbrev hk : PySem.W.Hook := hookR 5 ex fa fn
def ob (s : PySem.W.SharedT) : Bool × He.AlD := obsRG 5 ex fa fn (HandSHeadRun.getT s)
theorem ob_eq (s : PySem.W.SharedT) : ob s = hk.obs s.abs := obsRG_eq (HandSHeadRun.getT_eq s)
theorem run (w : World) : HandSHeadRun.RunEq RO (PySem.W.view RO.prog [46]) hk ob 20000 names w := by
  intro os
  kernel_rfl
end Hd
/-! ## part E1 -/
namespace Hd
open PySem PySem.Spec
open PyProof.Rows hiding St
open L2 R K36
theorem len_is_name : ∀ us G Q p, sp_is_name us G Q p → us.length = ps_is_name.length := by
  rintro _ G Q p ⟨_, ⟨x, rfl, hz, rfl⟩, q⟩
  rfl
theorem len_is_rising : ∀ us G Q p, sp_is_rising us G Q p → us.length = ps_is_rising.length := by
  rintro _ G Q p ⟨_, ⟨s, rfl, hz, hs, rfl⟩, q⟩
  rfl
theorem len_is_below : ∀ us G Q p, sp_is_below us G Q p → us.length = ps_is_below.length := by
  rintro _ G Q p ⟨_, ⟨x, n, rfl, rfl⟩, q⟩
  rfl
theorem len_is_event : ∀ us G Q p, sp_is_event us G Q p → us.length = ps_is_event.length := by
  rintro _ G Q p ⟨_, ⟨e, rfl, he, rfl⟩, q⟩
  rfl
theorem len_is_step : ∀ us G Q p, sp_is_step us G Q p → us.length = ps_is_step.length := by
  rintro _ G Q p ⟨_, ⟨h, n, e, rfl, he, h1, h2, h3, rfl⟩, q⟩
  rfl
theorem len_is_state : ∀ us G Q p, sp_is_state us G Q p → us.length = ps_is_state.length := by
  rintro _ G Q p ⟨_, ⟨h, n, s, rfl, hs, rfl⟩, q⟩
  rfl
theorem len_is_end : ∀ us G Q p, sp_is_end us G Q p → us.length = ps_is_end.length := by
  rintro _ G Q p ⟨_, ⟨e, rfl, he, rfl⟩, q⟩
  rfl
theorem len_are_ends : ∀ us G Q p, sp_are_ends us G Q p → us.length = ps_are_ends.length := by
  rintro _ G Q p ⟨_, ⟨l, rfl, hl, rfl⟩, q⟩
  rfl
theorem len_are_weak : ∀ us G Q p, sp_are_weak us G Q p → us.length = ps_are_weak.length := by
  rintro _ G Q p ⟨_, ⟨c, rfl, hc, rfl⟩, q⟩
  rfl
theorem len_is_room : ∀ us G Q p, sp_is_room us G Q p → us.length = ps_is_room.length := by
  rintro _ G Q p ⟨_, ⟨r, rfl, hr, rfl⟩, q⟩
  rfl
theorem len_Hall___init__ : ∀ us G Q p, sp_Hall___init__ us G Q p → us.length = ps_Hall___init__.length := by
  rintro _ G Q p ⟨h, c, rfl, hc, hh, q⟩
  rfl
theorem len_Hall_lies_on : ∀ us G Q p, sp_Hall_lies_on us G Q p → us.length = ps_Hall_lies_on.length := by
  rintro _ G Q p ⟨_, ⟨h, c, s, m, ca, ba, a, b, rfl, hh, rfl⟩, q⟩
  rfl
theorem len_Hall_has_room : ∀ us G Q p, sp_Hall_has_room us G Q p → us.length = ps_Hall_has_room.length := by
  rintro _ G Q p ⟨_, ⟨h, _, c, s, m, ca, ba, rfl, hh, ⟨a, b, rfl, rfl⟩⟩, q⟩
  rfl
theorem len_Hall_deeds_of : ∀ us G Q p, sp_Hall_deeds_of us G Q p → us.length = ps_Hall_deeds_of.length := by
  rintro _ G Q p ⟨_, ⟨h, _, c, s, m, ca, ba, rfl, hh, ⟨a, rfl, ha, rfl⟩⟩, q⟩
  rfl
theorem len_Hall_can_do : ∀ us G Q p, sp_Hall_can_do us G Q p → us.length = ps_Hall_can_do.length := by
  rintro _ G Q p ⟨_, ⟨h, _, c, s, m, ca, ba, rfl, hh, rfl, rfl⟩, q⟩
  rfl
theorem len_Hall_lay_road : ∀ us G Q p, sp_Hall_lay_road us G Q p → us.length = ps_Hall_lay_road.length := by
  rintro _ G Q p ⟨h, c, s, m, ca, ba, pr, ws, rfl, hh, hz, hnd, q⟩
  rfl
theorem len_Hall_need_hand : ∀ us G Q p, sp_Hall_need_hand us G Q p → us.length = ps_Hall_need_hand.length := by
  rintro _ G Q p ⟨_, ⟨h, c, s, m, ca, ba, a, rfl, hh, hc, ha, rfl⟩, q⟩
  rfl
theorem len_Hall_need_up : ∀ us G Q p, sp_Hall_need_up us G Q p → us.length = ps_Hall_need_up.length := by
  rintro _ G Q p ⟨_, ⟨h, c, s, m, ca, ba, a, rfl, hh, ha, rfl⟩, q⟩
  rfl
theorem len_Hall_put_fall : ∀ us G Q p, sp_Hall_put_fall us G Q p → us.length = ps_Hall_put_fall.length := by
  rintro _ G Q p ⟨h, c, s, m, ca, ba, a, rfl, hh, ⟨h1, h2, h3⟩, q⟩
  rfl
theorem len_Hall_need_pair : ∀ us G Q p, sp_Hall_need_pair us G Q p → us.length = ps_Hall_need_pair.length := by
  rintro _ G Q p ⟨_, ⟨h, c, s, m, ca, ba, a, b, rfl, hh, hc, ha, hb, hn, rfl⟩, q⟩
  rfl
theorem len_Hall_state_behind : ∀ us G Q p, sp_Hall_state_behind us G Q p → us.length = ps_Hall_state_behind.length := by
  rintro _ G Q p ⟨_, ⟨h, _, c, s, m, ca, ba, rfl, hh, ⟨a, k, o, w, rfl, ha, rfl⟩⟩, q⟩
  rfl
theorem len_Hall_put_hear : ∀ us G Q p, sp_Hall_put_hear us G Q p → us.length = ps_Hall_put_hear.length := by
  rintro _ G Q p ⟨h, c, s, m, ca, ba, a, b, rfl, hh, ⟨h1, h2, h3, h4, h5, h6⟩, q⟩
  rfl
theorem len_Hall_put_say : ∀ us G Q p, sp_Hall_put_say us G Q p → us.length = ps_Hall_put_say.length := by
  rintro _ G Q p ⟨h, c, s, m, ca, ba, a, b, w, rfl, hh, ⟨h1, h2, h3, h4, h5, h6⟩, q⟩
  rfl
theorem len_is_shaped : ∀ us G Q p, sp_is_shaped us G Q p → us.length = ps_is_shaped.length := by
  rintro _ G Q p ⟨_, ⟨d, rfl, rfl⟩, q⟩
  rfl
theorem len_Hall_put : ∀ us G Q p, sp_Hall_put us G Q p → us.length = ps_Hall_put.length := by
  rintro _ G Q p ⟨h, c, s, m, ca, ba, d, rfl, hh, hd, q⟩
  rfl
theorem len_Hall_each_put : ∀ us G Q p, sp_Hall_each_put us G Q p → us.length = ps_Hall_each_put.length := by
  rintro _ G Q p ⟨h, c, s, m, ca, ba, d, rfl, hh, hd, q⟩
  rfl
theorem len_Hall_told : ∀ us G Q p, sp_Hall_told us G Q p → us.length = ps_Hall_told.length := by
  rintro _ G Q p ⟨h, c, s, m, ca, ba, d, L, rfl, hh, hd, hne, hL, hz, q⟩
  rfl
theorem len_Hall_do : ∀ us G Q p, sp_Hall_do us G Q p → us.length = ps_Hall_do.length := by
  rintro _ G Q p ⟨h, c, s, m, ca, ba, d, L, rfl, hh, hd, hne, hL, hz, q⟩
  rfl
theorem len__law_draw : ∀ us G Q p, sp__law_draw us G Q p → us.length = ps__law_draw.length := by
  rintro _ G Q p ⟨r, k, n, L, rfl, hk1, hk2, hr, ⟨a, b, t, rfl, ha, hb, hb2, ht, hn⟩, hn2, q⟩
  rfl
theorem len_Hall___eq__ : ∀ us G Q p, sp_Hall___eq__ us G Q p → us.length = ps_Hall___eq__.length := by
  rintro _ G Q p ⟨_, ⟨h, c, s, m, ca, ba, h', s', m', ca', ba', rfl, hh, hh', rfl⟩, q⟩
  rfl
theorem len_Hall_log : ∀ us G Q p, sp_Hall_log us G Q p → us.length = ps_Hall_log.length := by
  rintro _ G Q p ⟨_, ⟨h, _, c, s, m, ca, ba, rfl, hh, rfl, rfl⟩, q⟩
  rfl
theorem len_Hall_twin : ∀ us G Q p, sp_Hall_twin us G Q p → us.length = ps_Hall_twin.length := by
  rintro _ G Q p ⟨h, c, s, m, ca, ba, L, rfl, hh, hL, q⟩
  rfl
theorem len_Hall___len__ : ∀ us G Q p, sp_Hall___len__ us G Q p → us.length = ps_Hall___len__.length := by
  rintro _ G Q p ⟨_, ⟨h, _, c, s, m, ca, ba, rfl, hh, rfl, rfl⟩, q⟩
  rfl
theorem len_Hall_fallen : ∀ us G Q p, sp_Hall_fallen us G Q p → us.length = ps_Hall_fallen.length := by
  rintro _ G Q p ⟨_, ⟨h, _, c, s, m, ca, ba, rfl, hh, rfl, rfl⟩, q⟩
  rfl
theorem len_Hall_is_done : ∀ us G Q p, sp_Hall_is_done us G Q p → us.length = ps_Hall_is_done.length := by
  rintro _ G Q p ⟨_, ⟨h, _, c, s, m, ca, ba, rfl, hh, ⟨a, rfl, ha, rfl⟩⟩, q⟩
  rfl
theorem len_Hall_state_of : ∀ us G Q p, sp_Hall_state_of us G Q p → us.length = ps_Hall_state_of.length := by
  rintro _ G Q p ⟨_, ⟨h, _, c, s, m, ca, ba, rfl, hh, ⟨a, b, rfl, hb, rfl⟩⟩, q⟩
  rfl
theorem len_Hall_under_way : ∀ us G Q p, sp_Hall_under_way us G Q p → us.length = ps_Hall_under_way.length := by
  rintro _ G Q p ⟨_, ⟨h, _, c, s, m, ca, ba, rfl, hh, rfl, rfl⟩, q⟩
  rfl
theorem len_Hall_view_of : ∀ us G Q p, sp_Hall_view_of us G Q p → us.length = ps_Hall_view_of.length := by
  rintro _ G Q p ⟨_, ⟨h, _, c, s, m, ca, ba, rfl, hh, ⟨a, rfl, ha, rfl⟩⟩, q⟩
  rfl
theorem len_Hall_views : ∀ us G Q p, sp_Hall_views us G Q p → us.length = ps_Hall_views.length := by
  rintro _ G Q p ⟨_, ⟨h, _, c, s, m, ca, ba, rfl, hh, rfl, rfl⟩, q⟩
  rfl
theorem len__law_told : ∀ us G Q p, sp__law_told us G Q p → us.length = ps__law_told.length := by
  rintro _ G Q p ⟨_, ⟨h, _, c, s, m, ca, ba, rfl, hh, rfl, rfl⟩, q⟩
  rfl
theorem len__law_either_right : ∀ us G Q p, sp__law_either_right us G Q p → us.length = ps__law_either_right.length := by
  rintro _ G Q p ⟨h, c, s, m, ca, ba, d, e, L, rfl, hh, hd, he, hn, hne, hL, hz, hf, q⟩
  rfl
theorem len__law_names : ∀ us G Q p, sp__law_names us G Q p → us.length = ps__law_names.length := by
  rintro _ G Q p ⟨r, k, n, L, rfl, hk1, hk2, hr, hL, hn, q⟩
  rfl
theorem len__law_state : ∀ us G Q p, sp__law_state us G Q p → us.length = ps__law_state.length := by
  rintro _ G Q p ⟨r, k, n, L, others, words, rfl, hk1, hk2, ho1, ho2, hw1, hw2, hon, hwn, hr, hL, hn, q⟩
  rfl
theorem len__law_ends : ∀ us G Q p, sp__law_ends us G Q p → us.length = ps__law_ends.length := by
  rintro _ G Q p ⟨r, k, n, L, rfl, hk1, hk2, hr, hL, hn, q⟩
  rfl
theorem len__law_pairs : ∀ us G Q p, sp__law_pairs us G Q p → us.length = ps__law_pairs.length := by
  rintro _ G Q p ⟨r, n, L, k, ds, rfl, hk1, hk2, hds, hr, hL, hn, q⟩
  rfl
theorem len__law_reel : ∀ us G Q p, sp__law_reel us G Q p → us.length = ps__law_reel.length := by
  rintro _ G Q p ⟨ns, k, rfl, hk1, hk2, q⟩
  rfl
theorem len__law_room : ∀ us G Q p, sp__law_room us G Q p → us.length = ps__law_room.length := by
  rintro _ G Q p ⟨r, n, L, rfl, hr, hl, hn, q⟩
  rfl
theorem len__law_weak : ∀ us G Q p, sp__law_weak us G Q p → us.length = ps__law_weak.length := by
  rintro _ G Q p ⟨r, n, L, l, rfl, hl, hr, hL, hn, q⟩
  rfl
theorem len_law : ∀ us G Q p, sp_law us G Q p → us.length = ps_law.length := by
  rintro _ G Q p ⟨ns, rfl, rfl, q⟩
  rfl
theorem facts {P : Program} {w : World} {K : PySem.W.Frag} {h : Heap} {mg : Str → Option Value} {f : Addr} (X : K.In h) (G : h.Ns mainGlobals mg) (hfa : mg ("law" : Str) = some (.ref f)) (cc : SaysR ex fa fn K) :
    ∃ fd : FuncData, (∀ (s : Shared) (v : Value), BindsTo s fd ⟨[v], []⟩ [("script", v)]) ∧ ∀ base : Heap, K.In base → base.Ns mainGlobals mg → FnG P w K mg base 11 f fd ["script"] sp_law := by
  obtain ⟨ce, c⟩ := cc
  obtain ⟨x1, ce⟩ := He.ba ce
  obtain ⟨x2, ce⟩ := He.ba ce
  obtain ⟨x3, ce⟩ := He.ba ce
  obtain ⟨x4, ce⟩ := He.ba ce
  obtain ⟨x5, ce⟩ := He.ba ce
  obtain ⟨x6, x7⟩ := He.ba ce
  have sm : SM K := smB_ok x1
  have cls : Cls K (He.ga K "Hall") := He.cls_ok (c.fact 51 (f := .cls "Hall") rfl)
  have insk : InsK K "Hall" := insB_ok cls x2
  have mk : Mk K (He.ga K "Hall") (He.ma K (He.ga K "Hall") "__init__") := He.mkr_ok (c.fact 52 (f := .mkr "Hall") rfl)
  have gH : mg "Hall" = some (.ref (He.ga K "Hall")) := He.glo_ok X G (c.fact 22 (f := .glo "Hall") rfl)
  have M : MG K mg := {
    b_KeyError := He.free_ok X G (c.fact 24 (f := .free "KeyError") rfl)
    b_LookupError := He.free_ok X G (c.fact 25 (f := .free "LookupError") rfl)
    b_OverflowError := He.free_ok X G (c.fact 26 (f := .free "OverflowError") rfl)
    b_ValueError := He.free_ok X G (c.fact 27 (f := .free "ValueError") rfl)
    b_all := He.free_ok X G (c.fact 28 (f := .free "all") rfl)
    b_bool := He.free_ok X G (c.fact 29 (f := .free "bool") rfl)
    b_int := He.free_ok X G (c.fact 30 (f := .free "int") rfl)
    b_isinstance := He.free_ok X G (c.fact 31 (f := .free "isinstance") rfl)
    b_len := He.free_ok X G (c.fact 32 (f := .free "len") rfl)
    b_list := He.free_ok X G (c.fact 33 (f := .free "list") rfl)
    b_max := He.free_ok X G (c.fact 34 (f := .free "max") rfl)
    b_min := He.free_ok X G (c.fact 35 (f := .free "min") rfl)
    b_range := He.free_ok X G (c.fact 36 (f := .free "range") rfl)
    b_repr := He.free_ok X G (c.fact 37 (f := .free "repr") rfl)
    b_sorted := He.free_ok X G (c.fact 38 (f := .free "sorted") rfl)
    b_str := He.free_ok X G (c.fact 39 (f := .free "str") rfl)
    b_tuple := He.free_ok X G (c.fact 40 (f := .free "tuple") rfl)
    b_zip := He.free_ok X G (c.fact 41 (f := .free "zip") rfl)
    s_FAULT := He.str_ok X G (c.fact 42 (f := .str "FAULT" "!") rfl)
    s_LETTERS := He.str_ok X G (c.fact 43 (f := .str "LETTERS" "abcdefghijklmnopqrstuvwxyz") rfl)
    i_MOST_LETTERS := He.int_ok X G (c.fact 44 (f := .int "MOST_LETTERS" 8) rfl)
    i_MOST_OF_AN_END := He.int_ok X G (c.fact 45 (f := .int "MOST_OF_AN_END" 100) rfl)
    s_SAY := He.str_ok X G (c.fact 46 (f := .str "SAY" "say") rfl)
    s_HEAR := He.str_ok X G (c.fact 47 (f := .str "HEAR" "hear") rfl)
    i_FEWEST_HANDS := He.int_ok X G (c.fact 48 (f := .int "FEWEST_HANDS" 2) rfl)
    i_MOST_HANDS := He.int_ok X G (c.fact 49 (f := .int "MOST_HANDS" 6) rfl)
    i_MOST_ROOM := He.int_ok X G (c.fact 50 (f := .int "MOST_ROOM" 9) rfl)
    t_DEED_SHAPES := ⟨_, He.glo_ok X G (c.fact 23 (f := .glo "DEED_SHAPES") rfl), shapesB_ok x6⟩
    g_Hall := gH
    k_Hall := x7 }
  have tab : TabOk K K36.TT := by
    refine ⟨fun p hp => ?_, fun p hp f hf => ?_⟩
    · simp only [K36.TT, List.mem_singleton] at hp
      subst hp
      exact cls
    · simp only [K36.TT, List.mem_singleton] at hp
      subst hp
      simp only [List.mem_cons, List.not_mem_nil, or_false] at hf
      rcases hf with rfl | rfl | rfl | rfl | rfl | rfl | rfl | rfl | rfl | rfl | rfl
      · exact He.noat_ok (c.fact 53 (f := .noat "Hall" "aheads") rfl)
      · exact He.noat_ok (c.fact 54 (f := .noat "Hall" "barred") rfl)
      · exact He.noat_ok (c.fact 55 (f := .noat "Hall" "called") rfl)
      · exact He.noat_ok (c.fact 56 (f := .noat "Hall" "down") rfl)
      · exact He.noat_ok (c.fact 57 (f := .noat "Hall" "end_states") rfl)
      · exact He.noat_ok (c.fact 58 (f := .noat "Hall" "ends") rfl)
      · exact He.noat_ok (c.fact 59 (f := .noat "Hall" "laid") rfl)
      · exact He.noat_ok (c.fact 60 (f := .noat "Hall" "on_roads") rfl)
      · exact He.noat_ok (c.fact 61 (f := .noat "Hall" "room") rfl)
      · exact He.noat_ok (c.fact 62 (f := .noat "Hall" "standing") rfl)
      · exact He.noat_ok (c.fact 63 (f := .noat "Hall" "weak") rfl)
  obtain ⟨fd_is_name, F_is_name⟩ := c.def_ 0 (d := dd_is_name) rfl
  obtain ⟨fd_is_rising, F_is_rising⟩ := c.def_ 1 (d := dd_is_rising) rfl
  obtain ⟨fd_is_below, F_is_below⟩ := c.def_ 2 (d := dd_is_below) rfl
  obtain ⟨fd_is_event, F_is_event⟩ := c.def_ 3 (d := dd_is_event) rfl
  obtain ⟨fd_is_step, F_is_step⟩ := c.def_ 4 (d := dd_is_step) rfl
  obtain ⟨fd_is_state, F_is_state⟩ := c.def_ 5 (d := dd_is_state) rfl
  obtain ⟨fd_is_end, F_is_end⟩ := c.def_ 6 (d := dd_is_end) rfl
  obtain ⟨fd_are_ends, F_are_ends⟩ := c.def_ 7 (d := dd_are_ends) rfl
  obtain ⟨fd_are_weak, F_are_weak⟩ := c.def_ 8 (d := dd_are_weak) rfl
  obtain ⟨fd_is_room, F_is_room⟩ := c.def_ 9 (d := dd_is_room) rfl
  obtain ⟨fd_Hall___init__, F_Hall___init__⟩ := c.def_ 10 (d := dd_Hall___init__) rfl
  obtain ⟨fd_Hall_lies_on, F_Hall_lies_on⟩ := c.def_ 11 (d := dd_Hall_lies_on) rfl
  obtain ⟨fd_Hall_has_room, F_Hall_has_room⟩ := c.def_ 12 (d := dd_Hall_has_room) rfl
  obtain ⟨fd_Hall_deeds_of, F_Hall_deeds_of⟩ := c.def_ 13 (d := dd_Hall_deeds_of) rfl
  obtain ⟨fd_Hall_can_do, F_Hall_can_do⟩ := c.def_ 14 (d := dd_Hall_can_do) rfl
  obtain ⟨fd_Hall_lay_road, F_Hall_lay_road⟩ := c.def_ 15 (d := dd_Hall_lay_road) rfl
  obtain ⟨fd_Hall_need_hand, F_Hall_need_hand⟩ := c.def_ 16 (d := dd_Hall_need_hand) rfl
  obtain ⟨fd_Hall_need_up, F_Hall_need_up⟩ := c.def_ 17 (d := dd_Hall_need_up) rfl
  obtain ⟨fd_Hall_put_fall, F_Hall_put_fall⟩ := c.def_ 18 (d := dd_Hall_put_fall) rfl
  obtain ⟨fd_Hall_need_pair, F_Hall_need_pair⟩ := c.def_ 19 (d := dd_Hall_need_pair) rfl
  obtain ⟨fd_Hall_state_behind, F_Hall_state_behind⟩ := c.def_ 20 (d := dd_Hall_state_behind) rfl
  obtain ⟨fd_Hall_put_hear, F_Hall_put_hear⟩ := c.def_ 21 (d := dd_Hall_put_hear) rfl
  obtain ⟨fd_Hall_put_say, F_Hall_put_say⟩ := c.def_ 22 (d := dd_Hall_put_say) rfl
  obtain ⟨fd_is_shaped, F_is_shaped⟩ := c.def_ 23 (d := dd_is_shaped) rfl
  obtain ⟨fd_Hall_put, F_Hall_put⟩ := c.def_ 24 (d := dd_Hall_put) rfl
  obtain ⟨fd_Hall_each_put, F_Hall_each_put⟩ := c.def_ 25 (d := dd_Hall_each_put) rfl
  obtain ⟨fd_Hall_told, F_Hall_told⟩ := c.def_ 26 (d := dd_Hall_told) rfl
  obtain ⟨fd_Hall_do, F_Hall_do⟩ := c.def_ 27 (d := dd_Hall_do) rfl
  obtain ⟨fd__law_draw, F__law_draw⟩ := c.def_ 28 (d := dd__law_draw) rfl
  obtain ⟨fd_Hall___eq__, F_Hall___eq__⟩ := c.def_ 29 (d := dd_Hall___eq__) rfl
  obtain ⟨fd_Hall_log, F_Hall_log⟩ := c.def_ 30 (d := dd_Hall_log) rfl
  obtain ⟨fd_Hall_twin, F_Hall_twin⟩ := c.def_ 31 (d := dd_Hall_twin) rfl
  obtain ⟨fd_Hall___len__, F_Hall___len__⟩ := c.def_ 32 (d := dd_Hall___len__) rfl
  obtain ⟨fd_Hall_fallen, F_Hall_fallen⟩ := c.def_ 33 (d := dd_Hall_fallen) rfl
  obtain ⟨fd_Hall_is_done, F_Hall_is_done⟩ := c.def_ 34 (d := dd_Hall_is_done) rfl
  obtain ⟨fd_Hall_state_of, F_Hall_state_of⟩ := c.def_ 35 (d := dd_Hall_state_of) rfl
  obtain ⟨fd_Hall_under_way, F_Hall_under_way⟩ := c.def_ 36 (d := dd_Hall_under_way) rfl
  obtain ⟨fd_Hall_view_of, F_Hall_view_of⟩ := c.def_ 37 (d := dd_Hall_view_of) rfl
  obtain ⟨fd_Hall_views, F_Hall_views⟩ := c.def_ 38 (d := dd_Hall_views) rfl
  obtain ⟨fd__law_told, F__law_told⟩ := c.def_ 39 (d := dd__law_told) rfl
  obtain ⟨fd__law_either_right, F__law_either_right⟩ := c.def_ 40 (d := dd__law_either_right) rfl
  obtain ⟨fd__law_names, F__law_names⟩ := c.def_ 41 (d := dd__law_names) rfl
  obtain ⟨fd__law_state, F__law_state⟩ := c.def_ 42 (d := dd__law_state) rfl
  obtain ⟨fd__law_ends, F__law_ends⟩ := c.def_ 43 (d := dd__law_ends) rfl
  obtain ⟨fd__law_pairs, F__law_pairs⟩ := c.def_ 44 (d := dd__law_pairs) rfl
  obtain ⟨fd__law_reel, F__law_reel⟩ := c.def_ 45 (d := dd__law_reel) rfl
  obtain ⟨fd__law_room, F__law_room⟩ := c.def_ 46 (d := dd__law_room) rfl
  obtain ⟨fd__law_weak, F__law_weak⟩ := c.def_ 47 (d := dd__law_weak) rfl
  obtain ⟨fd_law, F_law⟩ := c.def_ 48 (d := dd_law) rfl
  have eL := hfa.symm.trans (He.glo_ok X G (c.fact 21 (f := .glo "law") rfl))
  cases eL
  have bL := FunD.bindsA (ps := ["script"]) F_law fun _ _ _ _ _ _ us hl => match us, hl with | [_], _ => rfl
  refine ⟨fd_law, fun s v => bL s [v] rfl, fun base hb1 hb2 => ?_⟩
  have g_is_name : FnG P w K mg base 1 _ fd_is_name ps_is_name sp_is_name := walk_is_name sm M tab insk  F_is_name law_is_name len_is_name
  have c_is_name : CallD P w K mg base 1 "is_name" 1 sp_is_name := ⟨_, fd_is_name, ps_is_name, g_is_name, KbU.pos 1 rfl F_is_name (fun _ _ _ _ _ _ us hl => match us, hl with | [_], _ => rfl), He.glo_ok X G (c.fact 0 (f := .glo "is_name") rfl), F_is_name.kp⟩
  have g_is_rising : FnG P w K mg base 1 _ fd_is_rising ps_is_rising sp_is_rising := walk_is_rising sm M tab insk  F_is_rising law_is_rising len_is_rising
  have c_is_rising : CallD P w K mg base 1 "is_rising" 1 sp_is_rising := ⟨_, fd_is_rising, ps_is_rising, g_is_rising, KbU.pos 1 rfl F_is_rising (fun _ _ _ _ _ _ us hl => match us, hl with | [_], _ => rfl), He.glo_ok X G (c.fact 1 (f := .glo "is_rising") rfl), F_is_rising.kp⟩
  have g_is_below : FnG P w K mg base 1 _ fd_is_below ps_is_below sp_is_below := walk_is_below sm M tab insk  F_is_below law_is_below len_is_below
  have c_is_below : CallD P w K mg base 1 "is_below" 2 sp_is_below := ⟨_, fd_is_below, ps_is_below, g_is_below, KbU.pos 2 rfl F_is_below (fun _ _ _ _ _ _ us hl => match us, hl with | [_, _], _ => rfl), He.glo_ok X G (c.fact 2 (f := .glo "is_below") rfl), F_is_below.kp⟩
  have g_is_event : FnG P w K mg base 2 _ fd_is_event ps_is_event sp_is_event := walk_is_event sm M tab insk c_is_name F_is_event law_is_event len_is_event
  have c_is_event : CallD P w K mg base 2 "is_event" 1 sp_is_event := ⟨_, fd_is_event, ps_is_event, g_is_event, KbU.pos 1 rfl F_is_event (fun _ _ _ _ _ _ us hl => match us, hl with | [_], _ => rfl), He.glo_ok X G (c.fact 3 (f := .glo "is_event") rfl), F_is_event.kp⟩
  have g_is_step : FnG P w K mg base 3 _ fd_is_step ps_is_step sp_is_step := walk_is_step sm M tab insk c_is_event c_is_below F_is_step law_is_step len_is_step
  have c_is_step : CallD P w K mg base 3 "is_step" 3 sp_is_step := ⟨_, fd_is_step, ps_is_step, g_is_step, KbU.pos 3 rfl F_is_step (fun _ _ _ _ _ _ us hl => match us, hl with | [_, _, _], _ => rfl), He.glo_ok X G (c.fact 4 (f := .glo "is_step") rfl), F_is_step.kp⟩
  have g_is_state : FnG P w K mg base 4 _ fd_is_state ps_is_state sp_is_state := walk_is_state sm M tab insk c_is_step c_is_rising F_is_state law_is_state len_is_state
  have c_is_state : CallD P w K mg base 4 "is_state" 3 sp_is_state := ⟨_, fd_is_state, ps_is_state, g_is_state, KbU.pos 3 rfl F_is_state (fun _ _ _ _ _ _ us hl => match us, hl with | [_, _, _], _ => rfl), He.glo_ok X G (c.fact 5 (f := .glo "is_state") rfl), F_is_state.kp⟩
  have g_is_end : FnG P w K mg base 5 _ fd_is_end ps_is_end sp_is_end := walk_is_end sm M tab insk c_is_name c_is_state F_is_end law_is_end len_is_end
  have c_is_end : CallD P w K mg base 5 "is_end" 1 sp_is_end := ⟨_, fd_is_end, ps_is_end, g_is_end, KbU.pos 1 rfl F_is_end (fun _ _ _ _ _ _ us hl => match us, hl with | [_], _ => rfl), He.glo_ok X G (c.fact 6 (f := .glo "is_end") rfl), F_is_end.kp⟩
  have g_are_ends : FnG P w K mg base 6 _ fd_are_ends ps_are_ends sp_are_ends := walk_are_ends sm M tab insk c_is_end F_are_ends law_are_ends len_are_ends
  have c_are_ends : CallD P w K mg base 6 "are_ends" 1 sp_are_ends := ⟨_, fd_are_ends, ps_are_ends, g_are_ends, KbU.pos 1 rfl F_are_ends (fun _ _ _ _ _ _ us hl => match us, hl with | [_], _ => rfl), He.glo_ok X G (c.fact 7 (f := .glo "are_ends") rfl), F_are_ends.kp⟩
  have g_are_weak : FnG P w K mg base 1 _ fd_are_weak ps_are_weak sp_are_weak := walk_are_weak sm M tab insk  F_are_weak law_are_weak len_are_weak
  have c_are_weak : CallD P w K mg base 1 "are_weak" 2 sp_are_weak := ⟨_, fd_are_weak, ps_are_weak, g_are_weak, KbU.pos 2 rfl F_are_weak (fun _ _ _ _ _ _ us hl => match us, hl with | [_, _], _ => rfl), He.glo_ok X G (c.fact 8 (f := .glo "are_weak") rfl), F_are_weak.kp⟩
  have g_is_room : FnG P w K mg base 1 _ fd_is_room ps_is_room sp_is_room := walk_is_room sm M tab insk  F_is_room law_is_room len_is_room
  have c_is_room : CallD P w K mg base 1 "is_room" 1 sp_is_room := ⟨_, fd_is_room, ps_is_room, g_is_room, KbU.pos 1 rfl F_is_room (fun _ _ _ _ _ _ us hl => match us, hl with | [_], _ => rfl), He.glo_ok X G (c.fact 9 (f := .glo "is_room") rfl), F_is_room.kp⟩
  have g_Hall___init__ : FnG P w K mg base 7 _ fd_Hall___init__ ps_Hall___init__ sp_Hall___init__ := walk_Hall___init__ sm M tab insk c_are_ends c_is_room c_are_weak F_Hall___init__ law_Hall___init__ len_Hall___init__
  have c_Hall___init__ : CallC P w K mg base 7 "Hall" 2 [] uDfl sp_Hall___init__ := ⟨gH, _, fd_Hall___init__, ps_Hall___init__, g_Hall___init__, KbU.dfl 2 [.d .none, .d (.tuple [])] (by intro h; cases h) F_Hall___init__ (fun m G H => .cons .non (.cons (.tup0 (tup0B_ok x5)) .nil)) (fun _ _ _ _ _ _ us mv l1 l2 => match us, mv, l1, l2 with | [_, _], [_, _], _, _ => ⟨_, _, _, _, _, _, rfl, rfl, _, _, _, _, _, _, rfl, rfl, rfl⟩), mk⟩
  have c_Hall___init__K : CallC P w K mg base 7 "Hall" 2 ["room", "weak"] uKw sp_Hall___init__ := ⟨gH, _, fd_Hall___init__, ps_Hall___init__, g_Hall___init__, KbU.kw 2 (by intro h; cases h) F_Hall___init__ (fun _ _ _ _ _ _ us ws l1 l2 => match us, ws, l1, l2 with | [_, _], [_, _], _, _ => rfl), mk⟩
  have g_Hall_lies_on : FnG P w K mg base 1 _ fd_Hall_lies_on ps_Hall_lies_on sp_Hall_lies_on := walk_Hall_lies_on sm M tab insk  F_Hall_lies_on law_Hall_lies_on len_Hall_lies_on
  have c_Hall_lies_on : CallM P w K mg base 1 "Hall" "lies_on" 3 sp_Hall_lies_on := ⟨cls, _, fd_Hall_lies_on, ps_Hall_lies_on, g_Hall_lies_on, KbU.pos 3 rfl F_Hall_lies_on (fun _ _ _ _ _ _ us hl => match us, hl with | [_, _, _], _ => rfl), He.meth_ok (c.fact 64 (f := .meth "Hall" "lies_on") rfl)⟩
  have g_Hall_has_room : FnG P w K mg base 2 _ fd_Hall_has_room ps_Hall_has_room sp_Hall_has_room := walk_Hall_has_room sm M tab insk c_Hall_lies_on F_Hall_has_room law_Hall_has_room len_Hall_has_room
  have c_Hall_has_room : CallM P w K mg base 2 "Hall" "has_room" 3 sp_Hall_has_room := ⟨cls, _, fd_Hall_has_room, ps_Hall_has_room, g_Hall_has_room, KbU.pos 3 rfl F_Hall_has_room (fun _ _ _ _ _ _ us hl => match us, hl with | [_, _, _], _ => rfl), He.meth_ok (c.fact 65 (f := .meth "Hall" "has_room") rfl)⟩
  have g_Hall_deeds_of : FnG P w K mg base 3 _ fd_Hall_deeds_of ps_Hall_deeds_of sp_Hall_deeds_of := walk_Hall_deeds_of sm M tab insk c_Hall_has_room c_Hall_lies_on F_Hall_deeds_of law_Hall_deeds_of len_Hall_deeds_of
  have c_Hall_deeds_of : CallM P w K mg base 3 "Hall" "deeds_of" 2 sp_Hall_deeds_of := ⟨cls, _, fd_Hall_deeds_of, ps_Hall_deeds_of, g_Hall_deeds_of, KbU.pos 2 rfl F_Hall_deeds_of (fun _ _ _ _ _ _ us hl => match us, hl with | [_, _], _ => rfl), He.meth_ok (c.fact 66 (f := .meth "Hall" "deeds_of") rfl)⟩
  have g_Hall_can_do : FnG P w K mg base 4 _ fd_Hall_can_do ps_Hall_can_do sp_Hall_can_do := walk_Hall_can_do sm M tab insk c_Hall_deeds_of F_Hall_can_do law_Hall_can_do len_Hall_can_do
  have c_Hall_can_do : CallM P w K mg base 4 "Hall" "can_do" 1 sp_Hall_can_do := ⟨cls, _, fd_Hall_can_do, ps_Hall_can_do, g_Hall_can_do, KbU.pos 1 rfl F_Hall_can_do (fun _ _ _ _ _ _ us hl => match us, hl with | [_], _ => rfl), He.meth_ok (c.fact 67 (f := .meth "Hall" "can_do") rfl)⟩
  have g_Hall_lay_road : FnG P w K mg base 1 _ fd_Hall_lay_road ps_Hall_lay_road sp_Hall_lay_road := walk_Hall_lay_road sm M tab insk  F_Hall_lay_road law_Hall_lay_road len_Hall_lay_road
  have c_Hall_lay_road : CallM P w K mg base 1 "Hall" "lay_road" 3 sp_Hall_lay_road := ⟨cls, _, fd_Hall_lay_road, ps_Hall_lay_road, g_Hall_lay_road, KbU.pos 3 rfl F_Hall_lay_road (fun _ _ _ _ _ _ us hl => match us, hl with | [_, _, _], _ => rfl), He.meth_ok (c.fact 68 (f := .meth "Hall" "lay_road") rfl)⟩
  have g_Hall_need_hand : FnG P w K mg base 2 _ fd_Hall_need_hand ps_Hall_need_hand sp_Hall_need_hand := walk_Hall_need_hand sm M tab insk c_is_name F_Hall_need_hand law_Hall_need_hand len_Hall_need_hand
  have c_Hall_need_hand : CallM P w K mg base 2 "Hall" "need_hand" 2 sp_Hall_need_hand := ⟨cls, _, fd_Hall_need_hand, ps_Hall_need_hand, g_Hall_need_hand, KbU.pos 2 rfl F_Hall_need_hand (fun _ _ _ _ _ _ us hl => match us, hl with | [_, _], _ => rfl), He.meth_ok (c.fact 69 (f := .meth "Hall" "need_hand") rfl)⟩
  have g_Hall_need_up : FnG P w K mg base 1 _ fd_Hall_need_up ps_Hall_need_up sp_Hall_need_up := walk_Hall_need_up sm M tab insk  F_Hall_need_up law_Hall_need_up len_Hall_need_up
  have c_Hall_need_up : CallM P w K mg base 1 "Hall" "need_up" 2 sp_Hall_need_up := ⟨cls, _, fd_Hall_need_up, ps_Hall_need_up, g_Hall_need_up, KbU.pos 2 rfl F_Hall_need_up (fun _ _ _ _ _ _ us hl => match us, hl with | [_, _], _ => rfl), He.meth_ok (c.fact 70 (f := .meth "Hall" "need_up") rfl)⟩
  have g_Hall_put_fall : FnG P w K mg base 3 _ fd_Hall_put_fall ps_Hall_put_fall sp_Hall_put_fall := walk_Hall_put_fall sm M tab insk c_Hall_need_hand c_Hall_need_up c_Hall_lay_road c_Hall_lies_on F_Hall_put_fall law_Hall_put_fall len_Hall_put_fall
  have c_Hall_put_fall : CallM P w K mg base 3 "Hall" "put_fall" 2 sp_Hall_put_fall := ⟨cls, _, fd_Hall_put_fall, ps_Hall_put_fall, g_Hall_put_fall, KbU.pos 2 rfl F_Hall_put_fall (fun _ _ _ _ _ _ us hl => match us, hl with | [_, _], _ => rfl), He.meth_ok (c.fact 71 (f := .meth "Hall" "put_fall") rfl)⟩
  have g_Hall_need_pair : FnG P w K mg base 3 _ fd_Hall_need_pair ps_Hall_need_pair sp_Hall_need_pair := walk_Hall_need_pair sm M tab insk c_Hall_need_hand F_Hall_need_pair law_Hall_need_pair len_Hall_need_pair
  have c_Hall_need_pair : CallM P w K mg base 3 "Hall" "need_pair" 3 sp_Hall_need_pair := ⟨cls, _, fd_Hall_need_pair, ps_Hall_need_pair, g_Hall_need_pair, KbU.pos 3 rfl F_Hall_need_pair (fun _ _ _ _ _ _ us hl => match us, hl with | [_, _, _], _ => rfl), He.meth_ok (c.fact 72 (f := .meth "Hall" "need_pair") rfl)⟩
  have g_Hall_state_behind : FnG P w K mg base 1 _ fd_Hall_state_behind ps_Hall_state_behind sp_Hall_state_behind := walk_Hall_state_behind sm M tab insk  F_Hall_state_behind law_Hall_state_behind len_Hall_state_behind
  have c_Hall_state_behind : CallM P w K mg base 1 "Hall" "state_behind" 3 sp_Hall_state_behind := ⟨cls, _, fd_Hall_state_behind, ps_Hall_state_behind, g_Hall_state_behind, KbU.pos 3 rfl F_Hall_state_behind (fun _ _ _ _ _ _ us hl => match us, hl with | [_, _, _], _ => rfl), He.meth_ok (c.fact 73 (f := .meth "Hall" "state_behind") rfl)⟩
  have g_Hall_put_hear : FnG P w K mg base 4 _ fd_Hall_put_hear ps_Hall_put_hear sp_Hall_put_hear := walk_Hall_put_hear sm M tab insk c_Hall_need_pair c_Hall_need_up c_Hall_lies_on c_Hall_state_behind c_Hall_lay_road F_Hall_put_hear law_Hall_put_hear len_Hall_put_hear
  have c_Hall_put_hear : CallM P w K mg base 4 "Hall" "put_hear" 3 sp_Hall_put_hear := ⟨cls, _, fd_Hall_put_hear, ps_Hall_put_hear, g_Hall_put_hear, KbU.pos 3 rfl F_Hall_put_hear (fun _ _ _ _ _ _ us hl => match us, hl with | [_, _, _], _ => rfl), He.meth_ok (c.fact 74 (f := .meth "Hall" "put_hear") rfl)⟩
  have g_Hall_put_say : FnG P w K mg base 4 _ fd_Hall_put_say ps_Hall_put_say sp_Hall_put_say := walk_Hall_put_say sm M tab insk c_Hall_need_pair c_Hall_need_up c_Hall_state_behind c_Hall_has_room c_Hall_lies_on c_Hall_lay_road F_Hall_put_say law_Hall_put_say len_Hall_put_say
  have c_Hall_put_say : CallM P w K mg base 4 "Hall" "put_say" 4 sp_Hall_put_say := ⟨cls, _, fd_Hall_put_say, ps_Hall_put_say, g_Hall_put_say, KbU.pos 4 rfl F_Hall_put_say (fun _ _ _ _ _ _ us hl => match us, hl with | [_, _, _, _], _ => rfl), He.meth_ok (c.fact 75 (f := .meth "Hall" "put_say") rfl)⟩
  have g_is_shaped : FnG P w K mg base 1 _ fd_is_shaped ps_is_shaped sp_is_shaped := walk_is_shaped sm M tab insk  F_is_shaped law_is_shaped len_is_shaped
  have c_is_shaped : CallD P w K mg base 1 "is_shaped" 2 sp_is_shaped := ⟨_, fd_is_shaped, ps_is_shaped, g_is_shaped, KbU.pos 2 rfl F_is_shaped (fun _ _ _ _ _ _ us hl => match us, hl with | [_, _], _ => rfl), He.glo_ok X G (c.fact 10 (f := .glo "is_shaped") rfl), F_is_shaped.kp⟩
  have g_Hall_put : FnG P w K mg base 5 _ fd_Hall_put ps_Hall_put sp_Hall_put := walk_Hall_put sm M tab insk c_is_shaped c_Hall_put_say c_Hall_put_hear c_Hall_put_fall F_Hall_put law_Hall_put len_Hall_put
  have c_Hall_put : CallM P w K mg base 5 "Hall" "put" 2 sp_Hall_put := ⟨cls, _, fd_Hall_put, ps_Hall_put, g_Hall_put, KbU.pos 2 rfl F_Hall_put (fun _ _ _ _ _ _ us hl => match us, hl with | [_, _], _ => rfl), He.meth_ok (c.fact 76 (f := .meth "Hall" "put") rfl)⟩
  have g_Hall_each_put : FnG P w K mg base 6 _ fd_Hall_each_put ps_Hall_each_put sp_Hall_each_put := walk_Hall_each_put sm M tab insk c_Hall_put F_Hall_each_put law_Hall_each_put len_Hall_each_put
  have c_Hall_each_put : CallM P w K mg base 6 "Hall" "each_put" 2 sp_Hall_each_put := ⟨cls, _, fd_Hall_each_put, ps_Hall_each_put, g_Hall_each_put, KbU.pos 2 rfl F_Hall_each_put (fun _ _ _ _ _ _ us hl => match us, hl with | [_, _], _ => rfl), He.meth_ok (c.fact 77 (f := .meth "Hall" "each_put") rfl)⟩
  have g_Hall_told : FnG P w K mg base 7 _ fd_Hall_told ps_Hall_told sp_Hall_told := walk_Hall_told sm M tab insk c_Hall_each_put F_Hall_told law_Hall_told len_Hall_told
  have c_Hall_told : CallM P w K mg base 7 "Hall" "told" 2 sp_Hall_told := ⟨cls, _, fd_Hall_told, ps_Hall_told, g_Hall_told, KbU.pos 2 rfl F_Hall_told (fun _ _ _ _ _ _ us hl => match us, hl with | [_, _], _ => rfl), He.meth_ok (c.fact 78 (f := .meth "Hall" "told") rfl)⟩
  have g_Hall_do : FnG P w K mg base 8 _ fd_Hall_do ps_Hall_do sp_Hall_do := walk_Hall_do sm M tab insk c_Hall_told F_Hall_do law_Hall_do len_Hall_do
  have c_Hall_do : CallM P w K mg base 8 "Hall" "do" 2 sp_Hall_do := ⟨cls, _, fd_Hall_do, ps_Hall_do, g_Hall_do, KbU.pos 2 rfl F_Hall_do (fun _ _ _ _ _ _ us hl => match us, hl with | [_, _], _ => rfl), He.meth_ok (c.fact 79 (f := .meth "Hall" "do") rfl)⟩
  have g__law_draw : FnG P w K mg base 1 _ fd__law_draw ps__law_draw sp__law_draw := walk__law_draw sm M tab insk  F__law_draw law__law_draw len__law_draw
  have c__law_draw : CallD P w K mg base 1 "_law_draw" 2 sp__law_draw := ⟨_, fd__law_draw, ps__law_draw, g__law_draw, KbU.pos 2 rfl F__law_draw (fun _ _ _ _ _ _ us hl => match us, hl with | [_, _], _ => rfl), He.glo_ok X G (c.fact 11 (f := .glo "_law_draw") rfl), F__law_draw.kp⟩
  have g_Hall___eq__ : FnG P w K mg base 1 _ fd_Hall___eq__ ps_Hall___eq__ sp_Hall___eq__ := walk_Hall___eq__ sm M tab insk  F_Hall___eq__ law_Hall___eq__ len_Hall___eq__
  have c_Hall___eq__ : CallS P w K mg base 1 "Hall" "__eq__" 2 sp_Hall___eq__ := ⟨_, fd_Hall___eq__, ps_Hall___eq__, g_Hall___eq__, KbU.pos 2 rfl F_Hall___eq__ (fun _ _ _ _ _ _ us hl => match us, hl with | [_, _], _ => rfl), (spcB_ok x4).1, (spcB_ok x4).2⟩
  have g_Hall_log : FnG P w K mg base 1 _ fd_Hall_log ps_Hall_log sp_Hall_log := walk_Hall_log sm M tab insk  F_Hall_log law_Hall_log len_Hall_log
  have c_Hall_log : CallM P w K mg base 1 "Hall" "log" 1 sp_Hall_log := ⟨cls, _, fd_Hall_log, ps_Hall_log, g_Hall_log, KbU.pos 1 rfl F_Hall_log (fun _ _ _ _ _ _ us hl => match us, hl with | [_], _ => rfl), He.meth_ok (c.fact 80 (f := .meth "Hall" "log") rfl)⟩
  have g_Hall_twin : FnG P w K mg base 9 _ fd_Hall_twin ps_Hall_twin sp_Hall_twin := walk_Hall_twin sm M tab insk c_Hall___init__ c_Hall___init__K F_Hall_twin law_Hall_twin len_Hall_twin
  have c_Hall_twin : CallM P w K mg base 9 "Hall" "twin" 1 sp_Hall_twin := ⟨cls, _, fd_Hall_twin, ps_Hall_twin, g_Hall_twin, KbU.pos 1 rfl F_Hall_twin (fun _ _ _ _ _ _ us hl => match us, hl with | [_], _ => rfl), He.meth_ok (c.fact 81 (f := .meth "Hall" "twin") rfl)⟩
  have g_Hall___len__ : FnG P w K mg base 1 _ fd_Hall___len__ ps_Hall___len__ sp_Hall___len__ := walk_Hall___len__ sm M tab insk  F_Hall___len__ law_Hall___len__ len_Hall___len__
  have c_Hall___len__ : CallS P w K mg base 1 "Hall" "__len__" 1 sp_Hall___len__ := ⟨_, fd_Hall___len__, ps_Hall___len__, g_Hall___len__, KbU.pos 1 rfl F_Hall___len__ (fun _ _ _ _ _ _ us hl => match us, hl with | [_], _ => rfl), (spcB_ok x3).1, (spcB_ok x3).2⟩
  have g_Hall_fallen : FnG P w K mg base 1 _ fd_Hall_fallen ps_Hall_fallen sp_Hall_fallen := walk_Hall_fallen sm M tab insk  F_Hall_fallen law_Hall_fallen len_Hall_fallen
  have c_Hall_fallen : CallM P w K mg base 1 "Hall" "fallen" 1 sp_Hall_fallen := ⟨cls, _, fd_Hall_fallen, ps_Hall_fallen, g_Hall_fallen, KbU.pos 1 rfl F_Hall_fallen (fun _ _ _ _ _ _ us hl => match us, hl with | [_], _ => rfl), He.meth_ok (c.fact 82 (f := .meth "Hall" "fallen") rfl)⟩
  have g_Hall_is_done : FnG P w K mg base 3 _ fd_Hall_is_done ps_Hall_is_done sp_Hall_is_done := walk_Hall_is_done sm M tab insk c_Hall_need_hand F_Hall_is_done law_Hall_is_done len_Hall_is_done
  have c_Hall_is_done : CallM P w K mg base 3 "Hall" "is_done" 2 sp_Hall_is_done := ⟨cls, _, fd_Hall_is_done, ps_Hall_is_done, g_Hall_is_done, KbU.pos 2 rfl F_Hall_is_done (fun _ _ _ _ _ _ us hl => match us, hl with | [_, _], _ => rfl), He.meth_ok (c.fact 83 (f := .meth "Hall" "is_done") rfl)⟩
  have g_Hall_state_of : FnG P w K mg base 3 _ fd_Hall_state_of ps_Hall_state_of sp_Hall_state_of := walk_Hall_state_of sm M tab insk c_Hall_need_hand F_Hall_state_of law_Hall_state_of len_Hall_state_of
  have c_Hall_state_of : CallM P w K mg base 3 "Hall" "state_of" 2 sp_Hall_state_of := ⟨cls, _, fd_Hall_state_of, ps_Hall_state_of, g_Hall_state_of, KbU.pos 2 rfl F_Hall_state_of (fun _ _ _ _ _ _ us hl => match us, hl with | [_, _], _ => rfl), He.meth_ok (c.fact 84 (f := .meth "Hall" "state_of") rfl)⟩
  have g_Hall_under_way : FnG P w K mg base 1 _ fd_Hall_under_way ps_Hall_under_way sp_Hall_under_way := walk_Hall_under_way sm M tab insk  F_Hall_under_way law_Hall_under_way len_Hall_under_way
  have c_Hall_under_way : CallM P w K mg base 1 "Hall" "under_way" 1 sp_Hall_under_way := ⟨cls, _, fd_Hall_under_way, ps_Hall_under_way, g_Hall_under_way, KbU.pos 1 rfl F_Hall_under_way (fun _ _ _ _ _ _ us hl => match us, hl with | [_], _ => rfl), He.meth_ok (c.fact 85 (f := .meth "Hall" "under_way") rfl)⟩
  have g_Hall_view_of : FnG P w K mg base 3 _ fd_Hall_view_of ps_Hall_view_of sp_Hall_view_of := walk_Hall_view_of sm M tab insk c_Hall_need_hand F_Hall_view_of law_Hall_view_of len_Hall_view_of
  have c_Hall_view_of : CallM P w K mg base 3 "Hall" "view_of" 2 sp_Hall_view_of := ⟨cls, _, fd_Hall_view_of, ps_Hall_view_of, g_Hall_view_of, KbU.pos 2 rfl F_Hall_view_of (fun _ _ _ _ _ _ us hl => match us, hl with | [_, _], _ => rfl), He.meth_ok (c.fact 86 (f := .meth "Hall" "view_of") rfl)⟩
  have g_Hall_views : FnG P w K mg base 4 _ fd_Hall_views ps_Hall_views sp_Hall_views := walk_Hall_views sm M tab insk c_Hall_view_of F_Hall_views law_Hall_views len_Hall_views
  have c_Hall_views : CallM P w K mg base 4 "Hall" "views" 1 sp_Hall_views := ⟨cls, _, fd_Hall_views, ps_Hall_views, g_Hall_views, KbU.pos 1 rfl F_Hall_views (fun _ _ _ _ _ _ us hl => match us, hl with | [_], _ => rfl), He.meth_ok (c.fact 87 (f := .meth "Hall" "views") rfl)⟩
  have g__law_told : FnG P w K mg base 5 _ fd__law_told ps__law_told sp__law_told := walk__law_told sm M tab insk c_Hall_views c_Hall_is_done c_Hall_state_of c_Hall___len__ c_Hall_log c_Hall_fallen c_Hall_under_way c_Hall_can_do F__law_told law__law_told len__law_told
  have c__law_told : CallD P w K mg base 5 "_law_told" 1 sp__law_told := ⟨_, fd__law_told, ps__law_told, g__law_told, KbU.pos 1 rfl F__law_told (fun _ _ _ _ _ _ us hl => match us, hl with | [_], _ => rfl), He.glo_ok X G (c.fact 12 (f := .glo "_law_told") rfl), F__law_told.kp⟩
  have g__law_either_right : FnG P w K mg base 10 _ fd__law_either_right ps__law_either_right sp__law_either_right := walk__law_either_right sm M tab insk c_Hall_twin c_Hall_do c__law_told c_Hall___eq__ c_Hall_log F__law_either_right law__law_either_right len__law_either_right
  have c__law_either_right : CallD P w K mg base 10 "_law_either_right" 3 sp__law_either_right := ⟨_, fd__law_either_right, ps__law_either_right, g__law_either_right, KbU.pos 3 rfl F__law_either_right (fun _ _ _ _ _ _ us hl => match us, hl with | [_, _, _], _ => rfl), He.glo_ok X G (c.fact 13 (f := .glo "_law_either_right") rfl), F__law_either_right.kp⟩
  have g__law_names : FnG P w K mg base 2 _ fd__law_names ps__law_names sp__law_names := walk__law_names sm M tab insk c__law_draw F__law_names law__law_names len__law_names
  have c__law_names : CallD P w K mg base 2 "_law_names" 2 sp__law_names := ⟨_, fd__law_names, ps__law_names, g__law_names, KbU.pos 2 rfl F__law_names (fun _ _ _ _ _ _ us hl => match us, hl with | [_, _], _ => rfl), He.glo_ok X G (c.fact 14 (f := .glo "_law_names") rfl), F__law_names.kp⟩
  have g__law_state : FnG P w K mg base 2 _ fd__law_state ps__law_state sp__law_state := walk__law_state sm M tab insk c__law_draw F__law_state law__law_state len__law_state
  have c__law_state : CallD P w K mg base 2 "_law_state" 4 sp__law_state := ⟨_, fd__law_state, ps__law_state, g__law_state, KbU.pos 4 rfl F__law_state (fun _ _ _ _ _ _ us hl => match us, hl with | [_, _, _, _], _ => rfl), He.glo_ok X G (c.fact 15 (f := .glo "_law_state") rfl), F__law_state.kp⟩
  have g__law_ends : FnG P w K mg base 3 _ fd__law_ends ps__law_ends sp__law_ends := walk__law_ends sm M tab insk c__law_draw c__law_names c__law_state F__law_ends law__law_ends len__law_ends
  have c__law_ends : CallD P w K mg base 3 "_law_ends" 2 sp__law_ends := ⟨_, fd__law_ends, ps__law_ends, g__law_ends, KbU.pos 2 rfl F__law_ends (fun _ _ _ _ _ _ us hl => match us, hl with | [_, _], _ => rfl), He.glo_ok X G (c.fact 16 (f := .glo "_law_ends") rfl), F__law_ends.kp⟩
  have g__law_pairs : FnG P w K mg base 2 _ fd__law_pairs ps__law_pairs sp__law_pairs := walk__law_pairs sm M tab insk c__law_draw F__law_pairs law__law_pairs len__law_pairs
  have c__law_pairs : CallD P w K mg base 2 "_law_pairs" 3 sp__law_pairs := ⟨_, fd__law_pairs, ps__law_pairs, g__law_pairs, KbU.pos 3 rfl F__law_pairs (fun _ _ _ _ _ _ us hl => match us, hl with | [_, _, _], _ => rfl), He.glo_ok X G (c.fact 17 (f := .glo "_law_pairs") rfl), F__law_pairs.kp⟩
  have g__law_reel : FnG P w K mg base 1 _ fd__law_reel ps__law_reel sp__law_reel := walk__law_reel sm M tab insk  F__law_reel law__law_reel len__law_reel
  have c__law_reel : CallD P w K mg base 1 "_law_reel" 2 sp__law_reel := ⟨_, fd__law_reel, ps__law_reel, g__law_reel, KbU.pos 2 rfl F__law_reel (fun _ _ _ _ _ _ us hl => match us, hl with | [_, _], _ => rfl), He.glo_ok X G (c.fact 18 (f := .glo "_law_reel") rfl), F__law_reel.kp⟩
  have g__law_room : FnG P w K mg base 2 _ fd__law_room ps__law_room sp__law_room := walk__law_room sm M tab insk c__law_draw F__law_room law__law_room len__law_room
  have c__law_room : CallD P w K mg base 2 "_law_room" 1 sp__law_room := ⟨_, fd__law_room, ps__law_room, g__law_room, KbU.pos 1 rfl F__law_room (fun _ _ _ _ _ _ us hl => match us, hl with | [_], _ => rfl), He.glo_ok X G (c.fact 19 (f := .glo "_law_room") rfl), F__law_room.kp⟩
  have g__law_weak : FnG P w K mg base 2 _ fd__law_weak ps__law_weak sp__law_weak := walk__law_weak sm M tab insk c__law_draw F__law_weak law__law_weak len__law_weak
  have c__law_weak : CallD P w K mg base 2 "_law_weak" 2 sp__law_weak := ⟨_, fd__law_weak, ps__law_weak, g__law_weak, KbU.pos 2 rfl F__law_weak (fun _ _ _ _ _ _ us hl => match us, hl with | [_, _], _ => rfl), He.glo_ok X G (c.fact 20 (f := .glo "_law_weak") rfl), F__law_weak.kp⟩
  have g_law : FnG P w K mg base 11 _ fd_law ps_law sp_law := walk_law sm M tab insk c__law_reel c__law_ends c__law_weak c__law_room c_Hall___init__ c_Hall___init__K c__law_draw c_Hall_can_do c_Hall_do c__law_told c__law_pairs c__law_either_right F_law law_law len_law
  exact g_law
end Hd
open PySem PySem.W PySem.Calls PyProof.Rows
theorem PySem.Challenge.cw_sayloom_k36_whole_deeds_in_either_order_holds : PySem.Challenge.rw_sayloom_k36_whole_deeds_in_either_order.Holds := by
  w_on; o_law
  refine HandSHeadRun.head_any (r := OpenLaw.row PySem.Challenge.rw_sayloom_k36_whole_deeds_in_either_order) (q := view (OpenLaw.row PySem.Challenge.rw_sayloom_k36_whole_deeds_in_either_order).prog [46]) (H := Hd.hk) (ob := Hd.ob) (M := 20000) (loose := Hd.names) (d := HandSHeadRun.topDef (OpenLaw.row PySem.Challenge.rw_sayloom_k36_whole_deeds_in_either_order).prog 46) (kwd := []) Hd.ob_eq
    (by kernel_rfl) (fun s => by kernel_rfl) Hd.run (by kernel_rfl) (by kernel_rfl) (by kernel_rfl) (by rfl) (by first | assumption | decide +kernel) (by decide +kernel) ⟨rfl, rfl, rfl, rfl, rfl, by decide +kernel⟩ ?hw ?hc
  case hw => w_witness2
  case hc =>
    refine R.walk_G (l := PySem.Challenge.rw_sayloom_k36_whole_deeds_in_either_order) (n := 63) (k := 11) (x := "script") rfl (by decide) (by kernel_rfl) ⟨rfl, by decide, by decide⟩ ?F
    intro w mg fa h Y G hmg0
    obtain ⟨K, KX, c⟩ := Y
    have hmg : mg ("law" : PySem.Str) = some (.ref fa) := by
      have e : (HandSHeadRun.topDef (OpenLaw.row PySem.Challenge.rw_sayloom_k36_whole_deeds_in_either_order).prog 46).name = ("law" : PySem.Str) := by kernel_rfl
      rw [← e]
      exact hmg0
    obtain ⟨fd, hb, hF⟩ := Hd.facts (P := (PySem.Challenge.rw_sayloom_k36_whole_deeds_in_either_order).prog) (w := w) KX G hmg c
    exact ⟨K, fd, K36.sp_law, KX, hb, fun ns _ => ⟨ns, rfl, rfl, rfl⟩, hF⟩
