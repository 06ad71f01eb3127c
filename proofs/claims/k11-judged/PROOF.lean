import PyProof.Rows.All
import Wide.All
import OpenK.AllK
import Wide.FinOn
import HandS.ForMost
import HandS.ForExc
import HandS.TryMany
import HandS.CallSlots
import HandS.IsInst
import HandS.TupAny
import HandS.TupMul
import HandS.Wide
import HandS.Deep
import HandS.Style
import HandS.Zip
import PyProof.P3In
import HandS.More
import HandS.TupLe
import HandS.Dict
import HandS.WordsExc
import HandS.Defaults
import HandS.Head3
import HandS.HeadEnd
import HandS.HeadHook1
import HandS.HeadHook2
import HandS.HeadHook3
import HandS.HeadHook4
import PySem.Challenge.RW_evenclock_k11_whole_programs_judged
import HandS.Head2
section
set_option Elab.async false
set_option linter.all false
set_option maxRecDepth 100000
set_option maxHeartbeats 4000000
/-! An interpreter of the text's own, over plain data, and that it says what the model does: the domain, the relation. -/
namespace PyI
open PySem PySem.Spec PyProof.Rows L2

/-- a value: plain data, an object of the store, a def, a built-in type -/
inductive D where
  | non | bl (b : Bool) | int (i : Int) | str (x : Str) | tup (xs : List D) | lst (xs : List D) | dct (ks : List Key) (xs : List D) | ref (l : Nat) | ty (n : String) | fn (i : Nat) | scr (xs : List D)
instance : Inhabited D := ⟨.non⟩
/-- what stands in the store -/
inductive SO where
  | lst (xs : List D)
structure Store where
  nx : Nat
  at_ : Nat → Option SO
structure Ex where
  cls : Nat
  arg : Option (Str × D)
inductive Res (α : Type) where
  | ok (a : α) (s : Store) | exc (x : Ex) (s : Store) | stuck
abbrev M (α : Type) := Store → Res α
def Res.bind {α β : Type} (r : Res α) (k : α → Store → Res β) : Res β := match r with
  | .ok a s => k a s
  | .exc x s => .exc x s
  | .stuck => .stuck
/-- what the calls do -/
abbrev CL := Nat → List D → M D
abbrev Env := List (Option D)
abbrev EE := CL → Env → M D
abbrev TT' := CL → Env → M Bool
abbrev AA := CL → Env → M (List D)
inductive SR where
  | nx (e : PyI.Env) (s : Store) | ret (d : D) (s : Store) | bk (e : PyI.Env) (s : Store) | ct (e : PyI.Env) (s : Store) | exc (x : Ex) (e : PyI.Env) (s : Store) | stuck
abbrev SS := CL → PyI.Env → Store → SR

/-! ### the ground: what is the same through a law -/
structure Gb where
  P : Program
  w : World
  K : PySem.W.Frag
  mg : Str → Option Value
  base : Heap
  fa : Nat → Addr
  fd : Nat → FuncData
  fp : Nat → List Str
  ca : Nat → Addr

/-! ### worlds -/
structure Wd where
  F : Hp
  T : Hp
  μ : Nat → Addr
  nx : Nat
structure Wd.leU (w w' : Wd) : Prop where
  F : Same w.F w'.F
  nx : w.nx ≤ w'.nx
  μ : ∀ l, l < w.nx → w'.μ l = w.μ l
theorem Wd.leU.trans {a b c : Wd} (h : a.leU b) (k : b.leU c) : a.leU c := ⟨h.F.trans k.F, Nat.le_trans h.nx k.nx, fun l hl => (k.μ l (Nat.lt_of_lt_of_le hl h.nx)).trans (h.μ l hl)⟩
structure Wd.le (w w' : Wd) : Prop extends Wd.leU w w' where
  T : w'.T = w.T
theorem Wd.le.refl (w : Wd) : w.le w := ⟨⟨Same.refl _, Nat.le_refl _, fun _ _ => rfl⟩, rfl⟩
theorem Wd.leU.refl (w : Wd) : w.leU w := ⟨Same.refl _, Nat.le_refl _, fun _ _ => rfl⟩
theorem Wd.le.trans {a b c : Wd} (h : a.le b) (k : b.le c) : a.le c := ⟨h.toleU.trans k.toleU, k.T.trans h.T⟩

mutual
inductive RelD (g : Gb) (w : Wd) : V → D → Prop
  | non : RelD g w .non .non
  | bl (b : Bool) : RelD g w (.bl b) (.bl b)
  | int (i : Int) : RelD g w (.int i) (.int i)
  | str (x : Str) : RelD g w (.str x) (.str x)
  | tup {a : Addr} {vs : List V} {ds : List D} : SqT g.K w.F a vs → RelDs g w vs ds → RelD g w (.ref a) (.tup ds)
  | lst {a : Addr} {vs : List V} {ds : List D} : w.F a = some (.lst vs) → RelDs g w vs ds → RelD g w (.ref a) (.lst ds)
  | scr {a : Addr} {vs : List V} {ds : List D} : SqL g.K w.F a vs → RelDs g w vs ds → RelD g w (.ref a) (.scr ds)
  | dct {a : Addr} {o : Obj} {kvs : List (Key × V)} {ks : List Key} {ds : List D} : w.F a = some (.frz o (.dK kvs)) → kvs.map (·.1) = ks → RelDs g w (kvs.map (·.2)) ds → RelD g w (.ref a) (.dct ks ds)
  | ref {l : Nat} : l < w.nx → RelD g w (.ref (w.μ l)) (.ref l)
  | ty (n : String) : RelD g w (.ty n) (.ty n)
  | fn (i : Nat) : RelD g w (.ref (g.fa i)) (.fn i)
inductive RelDs (g : Gb) (w : Wd) : List V → List D → Prop
  | nil : RelDs g w [] []
  | cons {v : V} {vs : List V} {d : D} {ds : List D} : RelD g w v d → RelDs g w vs ds → RelDs g w (v :: vs) (d :: ds)
end

section
variable {g : Gb} {w w' : Wd}
theorem same_rd {F F' : Hp} (s : Same F F') {a : Addr} {u : HO} (h : Rd F a u) : Rd F' a u := by
  rcases h with h | ⟨o, h⟩
  · exact .inl (s _ _ h)
  · exact .inr ⟨o, s _ _ h⟩
theorem same_sqT {K : PySem.W.Frag} {F F' : Hp} (s : Same F F') {a : Addr} {xs : List V} (h : SqT K F a xs) : SqT K F' a xs := h.imp (same_rd s) id
theorem same_sqL {K : PySem.W.Frag} {F F' : Hp} (s : Same F F') {a : Addr} {xs : List V} (h : SqL K F a xs) : SqL K F' a xs := h.imp (same_rd s) id
mutual
theorem RelD.monoU (le : w.leU w') : ∀ {v : V} {d : D}, RelD g w v d → RelD g w' v d
  | _, _, .non => .non
  | _, _, .bl b => .bl b
  | _, _, .int i => .int i
  | _, _, .str x => .str x
  | _, _, .tup h r => .tup (same_sqT le.F h) (RelDs.monoU le r)
  | _, _, .lst h r => .lst (le.F _ _ h) (RelDs.monoU le r)
  | _, _, .scr h r => .scr (same_sqL le.F h) (RelDs.monoU le r)
  | _, _, .dct h e r => .dct (le.F _ _ h) e (RelDs.monoU le r)
  | _, _, .ref h => by
    rw [← le.μ _ h]
    exact .ref (Nat.lt_of_lt_of_le h le.nx)
  | _, _, .ty n => .ty n
  | _, _, .fn i => .fn i
theorem RelDs.monoU (le : w.leU w') : ∀ {vs : List V} {ds : List D}, RelDs g w vs ds → RelDs g w' vs ds
  | _, _, .nil => .nil
  | _, _, .cons h r => .cons (RelD.monoU le h) (RelDs.monoU le r)
end
theorem RelD.mono (le : w.le w') {v : V} {d : D} (h : RelD g w v d) : RelD g w' v d := h.monoU le.toleU
theorem RelDs.mono (le : w.le w') {vs : List V} {ds : List D} (h : RelDs g w vs ds) : RelDs g w' vs ds := h.monoU le.toleU
theorem RelDs.length : ∀ {vs : List V} {ds : List D}, RelDs g w vs ds → vs.length = ds.length
  | _, _, .nil => rfl
  | _, _, .cons _ r => congrArg Nat.succ r.length
theorem RelDs.append : ∀ {vs vs' : List V} {ds ds' : List D}, RelDs g w vs ds → RelDs g w vs' ds' → RelDs g w (vs ++ vs') (ds ++ ds')
  | _, _, _, _, .nil, h => h
  | _, _, _, _, .cons a r, h => .cons a (r.append h)
theorem RelDs.get : ∀ {vs : List V} {ds : List D} {i : Nat} {d : D}, RelDs g w vs ds → ds[i]? = some d → ∃ v, vs[i]? = some v ∧ RelD g w v d
  | _, _, _, _, .nil, e => by simp at e
  | _, _, 0, _, .cons a _, e => by simp at e; subst e; exact ⟨_, rfl, a⟩
  | _, _, i + 1, d, .cons _ r, e => by
    obtain ⟨v, h1, h2⟩ := RelDs.get (i := i) (d := d) r (by simpa using e)
    exact ⟨v, by simpa using h1, h2⟩
theorem RelDs.take : ∀ {vs : List V} {ds : List D} (n : Nat), RelDs g w vs ds → RelDs g w (vs.take n) (ds.take n)
  | _, _, 0, _ => .nil
  | _, _, _ + 1, .nil => .nil
  | _, _, n + 1, .cons a r => .cons a (r.take n)
theorem RelDs.drop : ∀ {vs : List V} {ds : List D} (n : Nat), RelDs g w vs ds → RelDs g w (vs.drop n) (ds.drop n)
  | _, _, 0, r => r
  | _, _, _ + 1, .nil => .nil
  | _, _, n + 1, .cons _ r => r.drop n
theorem RelDs.set {v : V} {d : D} (a : RelD g w v d) : ∀ {vs : List V} {ds : List D} (n : Nat), RelDs g w vs ds → RelDs g w (vs.set n v) (ds.set n d)
  | _, _, _, .nil => .nil
  | _, _, 0, .cons _ r => .cons a r
  | _, _, n + 1, .cons b r => .cons b (r.set a n)
theorem RelDs.rev : ∀ {vs : List V} {ds : List D}, RelDs g w vs ds → RelDs g w vs.reverse ds.reverse
  | _, _, .nil => .nil
  | _, _, .cons a r => by
    rw [List.reverse_cons, List.reverse_cons]
    exact r.rev.append (.cons a .nil)
theorem RelDs.ints : ∀ {vs : List V} {ns : List Int}, RelDs g w vs (ns.map D.int) → vs = ns.map V.int
  | _, [], .nil => rfl
  | _, n :: ns, .cons a r => by
    cases a
    rw [r.ints] <;> rfl
theorem RelDs.bools : ∀ {vs : List V} {ns : List Bool}, RelDs g w vs (ns.map D.bl) → vs = ns.map V.bl
  | _, [], .nil => rfl
  | _, n :: ns, .cons a r => by
    cases a
    rw [r.bools] <;> rfl
theorem RelDs.of_ints : ∀ {ns : List Int}, RelDs g w (ns.map V.int) (ns.map D.int)
  | [] => .nil
  | n :: ns => .cons (.int n) RelDs.of_ints
end

/-! ### the heap and the store -/
def RelO (g : Gb) (w : Wd) (H : Hp) (a : Addr) : SO → Prop
  | .lst ds => ∃ vs, H a = some (.lst vs) ∧ RelDs g w vs ds
structure RelH (g : Gb) (w : Wd) (H : Hp) (st : Store) : Prop where
  F : Same w.F H
  nx : w.nx = st.nx
  lt : ∀ l o, st.at_ l = some o → l < st.nx
  out : ∀ l o, st.at_ l = some o → w.F (w.μ l) = none
  rel : ∀ l o, st.at_ l = some o → RelO g w H (w.μ l) o
  tmp : ∀ a o, w.T a = some o → H a = some o ∧ w.F a = none ∧ ∀ l so, st.at_ l = some so → w.μ l ≠ a
  inj : ∀ l l' o o', st.at_ l = some o → st.at_ l' = some o' → w.μ l = w.μ l' → l = l'
structure RelE (g : Gb) (w : Wd) (σ : List (Option V)) (env : List (Option D)) : Prop where
  len : σ.length = env.length
  at_ : ∀ (i : Nat) (d : D), env[i]? = some (some d) → ∃ v : V, σ[i]? = some (some v) ∧ RelD g w v d
theorem RelE.mono {g : Gb} {w w' : Wd} {σ : List (Option V)} {env : List (Option D)} (le : w.le w') (h : RelE g w σ env) : RelE g w' σ env :=
  ⟨h.len, fun i d e => let ⟨v, h1, h2⟩ := h.at_ i d e; ⟨v, h1, h2.mono le⟩⟩
theorem RelE.set {g : Gb} {w : Wd} {σ : List (Option V)} {env : List (Option D)} {v : V} {d : D} (i : Nat) (h : RelE g w σ env) (r : RelD g w v d) : RelE g w (σ.set i (some v)) (env.set i (some d)) := by
  refine ⟨by rw [List.length_set, List.length_set]; exact h.len, fun j e hj => ?_⟩
  by_cases hji : i = j
  · subst hji
    by_cases hl : i < env.length
    · rw [List.getElem?_set_self hl] at hj
      cases hj
      exact ⟨v, by rw [List.getElem?_set_self (by rw [h.len]; exact hl)], r⟩
    · rw [List.getElem?_eq_none (by simpa using hl)] at hj
      cases hj
  · rw [List.getElem?_set_ne hji] at hj
    obtain ⟨u, h1, h2⟩ := h.at_ j e hj
    exact ⟨u, by rw [List.getElem?_set_ne hji]; exact h1, h2⟩
theorem RelE.wipe {g : Gb} {w : Wd} {σ : List (Option V)} {env : List (Option D)} (h : RelE g w σ env) : ∀ (vs : List Nat), RelE g w (L2.wipe σ vs) (vs.foldr (fun v e => e.set v none) env)
  | [] => h
  | v :: vs => by
    have ih := RelE.wipe h vs
    refine ⟨?_, fun j e hj => ?_⟩
    · show ((L2.wipe σ vs).set v none).length = _
      rw [List.length_set, List.foldr_cons, List.length_set]
      exact ih.len
    · rw [List.foldr_cons] at hj
      by_cases hji : v = j
      · subst hji
        rw [List.getElem?_set] at hj
        simp at hj
      · rw [List.getElem?_set_ne hji] at hj
        obtain ⟨u, h1, h2⟩ := ih.at_ j e hj
        exact ⟨u, by show ((L2.wipe σ vs).set v none)[j]? = _; rw [List.getElem?_set_ne hji]; exact h1, h2⟩

/-- a new frozen object -/
def Wd.frz (w : Wd) (p : Addr) (o : HO) : Wd := { w with F := upd w.F p o }
theorem Wd.frz_le {w : Wd} {p : Addr} {o : HO} (h : w.F p = none) : w.le (w.frz p o) := ⟨⟨fun b u e => by
  show upd w.F p o b = some u
  rw [upd_ne (ne_of_none e h)]; exact e, Nat.le_refl _, fun _ _ => rfl⟩, rfl⟩
theorem RelH.frz {g : Gb} {w : Wd} {H : Hp} {st : Store} {p : Addr} {o : HO} (h : RelH g w H st) (hp : H p = none) : RelH g (w.frz p o) (upd H p o) st := by
  have hF : w.F p = none := h.F.free hp
  have le := Wd.frz_le (o := o) hF
  have ne : ∀ l so, st.at_ l = some so → w.μ l ≠ p := fun l so e z => by
    cases so with
    | lst ds =>
      obtain ⟨vs, q, _⟩ := h.rel l _ e
      rw [z, hp] at q
      cases q
  refine ⟨fun b u e => ?_, h.nx, h.lt, fun l so e => ?_, fun l so e => ?_, fun a u e => ?_, h.inj⟩
  · have e' : upd w.F p o b = some u := e
    by_cases hb : b = p
    · subst hb
      rw [upd_same] at e' ⊢
      exact e'
    · rw [upd_ne hb] at e' ⊢
      exact h.F _ _ e'
  · show upd w.F p o (w.μ l) = none
    rw [upd_ne (ne l so e)]
    exact h.out l so e
  · have n := ne l so e
    have q := h.rel l so e
    cases so with
    | lst ds =>
      obtain ⟨vs, q1, q2⟩ := q
      exact ⟨vs, by show upd H p o (w.μ l) = _; rw [upd_ne n]; exact q1, q2.mono le⟩
  · obtain ⟨h1, h2, h3⟩ := h.tmp a u e
    have n := ne_of_none h1 hp
    exact ⟨by rw [upd_ne n]; exact h1, by show upd w.F p o a = none; rw [upd_ne n]; exact h2, h3⟩
/-- garbage: a new object that nobody knows -/
theorem RelH.drop {g : Gb} {w : Wd} {H : Hp} {st : Store} {p : Addr} {o : HO} (h : RelH g w H st) (hp : H p = none) : RelH g w (upd H p o) st := by
  have ne : ∀ l so, st.at_ l = some so → w.μ l ≠ p := fun l so e z => by
    cases so with
    | lst ds =>
      obtain ⟨vs, q, _⟩ := h.rel l _ e
      rw [z, hp] at q
      cases q
  refine ⟨fun b u e => ?_, h.nx, h.lt, h.out, fun l so e => ?_, fun a u e => ?_, h.inj⟩
  · rw [upd_ne (ne_of_none (h.F _ _ e) hp)]
    exact h.F _ _ e
  · have n := ne l so e
    have q := h.rel l so e
    cases so with
    | lst ds =>
      obtain ⟨vs, q1, q2⟩ := q
      exact ⟨vs, by show upd H p o (w.μ l) = _; rw [upd_ne n]; exact q1, q2⟩
  · obtain ⟨h1, h2, h3⟩ := h.tmp a u e
    exact ⟨by rw [upd_ne (ne_of_none h1 hp)]; exact h1, h2, h3⟩

/-- a new object of the store -/
def Store.new (st : Store) (o : SO) : Store := ⟨st.nx + 1, fun l => if l = st.nx then some o else st.at_ l⟩
def Store.put (st : Store) (l : Nat) (o : SO) : Store := ⟨st.nx, fun k => if k = l then some o else st.at_ k⟩
def Wd.new (w : Wd) (p : Addr) : Wd := ⟨w.F, w.T, fun l => if l = w.nx then p else w.μ l, w.nx + 1⟩
theorem Wd.new_le {w : Wd} {p : Addr} : w.le (w.new p) := ⟨⟨Same.refl _, Nat.le_succ _, fun l hl => if_neg (Nat.ne_of_lt hl)⟩, rfl⟩
theorem RelH.new {g : Gb} {w : Wd} {H : Hp} {st : Store} {p : Addr} {vs : List V} {ds : List D} (h : RelH g w H st) (hp : H p = none) (r : RelDs g w vs ds) : RelH g (w.new p) (upd H p (.lst vs)) (st.new (.lst ds)) := by
  have hF : w.F p = none := h.F.free hp
  have ne : ∀ l so, st.at_ l = some so → w.μ l ≠ p := fun l so e z => by
    cases so with
    | lst ds =>
      obtain ⟨vs, q, _⟩ := h.rel l _ e
      rw [z, hp] at q
      cases q
  have old : ∀ l so, l ≠ st.nx → (st.new (.lst ds)).at_ l = some so → st.at_ l = some so ∧ (w.new p).μ l = w.μ l := fun l so hl e => by
    have e' : (if l = st.nx then some (SO.lst ds) else st.at_ l) = some so := e
    rw [if_neg hl] at e'
    exact ⟨e', if_neg (by rw [h.nx]; exact hl)⟩
  have nw : ∀ so, (st.new (.lst ds)).at_ st.nx = some so → so = .lst ds := fun so e => by
    have e' : (if st.nx = st.nx then some (SO.lst ds) else st.at_ st.nx) = some so := e
    rw [if_pos rfl] at e'
    exact (Option.some.inj e').symm
  have nμ : (w.new p).μ st.nx = p := if_pos h.nx.symm
  refine ⟨fun b u e => ?_, congrArg Nat.succ h.nx, fun l so e => ?_, fun l so e => ?_, fun l so e => ?_, fun a u e => ?_, fun l l' so so' e e' z => ?_⟩
  · have e0 := h.F _ _ (show w.F b = some u from e)
    rw [upd_ne (ne_of_none e0 hp)]
    exact e0
  · by_cases hl : l = st.nx
    · subst hl
      exact Nat.lt_succ_self _
    · exact Nat.lt_succ_of_lt (h.lt l so (old l so hl e).1)
  · show w.F ((w.new p).μ l) = none
    by_cases hl : l = st.nx
    · rw [hl, nμ]
      exact hF
    · obtain ⟨e1, e2⟩ := old l so hl e
      rw [e2]
      exact h.out l so e1
  · by_cases hl : l = st.nx
    · subst hl
      rw [nw so e, nμ]
      exact ⟨vs, upd_same, r.mono Wd.new_le⟩
    · obtain ⟨e1, e2⟩ := old l so hl e
      rw [e2]
      have n := ne l so e1
      have q := h.rel l so e1
      cases so with
      | lst ds' =>
        obtain ⟨vs', q1, q2⟩ := q
        exact ⟨vs', by rw [upd_ne n]; exact q1, q2.mono Wd.new_le⟩
  · obtain ⟨h1, h2, h3⟩ := h.tmp a u (show w.T a = some u from e)
    refine ⟨by rw [upd_ne (ne_of_none h1 hp)]; exact h1, h2, fun l so e => ?_⟩
    by_cases hl : l = st.nx
    · rw [hl, nμ]
      exact (ne_of_none h1 hp).symm
    · obtain ⟨e1, e2⟩ := old l so hl e
      rw [e2]
      exact h3 l so e1
  · by_cases hl : l = st.nx
    · by_cases hl' : l' = st.nx
      · rw [hl, hl']
      · obtain ⟨e1, e2⟩ := old l' so' hl' e'
        rw [hl, nμ, e2] at z
        exact absurd z.symm (ne l' so' e1)
    · obtain ⟨e1, e2⟩ := old l so hl e
      by_cases hl' : l' = st.nx
      · rw [hl', nμ, e2] at z
        exact absurd z (ne l so e1)
      · obtain ⟨e1', e2'⟩ := old l' so' hl' e'
        rw [e2, e2'] at z
        exact h.inj l l' so so' e1 e1' z
/-- an object of the store is written -/
theorem RelH.put {g : Gb} {w : Wd} {H : Hp} {st : Store} {l : Nat} {o : SO} {vs : List V} {ds : List D} (h : RelH g w H st) (hl : st.at_ l = some o) (r : RelDs g w vs ds) : RelH g w (upd H (w.μ l) (.lst vs)) (st.put l (.lst ds)) := by
  have hF := h.out l o hl
  have old : ∀ k so, k ≠ l → (st.put l (.lst ds)).at_ k = some so → st.at_ k = some so := fun k so hk e => by
    have e' : (if k = l then some (SO.lst ds) else st.at_ k) = some so := e
    rw [if_neg hk] at e'
    exact e'
  have nw : ∀ so, (st.put l (.lst ds)).at_ l = some so → so = .lst ds := fun so e => by
    have e' : (if l = l then some (SO.lst ds) else st.at_ l) = some so := e
    rw [if_pos rfl] at e'
    exact (Option.some.inj e').symm
  refine ⟨fun b u e => ?_, h.nx, fun k so e => ?_, fun k so e => ?_, fun k so e => ?_, fun a u e => ?_, fun k k' so so' e e' z => ?_⟩
  · rw [upd_ne (ne_of_none e hF)]
    exact h.F _ _ e
  · by_cases hk : k = l
    · subst hk; exact h.lt _ _ hl
    · exact h.lt k so (old k so hk e)
  · by_cases hk : k = l
    · subst hk; exact hF
    · exact h.out k so (old k so hk e)
  · by_cases hk : k = l
    · subst hk
      rw [nw so e]
      exact ⟨vs, upd_same, r⟩
    · have e1 := old k so hk e
      have n : w.μ k ≠ w.μ l := fun z => hk (h.inj k l so o e1 hl z)
      have q := h.rel k so e1
      cases so with
      | lst ds' =>
        obtain ⟨vs', q1, q2⟩ := q
        exact ⟨vs', by rw [upd_ne n]; exact q1, q2⟩
  · obtain ⟨h1, h2, h3⟩ := h.tmp a u e
    refine ⟨by rw [upd_ne (h3 l o hl).symm]; exact h1, h2, fun k so e => ?_⟩
    by_cases hk : k = l
    · subst hk; exact h3 k o hl
    · exact h3 k so (old k so hk e)
  · have g1 : ∃ o1, st.at_ k = some o1 := by
      by_cases hk : k = l
      · subst hk; exact ⟨_, hl⟩
      · exact ⟨_, old k so hk e⟩
    have g2 : ∃ o1, st.at_ k' = some o1 := by
      by_cases hk : k' = l
      · subst hk; exact ⟨_, hl⟩
      · exact ⟨_, old k' so' hk e'⟩
    obtain ⟨o1, f1⟩ := g1
    obtain ⟨o2, f2⟩ := g2
    exact h.inj k k' o1 o2 f1 f2 z
/-- an object being made -/
def Wd.tmp (w : Wd) (p : Addr) (o : HO) : Wd := { w with T := upd w.T p o }
def Wd.untmp (w : Wd) (T : Hp) : Wd := { w with T := T }
mutual
theorem RelD.same {g : Gb} {w w' : Wd} (e1 : w'.F = w.F) (e2 : w'.μ = w.μ) (e3 : w'.nx = w.nx) : ∀ {v : V} {d : D}, RelD g w v d → RelD g w' v d
  | _, _, .non => .non
  | _, _, .bl b => .bl b
  | _, _, .int i => .int i
  | _, _, .str x => .str x
  | _, _, .tup h r => .tup (by rw [e1]; exact h) (RelDs.same e1 e2 e3 r)
  | _, _, .lst h r => .lst (by rw [e1]; exact h) (RelDs.same e1 e2 e3 r)
  | _, _, .scr h r => .scr (by rw [e1]; exact h) (RelDs.same e1 e2 e3 r)
  | _, _, .dct h e r => .dct (by rw [e1]; exact h) e (RelDs.same e1 e2 e3 r)
  | _, _, .ref h => by
    rw [← e2]
    exact .ref (by rw [e3]; exact h)
  | _, _, .ty n => .ty n
  | _, _, .fn i => .fn i
theorem RelDs.same {g : Gb} {w w' : Wd} (e1 : w'.F = w.F) (e2 : w'.μ = w.μ) (e3 : w'.nx = w.nx) : ∀ {vs : List V} {ds : List D}, RelDs g w vs ds → RelDs g w' vs ds
  | _, _, .nil => .nil
  | _, _, .cons h r => .cons (RelD.same e1 e2 e3 h) (RelDs.same e1 e2 e3 r)
end
theorem RelDs.tmp {g : Gb} {w : Wd} {p : Addr} {o : HO} {vs : List V} {ds : List D} (h : RelDs g w vs ds) : RelDs g (w.tmp p o) vs ds := RelDs.same (w := w) (w' := w.tmp p o) rfl rfl rfl h
theorem RelDs.untmp {g : Gb} {w : Wd} {T : Hp} {vs : List V} {ds : List D} (h : RelDs g w vs ds) : RelDs g (w.untmp T) vs ds := RelDs.same (w := w) (w' := w.untmp T) rfl rfl rfl h
theorem RelO.same {g : Gb} {w w' : Wd} (e1 : w'.F = w.F) (e2 : w'.μ = w.μ) (e3 : w'.nx = w.nx) {H : Hp} {a : Addr} {o : SO} (h : RelO g w H a o) : RelO g w' H a o := by
  cases o with
  | lst ds =>
    obtain ⟨vs, h1, h2⟩ := h
    exact ⟨vs, h1, h2.same e1 e2 e3⟩
theorem RelE.same {g : Gb} {w w' : Wd} {σ : List (Option V)} {env : List (Option D)} (e1 : w'.F = w.F) (e2 : w'.μ = w.μ) (e3 : w'.nx = w.nx) (h : RelE g w σ env) : RelE g w' σ env :=
  ⟨h.len, fun i d e => let ⟨v, h1, h2⟩ := h.at_ i d e; ⟨v, h1, h2.same e1 e2 e3⟩⟩
/-- a new object, in the making -/
theorem RelH.mk_tmp {g : Gb} {w : Wd} {H : Hp} {st : Store} {p : Addr} {o : HO} (h : RelH g w H st) (hp : H p = none) : RelH g (w.tmp p o) (upd H p o) st := by
  have h' := h.drop (o := o) hp
  have hF : w.F p = none := h.F.free hp
  refine ⟨h'.F, h'.nx, h'.lt, h'.out, fun l so e => RelO.same (w := w) (w' := w.tmp p o) rfl rfl rfl (h'.rel l so e), fun a u e => ?_, h'.inj⟩
  have e' : upd w.T p o a = some u := e
  by_cases ha : a = p
  · subst ha
    rw [upd_same] at e' ⊢
    refine ⟨e', hF, fun l so q z => ?_⟩
    have q2 := h.rel l so q
    cases so with
    | lst ds =>
      obtain ⟨vs, q3, _⟩ := q2
      rw [show w.μ l = a from z, hp] at q3
      cases q3
  · rw [upd_ne ha] at e'
    exact h'.tmp a u e'
/-- fewer things in the making -/
theorem RelH.less {g : Gb} {w : Wd} {H : Hp} {st : Store} {T : Hp} (h : RelH g w H st) (hT : ∀ a u, T a = some u → w.T a = some u) : RelH g (w.untmp T) H st :=
  ⟨h.F, h.nx, h.lt, h.out, fun l so e => RelO.same (w := w) (w' := w.untmp T) rfl rfl rfl (h.rel l so e), fun a u e => h.tmp a u (hT a u e), h.inj⟩
/-- it is changed -/
theorem RelH.put_tmp {g : Gb} {w : Wd} {H : Hp} {st : Store} {p : Addr} {o u : HO} (h : RelH g w H st) (hp : w.T p = some u) : RelH g (w.tmp p o) (upd H p o) st := by
  obtain ⟨t1, t2, t3⟩ := h.tmp p u hp
  refine ⟨fun b z e => ?_, h.nx, h.lt, h.out, fun l so e => ?_, fun a z e => ?_, h.inj⟩
  · rw [upd_ne (ne_of_none e t2)]
    exact h.F _ _ e
  · have q := h.rel l so e
    cases so with
    | lst ds =>
      obtain ⟨vs, q1, q2⟩ := q
      exact ⟨vs, by show upd H p o (w.μ l) = _; rw [upd_ne (t3 l _ e)]; exact q1, q2.tmp⟩
  · have e' : upd w.T p o a = some z := e
    by_cases ha : a = p
    · subst ha
      rw [upd_same] at e' ⊢
      exact ⟨e', t2, t3⟩
    · rw [upd_ne ha] at e' ⊢
      exact h.tmp a z e'
/-- it is done: it is frozen, or one of the store -/
theorem RelH.end_frz {g : Gb} {w : Wd} {H : Hp} {st : Store} {p : Addr} {o : HO} {T : Hp} (h : RelH g w H st) (hp : w.T p = some o) (hT : ∀ a u, T a = some u → a ≠ p ∧ w.T a = some u) : RelH g ((w.untmp T).frz p o) H st := by
  obtain ⟨t1, t2, t3⟩ := h.tmp p o hp
  have le : (w.untmp T).le ((w.untmp T).frz p o) := Wd.frz_le t2
  refine ⟨fun b u e => ?_, h.nx, h.lt, fun l so e => ?_, fun l so e => ?_, fun a u e => ?_, h.inj⟩
  · have e' : upd w.F p o b = some u := e
    by_cases hb : b = p
    · subst hb
      rw [upd_same] at e'
      rw [t1]
      exact e'
    · rw [upd_ne hb] at e'
      exact h.F _ _ e'
  · show upd w.F p o (w.μ l) = none
    rw [upd_ne (t3 l so e)]
    exact h.out l so e
  · have q := h.rel l so e
    cases so with
    | lst ds =>
      obtain ⟨vs, q1, q2⟩ := q
      exact ⟨vs, q1, q2.untmp.mono le⟩
  · obtain ⟨n, e2⟩ := hT a u e
    obtain ⟨h1, h2, h3⟩ := h.tmp a u e2
    exact ⟨h1, by show upd w.F p o a = none; rw [upd_ne n]; exact h2, h3⟩
theorem RelH.end_new {g : Gb} {w : Wd} {H : Hp} {st : Store} {p : Addr} {vs : List V} {ds : List D} {T : Hp} (h : RelH g w H st) (hp : w.T p = some (.lst vs)) (r : RelDs g w vs ds) (hT : ∀ a u, T a = some u → a ≠ p ∧ w.T a = some u) :
    RelH g ((w.untmp T).new p) H (st.new (.lst ds)) := by
  obtain ⟨t1, t2, t3⟩ := h.tmp p _ hp
  have le : (w.untmp T).le ((w.untmp T).new p) := Wd.new_le
  have old : ∀ l so, l ≠ st.nx → (st.new (.lst ds)).at_ l = some so → st.at_ l = some so ∧ ((w.untmp T).new p).μ l = w.μ l := fun l so hl e => by
    have e' : (if l = st.nx then some (SO.lst ds) else st.at_ l) = some so := e
    rw [if_neg hl] at e'
    exact ⟨e', if_neg (show ¬ l = w.nx by rw [h.nx]; exact hl)⟩
  have nw : ∀ so, (st.new (.lst ds)).at_ st.nx = some so → so = .lst ds := fun so e => by
    have e' : (if st.nx = st.nx then some (SO.lst ds) else st.at_ st.nx) = some so := e
    rw [if_pos rfl] at e'
    exact (Option.some.inj e').symm
  have nμ : ((w.untmp T).new p).μ st.nx = p := if_pos h.nx.symm
  refine ⟨h.F, congrArg Nat.succ h.nx, fun l so e => ?_, fun l so e => ?_, fun l so e => ?_, fun a u e => ?_, fun l l' so so' e e' z => ?_⟩
  · by_cases hl : l = st.nx
    · subst hl
      exact Nat.lt_succ_self _
    · exact Nat.lt_succ_of_lt (h.lt l so (old l so hl e).1)
  · show w.F (((w.untmp T).new p).μ l) = none
    by_cases hl : l = st.nx
    · rw [hl, nμ]
      exact t2
    · obtain ⟨e1, e2⟩ := old l so hl e
      rw [e2]
      exact h.out l so e1
  · by_cases hl : l = st.nx
    · subst hl
      rw [nw so e, nμ]
      exact ⟨vs, t1, r.untmp.mono le⟩
    · obtain ⟨e1, e2⟩ := old l so hl e
      rw [e2]
      have q := h.rel l so e1
      cases so with
      | lst ds' =>
        obtain ⟨vs', q1, q2⟩ := q
        exact ⟨vs', q1, q2.untmp.mono le⟩
  · obtain ⟨n, e2⟩ := hT a u (show T a = some u from e)
    obtain ⟨h1, h2, h3⟩ := h.tmp a u e2
    refine ⟨h1, h2, fun l so e => ?_⟩
    by_cases hl : l = st.nx
    · rw [hl, nμ]
      exact n.symm
    · obtain ⟨e1, e3⟩ := old l so hl e
      rw [e3]
      exact h3 l so e1
  · by_cases hl : l = st.nx
    · by_cases hl' : l' = st.nx
      · rw [hl, hl']
      · obtain ⟨e1, e2⟩ := old l' so' hl' e'
        rw [hl, nμ, e2] at z
        exact absurd z.symm (t3 l' so' e1)
    · obtain ⟨e1, e2⟩ := old l so hl e
      by_cases hl' : l' = st.nx
      · rw [hl', nμ, e2] at z
        exact absurd z (t3 l so e1)
      · obtain ⟨e1', e2'⟩ := old l' so' hl' e'
        rw [e2, e2'] at z
        exact h.inj l l' so so' e1 e1' z
end PyI
end

section
set_option Elab.async false
set_option linter.all false
set_option maxRecDepth 100000
set_option maxHeartbeats 4000000
/-! Readings from the interpreter; expressions. -/
namespace PyI
open PySem PySem.Spec PyProof.Rows L2

/-! ### what a result says -/
def RelX (g : Gb) (w : Wd) (x : Ex) (dd : Option Addr) : Prop := match x.arg with
  | none => dd = none
  | some (f, d) => ∃ a v, dd = some a ∧ w.F a = some (.xd [(f, v)]) ∧ RelD g w v d
def Out {α β : Type} (g : Gb) (R : Wd → β → α → Prop) (W : WX) (w : Wd) (σ : L2.St) (r : Res α) (Q : β → Hp → Prop) : Prop := match r with
  | .ok d st => ∀ w' v H', w.le w' → RelH g w' H' st → R w' v d → Q v H'
  | .exc x st => ∀ w' H' dd, w.le w' → RelH g w' H' st → RelX g w' x dd → W (.ref (g.ca x.cls)) dd σ H'
  | .stuck => False
section
variable {α β α' β' : Type} {g : Gb} {R : Wd → β → α → Prop} {R' : Wd → β' → α' → Prop} {W : WX} {w w' : Wd} {σ : L2.St}
theorem Out.le {r : Res α} {Q : β → Hp → Prop} (le : w.le w') (h : Out g R W w σ r Q) : Out g R W w' σ r Q := by
  cases r with
  | ok d st => exact fun w2 v H' l => h w2 v H' (le.trans l)
  | exc x st => exact fun w2 H' dd l => h w2 H' dd (le.trans l)
  | stuck => exact h
theorem Out.imp {r : Res α} {Q Q' : β → Hp → Prop} (h : Out g R W w σ r Q) (k : ∀ v H, Q v H → Q' v H) : Out g R W w σ r Q' := by
  cases r with
  | ok d st => exact fun w2 v H' l a b => k _ _ (h w2 v H' l a b)
  | exc x st => exact h
  | stuck => exact h
theorem Out.bind {r : Res α} {k : α → Store → Res α'} {Q : β' → Hp → Prop} (h : Out g R' W w σ (r.bind k) Q) :
    Out g R W w σ r (fun v H => ∃ w1 d st, w.le w1 ∧ RelH g w1 H st ∧ R w1 v d ∧ Out g R' W w1 σ (k d st) Q) := by
  cases r with
  | ok d st => exact fun w' v H' le a b => ⟨w', d, st, le, a, b, Out.le le h⟩
  | exc x st => exact h
  | stuck => exact h
end
/-- a result without exception, the store as it was -/
def OutV (g : Gb) (w : Wd) (o : Option D) (st : Store) (Q : VK) : Prop := match o with
  | some d => ∀ w' v H', w.le w' → RelH g w' H' st → RelD g w' v d → Q v H'
  | none => False
def liftO {α : Type} (o : Option α) (st : Store) : Res α := match o with
  | some d => .ok d st
  | none => .stuck
theorem Out.v {g : Gb} {W : WX} {w : Wd} {σ : L2.St} {o : Option D} {st : Store} {Q : VK} (h : Out g (RelD g) W w σ (liftO o st) Q) : OutV g w o st Q := by
  cases o with
  | some d => exact h
  | none => exact h

abbrev eqB : Wd → Bool → Bool → Prop := fun _ b c => b = c
def rdE (g : Gb) (cl : CL) (W : WX) (m : EE) : TE := fun σ H Q => ∃ w env st, RelH g w H st ∧ RelE g w σ env ∧ Out g (RelD g) W w σ (m cl env st) Q
def rdT (g : Gb) (cl : CL) (W : WX) (m : TT') : TT := fun σ H Q => ∃ w env st, RelH g w H st ∧ RelE g w σ env ∧ Out g eqB W w σ (m cl env st) Q
def rdA (g : Gb) (cl : CL) (W : WX) (m : AA) : TA := fun σ H Q => ∃ w env st, RelH g w H st ∧ RelE g w σ env ∧ Out g (RelDs g) W w σ (m cl env st) Q
theorem _root_.L2.PE.weak {X : Cx} {e : Expr} {t t' : TE} (h : PE X e t) (k : ∀ σ H Q, t' σ H Q → t σ H Q) : PE X e t' := ⟨fun pins s σ H Q I hw => h.run pins s σ H Q I (k σ H Q hw)⟩
theorem _root_.L2.PT.weak {X : Cx} {e : Expr} {t t' : TT} (h : PT X e t) (k : ∀ σ H Q, t' σ H Q → t σ H Q) : PT X e t' := ⟨fun pins s σ H Q I hw => h.run pins s σ H Q I (k σ H Q hw)⟩
theorem _root_.L2.PW.weak {X : Cx} {e : Expr} {t t' : TT} (h : PW X e t) (k : ∀ σ H Q, t' σ H Q → t σ H Q) : PW X e t' := ⟨fun wh pins s σ H Q I hw => h.run wh pins s σ H Q I (k σ H Q hw)⟩
theorem _root_.L2.PA.weak {X : Cx} {e : List Expr} {t t' : TA} (h : PA X e t) (k : ∀ σ H Q, t' σ H Q → t σ H Q) : PA X e t' := ⟨fun p pins s σ H Q I hw => h.run p pins s σ H Q I (k σ H Q hw)⟩
theorem _root_.L2.PS.weak {X : Cx} {e : Stmt} {t t' : TS} (h : PS X e t) (k : ∀ D σ H, t' D σ H → t D σ H) : PS X e t' := ⟨fun pins s σ H D I hw => h.run pins s σ H D I (k D σ H hw)⟩
theorem _root_.L2.PSs.weak {X : Cx} {e : List Stmt} {t t' : TS} (h : PSs X e t) (k : ∀ D σ H, t' D σ H → t D σ H) : PSs X e t' := ⟨fun pins s σ H D I hw => h.run pins s σ H D I (k D σ H hw)⟩
theorem _root_.L2.PI.weak {X : Cx} {tg e : Expr} {t t' : TI} (h : PI X tg e t) (k : ∀ σ H Q, t' σ H Q → t σ H Q) : PI X tg e t' := ⟨fun pins s σ H Q I hw => h.run pins s σ H Q I (k σ H Q hw)⟩

/-! ### a def by its interpretation -/
def OutF (g : Gb) (w : Wd) (r : Res D) (Q : VK) (E : XK) : Prop := match r with
  | .ok d st => ∀ w' v H', w.le w' → RelH g w' H' st → RelD g w' v d → Q v H'
  | .exc x st => ∀ w' H' dd, w.le w' → RelH g w' H' st → RelX g w' x dd → E (.ref (g.ca x.cls)) dd H'
  | .stuck => False
def spI (g : Gb) (cl : CL) (i : Nat) : Sp := fun vs H Q E => ∃ w ds st, RelH g w H st ∧ RelDs g w vs ds ∧ ds.length = (g.fp i).length ∧ OutF g w (cl i ds st) Q E
structure Good (g : Gb) (cl : CL) (n : Nat) (X : Cx) (W : WX) : Prop where
  P : X.prog = g.P
  w : X.w = g.w
  K : X.K = g.K
  mg : X.mg = g.mg
  base : X.base = g.base
  nd : X.N.Nodup
  calm : X.calm = true
  room : Room n X.A
  tk : Takes X W
  fns : ∀ i, FnOk g.P g.w g.K g.mg g.base (L2.CX g.P g.w) n (g.fa i) (g.fd i) (g.fp i) (spI g cl i)

/-! ### combinators -/
def varM (i : Nat) : EE := fun _ env st => match env[i]? with
  | some (some d) => .ok d st
  | _ => .stuck
def conM (d : D) : EE := fun _ _ st => .ok d st
def binM (o : Store → D → D → Option D) (a b : EE) : EE := fun cl env st => (a cl env st).bind fun x s1 => (b cl env s1).bind fun y s2 => liftO (o s2 x y) s2
def unM (o : Store → D → Option D) (a : EE) : EE := fun cl env st => (a cl env st).bind fun x s1 => liftO (o s1 x) s1
def boolOf : D → Option Bool
  | .bl b => some b
  | _ => none
/-- an expression as a test -/
def boolT (a : EE) : TT' := fun cl env st => (a cl env st).bind fun x s1 => liftO (boolOf x) s1
def ofT (t : TT') : EE := fun cl env st => (t cl env st).bind fun b s1 => .ok (.bl b) s1
def andT (a b : TT') : TT' := fun cl env st => (a cl env st).bind fun x s1 => match x with
  | true => b cl env s1
  | false => .ok false s1
def orT (a b : TT') : TT' := fun cl env st => (a cl env st).bind fun x s1 => match x with
  | true => .ok true s1
  | false => b cl env s1
def notT (a : TT') : TT' := fun cl env st => (a cl env st).bind fun x s1 => .ok (!x) s1
/-- and, or as values: all but the last are bools -/
def andM (a b : EE) : EE := fun cl env st => (a cl env st).bind fun x s1 => match x with
  | .bl true => b cl env s1
  | .bl false => .ok (.bl false) s1
  | _ => .stuck
def orM (a b : EE) : EE := fun cl env st => (a cl env st).bind fun x s1 => match x with
  | .bl true => .ok (.bl true) s1
  | .bl false => b cl env s1
  | _ => .stuck
def notM (a : EE) : EE := fun cl env st => (a cl env st).bind fun x s1 => match x with
  | .bl b => .ok (.bl (!b)) s1
  | _ => .stuck
def ifM (t : TT') (a b : EE) : EE := fun cl env st => (t cl env st).bind fun x s1 => match x with
  | true => a cl env s1
  | false => b cl env s1
/-- a < b < c: two comparisons -/
def chainM (o o' : Store → D → D → Option D) (a b c : EE) : EE := fun cl env st => (a cl env st).bind fun x s1 => (b cl env s1).bind fun y s2 => match o s2 x y with
  | some (.bl true) => (c cl env s2).bind fun z s3 => liftO (o' s3 y z) s3
  | some (.bl false) => .ok (.bl false) s2
  | _ => .stuck
def nilM : AA := fun _ _ st => .ok [] st
def consM (a : EE) (r : AA) : AA := fun cl env st => (a cl env st).bind fun x s1 => (r cl env s1).bind fun xs s2 => .ok (x :: xs) s2
def tupM (as : AA) : EE := fun cl env st => (as cl env st).bind fun xs s1 => if xs.length ≤ sizeLine then .ok (.tup xs) s1 else .stuck
/-- a list that is never changed; one that may be -/
def lstM (as : AA) : EE := fun cl env st => (as cl env st).bind fun xs s1 => if xs.length ≤ sizeLine then .ok (.lst xs) s1 else .stuck
def newL (xs : List D) (st : Store) : Res D := if xs.length ≤ sizeLine then .ok (.ref st.nx) (st.new (.lst xs)) else .stuck
def lstN (as : AA) : EE := fun cl env st => (as cl env st).bind fun xs s1 => newL xs s1
def callM (i : Nat) (as : AA) : EE := fun cl env st => (as cl env st).bind fun xs s1 => cl i xs s1

section
variable {g : Gb} {cl : CL} {n : Nat} {X : Cx} {W : WX} {e a b c : Expr} {es : List Expr} {ma mb mc : EE} {mt mu : TT'} {ms : AA} {pos : Pos}
theorem s_var {i : Nat} {x : Str} {pos : Pos} (hN : X.N[i]? = some x) (hv : Vis X.env.scope x) (hd : (x == ("__debug__" : Str)) = false) (hcd : (x == ("__classdict__" : Str)) = false) : PE X (.Name x pos) (rdE g cl W (varM i)) :=
  (pe_var hN hv hd hcd).weak fun σ H Q ⟨w, env, st, rh, re, h⟩ => by
    unfold varM at h
    cases q : env[i]? with
    | none => rw [q] at h; exact h.elim
    | some o =>
      rw [q] at h
      cases o with
      | none => exact h.elim
      | some d =>
        obtain ⟨v, h1, h2⟩ := re.at_ i d q
        exact ⟨v, h1, h w v H (.refl w) rh h2⟩
theorem con_ok {v : V} {d : D} (hp : PE X e (tC v)) (r : ∀ w, RelD g w v d) : PE X e (rdE g cl W (conM d)) :=
  hp.weak fun σ H Q ⟨w, env, st, rh, re, h⟩ => h w v H (.refl w) rh (r w)
theorem s_int {i : Int} {j : Nat} : PE X (.Constant (.int i) j pos) (rdE g cl W (conM (.int i))) := con_ok pe_int fun _ => .int i
theorem s_bl {i : Bool} {j : Nat} : PE X (.Constant (.bool i) j pos) (rdE g cl W (conM (.bl i))) := con_ok pe_bl fun _ => .bl i
theorem s_non {j : Nat} : PE X (.Constant .none j pos) (rdE g cl W (conM .non)) := con_ok pe_non fun _ => .non
theorem s_str {x : Str} {j : Nat} : PE X (.Constant (.str x) j pos) (rdE g cl W (conM (.str x))) := con_ok pe_str fun _ => .str x
theorem s_glob {x : Str} {v : V} {u : Value} {d : D} (hg : Gl X x) (hm : X.mg x = some u) (r : RelV v u) (rd : ∀ w, RelD g w v d) (hd : (x == ("__debug__" : Str)) = false) : PE X (.Name x pos) (rdE g cl W (conM d)) := con_ok (pe_glob hg hm r hd) rd
theorem s_stuck {m : EE} (h : ∀ cl env st, m cl env st = .stuck) : PE X e (rdE g cl W m) := ⟨fun pins s σ H Q I ⟨w, env, st, rh, re, hw⟩ => by
  rw [h] at hw
  exact hw.elim⟩

/-! operators -/
def rOp (g : Gb) (o : Store → D → D → Option D) : R2 := fun x y H Q => ∃ w d e st, RelH g w H st ∧ RelD g w x d ∧ RelD g w y e ∧ OutV g w (o st d e) st Q
def rUn (g : Gb) (o : Store → D → Option D) : V → Hp → VK → Prop := fun x H Q => ∃ w d st, RelH g w H st ∧ RelD g w x d ∧ OutV g w (o st d) st Q
theorem rd_bin {o : Store → D → D → Option D} : ∀ σ H Q, rdE g cl W (binM o ma mb) σ H Q → tOp (rOp g o) (rdE g cl W ma) (rdE g cl W mb) σ H Q := fun σ H Q ⟨w, env, st, rh, re, h⟩ =>
  ⟨w, env, st, rh, re, h.bind.imp fun x H1 ⟨w1, d, s1, le1, rh1, rx, h1⟩ => ⟨w1, env, s1, rh1, re.mono le1, h1.bind.imp fun y H2 ⟨w2, d2, s2, le2, rh2, ry, h2⟩ =>
    ⟨w2, d, d2, s2, rh2, rx.mono le2, ry, h2.v⟩⟩⟩
theorem s_bin {op : Operator} {o : Store → D → D → Option D} (ho : OpR X (binaryOp op) (rOp g o)) (ha : PE X a (rdE g cl W ma)) (hb : PE X b (rdE g cl W mb)) : PE X (.BinOp a op b pos) (rdE g cl W (binM o ma mb)) :=
  (pe_op ho ha hb).weak rd_bin
theorem s_un {op : UnaryOp} {o : Store → D → Option D} (ho : UnR X (unaryOp op) (rUn g o)) (ha : PE X a (rdE g cl W ma)) : PE X (.UnaryOp op a pos) (rdE g cl W (unM o ma)) :=
  (pe_un ho ha).weak fun σ H Q ⟨w, env, st, rh, re, h⟩ => ⟨w, env, st, rh, re, h.bind.imp fun x H1 ⟨w1, d, s1, le1, rh1, rx, h1⟩ => ⟨w1, d, s1, rh1, rx, h1.v⟩⟩
theorem s_cmp {op : CmpOp} {o : Store → D → D → Option D} (ho : OpR X (compareOp op) (rOp g o)) (ha : PE X a (rdE g cl W ma)) (hb : PE X b (rdE g cl W mb)) (hm : behindInMarks op b = false) : PE X (.Compare a [op] [b] pos) (rdE g cl W (binM o ma mb)) :=
  (pe_cmpR ho ha hb hm).weak rd_bin
theorem s_cmpT {op : CmpOp} {o : Store → D → D → Option D} (ho : OpR X (compareOp op) (rOp g o)) (ha : PE X a (rdE g cl W ma)) (hb : PE X b (rdE g cl W mb)) (hm : behindInMarks op b = false) : PT X (.Compare a [op] [b] pos) (rdT g cl W (boolT (binM o ma mb))) :=
  (pt_cmpR ho ha hb hm).weak fun σ H Q ⟨w, env, st, rh, re, h⟩ => by
    have h2 : Out g (RelD g) W w σ (binM o ma mb cl env st) (fun x H' => ∃ k, x = .bl k ∧ Q k H') := by
      refine h.bind.imp fun v H1 ⟨w1, d, s1, le1, rh1, rx, h1⟩ => ?_
      cases rx with
      | bl b => exact ⟨b, rfl, h1 w1 b H1 (.refl _) rh1 rfl⟩
      | _ => exact h1.elim
    exact rd_bin σ H _ ⟨w, env, st, rh, re, h2⟩
theorem rd_chain {o o' : Store → D → D → Option D} : ∀ σ H Q, rdE g cl W (chainM o o' ma mb mc) σ H Q → tChain (rOp g o) (rOp g o') (rdE g cl W ma) (rdE g cl W mb) (rdE g cl W mc) σ H Q := fun σ H Q ⟨w, env, st, rh, re, h⟩ =>
  ⟨w, env, st, rh, re, h.bind.imp fun x H1 ⟨w1, d, s1, le1, rh1, rx, h1⟩ => ⟨w1, env, s1, rh1, re.mono le1, h1.bind.imp fun y H2 ⟨w2, d2, s2, le2, rh2, ry, h2⟩ => by
    refine ⟨w2, d, d2, s2, rh2, rx.mono le2, ry, ?_⟩
    cases q : o s2 d d2 with
    | none => rw [q] at h2; exact h2.elim
    | some z =>
      rw [q] at h2
      cases z with
      | bl k =>
        intro w3 v H3 le3 rh3 rv
        cases rv
        refine ⟨k, rfl, ?_⟩
        cases k with
        | true =>
          refine iteT ⟨w3, env, s2, rh3, re.mono (le1.trans (le2.trans le3)), (Out.le le3 h2).bind.imp fun z H4 ⟨w4, d4, s4, le4, rh4, rz, h4⟩ => ⟨w4, d2, d4, s4, rh4, ry.mono (le3.trans le4), rz, h4.v⟩⟩
        | false => exact iteF (h2 w3 (.bl false) H3 le3 rh3 (.bl false))
      | _ => exact h2.elim⟩⟩
theorem s_chain {op op' : CmpOp} {o o' : Store → D → D → Option D} (ho : OpR X (compareOp op) (rOp g o)) (ho' : OpR X (compareOp op') (rOp g o')) (ha : PE X a (rdE g cl W ma)) (hb : PE X b (rdE g cl W mb)) (hc : PE X c (rdE g cl W mc)) (hm : behindInMarks op' c = false) :
    PE X (.Compare a [op, op'] [b, c] pos) (rdE g cl W (chainM o o' ma mb mc)) := (pe_chain ho ho' ha hb hc hm).weak rd_chain
theorem s_chainT {op op' : CmpOp} {o o' : Store → D → D → Option D} (ho : OpR X (compareOp op) (rOp g o)) (ho' : OpR X (compareOp op') (rOp g o')) (ha : PE X a (rdE g cl W ma)) (hb : PE X b (rdE g cl W mb)) (hc : PE X c (rdE g cl W mc)) (hm : behindInMarks op' c = false) :
    PT X (.Compare a [op, op'] [b, c] pos) (rdT g cl W (boolT (chainM o o' ma mb mc))) := (pt_chain ho ho' ha hb hc hm).weak fun σ H Q ⟨w, env, st, rh, re, h⟩ => by
    have h2 : Out g (RelD g) W w σ (chainM o o' ma mb mc cl env st) (fun x H' => ∃ k, x = .bl k ∧ Q k H') := by
      refine h.bind.imp fun v H1 ⟨w1, d, s1, le1, rh1, rx, h1⟩ => ?_
      cases rx with
      | bl b => exact ⟨b, rfl, h1 w1 b H1 (.refl _) rh1 rfl⟩
      | _ => exact h1.elim
    exact rd_chain σ H _ ⟨w, env, st, rh, re, h2⟩
/-- an expression that gives a bool, as a test -/
theorem s_boolT (ha : PE X a (rdE g cl W ma)) (he : ∀ whole, isTrue a X.env whole = (do let v ← whole; standAt a.pos; holding [v] (truthy v))) : PT X a (rdT g cl W (boolT ma)) :=
  (pt_val ha he).weak fun σ H Q ⟨w, env, st, rh, re, h⟩ => by
    refine ⟨w, env, st, rh, re, h.bind.imp fun v H1 ⟨w1, d, s1, le1, rh1, rx, h1⟩ => ?_⟩
    cases rx with
    | bl b => exact ⟨b, rfl, h1 w1 b H1 (.refl _) rh1 rfl⟩
    | _ => exact h1.elim

/-! and, or, not -/
theorem s_andV {rest : List Expr} (ha : PE X a (rdE g cl W ma)) (hb : PE X (.BoolOp .And (b :: rest) pos) (rdE g cl W mb)) : PE X (.BoolOp .And (a :: b :: rest) pos) (rdE g cl W (andM ma mb)) :=
  (pe_and ha hb).weak fun σ H Q ⟨w, env, st, rh, re, h⟩ => by
    refine ⟨w, env, st, rh, re, h.bind.imp fun v H1 ⟨w1, d, s1, le1, rh1, rx, h1⟩ => ?_⟩
    cases rx with
    | bl b =>
      cases b with
      | true => exact ⟨true, rfl, iteT ⟨w1, env, s1, rh1, re.mono le1, h1⟩⟩
      | false => exact ⟨false, rfl, iteF (h1 w1 _ H1 (.refl _) rh1 (.bl false))⟩
    | _ => exact h1.elim
theorem s_orV {rest : List Expr} (ha : PE X a (rdE g cl W ma)) (hb : PE X (.BoolOp .Or (b :: rest) pos) (rdE g cl W mb)) : PE X (.BoolOp .Or (a :: b :: rest) pos) (rdE g cl W (orM ma mb)) :=
  (pe_or ha hb).weak fun σ H Q ⟨w, env, st, rh, re, h⟩ => by
    refine ⟨w, env, st, rh, re, h.bind.imp fun v H1 ⟨w1, d, s1, le1, rh1, rx, h1⟩ => ?_⟩
    cases rx with
    | bl b =>
      cases b with
      | false => exact ⟨false, rfl, iteF ⟨w1, env, s1, rh1, re.mono le1, h1⟩⟩
      | true => exact ⟨true, rfl, iteT (h1 w1 _ H1 (.refl _) rh1 (.bl true))⟩
    | _ => exact h1.elim
theorem s_oneV {op : BoolOp} (ha : PE X a (rdE g cl W ma)) : PE X (.BoolOp op [a] pos) (rdE g cl W ma) := pe_one ha
theorem s_notV (ha : PE X a (rdE g cl W ma)) : PE X (.UnaryOp .Not a pos) (rdE g cl W (notM ma)) :=
  (pe_not ha).weak fun σ H Q ⟨w, env, st, rh, re, h⟩ => by
    refine ⟨w, env, st, rh, re, h.bind.imp fun v H1 ⟨w1, d, s1, le1, rh1, rx, h1⟩ => ?_⟩
    cases rx with
    | bl b => exact ⟨b, rfl, h1 w1 _ H1 (.refl _) rh1 (.bl (!b))⟩
    | _ => exact h1.elim
theorem s_andT {rest : List Expr} (ha : PT X a (rdT g cl W mt)) (hb : PW X (.BoolOp .And (b :: rest) pos) (rdT g cl W mu)) : PW X (.BoolOp .And (a :: b :: rest) pos) (rdT g cl W (andT mt mu)) :=
  (pw_and ha hb).weak fun σ H Q ⟨w, env, st, rh, re, h⟩ => by
    refine ⟨w, env, st, rh, re, h.bind.imp fun v H1 ⟨w1, d, s1, le1, rh1, rx, h1⟩ => ?_⟩
    cases (show v = d from rx)
    cases v with
    | true => exact iteT ⟨w1, env, s1, rh1, re.mono le1, h1⟩
    | false => exact iteF (h1 w1 _ H1 (.refl _) rh1 rfl)
theorem s_orT {rest : List Expr} (ha : PT X a (rdT g cl W mt)) (hb : PW X (.BoolOp .Or (b :: rest) pos) (rdT g cl W mu)) : PW X (.BoolOp .Or (a :: b :: rest) pos) (rdT g cl W (orT mt mu)) :=
  (pw_or ha hb).weak fun σ H Q ⟨w, env, st, rh, re, h⟩ => by
    refine ⟨w, env, st, rh, re, h.bind.imp fun v H1 ⟨w1, d, s1, le1, rh1, rx, h1⟩ => ?_⟩
    cases (show v = d from rx)
    cases v with
    | false => exact iteF ⟨w1, env, s1, rh1, re.mono le1, h1⟩
    | true => exact iteT (h1 w1 _ H1 (.refl _) rh1 rfl)
theorem s_notT (ha : PT X a (rdT g cl W mt)) : PT X (.UnaryOp .Not a pos) (rdT g cl W (notT mt)) :=
  (pt_not ha).weak fun σ H Q ⟨w, env, st, rh, re, h⟩ => by
    refine ⟨w, env, st, rh, re, h.bind.imp fun v H1 ⟨w1, d, s1, le1, rh1, rx, h1⟩ => ?_⟩
    cases (show v = d from rx)
    exact h1 w1 _ H1 (.refl _) rh1 rfl
theorem s_if (hc : PT X c (rdT g cl W mt)) (ha : PE X a (rdE g cl W ma)) (hb : PE X b (rdE g cl W mb)) : PE X (.IfExp c a b pos) (rdE g cl W (ifM mt ma mb)) :=
  (pe_ifExp hc ha hb).weak fun σ H Q ⟨w, env, st, rh, re, h⟩ => by
    refine ⟨w, env, st, rh, re, h.bind.imp fun v H1 ⟨w1, d, s1, le1, rh1, rx, h1⟩ => ?_⟩
    cases (show v = d from rx)
    cases v with
    | true => exact iteT ⟨w1, env, s1, rh1, re.mono le1, h1⟩
    | false => exact iteF ⟨w1, env, s1, rh1, re.mono le1, h1⟩

/-! argument lists, displays, calls -/
theorem s_nil : PA X [] (rdA g cl W nilM) := pa_nil.weak fun σ H Q ⟨w, env, st, rh, re, h⟩ => h w [] H (.refl w) rh .nil
theorem s_cons (ha : PE X a (rdE g cl W ma)) (hr : PA X es (rdA g cl W ms)) (hs : starEach (a :: es) X.env = (false, eval a X.env) :: starEach es X.env) : PA X (a :: es) (rdA g cl W (consM ma ms)) :=
  (pa_cons ha hr hs).weak fun σ H Q ⟨w, env, st, rh, re, h⟩ => ⟨w, env, st, rh, re, h.bind.imp fun v H1 ⟨w1, d, s1, le1, rh1, rx, h1⟩ => ⟨w1, env, s1, rh1, re.mono le1, h1.bind.imp fun vs H2 ⟨w2, ds, s2, le2, rh2, rs, h2⟩ =>
    h2 w2 (v :: vs) H2 (.refl _) rh2 (.cons (rx.mono le2) rs)⟩⟩
theorem s_tup {k : Nat} (h : PA X es (rdA g cl W ms)) : PE X (.Tuple es k pos) (rdE g cl W (tupM ms)) :=
  (pe_tup h).weak fun σ H Q ⟨w, env, st, rh, re, h⟩ => by
    refine ⟨w, env, st, rh, re, h.bind.imp fun vs H1 ⟨w1, ds, s1, le1, rh1, rx, h1⟩ => ?_⟩
    by_cases hl : ds.length ≤ sizeLine
    · rw [if_pos hl] at h1
      refine ⟨by rw [rx.length]; exact hl, fun p hp => h1 (w1.frz p (.tup vs)) (.ref p) _ (Wd.frz_le (rh1.F.free hp)) (rh1.frz hp) (.tup (.inl (.inl upd_same)) (rx.mono (Wd.frz_le (rh1.F.free hp))))⟩
    · rw [if_neg hl] at h1
      exact h1.elim
theorem s_lst (h : PA X es (rdA g cl W ms)) : PE X (.List es pos) (rdE g cl W (lstM ms)) :=
  (pe_lst h).weak fun σ H Q ⟨w, env, st, rh, re, h⟩ => by
    refine ⟨w, env, st, rh, re, h.bind.imp fun vs H1 ⟨w1, ds, s1, le1, rh1, rx, h1⟩ => ?_⟩
    by_cases hl : ds.length ≤ sizeLine
    · rw [if_pos hl] at h1
      refine ⟨by rw [rx.length]; exact hl, fun p hp => h1 (w1.frz p (.lst vs)) (.ref p) _ (Wd.frz_le (rh1.F.free hp)) (rh1.frz hp) (.lst upd_same (rx.mono (Wd.frz_le (rh1.F.free hp))))⟩
    · rw [if_neg hl] at h1
      exact h1.elim
theorem new_ref {w : Wd} {p : Addr} : (w.new p).μ w.nx = p := if_pos rfl
theorem rel_new {w : Wd} {p : Addr} : RelD g (w.new p) (.ref p) (.ref w.nx) := by
  have h : RelD g (w.new p) (.ref ((w.new p).μ w.nx)) (.ref w.nx) := .ref (Nat.lt_succ_self _)
  rw [new_ref] at h
  exact h
theorem s_lstN (h : PA X es (rdA g cl W ms)) : PE X (.List es pos) (rdE g cl W (lstN ms)) :=
  (pe_lst h).weak fun σ H Q ⟨w, env, st, rh, re, h⟩ => by
    refine ⟨w, env, st, rh, re, h.bind.imp fun vs H1 ⟨w1, ds, s1, le1, rh1, rx, h1⟩ => ?_⟩
    unfold newL at h1
    by_cases hl : ds.length ≤ sizeLine
    · rw [if_pos hl] at h1
      refine ⟨by rw [rx.length]; exact hl, fun p hp => h1 (w1.new p) (.ref p) _ Wd.new_le (rh1.new hp rx) ?_⟩
      rw [← rh1.nx]
      exact rel_new
    · rw [if_neg hl] at h1
      exact h1.elim
theorem good_fn (G : Good g cl n X W) (i : Nat) : FnOk X.prog X.w X.K X.mg X.base (L2.CX X.prog X.w) n (g.fa i) (g.fd i) (g.fp i) (spI g cl i) := by
  rw [G.P, G.w, G.K, G.mg, G.base]
  exact G.fns i
theorem Out.f {w : Wd} {σ : L2.St} {r : Res D} {Q : VK} (h : Out g (RelD g) W w σ r Q) : OutF g w r Q (WE W σ) := by
  cases r with
  | ok d st => exact h
  | exc x st => exact h
  | stuck => exact h
theorem s_call {i : Nat} {x : Str} {p : Pos} (G : Good g cl n X W) (hg : Gl X x) (hm : X.mg x = some (.ref (g.fa i))) (hk : PySem.W.keepIn X.K (.ref (g.fa i)) = true) (hb : Binds X.K (g.fd i) (g.fp i) [])
    (ha : PA X (e :: es) (rdA g cl W ms)) (hl : ∀ cl env st xs s, ms cl env st = .ok xs s → xs.length = (g.fp i).length) (hdb : (x == ("__debug__" : Str)) = false) (he : starEach (e :: es) X.env = (false, eval e X.env) :: starEach es X.env) (hpl : (backTo pos (starEach es X.env)).any (·.1) = false) :
    PE X (.Call (.Name x p) (e :: es) [] pos) (rdE g cl W (callM i ms)) :=
  (pe_callS (good_fn G i) G.room hg hm hk hb (fun σ => passAt G.tk σ) ha hdb he hpl).weak fun σ H Q ⟨w, env, st, rh, re, h⟩ => by
    refine ⟨w, env, st, rh, re, ?_⟩
    unfold callM at h
    cases q : ms cl env st with
    | ok xs s =>
      rw [q] at h
      intro w1 vs H1 le1 rh1 rx
      exact ⟨w1, xs, s, rh1, rx, hl cl env st xs s q, (Out.le le1 h).f⟩
    | exc y s =>
      rw [q] at h
      exact h
    | stuck =>
      rw [q] at h
      exact h
end
end PyI
end

section
set_option Elab.async false
set_option linter.all false
set_option maxRecDepth 100000
set_option maxHeartbeats 4000000
/-! Targets, what is walked, comprehensions. -/
namespace PyI
open PySem PySem.Spec PyProof.Rows L2

/-! ### targets -/
abbrev GG := D → Option (List (Nat × D))
def nameG (i : Nat) : GG := fun d => some [(i, d)]
def tupGs : List GG → List D → Option (List (Nat × D))
  | [], [] => some []
  | m :: ms, d :: ds => match m d with
    | some a => match tupGs ms ds with
      | some b => some (a ++ b)
      | none => none
    | none => none
  | _, _ => none
def tupG (ms : List GG) : GG := fun d => match d with
  | .tup ds => tupGs ms ds
  | _ => none
def putS : List Nat → List V → L2.St → L2.St
  | i :: is, v :: vs, σ => putS is vs (σ.set i (some v))
  | _, _, σ => σ
def putE : List (Nat × D) → Env → Env
  | [], env => env
  | (i, d) :: r, env => putE r (env.set i (some d))
theorem putS_app : ∀ (is : List Nat) (vs : List V) {js : List Nat} {us : List V} {σ : L2.St}, vs.length = is.length → putS (is ++ js) (vs ++ us) σ = putS js us (putS is vs σ)
  | [], [], _, _, _, _ => rfl
  | [], _ :: _, _, _, _, h => by cases h
  | _ :: _, [], _, _, _, h => by cases h
  | i :: is, v :: vs, _, _, _, h => putS_app is vs (Nat.succ.inj h)
theorem RelE.putS {g : Gb} {w : Wd} : ∀ {l : List (Nat × D)} {vs : List V} {σ : List (Option V)} {env : List (Option D)}, RelE g w σ env → RelDs g w vs (l.map (·.2)) → RelE g w (PyI.putS (l.map (·.1)) vs σ) (putE l env)
  | [], _, _, _, h, .nil => h
  | (i, d) :: r, _, _, _, h, .cons a b => RelE.putS (l := r) (h.set (v := _) (d := d) i a) b
def rdG (g : Gb) (m : GG) : TG := fun v σ H Q => ∃ w st d l, RelH g w H st ∧ RelD g w v d ∧ m d = some l ∧ ∀ vals : List V, RelDs g w vals (l.map (·.2)) → Q (putS (l.map (·.1)) vals σ) H
def rdGs (g : Gb) (ms : List GG) : TGs := fun vs σ H Q => ∃ w st ds l, RelH g w H st ∧ RelDs g w vs ds ∧ tupGs ms ds = some l ∧ ∀ vals : List V, RelDs g w vals (l.map (·.2)) → Q (putS (l.map (·.1)) vals σ) H
theorem _root_.L2.PG.weak {X : Cx} {e : Expr} {t t' : TG} (h : PG X e t) (k : ∀ v σ H Q, t' v σ H Q → t v σ H Q) : PG X e t' := ⟨fun pins s σ H v u Q I r hw => h.run pins s σ H v u Q I r (k v σ H Q hw)⟩
theorem _root_.L2.PGs.weak {X : Cx} {e : List Expr} {t t' : TGs} (h : PGs X e t) (k : ∀ v σ H Q, t' v σ H Q → t v σ H Q) : PGs X e t' := ⟨fun pins s σ H v u Q I r hw => h.run pins s σ H v u Q I r (k v σ H Q hw)⟩
section
variable {g : Gb} {cl : CL} {n : Nat} {X : Cx} {W : WX} {e a b c : Expr} {es : List Expr} {ma mb mc : EE} {mt mu : TT'} {ms : AA} {pos : Pos}
theorem s_gname {i : Nat} {x : Str} (hN : X.N.Nodup) (hi : X.N[i]? = some x) (hx : Loc X.env.scope x) (hf : X.fn x = true ∨ X.env.scope.names.lookup x = some .local) : PG X (.Name x pos) (rdG g (nameG i)) :=
  (pg_name hN hi hx hf).weak fun v σ H Q ⟨w, st, d, l, rh, rv, e, h⟩ => by
    cases (show some [(i, d)] = some l from e)
    exact h [v] (.cons rv .nil)
theorem s_gnil : PGs X [] (rdGs g []) := pgs_nil.weak fun vs σ H Q ⟨w, st, ds, l, rh, rv, e, h⟩ => by
  cases rv with
  | nil =>
    cases (show some [] = some l from e)
    exact ⟨rfl, h [] .nil⟩
  | cons _ _ => cases e
theorem s_gcons {m : GG} {ms : List GG} (h1 : PG X e (rdG g m)) (h2 : PGs X es (rdGs g ms)) (hs : (assignEach (e :: es) X.env).map (·.2) = assign e X.env :: (assignEach es X.env).map (·.2)) : PGs X (e :: es) (rdGs g (m :: ms)) :=
  (pgs_cons h1 h2 hs).weak fun vs σ H Q ⟨w, st, ds, l, rh, rv, e, h⟩ => by
    cases rv with
    | nil => cases e
    | @cons v vs d ds a r =>
      have e' : (match m d with
        | some a => match tupGs ms ds with
          | some b => some (a ++ b)
          | none => none
        | none => none) = some l := e
      cases q1 : m d with
      | none => rw [q1] at e'; cases e'
      | some la =>
        rw [q1] at e'
        cases q2 : tupGs ms ds with
        | none => rw [q2] at e'; cases e'
        | some lb =>
          rw [q2] at e'
          cases Option.some.inj e'
          refine ⟨v, vs, rfl, w, st, d, la, rh, a, q1, fun va ha => ⟨w, st, ds, lb, rh, r, q2, fun vb hb => ?_⟩⟩
          have hh := h (va ++ vb) (by rw [List.map_append]; exact ha.append hb)
          rw [List.map_append, putS_app _ _ (by rw [ha.length, List.length_map, List.length_map])] at hh
          exact hh
theorem s_gtup {k : Nat} {ms : List GG} (hK : X.K = g.K) (hc : X.calm = true) (h : PGs X es (rdGs g ms)) (hn : (assignEach es X.env).length = ms.length) (hst : (assignEach es X.env).findIdx? (·.1) = none) : PG X (.Tuple es k pos) (rdG g (tupG ms)) :=
  (pg_tup hc h hn hst).weak fun v σ H Q ⟨w, st, d, l, rh, rv, e, h⟩ => by
    cases rv with
    | @tup a vs ds hq hr =>
      have e' : tupGs ms ds = some l := e
      have hl : ∀ (ms : List GG) (ds : List D) (l : List (Nat × D)), tupGs ms ds = some l → ds.length = ms.length := by
        intro ms
        induction ms with
        | nil =>
          intro ds l e
          cases ds with
          | nil => rfl
          | cons _ _ => cases e
        | cons m ms ih =>
          intro ds l e
          cases ds with
          | nil => cases e
          | cons d ds =>
            have e2 : (match m d with
              | some a => match tupGs ms ds with
                | some b => some (a ++ b)
                | none => none
              | none => none) = some l := e
            cases q1 : m d with
            | none => rw [q1] at e2; cases e2
            | some la =>
              rw [q1] at e2
              cases q2 : tupGs ms ds with
              | none => rw [q2] at e2; cases e2
              | some lb => exact congrArg Nat.succ (ih ds lb q2)
      refine ⟨a, vs, rfl, same_sqT rh.F (by rw [hK]; exact hq), by rw [hr.length]; exact hl ms ds l e', w, st, ds, l, rh, hr, e', h⟩
    | _ => cases e

/-! ### what is walked -/
end
inductive IT where
  | items (xs : List D) | live (l : Nat) | elive (l : Nat)
def listAt (st : Store) (l : Nat) : Option (List D) := match st.at_ l with
  | some (.lst xs) => some xs
  | none => none
def IT.get (it : IT) (st : Store) (i : Nat) : Option (Option D) := match it with
  | .items xs => some xs[i]?
  | .live l => (listAt st l).map fun xs => xs[i]?
  | .elive l => (listAt st l).map fun xs => xs[i]?.map fun x => .tup [.int (i : Int), x]
def IT.len (it : IT) (st : Store) : Nat := match it with
  | .items xs => xs.length
  | .live l => ((listAt st l).map (·.length)).getD 0
  | .elive l => ((listAt st l).map (·.length)).getD 0
abbrev II := CL → Env → M IT
def RelI (g : Gb) (w : Wd) (J : It) (it : IT) : Prop := ∀ (w' : Wd) (H : Hp) (st : Store) (i : Nat), w.leU w' → RelH g w' H st → match it.get st i with
  | none => True
  | some none => J.stop i H
  | some (some d) => J.go i H ∧ ∀ x H', J.yld i H x H' → ∃ w'', w'.le w'' ∧ RelH g w'' H' st ∧ RelD g w'' x d
def rdI (g : Gb) (cl : CL) (W : WX) (m : II) : TI := fun σ H R => ∃ w env st, RelH g w H st ∧ RelE g w σ env ∧ Out g (RelI g) W w σ (m cl env st) R
/-- walked: a list, a tuple, a text -/
def seqI (a : EE) : II := fun cl env st => (a cl env st).bind fun x s1 => match x with
  | .lst xs => .ok (.items xs) s1
  | .scr xs => .ok (.items xs) s1
  | .tup xs => .ok (.items xs) s1
  | .ref l => if (listAt s1 l).isSome then .ok (.live l) s1 else .stuck
  | .str z => .ok (.items (z.cps.toList.map fun c => .str ⟨#[c]⟩)) s1
  | .dct ks _ => if ks.isEmpty then .ok (.items []) s1 else .stuck
  | _ => .stuck
/-- by the arguments' values -/
def argM {α : Type} (o : Store → List D → Option α) (as : AA) : CL → Env → M α := fun cl env st => (as cl env st).bind fun xs s1 => liftO (o s1 xs) s1
/-- a number of no great size (it stops at a number that is not known) -/
def small : Int → Bool
  | .ofNat k => Nat.ble k 1000000
  | .negSucc k => Nat.ble k 1000000
theorem small_ok {n : Int} (h : small n = true) : -(2 ^ 62) ≤ n ∧ n < 2 ^ 62 := by
  cases n with
  | ofNat k =>
    have := Nat.le_of_ble_eq_true h
    have e : Int.ofNat k = (k : Int) := rfl
    omega
  | negSucc k =>
    have := Nat.le_of_ble_eq_true h
    have e : Int.negSucc k = -((k : Int) + 1) := rfl
    omega
def rng1 (_ : Store) : List D → Option IT
  | [.int n] => if small n = true then some (.items ((List.range n.toNat).map fun (i : Nat) => D.int (i : Int))) else none
  | _ => none
def rng2 (_ : Store) : List D → Option IT
  | [.int a, .int b] => if (small a && small b) = true then some (.items ((List.range (b - a).toNat).map fun (i : Nat) => D.int (a + (i : Int)))) else none
  | _ => none
section
variable {g : Gb} {cl : CL} {n : Nat} {X : Cx} {W : WX} {tg e a b c : Expr} {es : List Expr} {ma mb mc : EE} {mt mu : TT'} {ms : AA} {pos : Pos}
theorem relI_list {w : Wd} {ad : Addr} {vs : List V} {ds : List D} (hs : SqL g.K w.F ad vs) (r : RelDs g w vs ds) : RelI g w (Itl g.K ad) (.items ds) := by
  intro w' H st i le rh
  show (match some ds[i]? with
    | none => True
    | some none => _
    | some (some d) => _)
  have hq : SqL g.K H ad vs := same_sqL (le.F.trans rh.F) hs
  cases q : ds[i]? with
  | none =>
    refine ⟨vs, hq, ?_⟩
    rw [r.length]
    exact List.getElem?_eq_none_iff.mp q
  | some d =>
    obtain ⟨v, h1, h2⟩ := r.get q
    refine ⟨⟨vs, v, hq, h1⟩, fun x H' ⟨e, y⟩ => ?_⟩
    subst e
    have y1 := y vs hq
    rw [h1] at y1
    cases y1
    exact ⟨w', .refl _, rh, h2.monoU le⟩
theorem relI_tup {w : Wd} {ad : Addr} {vs : List V} {ds : List D} (hs : SqT g.K w.F ad vs) (r : RelDs g w vs ds) : RelI g w (Itt g.K ad) (.items ds) := by
  intro w' H st i le rh
  show (match some ds[i]? with
    | none => True
    | some none => _
    | some (some d) => _)
  have hq : SqT g.K H ad vs := same_sqT (le.F.trans rh.F) hs
  cases q : ds[i]? with
  | none =>
    refine ⟨vs, hq, ?_⟩
    rw [r.length]
    exact List.getElem?_eq_none_iff.mp q
  | some d =>
    obtain ⟨v, h1, h2⟩ := r.get q
    refine ⟨⟨vs, v, hq, h1⟩, fun x H' ⟨e, y⟩ => ?_⟩
    subst e
    have y1 := y vs hq
    rw [h1] at y1
    cases y1
    exact ⟨w', .refl _, rh, h2.monoU le⟩
theorem listAt_some {st : Store} {l : Nat} {xs : List D} (h : listAt st l = some xs) : st.at_ l = some (.lst xs) := by
  unfold listAt at h
  cases q : st.at_ l with
  | none => rw [q] at h; cases h
  | some o =>
    rw [q] at h
    cases o with
    | lst ys => exact congrArg (fun z => some (SO.lst z)) (Option.some.inj h)
theorem RelH.lst {w : Wd} {H : Hp} {st : Store} {l : Nat} {xs : List D} (rh : RelH g w H st) (h : listAt st l = some xs) : ∃ vs, H (w.μ l) = some (.lst vs) ∧ RelDs g w vs xs := rh.rel l _ (listAt_some h)
theorem relI_live {w : Wd} {l : Nat} (hl : l < w.nx) : RelI g w (Itl g.K (w.μ l)) (.live l) := by
  intro w' H st i le rh
  show (match (listAt st l).map fun xs => xs[i]? with
    | none => True
    | some none => _
    | some (some d) => _)
  cases q : listAt st l with
  | none => trivial
  | some xs =>
    obtain ⟨vs, h1, h2⟩ := rh.lst q
    rw [le.μ l hl] at h1
    cases q2 : xs[i]? with
    | none =>
      show (match (some xs).map fun xs => xs[i]? with
        | none => True
        | some none => _
        | some (some d) => _)
      rw [Option.map_some, q2]
      refine ⟨vs, .of h1, ?_⟩
      rw [h2.length]
      exact List.getElem?_eq_none_iff.mp q2
    | some d =>
      show (match (some xs).map fun xs => xs[i]? with
        | none => True
        | some none => _
        | some (some d) => _)
      rw [Option.map_some, q2]
      obtain ⟨v, h3, h4⟩ := h2.get q2
      refine ⟨⟨vs, v, .of h1, h3⟩, fun x H' ⟨e, y⟩ => ?_⟩
      subst e
      have y1 := y vs (.of h1)
      rw [h3] at y1
      cases y1
      exact ⟨w', .refl _, rh, h4⟩
theorem relI_str {w : Wd} {z : Str} : RelI g w (Its z) (.items (z.cps.toList.map fun c => .str ⟨#[c]⟩)) := by
  intro w' H st i le rh
  show (match some (z.cps.toList.map fun c => D.str ⟨#[c]⟩)[i]? with
    | none => True
    | some none => _
    | some (some d) => _)
  rw [List.getElem?_map, Array.getElem?_toList]
  cases q : z.cps[i]? with
  | none => exact Array.getElem?_eq_none_iff.mp q
  | some c =>
    refine ⟨(Array.getElem?_eq_some_iff.mp q).1, fun x H' ⟨e, c', h1, h2⟩ => ?_⟩
    subst e
    rw [q] at h1
    cases h1
    rw [h2]
    exact ⟨w', .refl _, rh, .str _⟩
theorem relI_keys {w : Wd} {ad : Addr} {o : Obj} (h : w.F ad = some (.frz o (.dK []))) : RelI g w (Itk ad o []) (.items []) := by
  intro w' H st i le rh
  exact ⟨rh.F _ _ (le.F _ _ h), Nat.zero_le _⟩
theorem relI_range {w : Wd} {a : Int} {n : Nat} : RelI g w (Itr a n) (.items ((List.range n).map fun (i : Nat) => D.int (a + (i : Int)))) := by
  intro w' H st i le rh
  show (match some ((List.range n).map fun (i : Nat) => D.int (a + (i : Int)))[i]? with
    | none => True
    | some none => _
    | some (some d) => _)
  rw [List.getElem?_map]
  by_cases hi : i < n
  · rw [List.getElem?_range hi]
    refine ⟨hi, fun x H' ⟨e, h⟩ => ?_⟩
    subst e
    rw [h]
    exact ⟨w', .refl _, rh, .int _⟩
  · rw [List.getElem?_eq_none (by rw [List.length_range]; omega)]
    exact Nat.le_of_not_lt hi
/-- a list, a tuple, a text, a dict that stands: by what the value is -/
def iSeq (K : PySem.W.Frag) (te : TE) : TI := fun σ H R => te σ H fun x H1 => (∃ a, x = .ref a ∧ (∃ xs, SqL K H1 a xs) ∧ R (Itl K a) H1) ∨ (∃ a, x = .ref a ∧ (∃ xs, SqT K H1 a xs) ∧ R (Itt K a) H1) ∨ (∃ z, x = .str z ∧ R (Its z) H1) ∨
  (∃ d o kvs, x = .ref d ∧ H1 d = some (.frz o (.dK kvs)) ∧ R (Itk d o kvs) H1)
theorem pi_seqA {te : TE} (hl : PE X e te) : PI X tg e (iSeq X.K te) := by
  constructor
  intro pins s σ H R I0 h0
  refine thn (hl.run pins s σ H _ I0 h0) ?_
  rintro v s1 ⟨x, H1, I1, r1, ⟨a, rfl, ⟨xs, hq⟩, q⟩ | ⟨a, rfl, ⟨xs, hq⟩, q⟩ | ⟨z, rfl, q⟩ | ⟨d, o, kvs, rfl, hd, q⟩⟩
  · cases r1
    obtain ⟨its, rv, p, hz⟩ := I1.list hq
    exact wpAny_pyIter_list p.isList (pi_one (tk := s1.toks) I1 _ (turn_list a _) ⟨_, Heap.get?_push_size _ rfl, rfl, rfl⟩ q)
  · cases r1
    obtain ⟨its, rv, p, hz⟩ := I1.tuple hq
    exact wpAny_pyIter_tuple (items := its.toArray) p (pi_one (tk := s1.toks) I1 _ (turn_tuple a _) ⟨_, Heap.get?_push_size _ rfl, rfl, rfl⟩ q)
  · obtain ⟨t, rfl⟩ := r1
    cases ha : z.cps.all (· < 128) with
    | false => exact wpAny_pyIter_wide ha (pi_one (tk := s1.toks) I1 _ (turn_str _ z t _ (.inr rfl)) ⟨_, Heap.get?_push_size _ rfl, rfl, rfl⟩ q)
    | true => exact wpAny_pyIter_ascii ha (pi_one (tk := s1.toks) I1 _ (turn_str _ z t _ (.inl rfl)) ⟨_, Heap.get?_push_size _ rfl, rfl, rfl⟩ q)
  · cases r1
    obtain ⟨hs, hgd, hx, es, ep, vs, hdt, hsz, kv, hm⟩ := I1.frzK hd
    exact iter_keys hs hgd hx hdt (pi_one (tk := s1.toks) I1 _ (turn_keys _ hdt) ⟨_, Heap.get?_push_size _ rfl, rfl, by rw [hsz] <;> rfl⟩ q)
theorem s_seqI (hK : X.K = g.K) (ha : PE X a (rdE g cl W ma)) : PI X tg a (rdI g cl W (seqI ma)) :=
  (pi_seqA ha).weak fun σ H R ⟨w, env, st, rh, re, h⟩ => by
    refine ⟨w, env, st, rh, re, h.bind.imp fun v H1 ⟨w1, d, s1, le1, rh1, rx, h1⟩ => ?_⟩
    rw [hK]
    cases rx with
    | @tup a vs ds hs hr => exact .inr (.inl ⟨a, rfl, ⟨vs, same_sqT rh1.F hs⟩, h1 w1 _ H1 (.refl _) rh1 (relI_tup hs hr)⟩)
    | @lst a vs ds hs hr => exact .inl ⟨a, rfl, ⟨vs, .of (rh1.F _ _ hs)⟩, h1 w1 _ H1 (.refl _) rh1 (relI_list (.of hs) hr)⟩
    | @scr a vs ds hs hr => exact .inl ⟨a, rfl, ⟨vs, same_sqL rh1.F hs⟩, h1 w1 _ H1 (.refl _) rh1 (relI_list hs hr)⟩
    | @ref l hl =>
      have h1' : Out g (RelI g) W w1 σ (if (listAt s1 l).isSome then Res.ok (.live l) s1 else .stuck) R := h1
      cases q : listAt s1 l with
      | none =>
        rw [q] at h1'
        exact h1'.elim
      | some ds =>
        rw [q] at h1'
        obtain ⟨vs, h2, h3⟩ := rh1.lst q
        exact .inl ⟨_, rfl, ⟨vs, .of h2⟩, h1' w1 _ H1 (.refl _) rh1 (relI_live hl)⟩
    | str z => exact .inr (.inr (.inl ⟨z, rfl, h1 w1 _ H1 (.refl _) rh1 relI_str⟩))
    | @dct a o kvs ks ds hd he hr =>
      cases kvs with
      | nil =>
        subst he
        exact .inr (.inr (.inr ⟨a, o, [], rfl, rh1.F _ _ hd, h1 w1 _ H1 (.refl _) rh1 (relI_keys hd)⟩))
      | cons kv kvs =>
        subst he
        exact h1.elim
    | _ => exact h1.elim
end
end PyI
end

section
set_option Elab.async false
set_option linter.all false
set_option maxRecDepth 100000
set_option maxHeartbeats 4000000
/-! Ranges, pairs; comprehensions; loops; statements. -/
namespace PyI
open PySem PySem.Spec PyProof.Rows L2

def enu (st : Store) : List D → Option IT
  | [.lst ds] => some (.items (ds.zipIdx.map fun p => .tup [.int (p.2 : Int), p.1]))
  | [.ref l] => if (listAt st l).isSome then some (.elive l) else none
  | _ => none
def zips (_ : Store) : List D → Option IT
  | [.tup a, .tup b] => some (.items ((a.zip b).map fun p => .tup [p.1, p.2]))
  | [.lst a, .lst b] => some (.items ((a.zip b).map fun p => .tup [p.1, p.2]))
  | _ => none
section
variable {g : Gb} {cl : CL} {n : Nat} {X : Cx} {W : WX} {tg e a b c : Expr} {es : List Expr} {ma mb mc : EE} {mt mu : TT'} {ms : AA} {pos : Pos}
theorem Out.lift {α β : Type} {R : Wd → β → α → Prop} {w : Wd} {σ : L2.St} {o : Option α} {st : Store} {Q : β → Hp → Prop} (h : Out g R W w σ (liftO o st) Q) : ∃ d, o = some d ∧ ∀ w' v H', w.le w' → RelH g w' H' st → R w' v d → Q v H' := by
  cases o with
  | none => exact h.elim
  | some d => exact ⟨d, rfl, h⟩
theorem s_range1 {p : Pos} (hg : Gl X "range") (hm : X.mg "range" = none) (ha : PA X [a] (rdA g cl W ms)) (hs : starEach [a] X.env = [(false, eval a X.env)]) : PI X tg (.Call (.Name "range" p) [a] [] pos) (rdI g cl W (argM rng1 ms)) :=
  (pi_range1 hg hm ha hs).weak fun σ H R ⟨w, env, st, rh, re, h⟩ => by
    refine ⟨w, env, st, rh, re, h.bind.imp fun vs H1 ⟨w1, ds, s1, le1, rh1, rx, h1⟩ => ?_⟩
    obtain ⟨it, e, h2⟩ := h1.lift
    unfold rng1 at e
    split at e
    · rename_i j
      split at e
      · rename_i hb
        cases Option.some.inj e
        cases rx with
        | cons rv rr =>
          cases rv
          cases rr
          refine ⟨j, rfl, (small_ok hb).1, (small_ok hb).2, h2 w1 _ H1 (.refl _) rh1 ?_⟩
          have r := relI_range (g := g) (w := w1) (a := 0) (n := j.toNat)
          have e : (fun (i : Nat) => D.int (0 + (i : Int))) = fun (i : Nat) => D.int (i : Int) := by
            funext i
            rw [Int.zero_add]
          rw [e] at r
          exact r
      · cases e
    · cases e
theorem s_range2 {p : Pos} (hg : Gl X "range") (hm : X.mg "range" = none) (ha : PA X [a, b] (rdA g cl W ms)) (hs : starEach [a, b] X.env = [(false, eval a X.env), (false, eval b X.env)]) (hs2 : starEach [b] X.env = [(false, eval b X.env)]) : PI X tg (.Call (.Name "range" p) [a, b] [] pos) (rdI g cl W (argM rng2 ms)) :=
  (pi_range2 hg hm ha hs hs2).weak fun σ H R ⟨w, env, st, rh, re, h⟩ => by
    refine ⟨w, env, st, rh, re, h.bind.imp fun vs H1 ⟨w1, ds, s1, le1, rh1, rx, h1⟩ => ?_⟩
    obtain ⟨it, e, h2⟩ := h1.lift
    unfold rng2 at e
    split at e
    · rename_i i j
      split at e
      · rename_i hb
        cases Option.some.inj e
        cases rx with
        | cons rv rr =>
          cases rv
          cases rr with
          | cons rv rr =>
            cases rv
            cases rr
            rw [Bool.and_eq_true] at hb
            exact ⟨i, j, rfl, ⟨(small_ok hb.1).1, (small_ok hb.1).2, (small_ok hb.2).1, (small_ok hb.2).2⟩, h2 w1 _ H1 (.refl _) rh1 relI_range⟩
      · cases e
    · cases e
theorem rel_pair {w' : Wd} {H : Hp} {st : Store} {x y : V} {d d' : D} {T : Addr} (rh : RelH g w' H st) (hT : H T = none) (r1 : RelD g w' x d) (r2 : RelD g w' y d') :
    ∃ w'', w'.le w'' ∧ RelH g w'' (upd H T (.tup [x, y])) st ∧ RelD g w'' (.ref T) (.tup [d, d']) := by
  have le := Wd.frz_le (o := .tup [x, y]) (rh.F.free hT)
  exact ⟨w'.frz T (.tup [x, y]), le, rh.frz hT, .tup (.inl (.inl upd_same)) (.cons (r1.mono le) (.cons (r2.mono le) .nil))⟩
theorem relI_enum {w : Wd} {ad : Addr} {vs : List V} {ds : List D} (hs : w.F ad = some (.lst vs)) (r : RelDs g w vs ds) : RelI g w (Ite g.K ad) (.items (ds.zipIdx.map fun p => .tup [.int (p.2 : Int), p.1])) := by
  intro w' H st i le rh
  show (match some (ds.zipIdx.map fun p => D.tup [.int (p.2 : Int), p.1])[i]? with
    | none => True
    | some none => _
    | some (some d) => _)
  have hq : SqL g.K H ad vs := .of (rh.F _ _ (le.F _ _ hs))
  rw [List.getElem?_map, List.getElem?_zipIdx]
  cases q : ds[i]? with
  | none =>
    refine ⟨vs, hq, ?_⟩
    rw [r.length]
    exact List.getElem?_eq_none_iff.mp q
  | some d =>
    obtain ⟨v, h1, h2⟩ := r.get q
    refine ⟨⟨vs, v, hq, h1⟩, fun x H' ⟨T, y, e1, hT, e2, hy⟩ => ?_⟩
    subst e1 e2
    have y1 := hy vs hq
    rw [h1] at y1
    cases y1
    have e3 : (0 + i : Nat) = i := Nat.zero_add i
    show ∃ w'', w'.le w'' ∧ RelH g w'' _ st ∧ RelD g w'' (.ref T) (.tup [.int ((0 + i : Nat) : Int), d])
    rw [e3]
    exact rel_pair rh hT (.int _) (h2.monoU le)
theorem relI_elive {w : Wd} {l : Nat} (hl : l < w.nx) : RelI g w (Ite g.K (w.μ l)) (.elive l) := by
  intro w' H st i le rh
  show (match (listAt st l).map fun xs => xs[i]?.map fun x => D.tup [.int (i : Int), x] with
    | none => True
    | some none => _
    | some (some d) => _)
  cases q : listAt st l with
  | none => trivial
  | some xs =>
    obtain ⟨vs, h1, h2⟩ := rh.lst q
    rw [le.μ l hl] at h1
    show (match some (xs[i]?.map fun x => D.tup [.int (i : Int), x]) with
      | none => True
      | some none => _
      | some (some d) => _)
    cases q2 : xs[i]? with
    | none =>
      refine ⟨vs, .of h1, ?_⟩
      rw [h2.length]
      exact List.getElem?_eq_none_iff.mp q2
    | some d =>
      obtain ⟨v, h3, h4⟩ := h2.get q2
      refine ⟨⟨vs, v, .of h1, h3⟩, fun x H' ⟨T, y, e1, hT, e2, hy⟩ => ?_⟩
      subst e1 e2
      have y1 := hy vs (.of h1)
      rw [h3] at y1
      cases y1
      exact rel_pair rh hT (.int _) h4
theorem s_enum {p tpos : Pos} {elts : List Expr} {kk : Nat} (hK : X.K = g.K) (hg : Gl X "enumerate") (hm : X.mg "enumerate" = none) (ha : PA X [a] (rdA g cl W ms)) (hs : starEach [a] X.env = [(false, eval a X.env)]) :
    PI X (.Tuple elts kk tpos) (.Call (.Name "enumerate" p) [a] [] pos) (rdI g cl W (argM enu ms)) :=
  (pi_enum hg hm ha hs).weak fun σ H R ⟨w, env, st, rh, re, h⟩ => by
    refine ⟨w, env, st, rh, re, h.bind.imp fun vs H1 ⟨w1, ds, s1, le1, rh1, rx, h1⟩ => ?_⟩
    obtain ⟨it, e, h2⟩ := h1.lift
    rw [hK]
    unfold enu at e
    split at e
    · cases Option.some.inj e
      cases rx with
      | cons rv rr =>
        cases rr
        cases rv with
        | @lst a vs ds hs hr => exact ⟨a, vs, rfl, .of (rh1.F _ _ hs), h2 w1 _ H1 (.refl _) rh1 (relI_enum hs hr)⟩
    · rename_i l
      split at e
      · rename_i hl
        cases Option.some.inj e
        cases rx with
        | cons rv rr =>
          cases rr
          cases rv with
          | ref hlt =>
            obtain ⟨ds, q⟩ := Option.isSome_iff_exists.mp hl
            obtain ⟨vs, h3, h4⟩ := rh1.lst q
            exact ⟨_, vs, rfl, .of h3, h2 w1 _ H1 (.refl _) rh1 (relI_elive hlt)⟩
      · cases e
    · cases e
theorem relI_zip {w : Wd} {J : It} {vs us : List V} {ds es : List D} (r : RelDs g w vs ds) (r2 : RelDs g w us es)
    (hgo : ∀ w' H st i x y, w.leU w' → RelH g w' H st → vs[i]? = some x → us[i]? = some y → J.go i H ∧ ∀ v H', J.yld i H v H' → ∃ T, v = .ref T ∧ H T = none ∧ H' = upd H T (.tup [x, y]))
    (hst : ∀ w' H st i, w.leU w' → RelH g w' H st → (vs.length ≤ i ∨ us.length ≤ i) → J.stop i H) : RelI g w J (.items ((ds.zip es).map fun p => .tup [p.1, p.2])) := by
  intro w' H st i le rh
  show (match some ((ds.zip es).map fun p => D.tup [p.1, p.2])[i]? with
    | none => True
    | some none => _
    | some (some d) => _)
  rw [List.getElem?_map]
  cases q : (ds.zip es)[i]? with
  | none =>
    refine hst w' H st i le rh ?_
    have := List.getElem?_eq_none_iff.mp q
    rw [List.length_zip] at this
    rw [r.length, r2.length]
    omega
  | some p =>
    obtain ⟨d, e⟩ := p
    obtain ⟨h1, h2⟩ := List.getElem?_zip_eq_some.mp q
    obtain ⟨x, q1, q2⟩ := r.get h1
    obtain ⟨y, q3, q4⟩ := r2.get h2
    obtain ⟨go, yl⟩ := hgo w' H st i x y le rh q1 q3
    refine ⟨go, fun v H' hy => ?_⟩
    obtain ⟨T, e1, hT, e2⟩ := yl v H' hy
    subst e1 e2
    exact rel_pair rh hT (q2.monoU le) (q4.monoU le)
theorem s_zip {p tpos : Pos} {elts : List Expr} {kk : Nat} (hK : X.K = g.K) (hg : Gl X "zip") (hm : X.mg "zip" = none) (ha : PA X [a, b] (rdA g cl W ms)) (hs : starEach [a, b] X.env = (false, eval a X.env) :: starEach [b] X.env) (hpl : (backTo pos (starEach [b] X.env)).any (·.1) = false) :
    PI X (.Tuple elts kk tpos) (.Call (.Name "zip" p) [a, b] [] pos) (rdI g cl W (argM zips ms)) :=
  (RZ.pi_zipA hg hm ha hs hpl).weak fun σ H R ⟨w, env, st, rh, re, h⟩ => by
    refine ⟨w, env, st, rh, re, h.bind.imp fun vs H1 ⟨w1, ds, s1, le1, rh1, rx, h1⟩ => ?_⟩
    obtain ⟨it, e, h2⟩ := h1.lift
    rw [hK]
    unfold zips at e
    split at e
    · cases Option.some.inj e
      cases rx with
      | cons rv rr =>
        cases rr with
        | cons rv2 rr =>
          cases rr
          cases rv with
          | @tup a vs ds hs hr =>
            cases rv2 with
            | @tup a2 vs2 ds2 hs2 hr2 =>
              refine ⟨a, a2, vs, vs2, rfl, .inr ⟨same_sqT rh1.F hs, same_sqT rh1.F hs2, h2 w1 _ H1 (.refl _) rh1 (relI_zip hr hr2 (fun w' H st i x y le rh q1 q3 => ?_) fun w' H st i le rh hh => ?_)⟩⟩
              · have k1 := same_sqT (le.F.trans rh.F) hs
                have k2 := same_sqT (le.F.trans rh.F) hs2
                refine ⟨⟨vs, vs2, x, y, k1, k2, q1, q3⟩, fun v H' ⟨T, x', y', e1, hT, e2, hx, hy⟩ => ?_⟩
                have z1 := hx vs k1
                have z2 := hy vs2 k2
                rw [q1] at z1
                rw [q3] at z2
                cases z1
                cases z2
                exact ⟨T, e1, hT, e2⟩
              · exact ⟨vs, vs2, same_sqT (le.F.trans rh.F) hs, same_sqT (le.F.trans rh.F) hs2, hh⟩
    · cases Option.some.inj e
      cases rx with
      | cons rv rr =>
        cases rr with
        | cons rv2 rr =>
          cases rr
          cases rv with
          | @lst a vs ds hs hr =>
            cases rv2 with
            | @lst a2 vs2 ds2 hs2 hr2 =>
              have k1 : ∀ {w' : Wd} {H : Hp} {st : Store}, w1.leU w' → RelH g w' H st → SqL g.K H a vs := fun le rh => .of (rh.F _ _ (le.F _ _ hs))
              have k2 : ∀ {w' : Wd} {H : Hp} {st : Store}, w1.leU w' → RelH g w' H st → SqL g.K H a2 vs2 := fun le rh => .of (rh.F _ _ (le.F _ _ hs2))
              refine ⟨a, a2, vs, vs2, rfl, .inl ⟨k1 (.refl _) rh1, k2 (.refl _) rh1, h2 w1 _ H1 (.refl _) rh1 (relI_zip hr hr2 (fun w' H st i x y le rh q1 q3 => ?_) fun w' H st i le rh hh => ?_)⟩⟩
              · refine ⟨⟨vs, vs2, x, y, k1 le rh, k2 le rh, q1, q3⟩, fun v H' ⟨T, x', y', e1, hT, e2, hx, hy⟩ => ?_⟩
                have z1 := hx vs (k1 le rh)
                have z2 := hy vs2 (k2 le rh)
                rw [q1] at z1
                rw [q3] at z2
                cases z1
                cases z2
                exact ⟨T, e1, hT, e2⟩
              · exact ⟨vs, vs2, k1 le rh, k2 le rh, hh⟩
    · cases e
end
end PyI
end

section
set_option Elab.async false
set_option linter.all false
set_option maxRecDepth 100000
set_option maxHeartbeats 4000000
/-! Comprehensions, loops, statements. -/
namespace PyI
open PySem PySem.Spec PyProof.Rows L2

/-! ### comprehensions -/
/-- a result in a place that no exception leaves -/
def Res.bindN {α β : Type} (r : Res α) (k : α → Store → Res β) : Res β := match r with
  | .ok a s => k a s
  | _ => .stuck
def wipeE (own : List Nat) (env : Env) : Env := own.foldr (fun v e => e.set v none) env
def compL (it : IT) (tg : GG) (tt : TT') (el : EE) (cl : CL) (env : Env) : Nat → Nat → List D → Store → Res (List D)
  | 0, _, _, _ => .stuck
  | f + 1, i, acc, st => match it.get st i with
    | none => .stuck
    | some none => .ok acc st
    | some (some x) => match tg x with
      | none => .stuck
      | some l => (tt cl (putE l env) st).bindN fun b s1 => match b with
        | true => (el cl (putE l env) s1).bindN fun y s2 => if acc.length < sizeLine then compL it tg tt el cl env f (i + 1) (acc ++ [y]) s2 else .stuck
        | false => compL it tg tt el cl env f (i + 1) acc s1
def compA (own : List Nat) (iter : II) (tg : GG) (tt : TT') (el : EE) : AA := fun cl env st => (iter cl env st).bind fun it s1 => compL it tg tt el cl (wipeE own env) (it.len s1 + 1) 0 [] s1
def yesT : TT' := fun _ _ st => .ok true st
def lcM (c : AA) : EE := fun cl env st => (c cl env st).bind fun xs s1 => .ok (.lst xs) s1
def lcN (c : AA) : EE := fun cl env st => (c cl env st).bind fun xs s1 => newL xs s1
theorem compL_len {it : IT} {tg : GG} {tt : TT'} {el : EE} {cl : CL} {env : Env} : ∀ (f i : Nat) (acc : List D) (st : Store) (xs : List D) (s : Store), acc.length ≤ sizeLine → compL it tg tt el cl env f i acc st = .ok xs s → xs.length ≤ sizeLine
  | 0, _, _, _, _, _, _, h => by cases h
  | f + 1, i, acc, st, xs, s, hl, h => by
    unfold compL at h
    split at h
    · cases h
    · cases h
      exact hl
    · split at h
      · cases h
      · rename_i l _
        cases q : tt cl (putE l env) st with
        | stuck => rw [q] at h; cases h
        | exc _ _ => rw [q] at h; cases h
        | ok b s1 =>
          rw [q] at h
          cases b with
          | false => exact compL_len f _ _ _ _ _ hl h
          | true =>
            have h' : ((el cl (putE l env) s1).bindN fun y s2 => if acc.length < sizeLine then compL it tg tt el cl env f (i + 1) (acc ++ [y]) s2 else .stuck) = .ok xs s := h
            cases q2 : el cl (putE l env) s1 with
            | stuck => rw [q2] at h'; cases h'
            | exc _ _ => rw [q2] at h'; cases h'
            | ok y s2 =>
              rw [q2] at h'
              have h2 : (if acc.length < sizeLine then compL it tg tt el cl env f (i + 1) (acc ++ [y]) s2 else .stuck) = .ok xs s := h'
              split at h2
              · exact compL_len f _ _ _ _ _ (by rw [List.length_append, List.length_singleton]; omega) h2
              · cases h2
theorem compL_noexc {it : IT} {tg : GG} {tt : TT'} {el : EE} {cl : CL} {env : Env} : ∀ (f i : Nat) (acc : List D) (st : Store) (x : Ex) (s : Store), compL it tg tt el cl env f i acc st ≠ .exc x s
  | 0, _, _, _, _, _ => fun h => by cases h
  | f + 1, i, acc, st, x, s => fun h => by
    unfold compL at h
    split at h
    · cases h
    · cases h
    · split at h
      · cases h
      · rename_i l _
        cases q : tt cl (putE l env) st with
        | stuck => rw [q] at h; cases h
        | exc _ _ => rw [q] at h; cases h
        | ok b s1 =>
          rw [q] at h
          cases b with
          | false => exact compL_noexc f _ _ _ _ _ h
          | true =>
            have h' : ((el cl (putE l env) s1).bindN fun y s2 => if acc.length < sizeLine then compL it tg tt el cl env f (i + 1) (acc ++ [y]) s2 else .stuck) = .exc x s := h
            cases q2 : el cl (putE l env) s1 with
            | stuck => rw [q2] at h'; cases h'
            | exc _ _ => rw [q2] at h'; cases h'
            | ok y s2 =>
              rw [q2] at h'
              have h2 : (if acc.length < sizeLine then compL it tg tt el cl env f (i + 1) (acc ++ [y]) s2 else .stuck) = .exc x s := h'
              split at h2
              · exact compL_noexc f _ _ _ _ _ h2
              · cases h2
theorem wipe_set {σ : L2.St} {i : Nat} {o : Option V} : ∀ {own : List Nat}, i ∈ own → L2.wipe (σ.set i o) own = L2.wipe σ own
  | v :: vs, h => by
    show (L2.wipe (σ.set i o) vs).set v none = (L2.wipe σ vs).set v none
    by_cases hi : i ∈ vs
    · rw [wipe_set hi]
    · have e : i = v := (List.mem_cons.mp h).resolve_right hi
      subst e
      have comm : ∀ (vs : List Nat) (σ : L2.St), i ∉ vs → L2.wipe (σ.set i o) vs = (L2.wipe σ vs).set i o := by
        intro vs
        induction vs with
        | nil => intro σ _; rfl
        | cons u us ih =>
          intro σ hn
          show (L2.wipe (σ.set i o) us).set u none = ((L2.wipe σ us).set u none).set i o
          rw [ih σ (fun z => hn (List.mem_cons_of_mem _ z))]
          exact List.set_comm _ _ (fun z => hn (by rw [z]; exact List.mem_cons_self))
      rw [comm vs σ hi, List.set_set]
theorem wipe_putS {own : List Nat} : ∀ {is : List Nat} {vs : List V} {σ : L2.St}, (∀ i ∈ is, i ∈ own) → L2.wipe (putS is vs σ) own = L2.wipe σ own
  | [], _, _, _ => rfl
  | i :: is, [], _, _ => rfl
  | i :: is, v :: vs, σ, h => by
    show L2.wipe (putS is vs (σ.set i (some v))) own = _
    rw [wipe_putS fun j hj => h j (List.mem_cons_of_mem _ hj), wipe_set (h i List.mem_cons_self)]
theorem wipe_wipe {σ : L2.St} {own : List Nat} : L2.wipe (L2.wipe σ own) own = L2.wipe σ own := by
  have h : ∀ (vs : List Nat) (σ : L2.St), (∀ v ∈ vs, v ∈ own) → L2.wipe (L2.wipe σ vs) own = L2.wipe σ own := by
    intro vs
    induction vs with
    | nil => intro σ _; rfl
    | cons v vs ih =>
      intro σ hv
      show L2.wipe ((L2.wipe σ vs).set v none) own = _
      rw [wipe_set (hv v List.mem_cons_self)]
      exact ih σ fun u hu => hv u (List.mem_cons_of_mem _ hu)
  exact h own σ fun v hv => hv

section
variable {g : Gb} {cl : CL} {n : Nat} {X : Cx} {W : WX} {tg e a b c : Expr} {es : List Expr} {ma mb mc : EE} {mt mu : TT'} {ms : AA} {pos : Pos}
/-- no exception is wished for -/
abbrev W0 : WX := fun _ _ _ _ => False
theorem out_no {α β : Type} {R : Wd → β → α → Prop} {w : Wd} {σ : L2.St} {r : Res α} {k : α → Store → Res (List D)} {P : Res (List D) → Prop} {Q : β → Hp → Prop} (hs : ¬ P .stuck) (h : P (r.bindN k)) (hk : ∀ a s, r = .ok a s → P (k a s) → ∀ w' v H', w.le w' → RelH g w' H' s → R w' v a → Q v H') : Out g R W0 w σ r Q := by
  cases r with
  | ok a s => exact hk a s rfl h
  | exc x s => exact (hs h).elim
  | stuck => exact (hs h).elim
/-- the reading of a comprehension: what is wished for of the made list -/
theorem rd_lc {own : List Nat} {mi : II} {mg : GG} {tW : WX → TE} {σ : L2.St} {H : Hp} {Q : VK} {K : PySem.W.Frag} (hown : ∀ d l, mg d = some l → ∀ p ∈ l, p.1 ∈ own) {k : List D → Store → Res D}
    (hk : ∀ (w1 w2 : Wd) (D1 : Addr) (H2 : Hp) (st : Store) (acc : List D) (vs : List V), acc.length ≤ sizeLine → w1.leU w2 → RelH g w2 H2 st → w2.T = upd w1.T D1 (.lst vs) → w1.T D1 = none → RelDs g w2 vs acc → Out g (RelD g) W w1 σ (k acc st) Q → Q (.ref D1) H2)
    (h : ∃ w env st, RelH g w H st ∧ RelE g w σ env ∧ Out g (RelD g) W w σ ((compA own mi mg mt ma cl env st).bind k) Q) :
    tLc (rdI g cl W mi) (rdG g mg) (rdT g cl W0 mt) (rdE g cl W0 ma) own σ H Q := by
  obtain ⟨w, env, st, rh, re, h⟩ := h
  have e0 : (compA own mi mg mt ma cl env st).bind k = (mi cl env st).bind fun it s1 => (compL it mg mt ma cl (wipeE own env) (it.len s1 + 1) 0 [] s1).bind k := by
    unfold compA
    cases mi cl env st <;> rfl
  rw [e0] at h
  refine ⟨w, env, st, rh, re, h.bind.imp fun J H1 ⟨w1, it, s1, le1, rh1, rI, h1⟩ D1 hD => ?_⟩
  have hT0 : w1.T D1 = none := by
    cases q : w1.T D1 with
    | none => rfl
    | some u =>
      have := (rh1.tmp _ _ q).1
      rw [hD] at this
      cases this
  -- what is left to be done
  refine ⟨fun i m H2 => ∃ (w2 : Wd) (s2 : Store) (acc : List D) (vs : List V), w1.leU w2 ∧ RelH g w2 H2 s2 ∧ w2.T = upd w1.T D1 (.lst vs) ∧ RelDs g w2 vs acc ∧ acc.length ≤ sizeLine ∧
    Out g (RelD g) W w1 σ ((compL it mg mt ma cl (wipeE own env) m i acc s2).bind k) Q, ⟨it.len s1 + 1, w1.tmp D1 (.lst []), s1, [], [], ⟨Same.refl _, Nat.le_refl _, fun _ _ => rfl⟩, rh1.mk_tmp hD, rfl, .nil, Nat.zero_le _, h1⟩, ?_⟩
  rintro i m H2 ⟨w2, s2, acc, vs, le2, rh2, hT2, rs, hlen, h2⟩
  cases m with
  | zero => exact h2.elim
  | succ m =>
    have hI := rI w2 H2 s2 i le2 rh2
    unfold compL at h2
    cases qg : it.get s2 i with
    | none =>
      rw [qg] at h2
      exact h2.elim
    | some o =>
      rw [qg] at h2 hI
      cases o with
      | none => exact .inl ⟨hI, hk w1 w2 D1 H2 s2 acc vs hlen le2 rh2 hT2 hT0 rs h2⟩
      | some x =>
        obtain ⟨go, yl⟩ := hI
        refine .inr ⟨go, fun H3 => ∃ m', m' < m + 1 ∧ ∃ (w2 : Wd) (s2 : Store) (acc : List D) (vs : List V), w1.leU w2 ∧ RelH g w2 H3 s2 ∧ w2.T = upd w1.T D1 (.lst vs) ∧ RelDs g w2 vs acc ∧ acc.length ≤ sizeLine ∧
          Out g (RelD g) W w1 σ ((compL it mg mt ma cl (wipeE own env) m' (i + 1) acc s2).bind k) Q, fun H3 z => z, fun v H3 hy => ?_⟩
        obtain ⟨w3, le3, rh3, rv⟩ := yl v H3 hy
        have h3 : Out g (RelD g) W w1 σ ((match mg x with
          | none => Res.stuck
          | some l => (mt cl (putE l (wipeE own env)) s2).bindN fun b s1 => match b with
            | true => (ma cl (putE l (wipeE own env)) s1).bindN fun y s2 => if acc.length < sizeLine then compL it mg mt ma cl (wipeE own env) m (i + 1) (acc ++ [y]) s2 else .stuck
            | false => compL it mg mt ma cl (wipeE own env) m (i + 1) acc s1).bind k) Q := h2
        cases qx : mg x with
        | none =>
          rw [qx] at h3
          exact h3.elim
        | some l =>
          rw [qx] at h3
          have reW : RelE g w1 (L2.wipe σ own) (wipeE own env) := (re.mono le1).wipe own
          have leU3 : w1.leU w3 := le2.trans le3.toleU
          have reW3 : RelE g w3 (L2.wipe σ own) (wipeE own env) := ⟨reW.len, fun j d e => let ⟨u, q1, q2⟩ := reW.at_ j d e; ⟨u, q1, q2.monoU leU3⟩⟩
          refine ⟨w3, s2, x, l, rh3, rv, qx, fun vals hv => ⟨?_, w3, putE l (wipeE own env), s2, rh3, reW3.putS hv, ?_⟩⟩
          · exact (wipe_putS fun j hj => by
              obtain ⟨p, hp, e⟩ := List.mem_map.mp hj
              rw [← e]
              exact hown x l qx p hp).trans wipe_wipe
          · refine out_no (k := fun b s1 => match b with
              | true => (ma cl (putE l (wipeE own env)) s1).bindN fun y s2 => if acc.length < sizeLine then compL it mg mt ma cl (wipeE own env) m (i + 1) (acc ++ [y]) s2 else .stuck
              | false => compL it mg mt ma cl (wipeE own env) m (i + 1) acc s1) (P := fun r => Out g (RelD g) W w1 σ (r.bind k) Q) (fun z => z) h3 fun bt s4 qb h4 w4 vb H4 le4 rh4 eb => ?_
            cases (show vb = bt from eb)
            have hT4 : w4.T = upd w1.T D1 (.lst vs) := by rw [le4.T, le3.T, hT2]
            have leU4 : w1.leU w4 := leU3.trans le4.toleU
            cases bt with
            | false => exact iteF ⟨m, Nat.lt_succ_self _, w4, s4, acc, vs, leU4, rh4, hT4, rs.monoU (le3.toleU.trans le4.toleU), hlen, h4⟩
            | true =>
              refine iteT ⟨w4, putE l (wipeE own env), s4, rh4, (reW3.putS hv).mono le4, ?_⟩
              refine out_no (k := fun y s2 => if acc.length < sizeLine then compL it mg mt ma cl (wipeE own env) m (i + 1) (acc ++ [y]) s2 else .stuck) (P := fun r => Out g (RelD g) W w1 σ (r.bind k) Q) (fun z => z) h4 fun y s5 qy h5 w5 vy H5 le5 rh5 ry => ?_
              by_cases hlt : acc.length < sizeLine
              · rw [if_pos hlt] at h5
                have hT5 : w5.T = upd w1.T D1 (.lst vs) := by rw [le5.T, hT4]
                have rs5 : RelDs g w5 vs acc := rs.monoU ((le3.toleU.trans le4.toleU).trans le5.toleU)
                have hTD : w5.T D1 = some (.lst vs) := by rw [hT5]; exact upd_same
                refine ⟨vs, (rh5.tmp _ _ hTD).1, by rw [rs.length]; exact hlt, m, Nat.lt_succ_self _, w5.tmp D1 (.lst (vs ++ [vy])), s5, acc ++ [y], vs ++ [vy], ?_, rh5.put_tmp hTD, ?_, (rs5.append (.cons ry .nil)).tmp, ?_, h5⟩
                · exact leU4.trans (le5.toleU.trans ⟨Same.refl _, Nat.le_refl _, fun _ _ => rfl⟩)
                · show upd w5.T D1 _ = _
                  rw [hT5, upd_upd]
                · rw [List.length_append, List.length_singleton]
                  omega
              · rw [if_neg hlt] at h5
                exact h5.elim
end
end PyI
end

section
set_option Elab.async false
set_option linter.all false
set_option maxRecDepth 100000
set_option maxHeartbeats 4000000
/-! Comprehensions as expressions; statements. -/
namespace PyI
open PySem PySem.Spec PyProof.Rows L2

theorem _root_.L2.PTs.weak {X : Cx} {e : List Expr} {t t' : TT} (h : PTs X e t) (k : ∀ σ H Q, t' σ H Q → t σ H Q) : PTs X e t' := ⟨fun pins s σ H Q I hw => h.run pins s σ H Q I (k σ H Q hw)⟩
section
variable {g : Gb} {cl : CL} {n : Nat} {X : Cx} {W : WX} {tg e a b c : Expr} {es : List Expr} {ma mb mc : EE} {mt mu : TT'} {ms : AA} {pos : Pos}
theorem s_yes : PTs X [] (rdT g cl W yesT) := pts_nil.weak fun σ H Q ⟨w, env, st, rh, re, h⟩ => h w true H (.refl w) rh rfl
theorem end_frz {σ : L2.St} {Q : VK} (w1 w2 : Wd) (D1 : Addr) (H2 : Hp) (st : Store) (acc : List D) (vs : List V) (_ : acc.length ≤ sizeLine) (le : w1.leU w2) (rh : RelH g w2 H2 st) (hT : w2.T = upd w1.T D1 (.lst vs)) (h0 : w1.T D1 = none) (rs : RelDs g w2 vs acc)
    (h : Out g (RelD g) W w1 σ (.ok (.lst acc) st) Q) : Q (.ref D1) H2 := by
  have hp : w2.T D1 = some (.lst vs) := by rw [hT]; exact upd_same
  have hTT : ∀ a u, w1.T a = some u → a ≠ D1 ∧ w2.T a = some u := fun a u e => by
    have ne : a ≠ D1 := ne_of_none e h0
    exact ⟨ne, by rw [hT, upd_ne ne]; exact e⟩
  have le2 : (w2.untmp w1.T).le ((w2.untmp w1.T).frz D1 (.lst vs)) := Wd.frz_le (rh.tmp _ _ hp).2.1
  exact h ((w2.untmp w1.T).frz D1 (.lst vs)) (.ref D1) H2 ⟨le.trans (⟨le2.F, le2.nx, le2.μ⟩ : w2.leU _), rfl⟩ (rh.end_frz hp hTT) (.lst upd_same (rs.untmp.mono le2))
theorem end_new {σ : L2.St} {Q : VK} (w1 w2 : Wd) (D1 : Addr) (H2 : Hp) (st : Store) (acc : List D) (vs : List V) (hl : acc.length ≤ sizeLine) (le : w1.leU w2) (rh : RelH g w2 H2 st) (hT : w2.T = upd w1.T D1 (.lst vs)) (h0 : w1.T D1 = none) (rs : RelDs g w2 vs acc)
    (h : Out g (RelD g) W w1 σ (newL acc st) Q) : Q (.ref D1) H2 := by
  have hp : w2.T D1 = some (.lst vs) := by rw [hT]; exact upd_same
  have hTT : ∀ a u, w1.T a = some u → a ≠ D1 ∧ w2.T a = some u := fun a u e => by
    have ne : a ≠ D1 := ne_of_none e h0
    exact ⟨ne, by rw [hT, upd_ne ne]; exact e⟩
  unfold newL at h
  rw [if_pos hl] at h
  refine h ((w2.untmp w1.T).new D1) (.ref D1) H2 ⟨le.trans (have q : (w2.untmp w1.T).le ((w2.untmp w1.T).new D1) := Wd.new_le; (⟨q.F, q.nx, q.μ⟩ : w2.leU _)), rfl⟩ (rh.end_new hp rs hTT) ?_
  have e : st.nx = (w2.untmp w1.T).nx := rh.nx.symm
  rw [e]
  exact rel_new
section
variable {tg iter elt : Expr} {ifs : List Expr} {scope : Scope} {own : List (Str × Nat)} {mi : II} {mg : GG}
theorem s_lc (hc : X.calm = true) (hN : X.N.Nodup) (hi : PI X tg iter (rdI g cl W mi)) (ok : BlkOk X.N X.env.scope scope own)
    (hg : ∀ (s : Shared) (H : Hp) (C : Addr) (cs : List (Str × Addr)) (fp : List Addr), PG (X.blk s H scope (compEnvC scope cs C X.env) fp) tg (rdG g mg))
    (ht : ∀ (s : Shared) (H : Hp) (C : Addr) (cs : List (Str × Addr)) (fp : List Addr), PTs (X.blk s H scope (compEnvC scope cs C X.env) fp) ifs (rdT g cl W0 mt))
    (he : ∀ (s : Shared) (H : Hp) (C : Addr) (cs : List (Str × Addr)) (fp : List Addr), PE (X.blk s H scope (compEnvC scope cs C X.env) fp) elt (rdE g cl W0 ma))
    (hs : ∀ x, foldedSetIterable iter X.env x = pure x) (hown : ∀ d l, mg d = some l → ∀ p ∈ l, p.1 ∈ own.map (·.2)) :
    PE X (.ListComp elt [⟨tg, iter, ifs, 0⟩] scope pos) (rdE g cl W (lcM (compA (own.map (·.2)) mi mg mt ma))) :=
  (pe_lc hc hN hi ok hg ht he hs).weak fun σ H Q h => rd_lc (tW := fun _ => rdE g cl W0 ma) (K := X.K) hown (k := fun xs s1 => .ok (.lst xs) s1) (fun w1 w2 D1 H2 st acc vs a b c d e f h => end_frz w1 w2 D1 H2 st acc vs a b c d e f h) h
theorem s_lcN (hc : X.calm = true) (hN : X.N.Nodup) (hi : PI X tg iter (rdI g cl W mi)) (ok : BlkOk X.N X.env.scope scope own)
    (hg : ∀ (s : Shared) (H : Hp) (C : Addr) (cs : List (Str × Addr)) (fp : List Addr), PG (X.blk s H scope (compEnvC scope cs C X.env) fp) tg (rdG g mg))
    (ht : ∀ (s : Shared) (H : Hp) (C : Addr) (cs : List (Str × Addr)) (fp : List Addr), PTs (X.blk s H scope (compEnvC scope cs C X.env) fp) ifs (rdT g cl W0 mt))
    (he : ∀ (s : Shared) (H : Hp) (C : Addr) (cs : List (Str × Addr)) (fp : List Addr), PE (X.blk s H scope (compEnvC scope cs C X.env) fp) elt (rdE g cl W0 ma))
    (hs : ∀ x, foldedSetIterable iter X.env x = pure x) (hown : ∀ d l, mg d = some l → ∀ p ∈ l, p.1 ∈ own.map (·.2)) :
    PE X (.ListComp elt [⟨tg, iter, ifs, 0⟩] scope pos) (rdE g cl W (lcN (compA (own.map (·.2)) mi mg mt ma))) :=
  (pe_lc hc hN hi ok hg ht he hs).weak fun σ H Q h => rd_lc (tW := fun _ => rdE g cl W0 ma) (K := X.K) hown (k := fun xs s1 => newL xs s1) (fun w1 w2 D1 H2 st acc vs a b c d e f h => end_new w1 w2 D1 H2 st acc vs a b c d e f h) h
end

/-! ### statements -/
end
def OutS (g : Gb) (W : WX) (w : Wd) (r : SR) (D : Ends) : Prop := match r with
  | .nx e st => ∀ w' σ' H', w.le w' → RelH g w' H' st → RelE g w' σ' e → D.nx σ' H'
  | .ret d st => ∀ w' v H', w.le w' → RelH g w' H' st → RelD g w' v d → D.rt v H'
  | .bk e st => ∀ w' σ' H', w.le w' → RelH g w' H' st → RelE g w' σ' e → D.bk σ' H'
  | .ct e st => ∀ w' σ' H', w.le w' → RelH g w' H' st → RelE g w' σ' e → D.ct σ' H'
  | .exc x e st => ∀ w' σ' H' dd, w.le w' → RelH g w' H' st → RelE g w' σ' e → RelX g w' x dd → W (.ref (g.ca x.cls)) dd σ' H'
  | .stuck => False
def rdS (g : Gb) (cl : CL) (W : WX) (m : SS) : TS := fun D σ H => ∃ w env st, RelH g w H st ∧ RelE g w σ env ∧ OutS g W w (m cl env st) D
def Res.toS {α : Type} (r : Res α) (env : Env) (k : α → Store → SR) : SR := match r with
  | .ok a s => k a s
  | .exc x s => .exc x env s
  | .stuck => .stuck
def SR.seq (r : SR) (k : Env → Store → SR) : SR := match r with
  | .nx e s => k e s
  | r => r
section
variable {g : Gb} {W W' : WX} {w w' : Wd} {D D' : Ends}
theorem OutS.le {r : SR} (le : w.le w') (h : OutS g W w r D) : OutS g W w' r D := by
  cases r with
  | nx e st => exact fun w2 σ' H' l => h w2 σ' H' (le.trans l)
  | ret d st => exact fun w2 σ' H' l => h w2 σ' H' (le.trans l)
  | bk e st => exact fun w2 σ' H' l => h w2 σ' H' (le.trans l)
  | ct e st => exact fun w2 σ' H' l => h w2 σ' H' (le.trans l)
  | exc x e st => exact fun w2 σ' H' dd l => h w2 σ' H' dd (le.trans l)
  | stuck => exact h
theorem OutS.toS {α β : Type} {R : Wd → β → α → Prop} {σ : L2.St} {r : Res α} {env : Env} {k : α → Store → SR} (h : OutS g W w (r.toS env k) D) (re : RelE g w σ env) :
    Out g R W w σ r (fun v H => ∃ w1 d st, w.le w1 ∧ RelH g w1 H st ∧ R w1 v d ∧ OutS g W w1 (k d st) D) := by
  cases r with
  | ok d st => exact fun w' v H' le a b => ⟨w', d, st, le, a, b, OutS.le le h⟩
  | exc x st => exact fun w' H' dd le a b => h w' σ H' dd le a (re.mono le) b
  | stuck => exact h
theorem OutS.seq {r : SR} {k : Env → Store → SR} (h : OutS g W w (r.seq k) D) :
    OutS g W w r { D with nx := fun σ H => ∃ w1 env st, w.le w1 ∧ RelH g w1 H st ∧ RelE g w1 σ env ∧ OutS g W w1 (k env st) D } := by
  cases r with
  | nx e st => exact fun w' σ' H' le a b => ⟨w', e, st, le, a, b, OutS.le le h⟩
  | ret d st => exact h
  | bk e st => exact h
  | ct e st => exact h
  | exc x e st => exact h
  | stuck => exact h
theorem OutS.imp {r : SR} (h : OutS g W w r D) (h1 : ∀ σ H, D.nx σ H → D'.nx σ H) (h2 : ∀ v H, D.rt v H → D'.rt v H) (h3 : ∀ σ H, D.bk σ H → D'.bk σ H) (h4 : ∀ σ H, D.ct σ H → D'.ct σ H) : OutS g W w r D' := by
  cases r with
  | nx e st => exact fun w' σ' H' l a b => h1 _ _ (h w' σ' H' l a b)
  | ret d st => exact fun w' σ' H' l a b => h2 _ _ (h w' σ' H' l a b)
  | bk e st => exact fun w' σ' H' l a b => h3 _ _ (h w' σ' H' l a b)
  | ct e st => exact fun w' σ' H' l a b => h4 _ _ (h w' σ' H' l a b)
  | exc x e st => exact h
  | stuck => exact h
end
def skipS : SS := fun _ env st => .nx env st
def seqS (a b : SS) : SS := fun cl env st => (a cl env st).seq fun e s => b cl e s
def asgS (m : EE) (tg : GG) : SS := fun cl env st => (m cl env st).toS env fun d s => match tg d with
  | some l => .nx (putE l env) s
  | none => .stuck
def exprS (m : EE) : SS := fun cl env st => (m cl env st).toS env fun _ s => .nx env s
def retS (m : EE) : SS := fun cl env st => (m cl env st).toS env fun d s => .ret d s
def retN : SS := fun _ _ st => .ret .non st
def bkS : SS := fun _ env st => .bk env st
def ctS : SS := fun _ env st => .ct env st
def ifS (t : TT') (a b : SS) : SS := fun cl env st => (t cl env st).toS env fun c s => match c with
  | true => a cl env s
  | false => b cl env s
def forL (it : IT) (tg : GG) (body : SS) (cl : CL) : Nat → Nat → Env → Store → SR
  | 0, _, _, _ => .stuck
  | f + 1, i, env, st => match it.get st i with
    | none => .stuck
    | some none => .nx env st
    | some (some x) => match tg x with
      | none => .stuck
      | some l => match body cl (putE l env) st with
        | .nx e s => forL it tg body cl f (i + 1) e s
        | .ct e s => forL it tg body cl f (i + 1) e s
        | .bk e s => .nx e s
        | .ret d s => .ret d s
        | .exc x e s => .exc x e s
        | .stuck => .stuck
def forS (iter : II) (tg : GG) (body : SS) : SS := fun cl env st => (iter cl env st).toS env fun it s => forL it tg body cl (it.len s + 1) 0 env s
def whileL (t : TT') (body : SS) (cl : CL) : Nat → Env → Store → SR
  | 0, _, _ => .stuck
  | f + 1, env, st => (t cl env st).toS env fun c s => match c with
    | false => .nx env s
    | true => match body cl env s with
      | .nx e s => whileL t body cl f e s
      | .ct e s => whileL t body cl f e s
      | .bk e s => .nx e s
      | .ret d s => .ret d s
      | .exc x e s => .exc x e s
      | .stuck => .stuck
/-- how many turns a while may take -/
def turns : Nat := 1000000000
def whileS (t : TT') (body : SS) : SS := fun cl env st => whileL t body cl turns env st
/-- a list's item is stored: the value first, then the list, then the index -/
def setL (xs : List D) (i : Int) (v : D) : Option (List D) := (ixN xs.length i).map fun j => xs.set j v
def setItem (st : Store) (o i v : D) : Option Store := match o, i with
  | .ref l, .int k => match listAt st l with
    | some xs => (setL xs k v).map fun ys => st.put l (.lst ys)
    | none => none
  | _, _ => none
def setS (m o i : EE) : SS := fun cl env st => (m cl env st).toS env fun d s => (o cl env s).toS env fun x s1 => (i cl env s1).toS env fun y s2 => match setItem s2 x y d with
  | some s3 => .nx env s3
  | none => .stuck
def augS (k : Nat) (o : Store → D → D → Option D) (m : EE) : SS := fun cl env st => match env[k]? with
  | some (some x) => (m cl env st).toS env fun y s => match o s x y with
    | some z => .nx (env.set k (some z)) s
    | none => .stuck
  | _ => .stuck
def raiseS (c : Nat) : SS := fun _ env st => .exc ⟨c, none⟩ env st
section
variable {g : Gb} {cl : CL} {n : Nat} {X : Cx} {W : WX} {tg e a b c : Expr} {es : List Expr} {ma mb mc : EE} {mt mu : TT'} {ms : AA} {pos : Pos} {st : Stmt} {sts bd bd2 : List Stmt} {m1 m2 : SS}
theorem s_stuckS {m : SS} (h : ∀ cl env st, m cl env st = .stuck) : PS X st (rdS g cl W m) := ⟨fun pins s σ H D I ⟨w, env, st, rh, re, hw⟩ => by
  rw [h] at hw
  exact hw.elim⟩
theorem s_snil : PSs X [] (rdS g cl W skipS) := pss_nil.weak fun D σ H ⟨w, env, st, rh, re, h⟩ => h w σ H (.refl w) rh re
theorem s_scons (h1 : PS X st (rdS g cl W m1)) (h2 : PSs X sts (rdS g cl W m2)) : PSs X (st :: sts) (rdS g cl W (seqS m1 m2)) :=
  (pss_cons h1 h2).weak fun D σ H ⟨w, env, st, rh, re, h⟩ => ⟨w, env, st, rh, re, h.seq.imp (fun σ H ⟨w1, e1, s1, le, a, b, h⟩ => ⟨w1, e1, s1, a, b, h⟩) (fun _ _ z => z) (fun _ _ z => z) fun _ _ z => z⟩
theorem s_sone (h1 : PS X st (rdS g cl W m1)) : PSs X [st] (rdS g cl W m1) := pss_one h1
theorem s_pass : PS X (.Pass pos) (rdS g cl W skipS) := ps_pass.weak fun D σ H ⟨w, env, st, rh, re, h⟩ => h w σ H (.refl w) rh re
theorem s_break : PS X (.Break pos) (rdS g cl W bkS) := ps_break.weak fun D σ H ⟨w, env, st, rh, re, h⟩ => h w σ H (.refl w) rh re
theorem s_continue : PS X (.Continue pos) (rdS g cl W ctS) := ps_continue.weak fun D σ H ⟨w, env, st, rh, re, h⟩ => h w σ H (.refl w) rh re
theorem s_ret (ha : PE X a (rdE g cl W ma)) : PS X (.Return (some a) pos) (rdS g cl W (retS ma)) :=
  (ps_ret ha).weak fun D σ H ⟨w, env, st, rh, re, h⟩ => ⟨w, env, st, rh, re, (h.toS re).imp fun v H1 ⟨w1, d, s1, le1, rh1, rx, h1⟩ => h1 w1 v H1 (.refl _) rh1 rx⟩
theorem s_retN : PS X (.Return none pos) (rdS g cl W retN) := ps_retN.weak fun D σ H ⟨w, env, st, rh, re, h⟩ => h w .non H (.refl w) rh .non
theorem s_expr (ha : PE X a (rdE g cl W ma)) (hs : swapsWith a none pos.line X.env = pure false) : PS X (.Expr a pos) (rdS g cl W (exprS ma)) :=
  (ps_expr ha hs).weak fun D σ H ⟨w, env, st, rh, re, h⟩ => ⟨w, env, st, rh, re, (h.toS re).imp fun v H1 ⟨w1, d, s1, le1, rh1, rx, h1⟩ => h1 w1 σ H1 (.refl _) rh1 (re.mono le1)⟩
theorem s_ifS (hc : PT X c (rdT g cl W mt)) (ha : PSs X bd (rdS g cl W m1)) (hb : PSs X bd2 (rdS g cl W m2)) : PS X (.If c bd bd2 pos) (rdS g cl W (ifS mt m1 m2)) :=
  (ps_if hc ha hb).weak fun D σ H ⟨w, env, st, rh, re, h⟩ => by
    refine ⟨w, env, st, rh, re, (h.toS re).imp fun v H1 ⟨w1, d, s1, le1, rh1, rx, h1⟩ => ?_⟩
    cases (show v = d from rx)
    cases v with
    | true => exact iteT ⟨w1, env, s1, rh1, re.mono le1, h1⟩
    | false => exact iteF ⟨w1, env, s1, rh1, re.mono le1, h1⟩
theorem rd_asg {mg : GG} {D : Ends} {σ : L2.St} {H : Hp} (h : rdS g cl W (asgS ma mg) D σ H) : tAsg (rdE g cl W ma) (rdG g mg) D σ H := by
  obtain ⟨w, env, st, rh, re, h⟩ := h
  refine ⟨w, env, st, rh, re, (h.toS re).imp fun v H1 ⟨w1, d, s1, le1, rh1, rx, h1⟩ => ?_⟩
  cases q : mg d with
  | none =>
    rw [q] at h1
    exact h1.elim
  | some l =>
    rw [q] at h1
    exact ⟨w1, s1, d, l, rh1, rx, q, fun vals hv => h1 w1 _ H1 (.refl _) rh1 ((re.mono le1).putS hv)⟩
theorem s_asg {mg : GG} (ha : PE X a (rdE g cl W ma)) (hg : PG X tg (rdG g mg)) (hs : swapsWithSole [tg] a pos.line X.env = pure false) (hw : swappedStores [tg] a X.env = pure none) (h1 : (assignEach [tg] X.env).map (·.2) = [assign tg X.env]) :
    PS X (.Assign [tg] a pos) (rdS g cl W (asgS ma mg)) := (ps_asg ha hg hs hw h1).weak fun D σ H h => rd_asg h
theorem s_set {i : Nat} {x : Str} {px : Pos} (hN : X.N.Nodup) (hi : X.N[i]? = some x) (hx : Loc X.env.scope x) (ha : PE X a (rdE g cl W ma)) (hs : swapsWith a (some (.Name x px)) pos.line X.env = pure false) (hf : X.fn x = true ∨ X.env.scope.names.lookup x = some .local) :
    PS X (.Assign [.Name x px] a pos) (rdS g cl W (asgS ma (nameG i))) := (ps_set hN hi hx ha hs hf).weak fun D σ H ⟨w, env, st, rh, re, h⟩ =>
      ⟨w, env, st, rh, re, (h.toS re).imp fun v H1 ⟨w1, d, s1, le1, rh1, rx, h1⟩ => h1 w1 _ H1 (.refl _) rh1 (RelE.set i (re.mono le1) rx)⟩
theorem s_for {mi : II} {mg : GG} (hp : PassesOwn (model X.prog X.w) X.A X.env X.xe) (hc : X.calm = true) (hi : PI X tg a (rdI g cl W mi)) (hg : PG X tg (rdG g mg)) (hb : PSs X bd (rdS g cl W m1)) (hs : ∀ x, foldedSetIterable a X.env x = pure x) :
    PS X (.For tg a bd [] pos) (rdS g cl W (forS mi mg m1)) :=
  (ps_for hp hc hi hg hb hs).weak fun D σ H ⟨w, env, st, rh, re, h⟩ => by
    refine ⟨w, env, st, rh, re, (h.toS re).imp fun J H1 ⟨w1, it, s1, le1, rh1, rI, h1⟩ => ?_⟩
    refine ⟨fun i m σ H => ∃ w2 s2 env2, w1.le w2 ∧ RelH g w2 H s2 ∧ RelE g w2 σ env2 ∧ OutS g W w2 (forL it mg m1 cl m i env2 s2) D, ⟨_, w1, s1, env, .refl _, rh1, re.mono le1, h1⟩, ?_⟩
    rintro i m σ2 H2 ⟨w2, s2, env2, le2, rh2, re2, h2⟩
    cases m with
    | zero => exact h2.elim
    | succ m =>
      have hI := rI w2 H2 s2 i le2.toleU rh2
      unfold forL at h2
      cases qg : it.get s2 i with
      | none =>
        rw [qg] at h2
        exact h2.elim
      | some o =>
        rw [qg] at h2 hI
        cases o with
        | none => exact .inl ⟨hI, h2 w2 σ2 H2 (.refl _) rh2 re2⟩
        | some x =>
          obtain ⟨go, yl⟩ := hI
          refine .inr ⟨go, fun σ' H' => ∃ m', m' < m + 1 ∧ ∃ w2 s2 env2, w1.le w2 ∧ RelH g w2 H' s2 ∧ RelE g w2 σ' env2 ∧ OutS g W w2 (forL it mg m1 cl m' (i + 1) env2 s2) D, fun σ' H' z => z, fun v H3 hy => ?_⟩
          obtain ⟨w3, le3, rh3, rv⟩ := yl v H3 hy
          have h3 : OutS g W w2 (match mg x with
            | none => .stuck
            | some l => match m1 cl (putE l env2) s2 with
              | .nx e s => forL it mg m1 cl m (i + 1) e s
              | .ct e s => forL it mg m1 cl m (i + 1) e s
              | .bk e s => .nx e s
              | .ret d s => .ret d s
              | .exc x e s => .exc x e s
              | .stuck => .stuck) D := h2
          cases qx : mg x with
          | none =>
            rw [qx] at h3
            exact h3.elim
          | some l =>
            rw [qx] at h3
            refine ⟨w3, s2, x, l, rh3, rv, qx, fun vals hv => ⟨w3, putE l env2, s2, rh3, (re2.mono le3).putS hv, ?_⟩⟩
            have h4 : OutS g W w3 (match m1 cl (putE l env2) s2 with
              | .nx e s => forL it mg m1 cl m (i + 1) e s
              | .ct e s => forL it mg m1 cl m (i + 1) e s
              | .bk e s => .nx e s
              | .ret d s => .ret d s
              | .exc x e s => .exc x e s
              | .stuck => .stuck) D := OutS.le le3 h3
            cases qb : m1 cl (putE l env2) s2 with
            | nx e s =>
              rw [qb] at h4
              exact fun w' σ' H' le a b => ⟨m, Nat.lt_succ_self _, w', s, e, le2.trans (le3.trans le), a, b, OutS.le le h4⟩
            | ct e s =>
              rw [qb] at h4
              exact fun w' σ' H' le a b => ⟨m, Nat.lt_succ_self _, w', s, e, le2.trans (le3.trans le), a, b, OutS.le le h4⟩
            | bk e s =>
              rw [qb] at h4
              exact h4
            | ret d s =>
              rw [qb] at h4
              exact h4
            | exc y e s =>
              rw [qb] at h4
              exact h4
            | stuck =>
              rw [qb] at h4
              exact h4
theorem s_while (hp : PassesOwn (model X.prog X.w) X.A X.env X.xe) (hc : PT X c (rdT g cl W mt)) (hb : PSs X bd (rdS g cl W m1)) : PS X (.While c bd [] pos) (rdS g cl W (whileS mt m1)) :=
  (ps_while hp hc hb).weak fun D σ H ⟨w, env, st, rh, re, h⟩ => by
    refine ⟨fun m σ H => ∃ w2 s2 env2, RelH g w2 H s2 ∧ RelE g w2 σ env2 ∧ OutS g W w2 (whileL mt m1 cl m env2 s2) D, ⟨_, w, st, env, rh, re, h⟩, ?_⟩
    rintro m σ2 H2 ⟨w2, s2, env2, rh2, re2, h2⟩
    cases m with
    | zero => exact h2.elim
    | succ m =>
      unfold whileL at h2
      refine ⟨w2, env2, s2, rh2, re2, (h2.toS re2).imp fun b H3 ⟨w3, d, s3, le3, rh3, rx, h3⟩ => ?_⟩
      cases (show b = d from rx)
      cases b with
      | false => exact iteF (h3 w3 σ2 H3 (.refl _) rh3 (re2.mono le3))
      | true =>
        refine iteT ⟨fun σ' H' => ∃ m', m' < m + 1 ∧ ∃ w2 s2 env2, RelH g w2 H' s2 ∧ RelE g w2 σ' env2 ∧ OutS g W w2 (whileL mt m1 cl m' env2 s2) D, fun σ' H' z => z, w3, env2, s3, rh3, re2.mono le3, ?_⟩
        have h4 : OutS g W w3 (match m1 cl env2 s3 with
          | .nx e s => whileL mt m1 cl m e s
          | .ct e s => whileL mt m1 cl m e s
          | .bk e s => .nx e s
          | .ret d s => .ret d s
          | .exc x e s => .exc x e s
          | .stuck => .stuck) D := h3
        cases qb : m1 cl env2 s3 with
        | nx e s =>
          rw [qb] at h4
          exact fun w' σ' H' le a b => ⟨m, Nat.lt_succ_self _, w', s, e, a, b, OutS.le le h4⟩
        | ct e s =>
          rw [qb] at h4
          exact fun w' σ' H' le a b => ⟨m, Nat.lt_succ_self _, w', s, e, a, b, OutS.le le h4⟩
        | bk e s =>
          rw [qb] at h4
          exact h4
        | ret d s =>
          rw [qb] at h4
          exact h4
        | exc y e s =>
          rw [qb] at h4
          exact h4
        | stuck =>
          rw [qb] at h4
          exact h4
/-- name op= e -/
theorem s_aug {k : Nat} {x : Str} {px : Pos} {op : Operator} {o : Store → D → D → Option D} (hN : X.N.Nodup) (hi : X.N[k]? = some x) (hx : Loc X.env.scope x) (ha : PE X a (rdE g cl W ma)) (ho : OpR X (inplaceOp op) (rOp g o)) (hf : X.fn x = true ∨ X.env.scope.names.lookup x = some .local) :
    PS X (.AugAssign (.Name x px) op a pos) (rdS g cl W (augS k o ma)) :=
  (ps_aug hN hi hx ha (ti := rOp g o) ho hf).weak fun D σ H ⟨w, env, st, rh, re, h⟩ => by
    unfold augS at h
    cases q : env[k]? with
    | none => rw [q] at h; exact h.elim
    | some z =>
      rw [q] at h
      cases z with
      | none => exact h.elim
      | some d =>
        obtain ⟨v, q1, q2⟩ := re.at_ k d q
        refine ⟨v, q1, w, env, st, rh, re, (h.toS re).imp fun y H1 ⟨w1, d1, s1, le1, rh1, rx, h1⟩ => ⟨w1, d, d1, s1, rh1, q2.mono le1, rx, ?_⟩⟩
        cases q3 : o s1 d d1 with
        | none => rw [q3] at h1; exact h1.elim
        | some z =>
          rw [q3] at h1
          exact fun w' v' H' le a b => h1 w' _ H' le a (RelE.set k (re.mono (le1.trans le)) b)
/-- o[i] = e, o a list of the store -/
theorem s_setI {o i : Expr} {mo mi : EE} {ps : Pos} (ha : PE X a (rdE g cl W ma)) (ho : PE X o (rdE g cl W mo)) (hi : PE X i (rdE g cl W mi))
    (hsub : ∀ v, assign (.Subscript o i ps) X.env v = (do
      let ov ← holding [v] (eval o X.env)
      let iv ← holding [v, ov] (eval i X.env)
      standAt ps
      holding [v, ov, iv] (PySem.setItem ov iv v)
      release [v, ov, iv] [])) (hs : swapsWithSole [.Subscript o i ps] a pos.line X.env = pure false) (hw : swappedStores [.Subscript o i ps] a X.env = pure none) (h1 : (assignEach [.Subscript o i ps] X.env).map (·.2) = [assign (.Subscript o i ps) X.env]) :
    PS X (.Assign [.Subscript o i ps] a pos) (rdS g cl W (setS ma mo mi)) :=
  (ps_asg ha (pg_sub ho hi set_list hsub) hs hw h1).weak fun D σ H ⟨w, env, st, rh, re, h⟩ => by
    refine ⟨w, env, st, rh, re, (h.toS re).imp fun v H1 ⟨w1, d, s1, le1, rh1, rx, h1⟩ => ⟨w1, env, s1, rh1, re.mono le1, (h1.toS (re.mono le1)).imp fun v2 H2 ⟨w2, d2, s2, le2, rh2, rx2, h2⟩ => ⟨w2, env, s2, rh2, re.mono (le1.trans le2), (h2.toS (re.mono (le1.trans le2))).imp fun v3 H3 ⟨w3, d3, s3, le3, rh3, rx3, h3⟩ => ?_⟩⟩⟩
    have rx2' := rx2.mono le3
    have rx' := rx.mono (le2.trans le3)
    unfold setItem at h3
    cases rx2' with
    | @ref l hl =>
      cases rx3 with
      | int k =>
        cases q : listAt s3 l with
        | none =>
          have h4 : OutS g W w3 (match (match listAt s3 l with
            | some xs => (setL xs k d).map fun ys => s3.put l (.lst ys)
            | none => none) with
            | some s3 => .nx env s3
            | none => .stuck) D := h3
          rw [q] at h4
          exact h4.elim
        | some xs =>
          have h4 : OutS g W w3 (match (match listAt s3 l with
            | some xs => (setL xs k d).map fun ys => s3.put l (.lst ys)
            | none => none) with
            | some s3 => .nx env s3
            | none => .stuck) D := h3
          rw [q] at h4
          have h5 : OutS g W w3 (match ((ixN xs.length k).map fun j => xs.set j d).map fun ys => s3.put l (.lst ys) with
            | some s3 => .nx env s3
            | none => .stuck) D := h4
          obtain ⟨vs, e1, e2⟩ := rh3.lst q
          cases qj : ixN xs.length k with
          | none =>
            rw [qj] at h5
            exact h5.elim
          | some j =>
            rw [qj] at h5
            exact ⟨_, vs, k, j, rfl, rfl, e1, by rw [e2.length]; exact qj, h5 w3 σ _ (.refl _) (rh3.put (listAt_some q) (e2.set rx' j)) (re.mono ((le1.trans le2).trans le3))⟩
      | _ => exact h3.elim
    | _ => exact h3.elim
/-- raise X(): an own class without an own __init__ -/
theorem s_raise {i : Nat} (hc : X.calm = true) (tk : Takes X W) (he : PMk X e (fun _ H Q => Q (.ref (g.ca i)) none H)) : PS X (.Raise (some e) none pos) (rdS g cl W (raiseS i)) :=
  (ps_raise hc tk he).weak fun D σ H ⟨w, env, st, rh, re, h⟩ => h w σ H none (.refl w) rh re rfl
end
end PyI
end

section
set_option Elab.async false
set_option linter.all false
set_option maxRecDepth 100000
set_option maxHeartbeats 4000000
/-! Operators by values. -/
namespace PyI
open PySem PySem.Spec PyProof.Rows L2

/-! ### a text is no dict -/
theorem str_declines_any (b : Str) (u : Tok) (l : Addr) (c : Value) (es : Array DictEntry) (ep : Nat) (dd : Option Addr) (sl : Array (Option Value)) :
    Meets (Builtin.«str.__eq__» ⟨[.str b u, .ref l], []⟩) (fun _ R s => s.heap.get? l = some { cls := .type "dict", dict := dd, data := .dict es ep, slots := sl } ∧ R (.ok (.ret .notImplemented)) s) :=
  .of_wp fun prog w A R s h => by obtain ⟨hp, g, d, tk, os⟩ := s; obtain ⟨hl, h⟩ := h; wp_walk using AutoSeq1.wpAny_loadPart' hl, wpAny_load hl; exact ⟨_, rfl, h⟩
theorem dict_declines_str (b : Str) (u : Tok) (l : Addr) (es : Array DictEntry) (ep : Nat) (dd : Option Addr) (sl : Array (Option Value)) :
    Meets (Builtin.«dict.__eq__» ⟨[.ref l, .str b u], []⟩) (fun _ R s => s.heap.get? l = some { cls := .type "dict", dict := dd, data := .dict es ep, slots := sl } ∧ R (.ok (.ret .notImplemented)) s) :=
  .of_wp fun prog w A R s h => by obtain ⟨hp, g, d, tk, os⟩ := s; obtain ⟨hl, h⟩ := h; have f1 := F.sub_str_dict; wp_walk using AutoSeq1.wpAny_loadPart' hl, wpAny_load hl; exact ⟨_, rfl, h⟩
theorem eqAt_str_dict {A : Around} {s : Shared} (b : Str) (u : Tok) {l : Addr} {o : Obj} {es : Array DictEntry} {ep : Nat} (ho : s.heap.get? l = some o) (hx : o.ExactDict) (hd : o.data = .dict es ep) (hu : A.units < cLine) : SeqAt.EqAt A s (.str b u) (.ref l) false := fun prog w E Q h => by
  obtain ⟨cls, dd, data, sl⟩ := o
  have hc : cls = .type "dict" := hx.1
  simp only at hd
  subst hc hd
  unfold eqBool
  refine wpAny_holding ?_
  refine wpAny_ite_split (fun hab => absurd (eq_of_beq hab) nofun) (fun _ => ?_)
  refine wpAny_bind (SeqAt.rc_eq_decline_or (k := false) (typeIs_str s b u) ⟨_, ho, rfl⟩ (by decide) F.sub_dict_str F.slot_str_eq F.slot_dict_eq_refl
    (fun _ hq => call_meets F.slot_str_eq (typeIs_str s b u) F.entry_str_eq (F.args_str_eq_2 _ _) (str_declines_any b u l (.type "dict") es ep dd sl) ⟨ho, hq⟩)
    (fun _ hq => call_meets F.slot_dict_eq_refl ⟨_, ho, rfl⟩ F.entry_dict_eq (F.args_dict_eq_2 _ _) (dict_declines_str b u l es ep dd sl) ⟨ho, hq⟩)
    (fun _ hq => wpAny_of_eq (rfl : isSame (.str b u) (.ref l) = pure false) hq) (.inr hu) (wpAny_truthy_bool h))

theorem str_ne_declines_any (b : Str) (u : Tok) (l : Addr) (c : Value) (es : Array DictEntry) (ep : Nat) (dd : Option Addr) (sl : Array (Option Value)) :
    Meets (Builtin.«str.__ne__» ⟨[.str b u, .ref l], []⟩) (fun _ R s => s.heap.get? l = some { cls := .type "dict", dict := dd, data := .dict es ep, slots := sl } ∧ R (.ok (.ret .notImplemented)) s) :=
  .of_wp fun prog w A R s h => by obtain ⟨hp, g, d, tk, os⟩ := s; obtain ⟨hl, h⟩ := h; wp_walk using AutoSeq1.wpAny_loadPart' hl, wpAny_load hl; exact ⟨_, rfl, h⟩
theorem dict_ne_declines_str (b : Str) (u : Tok) (l : Addr) (es : Array DictEntry) (ep : Nat) (dd : Option Addr) (sl : Array (Option Value)) :
    Meets (Builtin.«dict.__ne__» ⟨[.ref l, .str b u], []⟩) (fun _ R s => s.heap.get? l = some { cls := .type "dict", dict := dd, data := .dict es ep, slots := sl } ∧ R (.ok (.ret .notImplemented)) s) :=
  .of_wp fun prog w A R s h => by obtain ⟨hp, g, d, tk, os⟩ := s; obtain ⟨hl, h⟩ := h; have f1 := F.sub_str_dict; wp_walk using AutoSeq1.wpAny_loadPart' hl, wpAny_load hl; exact ⟨_, rfl, h⟩
theorem rc_dict_str {A : Around} {s : Shared} (b : Str) (u : Tok) {l : Addr} {o : Obj} {es : Array DictEntry} {ep : Nat} (ho : s.heap.get? l = some o) (hx : o.ExactDict) (hd : o.data = .dict es ep) (hu : A.units < cLine) : SeqAt.RcAt A s (.ref l) (.str b u) false := fun prog w E Q h => by
  obtain ⟨cls, dd, data, sl⟩ := o
  have hc : cls = .type "dict" := hx.1
  simp only at hd
  subst hc hd
  exact SeqAt.rc_eq_decline_or (k := false) ⟨_, ho, rfl⟩ (typeIs_str s b u) (by decide) F.sub_str_dict F.slot_dict_eq F.slot_str_eq_refl
    (fun _ hq => call_meets F.slot_dict_eq ⟨_, ho, rfl⟩ F.entry_dict_eq (F.args_dict_eq_2 _ _) (dict_declines_str b u l es ep dd sl) ⟨ho, hq⟩)
    (fun _ hq => call_meets F.slot_str_eq_refl (typeIs_str s b u) F.entry_str_eq (F.args_str_eq_2 _ _) (str_declines_any b u l (.type "dict") es ep dd sl) ⟨ho, hq⟩)
    (fun _ hq => wpAny_of_eq (rfl : isSame (.ref l) (.str b u) = pure false) hq) (.inr hu) h
theorem rcne_dict_str {A : Around} {s : Shared} (b : Str) (u : Tok) {l : Addr} {o : Obj} {es : Array DictEntry} {ep : Nat} (ho : s.heap.get? l = some o) (hx : o.ExactDict) (hd : o.data = .dict es ep) (hu : A.units < cLine) : SeqAt.RcNeAt A s (.ref l) (.str b u) true := fun prog w E Q h => by
  obtain ⟨cls, dd, data, sl⟩ := o
  have hc : cls = .type "dict" := hx.1
  simp only at hd
  subst hc hd
  exact SeqAt.rc_ne_decline_or (k := false) ⟨_, ho, rfl⟩ (typeIs_str s b u) (by decide) F.sub_str_dict F.slot_dict_ne F.slot_str_ne_refl
    (fun _ hq => call_meets F.slot_dict_ne ⟨_, ho, rfl⟩ F.entry_dict_ne (F.args_dict_ne_2 _ _) (dict_ne_declines_str b u l es ep dd sl) ⟨ho, hq⟩)
    (fun _ hq => call_meets F.slot_str_ne_refl (typeIs_str s b u) F.entry_str_ne (F.args_str_ne_2 _ _) (str_ne_declines_any b u l (.type "dict") es ep dd sl) ⟨ho, hq⟩)
    (fun _ hq => wpAny_of_eq (rfl : isSame (.ref l) (.str b u) = pure false) hq) (.inr hu) h

/-! ### the operators -/
def derefL (st : Store) : D → Option (List D)
  | .lst xs => some xs
  | .ref l => listAt st l
  | _ => none
def opAdd (st : Store) (x y : D) : Option D := match x, y with
  | .int i, .int j => some (.int (i + j))
  | .str a, .str b => if a.length + b.length ≤ sizeLine then some (.str (a ++ b)) else none
  | .tup a, .tup b => if a.length + b.length ≤ sizeLine then some (.tup (a ++ b)) else none
  | a, b => match derefL st a, derefL st b with
    | some xs, some ys => if xs.length + ys.length ≤ sizeLine then some (.lst (xs ++ ys)) else none
    | _, _ => none
def opSub (_ : Store) (x y : D) : Option D := match x, y with
  | .int i, .int j => some (.int (i - j))
  | _, _ => none
def opMul (st : Store) (x y : D) : Option D := match x, y with
  | .int i, .int j => if i.natAbs.log2 + j.natAbs.log2 < 1000000 then some (.int (i * j)) else none
  | .tup a, .int k => if a ≠ [] ∧ 2 ≤ k ∧ k ≤ 1000 ∧ a.length ≤ 1000 then some (.tup (List.replicate k.toNat a).flatten) else none
  | a, .int k => match derefL st a with
    | some xs => if -(2 ^ 63) ≤ k ∧ k < 2 ^ 63 ∧ xs.length * k.toNat ≤ sizeLine then some (.lst (List.replicate k.toNat xs).flatten) else none
    | none => none
  | _, _ => none
def opDiv (_ : Store) (x y : D) : Option D := match x, y with
  | .int i, .int j => if 0 < j ∧ j.natAbs.log2 < 9000 then some (.int (i / j)) else none
  | _, _ => none
def opMod (_ : Store) (x y : D) : Option D := match x, y with
  | .int i, .int j => if 0 < j then some (.int (i % j)) else none
  | _, _ => none
def opPow (_ : Store) (x y : D) : Option D := match x, y with
  | .int i, .int j => if 0 ≤ j ∧ ((Builtin.Int.intBits i : Nat) : Int) * j ≤ 100000000 then some (.int (i ^ j.toNat)) else none
  | _, _ => none
def opShl (_ : Store) (x y : D) : Option D := match x, y with
  | .int i, .int j => if 0 ≤ j ∧ j ≤ 1000000 ∧ i.natAbs < 2 ^ 64 then some (.int (i * 2 ^ j.toNat)) else none
  | _, _ => none
def opAnd (_ : Store) (x y : D) : Option D := match x, y with
  | .int i, .int j => some (.int (Builtin.bitAnd i j))
  | _, _ => none
def opOr (_ : Store) (x y : D) : Option D := match x, y with
  | .int i, .int j => some (.int (Builtin.bitOr i j))
  | _, _ => none
def opNeg (_ : Store) : D → Option D
  | .int i => some (.int (-i))
  | _ => none
def cLt (_ : Store) (x y : D) : Option D := match x, y with
  | .int i, .int j => some (.bl (decide (i < j)))
  | .str a, .str b => some (.bl (decide (a.cps.toList < b.cps.toList)))
  | _, _ => none
def cLe (_ : Store) (x y : D) : Option D := match x, y with
  | .int i, .int j => some (.bl (decide (i ≤ j)))
  | _, _ => none
def cGt (_ : Store) (x y : D) : Option D := match x, y with
  | .int i, .int j => some (.bl (decide (j < i)))
  | _, _ => none
def cGe (_ : Store) (x y : D) : Option D := match x, y with
  | .int i, .int j => some (.bl (decide (j ≤ i)))
  | _, _ => none
/-! plain data -/
mutual
def toP : D → Option PyData
  | .non => some .none
  | .bl b => some (.bool b)
  | .int i => some (.int i)
  | .str x => some (.str x)
  | .tup xs => (toPs xs).map .tuple
  | .lst xs => (toPs xs).map .list
  | _ => none
def toPs : List D → Option (List PyData)
  | [] => some []
  | d :: ds => match toP d with
    | some p => (toPs ds).map (p :: ·)
    | none => none
end
def toPr (st : Store) (d : D) : Option PyData := match d with
  | .ref l => match listAt st l with
    | some xs => (toPs xs).map .list
    | none => none
  | d => toP d
/-- equality of flat things; none where one is not flat -/
def flatEq : D → D → Option Bool
  | .non, .non => some true
  | .int i, .int j => some (i == j)
  | .bl i, .bl j => some (i == j)
  | .str i, .str j => some (i == j)
  | .non, .int _ => some false
  | .int _, .non => some false
  | .non, .bl _ => some false
  | .bl _, .non => some false
  | .non, .str _ => some false
  | .str _, .non => some false
  | .int _, .str _ => some false
  | .str _, .int _ => some false
  | .bl _, .str _ => some false
  | .str _, .bl _ => some false
  | _, _ => none
/-- of two lists, one of them empty -/
def emptyEq (st : Store) (x y : D) : Option Bool := match derefL st x, derefL st y with
  | some xs, some ys => if xs.isEmpty || ys.isEmpty then some (xs.isEmpty && ys.isEmpty) else none
  | _, _ => none
/-- an object that is no text -/
def isObj (st : Store) : D → Bool
  | .tup _ => true
  | .lst _ => true
  | .scr _ => true
  | .dct _ _ => true
  | .ref l => (listAt st l).isSome
  | _ => false
def isStr : D → Bool
  | .str _ => true
  | _ => false
def eqB' (st : Store) (x y : D) : Option Bool := match flatEq x y with
  | some b => some b
  | none => if isObj st x && isStr y then some false else match emptyEq st x y with
   | some b => some b
   | none => match toPr st x, toPr st y with
    | some p, some q => if SeqAt.shaped p && SeqAt.shaped q then some (PyData.eqv p q) else none
    | _, _ => none
def cEq (st : Store) (x y : D) : Option D := (eqB' st x y).map .bl
def cNe (st : Store) (x y : D) : Option D := (eqB' st x y).map fun b => .bl (!b)
def isNone : D → Bool
  | .non => true
  | _ => false
def isB (_ : Store) (x y : D) : Option Bool := match x, y with
  | x, .non => some (isNone x)
  | .bl a, .bl b => some (decide (a = b))
  | .ty a, .ty b => some (decide (a = b))
  | _, _ => none
def cIs (st : Store) (x y : D) : Option D := (isB st x y).map .bl
def cIsNot (st : Store) (x y : D) : Option D := (isB st x y).map fun b => .bl (!b)
def isFlat : D → Bool
  | .non => true
  | .bl _ => true
  | .int _ => true
  | .str _ => true
  | _ => false
/-- equality of flat things, bools and ints too -/
def eqF : D → D → Bool
  | .non, .non => true
  | .int i, .int j => i == j
  | .bl i, .bl j => i == j
  | .str i, .str j => i == j
  | .int i, .bl j => i == (if j then 1 else 0)
  | .bl i, .int j => (if i then 1 else 0) == j
  | _, _ => false
def seqOf (st : Store) : D → Option (List D)
  | .tup xs => some xs
  | .lst xs => some xs
  | .scr xs => some xs
  | .ref l => listAt st l
  | _ => none
def inB (st : Store) (x y : D) : Option Bool := match x, y with
  | .str a, .str b => some (!(Builtin.Str.occurrences b a 0 b.length 1).isEmpty)
  | x, y => match seqOf st y with
    | none => none
    | some ys => if isFlat x && ys.all isFlat then some (ys.any fun z => eqF z x) else
      if isObj st x && ys.all isStr then some false else match toPr st x, toPs ys with
        | some p, some qs => if SeqAt.shaped p && SeqAt.shaped (.list qs) then some (qs.any fun z => PyData.eqv z p) else none
        | _, _ => none
def cIn (st : Store) (x y : D) : Option D := (inB st x y).map .bl
def cNotIn (st : Store) (x y : D) : Option D := (inB st x y).map fun b => .bl (!b)

/-! ### what they are worth -/
section
variable {g : Gb} {cl : CL} {n : Nat} {X : Cx} {W : WX}
theorem OutV.sm {w : Wd} {d : D} {st : Store} {Q : VK} {v : V} {H : Hp} (h : OutV g w (some d) st Q) (rh : RelH g w H st) (r : RelD g w v d) : Q v H := h w v H (.refl w) rh r
theorem OutV.tup {w : Wd} {ds : List D} {st : Store} {Q : VK} {vs : List V} {H : Hp} (h : OutV g w (some (.tup ds)) st Q) (rh : RelH g w H st) (r : RelDs g w vs ds) : ∀ p, H p = none → Q (.ref p) (upd H p (.tup vs)) := fun p hp =>
  h _ _ _ (Wd.frz_le (rh.F.free hp)) (rh.frz hp) (.tup (.inl (.inl upd_same)) (r.mono (Wd.frz_le (rh.F.free hp))))
theorem OutV.lst {w : Wd} {ds : List D} {st : Store} {Q : VK} {vs : List V} {H : Hp} (h : OutV g w (some (.lst ds)) st Q) (rh : RelH g w H st) (r : RelDs g w vs ds) : ∀ p, H p = none → Q (.ref p) (upd H p (.lst vs)) := fun p hp =>
  h _ _ _ (Wd.frz_le (rh.F.free hp)) (rh.frz hp) (.lst upd_same (r.mono (Wd.frz_le (rh.F.free hp))))
theorem rel_deref {w : Wd} {st : Store} {H : Hp} {v : V} {d : D} {ds : List D} (rh : RelH g w H st) (r : RelD g w v d) (h : derefL st d = some ds) : ∃ a vs, v = .ref a ∧ H a = some (.lst vs) ∧ RelDs g w vs ds := by
  unfold derefL at h
  cases r with
  | @lst a vs ds hs hr =>
    cases Option.some.inj h
    exact ⟨a, vs, rfl, rh.F _ _ hs, hr⟩
  | @ref l hl =>
    obtain ⟨vs, h1, h2⟩ := rh.lst h
    exact ⟨_, vs, rfl, h1, h2⟩
  | _ => cases h
theorem RelDs.nil_iff {w : Wd} {vs : List V} {ds : List D} (r : RelDs g w vs ds) : vs = [] ↔ ds = [] := by
  cases r <;> simp
theorem RelDs.rep {w : Wd} {vs : List V} {ds : List D} (r : RelDs g w vs ds) : ∀ k : Nat, RelDs g w (List.replicate k vs).flatten (List.replicate k ds).flatten
  | 0 => .nil
  | k + 1 => by
    rw [List.replicate_succ, List.replicate_succ, List.flatten_cons, List.flatten_cons]
    exact r.append (r.rep k)
theorem o_add (hK : X.K = g.K) : OpR X (binaryOp .Add) (rOp g opAdd) := by
  intro pins s σ H x y v u Q I rx ry ⟨w, d, e, st, rh, r1, r2, h⟩
  have lists : ∀ xs ys, derefL st d = some xs → derefL st e = some ys → xs.length + ys.length ≤ sizeLine → OutV g w (some (.lst (xs ++ ys))) st Q → wpAny (model X.prog X.w) X.A (binaryOp .Add v u) (EP X pins σ Q) X.xe s := by
    intro xs ys h1 h2 hl h
    obtain ⟨a, vs, e1, e2, e3⟩ := rel_deref rh r1 h1
    obtain ⟨b, us, f1, f2, f3⟩ := rel_deref rh r2 h2
    exact op_cat pins s σ H x y v u Q I rx ry ⟨a, b, vs, us, e1, f1, e2, f2, by rw [e3.length, f3.length]; exact hl, h.lst rh (e3.append f3)⟩
  unfold opAdd at h
  split at h
  · rename_i i j
    cases r1
    cases r2
    exact op_add pins s σ H _ _ v u Q I rx ry ⟨i, j, rfl, rfl, h.sm rh (.int _)⟩
  · rename_i a b
    cases r1
    cases r2
    split at h
    · rename_i hl
      exact op_add_str pins s σ H _ _ v u Q I rx ry ⟨a, b, rfl, rfl, hl, h.sm rh (.str _)⟩
    · exact h.elim
  · rename_i a b
    split at h
    · rename_i hl
      cases r1 with
      | @tup p vs _ hs hr =>
        cases r2 with
        | @tup q us _ hs2 hr2 =>
          have k1 := same_sqT rh.F hs
          have k2 := same_sqT rh.F hs2
          rw [← hK] at k1 k2
          refine op_catA pins s σ H _ _ v u Q I rx ry ⟨p, q, vs, us, rfl, rfl, k1, k2, by rw [hr.length, hr2.length]; exact hl, fun z => ?_, fun _ z => ?_, fun _ _ => h.tup rh (hr.append hr2)⟩
          · rw [hr.nil_iff] at z
            subst z
            exact h.sm rh (.tup hs2 hr2)
          · rw [hr2.nil_iff] at z
            subst z
            rw [List.append_nil] at h
            exact h.sm rh (.tup hs hr)
    · exact h.elim
  · split at h
    · rename_i h1 h2
      split at h
      · rename_i hl
        exact lists _ _ h1 h2 hl h
      · exact h.elim
    · exact h.elim
theorem o_sub : OpR X (binaryOp .Sub) (rOp g opSub) := by
  intro pins s σ H x y v u Q I rx ry ⟨w, d, e, st, rh, r1, r2, h⟩
  unfold opSub at h
  split at h
  · cases r1
    cases r2
    exact op_sub pins s σ H _ _ v u Q I rx ry ⟨_, _, rfl, rfl, h.sm rh (.int _)⟩
  · exact h.elim
theorem o_div : OpR X (binaryOp .FloorDiv) (rOp g opDiv) := by
  intro pins s σ H x y v u Q I rx ry ⟨w, d, e, st, rh, r1, r2, h⟩
  unfold opDiv at h
  split at h
  · cases r1
    cases r2
    split at h
    · rename_i hc
      exact op_fdivW pins s σ H _ _ v u Q I rx ry ⟨_, _, rfl, rfl, hc, h.sm rh (.int _)⟩
    · exact h.elim
  · exact h.elim
theorem o_mod : OpR X (binaryOp .Mod) (rOp g opMod) := by
  intro pins s σ H x y v u Q I rx ry ⟨w, d, e, st, rh, r1, r2, h⟩
  unfold opMod at h
  split at h
  · cases r1
    cases r2
    split at h
    · rename_i hc
      exact op_mod pins s σ H _ _ v u Q I rx ry ⟨_, _, rfl, rfl, hc, h.sm rh (.int _)⟩
    · exact h.elim
  · exact h.elim
theorem o_shl : OpR X (binaryOp .LShift) (rOp g opShl) := by
  intro pins s σ H x y v u Q I rx ry ⟨w, d, e, st, rh, r1, r2, h⟩
  unfold opShl at h
  split at h
  · cases r1
    cases r2
    split at h
    · rename_i hc
      exact op_shl pins s σ H _ _ v u Q I rx ry ⟨_, _, rfl, rfl, hc, h.sm rh (.int _)⟩
    · exact h.elim
  · exact h.elim
theorem o_and : OpR X (binaryOp .BitAnd) (rOp g opAnd) := by
  intro pins s σ H x y v u Q I rx ry ⟨w, d, e, st, rh, r1, r2, h⟩
  unfold opAnd at h
  split at h
  · cases r1
    cases r2
    exact op_and pins s σ H _ _ v u Q I rx ry ⟨_, _, rfl, rfl, h.sm rh (.int _)⟩
  · exact h.elim
theorem o_or : OpR X (binaryOp .BitOr) (rOp g opOr) := by
  intro pins s σ H x y v u Q I rx ry ⟨w, d, e, st, rh, r1, r2, h⟩
  unfold opOr at h
  split at h
  · cases r1
    cases r2
    exact op_or pins s σ H _ _ v u Q I rx ry ⟨_, _, rfl, rfl, h.sm rh (.int _)⟩
  · exact h.elim
theorem o_neg : UnR X (unaryOp .USub) (rUn g opNeg) := by
  intro pins s σ H x v Q I rx ⟨w, d, st, rh, r1, h⟩
  unfold opNeg at h
  split at h
  · cases r1
    exact un_neg pins s σ H _ v Q I rx ⟨_, rfl, h.sm rh (.int _)⟩
  · exact h.elim
theorem op_powW : OpR X (binaryOp .Pow) (rI (fun i j => 0 ≤ j ∧ ((Builtin.Int.intBits i : Nat) : Int) * j ≤ 100000000) fun i j => .int (i ^ j.toNat)) := opI fun _ _ _ _ _ _ _ hc q => pow_int hc.1 (by
  have e : bitsLine = 134217728 := by decide
  have := hc.2
  first | omega | (unfold Builtin.Int.intTooBig; simp only [decide_eq_true_eq]; rw [e]; omega)) q
theorem o_pow : OpR X (binaryOp .Pow) (rOp g opPow) := by
  intro pins s σ H x y v u Q I rx ry ⟨w, d, e, st, rh, r1, r2, h⟩
  unfold opPow at h
  split at h
  · cases r1
    cases r2
    split at h
    · rename_i hc
      exact op_powW pins s σ H _ _ v u Q I rx ry ⟨_, _, rfl, rfl, hc, h.sm rh (.int _)⟩
    · exact h.elim
  · exact h.elim
theorem o_mul (hK : X.K = g.K) : OpR X (binaryOp .Mult) (rOp g opMul) := by
  intro pins s σ H x y v u Q I rx ry ⟨w, d, e, st, rh, r1, r2, h⟩
  unfold opMul at h
  split at h
  · cases r1
    cases r2
    split at h
    · rename_i hc
      exact op_mulW pins s σ H _ _ v u Q I rx ry ⟨_, _, rfl, rfl, hc, h.sm rh (.int _)⟩
    · exact h.elim
  · split at h
    · rename_i hc
      cases r1 with
      | @tup p vs _ hs hr =>
        cases r2
        have k1 := same_sqT rh.F hs
        rw [← hK] at k1
        exact op_repT pins s σ H _ _ v u Q I rx ry ⟨p, _, vs, rfl, rfl, k1, fun z => hc.1 (hr.nil_iff.mp z), hc.2.1, hc.2.2.1, by rw [hr.length]; exact hc.2.2.2, h.tup rh (hr.rep _)⟩
    · exact h.elim
  · split at h
    · rename_i hd
      split at h
      · rename_i hc
        obtain ⟨a, vs, e1, e2, e3⟩ := rel_deref rh r1 hd
        cases r2
        exact op_rep pins s σ H _ _ v u Q I rx ry ⟨a, _, vs, e1, rfl, e2, hc.1, hc.2.1, by rw [e3.length]; exact hc.2.2, h.lst rh (e3.rep _)⟩
      · exact h.elim
    · exact h.elim
  · exact h.elim
end
end PyI
end

section
set_option Elab.async false
set_option linter.all false
set_option maxRecDepth 100000
set_option maxHeartbeats 4000000
/-! Comparisons by values. -/
namespace PyI
open PySem PySem.Spec PyProof.Rows L2
section
variable {g : Gb} {cl : CL} {n : Nat} {X : Cx} {W : WX}
theorem o_lt : OpR X (compareOp .Lt) (rOp g cLt) := by
  intro pins s σ H x y v u Q I rx ry ⟨w, d, e, st, rh, r1, r2, h⟩
  unfold cLt at h
  split at h
  · cases r1
    cases r2
    exact op_lt pins s σ H _ _ v u Q I rx ry ⟨_, _, rfl, rfl, h.sm rh (.bl _)⟩
  · cases r1
    cases r2
    exact op_lt_str pins s σ H _ _ v u Q I rx ry ⟨_, _, rfl, rfl, h.sm rh (.bl _)⟩
  · exact h.elim
theorem o_le : OpR X (compareOp .LtE) (rOp g cLe) := by
  intro pins s σ H x y v u Q I rx ry ⟨w, d, e, st, rh, r1, r2, h⟩
  unfold cLe at h
  split at h
  · cases r1
    cases r2
    exact op_le pins s σ H _ _ v u Q I rx ry ⟨_, _, rfl, rfl, h.sm rh (.bl _)⟩
  · exact h.elim
theorem o_gt : OpR X (compareOp .Gt) (rOp g cGt) := by
  intro pins s σ H x y v u Q I rx ry ⟨w, d, e, st, rh, r1, r2, h⟩
  unfold cGt at h
  split at h
  · cases r1
    cases r2
    exact op_gt pins s σ H _ _ v u Q I rx ry ⟨_, _, rfl, rfl, h.sm rh (.bl _)⟩
  · exact h.elim
theorem o_ge : OpR X (compareOp .GtE) (rOp g cGe) := by
  intro pins s σ H x y v u Q I rx ry ⟨w, d, e, st, rh, r1, r2, h⟩
  unfold cGe at h
  split at h
  · cases r1
    cases r2
    exact op_ge pins s σ H _ _ v u Q I rx ry ⟨_, _, rfl, rfl, h.sm rh (.bl _)⟩
  · exact h.elim
mutual
theorem rel_dp {w : Wd} {st : Store} {H : Hp} (rh : RelH g w H st) : ∀ {v : V} {d : D} {p : PyData}, RelD g w v d → toP d = some p → Dp g.K H v p
  | _, _, _, .non, e => by cases e; exact .non
  | _, _, _, .bl b, e => by cases e; exact .bl b
  | _, _, _, .int i, e => by cases e; exact .int i
  | _, _, _, .str x, e => by cases e; exact .str x
  | _, _, _, .tup h r, e => by
    rename_i ds
    unfold toP at e
    cases q : toPs ds with
    | none => rw [q] at e; cases e
    | some ps =>
      rw [q] at e
      cases e
      exact .tup (same_sqT rh.F h) (rel_dps rh r q)
  | _, _, _, .lst h r, e => by
    rename_i ds
    unfold toP at e
    cases q : toPs ds with
    | none => rw [q] at e; cases e
    | some ps =>
      rw [q] at e
      cases e
      exact .lst (.of (rh.F _ _ h)) (rel_dps rh r q)
  | _, _, _, .scr _ _, e => by cases e
  | _, _, _, .dct _ _ _, e => by cases e
  | _, _, _, .ref _, e => by cases e
  | _, _, _, .ty _, e => by cases e
  | _, _, _, .fn _, e => by cases e
theorem rel_dps {w : Wd} {st : Store} {H : Hp} (rh : RelH g w H st) : ∀ {vs : List V} {ds : List D} {ps : List PyData}, RelDs g w vs ds → toPs ds = some ps → DpAll g.K H vs ps
  | _, _, _, .nil, e => by cases e; exact .nil
  | _, _, _, .cons h r, e => by
    rename_i d ds
    unfold toPs at e
    cases q : toP d with
    | none => rw [q] at e; cases e
    | some p =>
      rw [q] at e
      have e' : (toPs ds).map (p :: ·) = _ := e
      cases q2 : toPs ds with
      | none => rw [q2] at e'; cases e'
      | some ps =>
        rw [q2] at e'
        cases e'
        exact .cons (rel_dp rh h q) (rel_dps rh r q2)
end
theorem rel_dpr {w : Wd} {st : Store} {H : Hp} (rh : RelH g w H st) {v : V} {d : D} {p : PyData} (r : RelD g w v d) (e : toPr st d = some p) : Dp g.K H v p := by
  unfold toPr at e
  split at e
  · rename_i l
    cases q : listAt st l with
    | none => rw [q] at e; cases e
    | some xs =>
      rw [q] at e
      obtain ⟨vs, h1, h2⟩ := rh.lst q
      have e' : (toPs xs).map PyData.list = some p := e
      cases q2 : toPs xs with
      | none => rw [q2] at e'; cases e'
      | some ps =>
        rw [q2] at e'
        cases e'
        cases r
        exact .lst (.of h1) (rel_dps rh h2 q2)
  · exact rel_dp rh r e
theorem rel_obj {w : Wd} {st : Store} {H : Hp} {v : V} {d : D} (rh : RelH g w H st) (r : RelD g w v d) (h : isObj st d = true) : ∃ a, v = .ref a ∧ ((∃ vs, SqL g.K H a vs) ∨ (∃ vs, SqT g.K H a vs) ∨ ∃ o kvs, H a = some (.frz o (.dK kvs))) := by
  unfold isObj at h
  cases r with
  | @tup a vs ds hs hr => exact ⟨a, rfl, .inr (.inl ⟨vs, same_sqT rh.F hs⟩)⟩
  | @lst a vs ds hs hr => exact ⟨a, rfl, .inl ⟨vs, .of (rh.F _ _ hs)⟩⟩
  | @scr a vs ds hs hr => exact ⟨a, rfl, .inl ⟨vs, same_sqL rh.F hs⟩⟩
  | @dct a o kvs ks ds hd he hr => exact ⟨a, rfl, .inr (.inr ⟨o, kvs, rh.F _ _ hd⟩)⟩
  | @ref l hl =>
    obtain ⟨ds, q⟩ := Option.isSome_iff_exists.mp h
    obtain ⟨vs, h1, h2⟩ := rh.lst q
    exact ⟨_, rfl, .inl ⟨vs, .of h1⟩⟩
  | _ => cases h
theorem o_eqb (neg : Bool) (hK : X.K = g.K) (hu : X.A.units + 64 < cLine) : OpR X (compareOp (if neg then .NotEq else .Eq)) (rOp g fun st x y => (eqB' st x y).map fun b => .bl (if neg then !b else b)) := by
  intro pins s σ H x y v u Q I rx ry ⟨w, d, e, st, rh, r1, r2, h⟩
  unfold eqB' at h
  cases q : flatEq d e with
  | some b =>
    simp only [q] at h
    have hh : Q (.bl (if neg then !b else b)) H := OutV.sm h rh (.bl _)
    have key : scal x y = true ∧ decide (x = y) = b := by
      unfold flatEq at q
      split at q
      rotate_right
      · cases q
      all_goals cases r1
      all_goals cases r2
      all_goals cases Option.some.inj q
      · exact ⟨rfl, decide_eq_true rfl⟩
      · exact ⟨rfl, dec_int⟩
      · exact ⟨rfl, dec_bl⟩
      · exact ⟨rfl, dec_str⟩
      all_goals exact ⟨rfl, decide_eq_false (fun z => by cases z)⟩
    cases neg with
    | true => exact op_ne pins s σ H _ _ v u Q I rx ry ⟨key.1, by rw [key.2]; exact hh⟩
    | false => exact op_eq pins s σ H _ _ v u Q I rx ry ⟨key.1, by rw [key.2]; exact hh⟩
  | none =>
   simp only [q] at h
   cases qs : (isObj st d && isStr e) with
   | true =>
    simp only [qs, if_true] at h
    have hh : Q (.bl (if neg then !false else false)) H := OutV.sm h rh (.bl _)
    rw [Bool.and_eq_true] at qs
    obtain ⟨q1, q2⟩ := qs
    have hu0 : X.A.units < cLine := by omega
    cases e with
    | str z =>
      cases r2
      obtain ⟨t, rfl⟩ := ry
      obtain ⟨a, rfl, hq⟩ := rel_obj rh r1 q1
      cases rx
      rw [← hK] at hq
      rcases hq with ⟨vs, hq⟩ | ⟨vs, hq⟩ | ⟨o, kvs, hq⟩
      · obtain ⟨its, rv, pl, hz⟩ := I.list hq
        cases neg with
        | true => exact SeqAt.RcNeAt.list_str z t pl.isList hu0 X.prog X.w X.xe _ ⟨.bl true, H, I, rfl, hh⟩
        | false => exact SeqAt.RcAt.list_str z t pl.isList hu0 X.prog X.w X.xe _ ⟨.bl false, H, I, rfl, hh⟩
      · obtain ⟨its, rv, pl, hz⟩ := I.tuple hq
        cases neg with
        | true => exact SeqAt.RcNeAt.tuple_str z t pl hu0 X.prog X.w X.xe _ ⟨.bl true, H, I, rfl, hh⟩
        | false => exact SeqAt.RcAt.tuple_str z t pl hu0 X.prog X.w X.xe _ ⟨.bl false, H, I, rfl, hh⟩
      · obtain ⟨hs', hgd, hx, es, ep, vs', hdt, hsz, kv, hm⟩ := I.frzK hq
        cases neg with
        | true => exact rcne_dict_str z t hgd hx hdt hu0 X.prog X.w X.xe _ ⟨.bl true, H, I, rfl, hh⟩
        | false => exact rc_dict_str z t hgd hx hdt hu0 X.prog X.w X.xe _ ⟨.bl false, H, I, rfl, hh⟩
    | _ => cases q2
   | false =>
   simp only [qs, Bool.false_eq_true, if_false] at h
   cases q0 : emptyEq st d e with
   | some b =>
    simp only [q0] at h
    have hh : Q (.bl (if neg then !b else b)) H := OutV.sm h rh (.bl _)
    unfold emptyEq at q0
    split at q0
    · rename_i xs ys e1 e2
      split at q0
      · rename_i hem
        cases Option.some.inj q0
        obtain ⟨a, vs, rfl, f1, f2⟩ := rel_deref rh r1 e1
        obtain ⟨b, us, rfl, f3, f4⟩ := rel_deref rh r2 e2
        cases rx
        cases ry
        obtain ⟨z1, its1, n1, rv1, l1, g1⟩ := I.lstM f1
        obtain ⟨z2, its2, n2, rv2, l2, g2⟩ := I.lstM f3
        have il1 : s.heap.IsList a its1.toArray := ⟨_, g1, rfl, _, rfl⟩
        have il2 : s.heap.IsList b its2.toArray := ⟨_, g2, rfl, _, rfl⟩
        have n1 : its1.length = xs.length := by rw [← l1, f2.length]
        have n2 : its2.length = ys.length := by rw [← l2, f4.length]
        have hu0 : X.A.units < cLine := by omega
        have key : its1.length ≠ its2.length ∧ (xs.isEmpty && ys.isEmpty) = false ∨ its1 = [] ∧ its2 = [] ∧ (xs.isEmpty && ys.isEmpty) = true := by
          rw [Bool.or_eq_true] at hem
          cases xs with
          | nil =>
            cases ys with
            | nil => exact .inr ⟨List.length_eq_zero_iff.mp n1, List.length_eq_zero_iff.mp n2, rfl⟩
            | cons y ys =>
              refine .inl ⟨fun z => ?_, rfl⟩
              rw [n1, n2] at z
              cases z
          | cons x xs =>
            cases ys with
            | nil =>
              refine .inl ⟨fun z => ?_, rfl⟩
              rw [n1, n2] at z
              cases z
            | cons y ys => rcases hem with h | h <;> cases h
        rcases key with ⟨hne, ke⟩ | ⟨k1, k2, ke⟩
        · rw [ke] at hh
          have hb : (its1.toArray.size != its2.toArray.size) = true := by simpa using hne
          cases neg with
          | true => exact SeqAt.RcNeAt.lists_lengths il1 il2 hb hu0 X.prog X.w X.xe _ ⟨.bl true, H, I, rfl, hh⟩
          | false => exact SeqAt.RcAt.lists_lengths il1 il2 hb hu0 X.prog X.w X.xe _ ⟨.bl false, H, I, rfl, hh⟩
        · rw [ke] at hh
          subst k1 k2
          cases neg with
          | true => exact SeqAt.RcNeAt.lists (e := fun _ => true) il1 il2 rfl hu0 (fun j h1 _ => absurd h1 (Nat.not_lt_zero _)) X.prog X.w X.xe _ ⟨.bl false, H, I, rfl, hh⟩
          | false => exact SeqAt.RcAt.lists (e := fun _ => true) il1 il2 rfl hu0 (fun j h1 _ => absurd h1 (Nat.not_lt_zero _)) X.prog X.w X.xe _ ⟨.bl true, H, I, rfl, hh⟩
      · cases q0
    · cases q0
   | none =>
    simp only [q0] at h
    cases q1 : toPr st d with
    | none => simp only [q1] at h; exact h.elim
    | some p1 =>
      cases q2 : toPr st e with
      | none => simp only [q1, q2] at h; exact h.elim
      | some p2 =>
        simp only [q1, q2] at h
        have h' : OutV g w ((if SeqAt.shaped p1 && SeqAt.shaped p2 then some (PyData.eqv p1 p2) else none).map fun b => D.bl (if neg then !b else b)) st Q := h
        cases q3 : SeqAt.shaped p1 with
        | false => rw [q3] at h'; exact h'.elim
        | true =>
          cases q4 : SeqAt.shaped p2 with
          | false => rw [q3, q4] at h'; exact h'.elim
          | true =>
            rw [q3, q4] at h'
            have hh : Q (.bl (if neg then !PyData.eqv p1 p2 else PyData.eqv p1 p2)) H := OutV.sm h' rh (.bl _)
            have d1 := rel_dpr rh r1 q1
            have d2 := rel_dpr rh r2 q2
            rw [← hK] at d1 d2
            cases neg with
            | true => exact op_neD hu pins s σ H _ _ v u Q I rx ry ⟨p1, p2, d1, d2, q3, q4, hh⟩
            | false => exact op_eqD hu pins s σ H _ _ v u Q I rx ry ⟨p1, p2, d1, d2, q3, q4, hh⟩
theorem o_eq (hK : X.K = g.K) (hu : X.A.units + 64 < cLine) : OpR X (compareOp .Eq) (rOp g cEq) := o_eqb false hK hu
theorem o_ne (hK : X.K = g.K) (hu : X.A.units + 64 < cLine) : OpR X (compareOp .NotEq) (rOp g cNe) := o_eqb true hK hu
theorem rel_none {w : Wd} {v : V} {d : D} (r : RelD g w v d) : decide (v = .non) = isNone d := by
  cases r <;> first | exact decide_eq_true rfl | exact decide_eq_false (fun z => by cases z)
theorem o_is : OpR X (compareOp .Is) (rOp g cIs) := by
  intro pins s σ H x y v u Q I rx ry ⟨w, d, e, st, rh, r1, r2, h⟩
  unfold cIs isB at h
  split at h
  · cases r2
    have hh := OutV.sm h rh (.bl _)
    rw [← rel_none r1] at hh
    exact op_isN pins s σ H _ _ v u Q I rx ry ⟨rfl, hh⟩
  · cases r1
    cases r2
    exact op_is_bl pins s σ H _ _ v u Q I rx ry ⟨_, _, rfl, rfl, OutV.sm h rh (.bl _)⟩
  · cases r1
    cases r2
    exact op_isTy pins s σ H _ _ v u Q I rx ry ⟨_, _, rfl, rfl, OutV.sm h rh (.bl _)⟩
  · exact h.elim
theorem o_isnot : OpR X (compareOp .IsNot) (rOp g cIsNot) := by
  intro pins s σ H x y v u Q I rx ry ⟨w, d, e, st, rh, r1, r2, h⟩
  unfold cIsNot isB at h
  split at h
  · cases r2
    have hh := OutV.sm h rh (.bl _)
    rw [← rel_none r1] at hh
    exact op_notN pins s σ H _ _ v u Q I rx ry ⟨rfl, hh⟩
  · cases r1
    cases r2
    exact op_isnot_bl pins s σ H _ _ v u Q I rx ry ⟨_, _, rfl, rfl, OutV.sm h rh (.bl _)⟩
  · cases r1
    cases r2
    exact op_isNotTy pins s σ H _ _ v u Q I rx ry ⟨_, _, rfl, rfl, OutV.sm h rh (.bl _)⟩
  · exact h.elim
end
end PyI
end

section
set_option Elab.async false
set_option linter.all false
set_option maxRecDepth 100000
set_option maxHeartbeats 4000000
/-! in, not in. -/
namespace PyI
open PySem PySem.Spec PyProof.Rows L2
section
variable {g : Gb} {cl : CL} {n : Nat} {X : Cx} {W : WX}
theorem rel_flat {w : Wd} {v : V} {d : D} (r : RelD g w v d) (h : isFlat d = true) : flatV v = true := by
  cases r <;> first | rfl | cases h
theorem rel_flats {w : Wd} : ∀ {vs : List V} {ds : List D}, RelDs g w vs ds → ds.all isFlat = true → vs.all flatV = true
  | _, _, .nil, _ => rfl
  | _, _, .cons a r, h => by
    rw [List.all_cons, Bool.and_eq_true] at h ⊢
    exact ⟨rel_flat a h.1, rel_flats r h.2⟩
theorem rel_eqF {w : Wd} {v u : V} {d e : D} (r : RelD g w v d) (r2 : RelD g w u e) (h : isFlat d = true) (h2 : isFlat e = true) : eqV v u = eqF d e := by
  cases r <;> first | (cases h; done) | (cases r2 <;> first | (cases h2; done) | rfl)
theorem rel_any {w : Wd} {u : V} {e : D} (r2 : RelD g w u e) (h2 : isFlat e = true) : ∀ {vs : List V} {ds : List D}, RelDs g w vs ds → ds.all isFlat = true → (vs.any fun y => eqV y u) = ds.any fun z => eqF z e
  | _, _, .nil, _ => rfl
  | _, _, .cons a r, h => by
    rw [List.all_cons, Bool.and_eq_true] at h
    rw [List.any_cons, List.any_cons, rel_eqF a r2 h.1 h2, rel_any r2 h2 r h.2]
theorem rel_seq {w : Wd} {st : Store} {H : Hp} {v : V} {d : D} {ds : List D} (rh : RelH g w H st) (r : RelD g w v d) (h : seqOf st d = some ds) : ∃ a vs, v = .ref a ∧ (SqL g.K H a vs ∨ SqT g.K H a vs) ∧ RelDs g w vs ds := by
  unfold seqOf at h
  cases r with
  | @tup a vs ds hs hr =>
    cases Option.some.inj h
    exact ⟨a, vs, rfl, .inr (same_sqT rh.F hs), hr⟩
  | @scr a vs ds hs hr =>
    cases Option.some.inj h
    exact ⟨a, vs, rfl, .inl (same_sqL rh.F hs), hr⟩
  | @lst a vs ds hs hr =>
    cases Option.some.inj h
    exact ⟨a, vs, rfl, .inl (.of (rh.F _ _ hs)), hr⟩
  | @ref l hl =>
    obtain ⟨vs, h1, h2⟩ := rh.lst h
    exact ⟨_, vs, rfl, .inl (.of h1), h2⟩
  | _ => cases h
theorem vals_strs {w : Wd} {A : Around} {s : Shared} {v : Value} (hv : ∀ (b : Str) (t : Tok), SeqAt.EqAt A s (.str b t) v false) : ∀ {vs : List V} {ds : List D} {us : List Value}, RelDs g w vs ds → ds.all isStr = true → Vals vs us → ∀ u ∈ us, SeqAt.EqAt A s u v false
  | _, _, _, .nil, _, .nil => fun u hu => by cases hu
  | _, _, _, .cons a r, h, .cons rv rt => by
    rw [List.all_cons, Bool.and_eq_true] at h
    intro u' hm
    rcases List.mem_cons.mp hm with rfl | hm
    · cases a <;> first | (cases h.1; done) | skip
      obtain ⟨t, rfl⟩ := rv
      exact hv _ t
    · exact vals_strs hv r h.2 rt u' hm
theorem any_false {α : Type} (l : List α) : (l.any fun _ => false) = false := by
  induction l with
  | nil => rfl
  | cons a l ih => rw [List.any_cons, ih]; rfl
theorem o_inb (neg : Bool) (hK : X.K = g.K) (hu : X.A.units + 65 < cLine) : OpR X (compareOp (if neg then .NotIn else .In)) (rOp g fun st x y => (inB st x y).map fun b => .bl (if neg then !b else b)) := by
  intro pins s σ H x y v u Q I rx ry ⟨w, d, e, st, rh, r1, r2, h0⟩
  obtain ⟨b, hb, h⟩ : ∃ b, inB st d e = some b ∧ Q (.bl (if neg then !b else b)) H := by
    cases q : inB st d e with
    | none => simp only [q] at h0; exact h0.elim
    | some b =>
      simp only [q] at h0
      exact ⟨b, rfl, OutV.sm (d := .bl (if neg then !b else b)) h0 rh (.bl _)⟩
  clear h0
  unfold inB at hb
  split at hb
  · rename_i a b
    cases r1
    cases r2
    cases Option.some.inj hb
    cases neg with
    | true => exact op_notIn_str pins s σ H _ _ v u Q I rx ry ⟨_, _, rfl, rfl, h⟩
    | false => exact op_in_str pins s σ H _ _ v u Q I rx ry ⟨_, _, rfl, rfl, h⟩
  · cases q : seqOf st e with
    | none => simp only [q] at hb; cases hb
    | some ys =>
      simp only [q] at hb
      obtain ⟨p, vs, rfl, hq, rs⟩ := rel_seq rh r2 q
      rw [← hK] at hq
      split at hb
      · rename_i hf
        cases Option.some.inj hb
        rw [Bool.and_eq_true] at hf
        rw [← rel_any r1 hf.1 rs hf.2] at h
        cases neg with
        | true => exact op_notIn_seq pins s σ H _ _ v u Q I rx ry ⟨p, vs, rfl, hq, rel_flat r1 hf.1, rel_flats rs hf.2, h⟩
        | false => exact op_in_seq pins s σ H _ _ v u Q I rx ry ⟨p, vs, rfl, hq, rel_flat r1 hf.1, rel_flats rs hf.2, h⟩
      · split at hb
        · rename_i hs
          cases Option.some.inj hb
          rw [Bool.and_eq_true] at hs
          obtain ⟨hs1, hs2⟩ := hs
          obtain ⟨a, rfl, ho⟩ := rel_obj rh r1 hs1
          rw [← hK] at ho
          cases rx
          cases ry
          have hu1 : X.A.in1.units < cLine := show X.A.units + 1 < cLine by omega
          have hv : ∀ (b : Str) (t : Tok), SeqAt.EqAt X.A.in1 s (.str b t) (.ref a) false := by
            intro b t
            rcases ho with ⟨vs, ho⟩ | ⟨vs, ho⟩ | ⟨o, kvs, ho⟩
            · obtain ⟨its, rv, pl, hz⟩ := I.list ho
              exact SeqAt.EqAt.str_list b t pl.isList hu1
            · obtain ⟨its, rv, pl, hz⟩ := I.tuple ho
              exact SeqAt.EqAt.str_tuple b t pl hu1
            · obtain ⟨hs', hgd, hx, es, ep, vs', hdt, hsz, kv, hm⟩ := I.frzK ho
              exact eqAt_str_dict b t hgd hx hdt hu1
          rcases hq with hq | hq
          · obtain ⟨its, r, pl, hz⟩ := I.list hq
            have hh : ∀ y ∈ its.toArray, SeqAt.EqAt X.A.in1 s y (.ref a) ((fun _ => false) y) := fun y hy => vals_strs hv rs hs2 r y (by simpa using hy)
            cases neg with
            | true =>
              refine SeqAt.notIn_listAt (fun _ => false) pl.isList hh ⟨.bl _, H, I, rfl, ?_⟩
              rw [show its.toArray.any (fun _ => false) = its.any (fun _ => false) by simp, any_false]
              exact h
            | false =>
              refine SeqAt.in_listAt (fun _ => false) pl.isList hh ⟨.bl _, H, I, rfl, ?_⟩
              rw [show its.toArray.any (fun _ => false) = its.any (fun _ => false) by simp, any_false]
              exact h
          · obtain ⟨its, r, pl, hz⟩ := I.tuple hq
            have hh : ∀ y ∈ its.toArray, SeqAt.EqAt X.A.in1 s y (.ref a) ((fun _ => false) y) := fun y hy => vals_strs hv rs hs2 r y (by simpa using hy)
            cases neg with
            | true =>
              refine SeqAt.notIn_tupleAt (fun _ => false) pl hh ⟨.bl _, H, I, rfl, ?_⟩
              rw [show its.toArray.any (fun _ => false) = its.any (fun _ => false) by simp, any_false]
              exact h
            | false =>
              refine SeqAt.in_tupleAt (fun _ => false) pl hh ⟨.bl _, H, I, rfl, ?_⟩
              rw [show its.toArray.any (fun _ => false) = its.any (fun _ => false) by simp, any_false]
              exact h
        · cases q1 : toPr st d with
          | none => simp only [q1] at hb; cases hb
          | some p1 =>
            cases q2 : toPs ys with
            | none => simp only [q1, q2] at hb; cases hb
            | some ps =>
              simp only [q1, q2] at hb
              split at hb
              · rename_i hsh
                cases Option.some.inj hb
                rw [Bool.and_eq_true] at hsh
                have d1 := rel_dpr rh r1 q1
                have d2 := rel_dps rh rs q2
                rw [← hK] at d1 d2
                obtain ⟨as, r1'⟩ := Dp.reads I p1 _ v d1 rx
                rcases hq with hq | hq
                · obtain ⟨bs, r2'⟩ := Dp.reads I (.list ps) _ u (.lst hq d2) ry
                  cases neg with
                  | true => exact SeqAt.notIn_list_reads r2' r1' (SeqAt.canLay_of_shaped hsh.2) (SeqAt.canLay_of_shaped hsh.1) (room_in_shaped hsh.1 hu) ⟨.bl _, H, I, rfl, h⟩
                  | false => exact SeqAt.in_list_reads r2' r1' (SeqAt.canLay_of_shaped hsh.2) (SeqAt.canLay_of_shaped hsh.1) (room_in_shaped hsh.1 hu) ⟨.bl _, H, I, rfl, h⟩
                · obtain ⟨bs, r2'⟩ := Dp.reads I (.tuple ps) _ u (.tup hq d2) ry
                  cases neg with
                  | true => exact SeqAt.notIn_tuple_reads r2' r1' (SeqAt.canLay_of_shaped hsh.2) (SeqAt.canLay_of_shaped hsh.1) (room_in_shaped hsh.1 hu) ⟨.bl _, H, I, rfl, h⟩
                  | false => exact SeqAt.in_tuple_reads r2' r1' (SeqAt.canLay_of_shaped hsh.2) (SeqAt.canLay_of_shaped hsh.1) (room_in_shaped hsh.1 hu) ⟨.bl _, H, I, rfl, h⟩
              · cases hb
theorem o_in (hK : X.K = g.K) (hu : X.A.units + 65 < cLine) : OpR X (compareOp .In) (rOp g cIn) := o_inb false hK hu
theorem o_notin (hK : X.K = g.K) (hu : X.A.units + 65 < cLine) : OpR X (compareOp .NotIn) (rOp g cNotIn) := o_inb true hK hu
end
end PyI
end

section
set_option Elab.async false
set_option linter.all false
set_option maxRecDepth 100000
set_option maxHeartbeats 4000000
/-! Builtins by values. -/
namespace PyI
open PySem PySem.Spec PyProof.Rows L2

/-- what a builtin gives, and the store then -/
def resO (o : Option (D × Store)) : Res D := match o with
  | some (d, s) => .ok d s
  | none => .stuck
def OutP (g : Gb) (w : Wd) (o : Option (D × Store)) (Q : VK) : Prop := match o with
  | some (d, st) => ∀ w' v H', w.le w' → RelH g w' H' st → RelD g w' v d → Q v H'
  | none => False
abbrev BO := Store → List D → Option (D × Store)
def bltM (o : BO) (as : AA) : EE := fun cl env st => (as cl env st).bind fun xs s1 => resO (o s1 xs)
def rBl (g : Gb) (o : BO) : List V → Hp → VK → Prop := fun xs H Q => ∃ w ds st, RelH g w H st ∧ RelDs g w xs ds ∧ OutP g w (o st ds) Q
def keep (f : Store → List D → Option D) : BO := fun st xs => match f st xs with
  | some d => some (d, st)
  | none => none

/-! what they give -/
def tyD (st : Store) : D → Option String
  | .non => some "NoneType"
  | .bl _ => some "bool"
  | .int _ => some "int"
  | .str _ => some "str"
  | .tup _ => some "tuple"
  | .lst _ => some "list"
  | .scr _ => some "list"
  | .dct _ _ => some "dict"
  | .ref l => if (listAt st l).isSome then some "list" else none
  | _ => none
def subT (a b : String) : Option Bool := if b = "int" then some (a == "int" || a == "bool") else if b = "str" ∨ b = "bool" ∨ b = "tuple" ∨ b = "list" ∨ b = "dict" then some (a == b) else none
def bIsi (st : Store) : List D → Option D
  | [x, .ty n] => match tyD st x with
    | some t => (subT t n).map .bl
    | none => none
  | _ => none
/-- of several types -/
def subTs (a : String) : List String → Option Bool
  | [] => some false
  | b :: bs => match subT a b with
    | none => none
    | some true => some true
    | some false => subTs a bs
def isisM (ns : List String) (a : EE) : EE := fun cl env st => (a cl env st).bind fun x s1 => match tyD s1 x with
  | some t => liftO ((subTs t ns).map .bl) s1
  | none => .stuck
def lenD (st : Store) (x : D) : Option Nat := match x with
  | .str z => if z.length ≤ sizeLine then some z.length else none
  | x => (seqOf st x).map (·.length)
def bLen (st : Store) : List D → Option D
  | [x] => (lenD st x).map fun (n : Nat) => D.int (n : Int)
  | _ => none
def boolsOf : List D → Option (List Bool)
  | [] => some []
  | .bl b :: r => (boolsOf r).map (b :: ·)
  | _ => none
def intsOf : List D → Option (List Int)
  | [] => some []
  | .int b :: r => (intsOf r).map (b :: ·)
  | _ => none
def lOf (st : Store) : D → Option (List D)
  | .lst xs => some xs
  | .scr xs => some xs
  | .ref l => listAt st l
  | _ => none
def bAll (st : Store) : List D → Option D
  | [x] => match lOf st x with
    | some xs => (boolsOf xs).map fun bs => .bl (bs.all id)
    | none => none
  | _ => none
def bAny (st : Store) : List D → Option D
  | [x] => match lOf st x with
    | some xs => (boolsOf xs).map fun bs => .bl (bs.any id)
    | none => none
  | _ => none
def bSum (st : Store) : List D → Option D
  | [x] => match lOf st x with
    | some xs => (intsOf xs).map fun bs => .int bs.sum
    | none => none
  | _ => none
def bAbs (_ : Store) : List D → Option D
  | [.int i] => some (.int (if i < 0 then -i else i))
  | _ => none
def bInt (_ : Store) : List D → Option D
  | [.int i] => some (.int i)
  | [.bl b] => some (.int (if b then 1 else 0))
  | _ => none
def bTup (st : Store) : List D → Option D
  | [.tup xs] => some (.tup xs)
  | [x] => (lOf st x).map .tup
  | _ => none
def bLst (st : Store) : List D → Option D
  | [x] => (seqOf st x).map .lst
  | _ => none
/-- a list of the store -/
def bLstN : BO := fun st xs => match xs with
  | [x] => (seqOf st x).map fun ys => (.ref st.nx, st.new (.lst ys))
  | _ => none
def bMax2 (_ : Store) : List D → Option D
  | [.int i, .int j] => some (.int (if j > i then j else i))
  | _ => none
def bMin2 (_ : Store) : List D → Option D
  | [.int i, .int j] => some (.int (if j < i then j else i))
  | _ => none
def maxI : List Int → Option Int
  | [] => none
  | a :: r => match maxI r with
    | some m => some (if m ≤ a then a else m)
    | none => some a
def minI : List Int → Option Int
  | [] => none
  | a :: r => match minI r with
    | some m => some (if a ≤ m then a else m)
    | none => some a
def bMax1 (st : Store) : List D → Option D
  | [x] => match lOf st x with
    | some xs => match intsOf xs with
      | some is => (maxI is).map .int
      | none => none
    | none => none
  | _ => none
def bMin1 (st : Store) : List D → Option D
  | [x] => match lOf st x with
    | some xs => match intsOf xs with
      | some is => (minI is).map .int
      | none => none
    | none => none
  | _ => none

section
variable {g : Gb} {cl : CL} {n : Nat} {X : Cx} {W : WX} {e a b c : Expr} {es : List Expr} {ma mb mc : EE} {mt mu : TT'} {ms : AA} {pos : Pos}
theorem rd_blt {o : BO} : ∀ σ H Q, rdE g cl W (bltM o ms) σ H Q → tCB (rBl g o) (rdA g cl W ms) σ H Q := fun σ H Q ⟨w, env, st, rh, re, h⟩ =>
  ⟨w, env, st, rh, re, h.bind.imp fun vs H1 ⟨w1, ds, s1, le1, rh1, rx, h1⟩ => ⟨w1, ds, s1, rh1, rx, by
    cases q : o s1 ds with
    | none => rw [q] at h1; exact h1.elim
    | some p => rw [q] at h1; exact h1⟩⟩
theorem s_bltB {x : Str} {p : Pos} {id : String} {o : BO} (hc : CallR X (.builtin id) (rBl g o)) (hg : Gl X x) (hm : X.mg x = none) (hv : bootBuiltins x = some (.builtin id)) (ha : PA X (e :: es) (rdA g cl W ms)) (hn : x ≠ "__name__") (hdb : (x == ("__debug__" : Str)) = false)
    (he : starEach (e :: es) X.env = (false, eval e X.env) :: starEach es X.env) (hpl : (backTo pos (starEach es X.env)).any (·.1) = false) : PE X (.Call (.Name x p) (e :: es) [] pos) (rdE g cl W (bltM o ms)) :=
  (pe_callB hc hg hm hv ha hn hdb he hpl).weak rd_blt
theorem s_bltT {x : Str} {p : Pos} {T : String} {o : BO} (hc : CallR X (.type T) (rBl g o)) (hg : Gl X x) (hm : X.mg x = none) (hv : bootBuiltins x = some (.type T)) (ha : PA X (e :: es) (rdA g cl W ms)) (hn : x ≠ "__name__") (hdb : (x == ("__debug__" : Str)) = false)
    (he : starEach (e :: es) X.env = (false, eval e X.env) :: starEach es X.env) (hpl : (backTo pos (starEach es X.env)).any (·.1) = false) : PE X (.Call (.Name x p) (e :: es) [] pos) (rdE g cl W (bltM o ms)) :=
  (pe_callTy hc hg hm hv ha hn hdb he hpl).weak rd_blt
/-- a type by its builtin name, as a value -/
theorem rd_keep {f : Store → List D → Option D} {w : Wd} {st : Store} {ds : List D} {Q : VK} (h : OutP g w (keep f st ds) Q) : ∃ d, f st ds = some d ∧ OutV g w (some d) st Q := by
  unfold keep at h
  cases q : f st ds with
  | none => rw [q] at h; exact h.elim
  | some d => rw [q] at h; exact ⟨d, rfl, h⟩
theorem rel1 {w : Wd} {xs : List V} {d : D} (r : RelDs g w xs [d]) : ∃ v, xs = [v] ∧ RelD g w v d := by
  cases r with
  | cons a r => cases r; exact ⟨_, rfl, a⟩
theorem rel2 {w : Wd} {xs : List V} {d e : D} (r : RelDs g w xs [d, e]) : ∃ v u, xs = [v, u] ∧ RelD g w v d ∧ RelD g w u e := by
  cases r with
  | cons a r => obtain ⟨u, rfl, r1⟩ := rel1 r; exact ⟨_, u, rfl, a, r1⟩
theorem rel_ty {w : Wd} {H : Hp} {st : Store} {v : V} {d : D} {t : String} (rh : RelH g w H st) (r : RelD g w v d) (h : tyD st d = some t) : TyX g.K H v (.type t) := by
  unfold tyD at h
  cases r with
  | non => cases Option.some.inj h; exact .base .non
  | bl b => cases Option.some.inj h; exact .base (.bl b)
  | int b => cases Option.some.inj h; exact .base (.int b)
  | str b => cases Option.some.inj h; exact .base (.str b)
  | tup hs hr =>
    cases Option.some.inj h
    rcases same_sqT rh.F hs with (q | ⟨o, q⟩) | ⟨o, its, n, q, hc, _⟩
    · exact .base (.tup q)
    · exact .fTuple q
    · exact .kTuple q hc
  | lst hs hr =>
    cases Option.some.inj h
    exact .base (.lst (rh.F _ _ hs))
  | scr hs hr =>
    cases Option.some.inj h
    rcases same_sqL rh.F hs with (q | ⟨o, q⟩) | ⟨o, its, n, q, hc, _⟩
    · exact .base (.lst q)
    · exact .base (.frz q)
    · exact .kList q hc
  | dct hd he hr =>
    cases Option.some.inj h
    exact .fDict (rh.F _ _ hd)
  | @ref l hl =>
    have h' : (if (listAt st l).isSome then some "list" else none) = some t := h
    cases q : listAt st l with
    | none => rw [q] at h'; cases h'
    | some xs =>
      rw [q] at h'
      cases Option.some.inj h'
      obtain ⟨vs, h1, h2⟩ := rh.lst q
      exact .base (.lst h1)
  | ty n => cases h
  | fn i => cases h
def tyNames : List String := ["NoneType", "bool", "int", "str", "tuple", "list", "dict"]
theorem ty_mem {st : Store} {d : D} {t : String} (h : tyD st d = some t) : t ∈ tyNames := by
  unfold tyD at h
  split at h
  · cases h; decide
  · cases h; decide
  · cases h; decide
  · cases h; decide
  · cases h; decide
  · cases h; decide
  · cases h; decide
  · cases h; decide
  · split at h
    · cases h; decide
    · cases h
  · cases h
theorem kit_all : ∀ a ∈ tyNames, ∀ b ∈ ["int", "str", "bool", "tuple", "list", "dict"], kitB a b = subT a b := by decide +kernel
theorem sub_kit {K : PySem.W.Frag} {a b : String} {r : Bool} (ha : a ∈ tyNames) (h : subT a b = some r) : PySem.W.kitOne K (.type a) (.type b) = some r := by
  have hb : b ∈ ["int", "str", "bool", "tuple", "list", "dict"] := by
    unfold subT at h
    split at h
    · rename_i e; rw [e]; decide
    · split at h
      · rename_i e
        rcases e with e | e | e | e | e <;> rw [e] <;> decide
      · cases h
  exact kit_ty ((kit_all a ha b hb).trans h)
theorem subs_kit {K : PySem.W.Frag} {a : String} (ha : a ∈ tyNames) : ∀ {bs : List String} {r : Bool}, subTs a bs = some r → PySem.W.kitAny K (.type a) (bs.map .type) = some r
  | [], r, h => by cases h; rfl
  | b :: bs, r, h => by
    unfold subTs at h
    cases q : subT a b with
    | none => rw [q] at h; cases h
    | some k =>
      rw [q] at h
      refine kitAny_cons (sub_kit ha q) (fun e => ?_) fun e => ?_
      · subst e
        exact subs_kit ha h
      · subst e
        cases h
        rfl
theorem b_isi (hK : X.K = g.K) : CallR X (.builtin "isinstance") (rBl g (keep bIsi)) := by
  intro pins s σ H xs us Q I rv ⟨w, ds, st, rh, rs, h⟩
  obtain ⟨d, e, h⟩ := rd_keep h
  unfold bIsi at e
  split at e
  · rename_i x nm
    obtain ⟨v, u, rfl, r1, r2⟩ := rel2 rs
    cases r2
    cases q : tyD st x with
    | none => rw [q] at e; cases e
    | some t =>
      rw [q] at e
      have e' : (subT t nm).map D.bl = some d := e
      cases q2 : subT t nm with
      | none => rw [q2] at e'; cases e'
      | some k =>
        rw [q2] at e'
        cases Option.some.inj e'
        exact call_isi pins s σ H _ us Q I rv ⟨v, .ty nm, .type t, .type nm, k, rfl, .ty nm, by rw [hK]; exact rel_ty rh r1 q, sub_kit (ty_mem q) q2, h.sm rh (.bl _)⟩
  · cases e
theorem rel_l {w : Wd} {st : Store} {H : Hp} {v : V} {d : D} {ds : List D} (rh : RelH g w H st) (r : RelD g w v d) (h : lOf st d = some ds) : ∃ a vs, v = .ref a ∧ SqL g.K H a vs ∧ RelDs g w vs ds := by
  unfold lOf at h
  cases r with
  | @scr a vs ds hs hr =>
    cases Option.some.inj h
    exact ⟨a, vs, rfl, same_sqL rh.F hs, hr⟩
  | @lst a vs ds hs hr =>
    cases Option.some.inj h
    exact ⟨a, vs, rfl, .of (rh.F _ _ hs), hr⟩
  | @ref l hl =>
    obtain ⟨vs, h1, h2⟩ := rh.lst h
    exact ⟨_, vs, rfl, .of h1, h2⟩
  | _ => cases h
theorem bools_of : ∀ {ds : List D} {bs : List Bool}, boolsOf ds = some bs → ds = bs.map D.bl
  | [], _, h => by cases h; rfl
  | d :: ds, bs, h => by
    unfold boolsOf at h
    split at h
    · rename_i e; cases e
    · rename_i b r e
      cases e
      cases q : boolsOf ds with
      | none => rw [q] at h; cases h
      | some k => rw [q] at h; cases h; rw [bools_of q]; rfl
    · cases h
theorem ints_of : ∀ {ds : List D} {bs : List Int}, intsOf ds = some bs → ds = bs.map D.int
  | [], _, h => by cases h; rfl
  | d :: ds, bs, h => by
    unfold intsOf at h
    split at h
    · rename_i e; cases e
    · rename_i b r e
      cases e
      cases q : intsOf ds with
      | none => rw [q] at h; cases h
      | some k => rw [q] at h; cases h; rw [ints_of q]; rfl
    · cases h
theorem b_len (hK : X.K = g.K) : CallR X (.builtin "len") (rBl g (keep bLen)) := by
  intro pins s σ H xs us Q I rv ⟨w, ds, st, rh, rs, h⟩
  obtain ⟨d, e, h⟩ := rd_keep h
  unfold bLen at e
  split at e
  · rename_i x
    obtain ⟨v, rfl, r1⟩ := rel1 rs
    cases q : lenD st x with
    | none => rw [q] at e; cases e
    | some k =>
      rw [q] at e
      cases Option.some.inj e
      have hh : Q (.int k) H := h.sm rh (.int _)
      unfold lenD at q
      split at q
      · split at q
        · rename_i hz
          cases Option.some.inj q
          cases r1
          exact call_len_str pins s σ H _ us Q I rv ⟨_, rfl, hz, hh⟩
        · cases q
      · cases q2 : seqOf st x with
        | none => rw [q2] at q; cases q
        | some ys =>
          rw [q2] at q
          cases Option.some.inj q
          obtain ⟨a, vs, rfl, hq, rs⟩ := rel_seq rh r1 q2
          rw [← hK] at hq
          have hh : Q (.int (ys.length : Int)) H := hh
          rw [← rs.length] at hh
          exact call_len_seq pins s σ H _ us Q I rv ⟨a, vs, rfl, hq, hh⟩
  · cases e
theorem b_all (hK : X.K = g.K) (hc : X.calm = true) : CallR X (.builtin "all") (rBl g (keep bAll)) := by
  intro pins s σ H xs us Q I rv ⟨w, ds, st, rh, rs, h⟩
  obtain ⟨d, e, h⟩ := rd_keep h
  unfold bAll at e
  split at e
  · rename_i x
    obtain ⟨v, rfl, r1⟩ := rel1 rs
    cases q : lOf st x with
    | none => rw [q] at e; cases e
    | some ys =>
      rw [q] at e
      have e' : (boolsOf ys).map (fun bs => D.bl (bs.all id)) = some d := e
      cases q2 : boolsOf ys with
      | none => rw [q2] at e'; cases e'
      | some bs =>
        rw [q2] at e'
        cases Option.some.inj e'
        obtain ⟨a, vs, rfl, hq, rs⟩ := rel_l rh r1 q
        rw [← hK] at hq
        rw [bools_of q2] at rs
        rw [rs.bools] at hq
        exact cr_all hc pins s σ H _ us Q I rv ⟨a, bs, rfl, hq, h.sm rh (.bl _)⟩
  · cases e
theorem b_any (hK : X.K = g.K) (hc : X.calm = true) : CallR X (.builtin "any") (rBl g (keep bAny)) := by
  intro pins s σ H xs us Q I rv ⟨w, ds, st, rh, rs, h⟩
  obtain ⟨d, e, h⟩ := rd_keep h
  unfold bAny at e
  split at e
  · rename_i x
    obtain ⟨v, rfl, r1⟩ := rel1 rs
    cases q : lOf st x with
    | none => rw [q] at e; cases e
    | some ys =>
      rw [q] at e
      have e' : (boolsOf ys).map (fun bs => D.bl (bs.any id)) = some d := e
      cases q2 : boolsOf ys with
      | none => rw [q2] at e'; cases e'
      | some bs =>
        rw [q2] at e'
        cases Option.some.inj e'
        obtain ⟨a, vs, rfl, hq, rs⟩ := rel_l rh r1 q
        rw [← hK] at hq
        rw [bools_of q2] at rs
        rw [rs.bools] at hq
        exact cr_any hc pins s σ H _ us Q I rv ⟨a, bs, rfl, hq, h.sm rh (.bl _)⟩
  · cases e
theorem b_sum (hK : X.K = g.K) (hc : X.calm = true) : CallR X (.builtin "sum") (rBl g (keep bSum)) := by
  intro pins s σ H xs us Q I rv ⟨w, ds, st, rh, rs, h⟩
  obtain ⟨d, e, h⟩ := rd_keep h
  unfold bSum at e
  split at e
  · rename_i x
    obtain ⟨v, rfl, r1⟩ := rel1 rs
    cases q : lOf st x with
    | none => rw [q] at e; cases e
    | some ys =>
      rw [q] at e
      have e' : (intsOf ys).map (fun bs => D.int bs.sum) = some d := e
      cases q2 : intsOf ys with
      | none => rw [q2] at e'; cases e'
      | some bs =>
        rw [q2] at e'
        cases Option.some.inj e'
        obtain ⟨a, vs, rfl, hq, rs⟩ := rel_l rh r1 q
        rw [← hK] at hq
        rw [ints_of q2] at rs
        rw [rs.ints] at hq
        exact cr_sum hc pins s σ H _ us Q I rv ⟨a, bs, rfl, hq, h.sm rh (.int _)⟩
  · cases e
theorem b_abs : CallR X (.builtin "abs") (rBl g (keep bAbs)) := by
  intro pins s σ H xs us Q I rv ⟨w, ds, st, rh, rs, h⟩
  obtain ⟨d, e, h⟩ := rd_keep h
  unfold bAbs at e
  split at e
  · obtain ⟨v, rfl, r1⟩ := rel1 rs
    cases Option.some.inj e
    cases r1
    exact call_abs pins s σ H _ us Q I rv ⟨_, rfl, h.sm rh (.int _)⟩
  · cases e
theorem b_int : CallR X (.type "int") (rBl g (keep bInt)) := by
  intro pins s σ H xs us Q I rv ⟨w, ds, st, rh, rs, h⟩
  obtain ⟨d, e, h⟩ := rd_keep h
  unfold bInt at e
  split at e
  · obtain ⟨v, rfl, r1⟩ := rel1 rs
    cases Option.some.inj e
    cases r1
    exact call_int1 pins s σ H _ us Q I rv (.inl ⟨_, rfl, h.sm rh (.int _)⟩)
  · obtain ⟨v, rfl, r1⟩ := rel1 rs
    cases Option.some.inj e
    cases r1
    exact call_int1 pins s σ H _ us Q I rv (.inr ⟨_, rfl, h.sm rh (.int _)⟩)
  · cases e
theorem b_tup (hK : X.K = g.K) : CallR X (.type "tuple") (rBl g (keep bTup)) := by
  intro pins s σ H xs us Q I rv ⟨w, ds, st, rh, rs, h⟩
  obtain ⟨d, e, h⟩ := rd_keep h
  unfold bTup at e
  split at e
  · obtain ⟨v, rfl, r1⟩ := rel1 rs
    cases Option.some.inj e
    have r1' := r1
    cases r1 with
    | tup hs hr => exact call_tuple_of pins s σ H _ us Q I rv ⟨_, _, rfl, .inr ⟨by rw [hK]; exact same_sqT rh.F hs, h.sm rh r1'⟩⟩
  · rename_i x _
    obtain ⟨v, rfl, r1⟩ := rel1 rs
    cases q : lOf st x with
    | none => rw [q] at e; cases e
    | some ys =>
      rw [q] at e
      cases Option.some.inj e
      obtain ⟨a, vs, rfl, hq, rs⟩ := rel_l rh r1 q
      rw [← hK] at hq
      exact call_tuple_of pins s σ H _ us Q I rv ⟨_, _, rfl, .inl ⟨hq, h.tup rh rs⟩⟩
  · cases e
theorem b_lst (hK : X.K = g.K) : CallR X (.type "list") (rBl g (keep bLst)) := by
  intro pins s σ H xs us Q I rv ⟨w, ds, st, rh, rs, h⟩
  obtain ⟨d, e, h⟩ := rd_keep h
  unfold bLst at e
  split at e
  · rename_i x
    obtain ⟨v, rfl, r1⟩ := rel1 rs
    cases q : seqOf st x with
    | none => rw [q] at e; cases e
    | some ys =>
      rw [q] at e
      cases Option.some.inj e
      obtain ⟨a, vs, rfl, hq, rs⟩ := rel_seq rh r1 q
      rw [← hK] at hq
      exact call_list_of pins s σ H _ us Q I rv ⟨_, _, rfl, hq, h.lst rh rs⟩
  · cases e
theorem b_lstN (hK : X.K = g.K) : CallR X (.type "list") (rBl g bLstN) := by
  intro pins s σ H xs us Q I rv ⟨w, ds, st, rh, rs, h⟩
  unfold bLstN at h
  split at h
  · rename_i x
    obtain ⟨v, rfl, r1⟩ := rel1 rs
    cases q : seqOf st x with
    | none => rw [q] at h; exact h.elim
    | some ys =>
      rw [q] at h
      obtain ⟨a, vs, rfl, hq, rs⟩ := rel_seq rh r1 q
      rw [← hK] at hq
      refine call_list_of pins s σ H _ us Q I rv ⟨_, _, rfl, hq, fun p hp => ?_⟩
      refine h (w.new p) (.ref p) _ Wd.new_le (rh.new hp rs) ?_
      rw [← rh.nx]
      exact rel_new
  · exact h.elim
theorem b_max2 (hc : X.calm = true) : CallR X (.builtin "max") (rBl g (keep bMax2)) := by
  intro pins s σ H xs us Q I rv ⟨w, ds, st, rh, rs, h⟩
  obtain ⟨d, e, h⟩ := rd_keep h
  unfold bMax2 at e
  split at e
  · obtain ⟨v, u, rfl, r1, r2⟩ := rel2 rs
    cases Option.some.inj e
    cases r1
    cases r2
    exact call_max2 hc pins s σ H _ us Q I rv ⟨_, _, rfl, h.sm rh (.int _)⟩
  · cases e
theorem b_min2 (hc : X.calm = true) : CallR X (.builtin "min") (rBl g (keep bMin2)) := by
  intro pins s σ H xs us Q I rv ⟨w, ds, st, rh, rs, h⟩
  obtain ⟨d, e, h⟩ := rd_keep h
  unfold bMin2 at e
  split at e
  · obtain ⟨v, u, rfl, r1, r2⟩ := rel2 rs
    cases Option.some.inj e
    cases r1
    cases r2
    exact call_min2 hc pins s σ H _ us Q I rv ⟨_, _, rfl, h.sm rh (.int _)⟩
  · cases e
theorem maxI_mem : ∀ {l : List Int} {m : Int}, maxI l = some m → m ∈ l ∧ ∀ y ∈ l, y ≤ m
  | [], _, h => by cases h
  | a :: r, m, h => by
    unfold maxI at h
    cases q : maxI r with
    | none =>
      rw [q] at h
      cases Option.some.inj h
      cases r with
      | nil => exact ⟨List.mem_cons_self, fun y hy => by rw [List.mem_singleton.mp hy]; exact Int.le_refl _⟩
      | cons b r =>
        unfold maxI at q
        cases q2 : maxI r <;> rw [q2] at q <;> cases q
    | some k =>
      rw [q] at h
      cases Option.some.inj h
      obtain ⟨h1, h2⟩ := maxI_mem q
      by_cases hk : k ≤ a
      · rw [if_pos hk]
        refine ⟨List.mem_cons_self, fun y hy => ?_⟩
        rcases List.mem_cons.mp hy with e | hy
        · rw [e]; exact Int.le_refl _
        · exact Int.le_trans (h2 y hy) hk
      · rw [if_neg hk]
        refine ⟨List.mem_cons_of_mem _ h1, fun y hy => ?_⟩
        rcases List.mem_cons.mp hy with e | hy
        · rw [e]; omega
        · exact h2 y hy
theorem minI_mem : ∀ {l : List Int} {m : Int}, minI l = some m → m ∈ l ∧ ∀ y ∈ l, m ≤ y
  | [], _, h => by cases h
  | a :: r, m, h => by
    unfold minI at h
    cases q : minI r with
    | none =>
      rw [q] at h
      cases Option.some.inj h
      cases r with
      | nil => exact ⟨List.mem_cons_self, fun y hy => by rw [List.mem_singleton.mp hy]; exact Int.le_refl _⟩
      | cons b r =>
        unfold minI at q
        cases q2 : minI r <;> rw [q2] at q <;> cases q
    | some k =>
      rw [q] at h
      cases Option.some.inj h
      obtain ⟨h1, h2⟩ := minI_mem q
      by_cases hk : a ≤ k
      · rw [if_pos hk]
        refine ⟨List.mem_cons_self, fun y hy => ?_⟩
        rcases List.mem_cons.mp hy with e | hy
        · rw [e]; exact Int.le_refl _
        · exact Int.le_trans hk (h2 y hy)
      · rw [if_neg hk]
        refine ⟨List.mem_cons_of_mem _ h1, fun y hy => ?_⟩
        rcases List.mem_cons.mp hy with e | hy
        · rw [e]; omega
        · exact h2 y hy
theorem b_max1 (hK : X.K = g.K) (hc : X.calm = true) : CallR X (.builtin "max") (rBl g (keep bMax1)) := by
  intro pins s σ H xs us Q I rv ⟨w, ds, st, rh, rs, h⟩
  obtain ⟨d, e, h⟩ := rd_keep h
  unfold bMax1 at e
  split at e
  · rename_i x
    obtain ⟨v, rfl, r1⟩ := rel1 rs
    cases q : lOf st x with
    | none => simp only [q] at e; cases e
    | some ys =>
      simp only [q] at e
      cases q2 : intsOf ys with
      | none => simp only [q2] at e; cases e
      | some bs =>
        simp only [q2] at e
        cases q3 : maxI bs with
        | none => rw [q3] at e; cases e
        | some m =>
          rw [q3] at e
          cases Option.some.inj e
          obtain ⟨a, vs, rfl, hq, rs⟩ := rel_l rh r1 q
          rw [← hK] at hq
          rw [ints_of q2] at rs
          rw [rs.ints] at hq
          obtain ⟨m1, m2⟩ := maxI_mem q3
          refine cr_max hc pins s σ H _ us Q I rv ⟨a, bs, rfl, hq, List.length_pos_of_mem m1, fun m' h1 h2 => ?_⟩
          have e : m' = m := Int.le_antisymm (m2 _ h1) (h2 _ m1)
          rw [e]
          exact h.sm rh (.int _)
  · cases e
theorem b_min1 (hK : X.K = g.K) (hc : X.calm = true) : CallR X (.builtin "min") (rBl g (keep bMin1)) := by
  intro pins s σ H xs us Q I rv ⟨w, ds, st, rh, rs, h⟩
  obtain ⟨d, e, h⟩ := rd_keep h
  unfold bMin1 at e
  split at e
  · rename_i x
    obtain ⟨v, rfl, r1⟩ := rel1 rs
    cases q : lOf st x with
    | none => simp only [q] at e; cases e
    | some ys =>
      simp only [q] at e
      cases q2 : intsOf ys with
      | none => simp only [q2] at e; cases e
      | some bs =>
        simp only [q2] at e
        cases q3 : minI bs with
        | none => rw [q3] at e; cases e
        | some m =>
          rw [q3] at e
          cases Option.some.inj e
          obtain ⟨a, vs, rfl, hq, rs⟩ := rel_l rh r1 q
          rw [← hK] at hq
          rw [ints_of q2] at rs
          rw [rs.ints] at hq
          obtain ⟨m1, m2⟩ := minI_mem q3
          refine cr_min hc pins s σ H _ us Q I rv ⟨a, bs, rfl, hq, List.length_pos_of_mem m1, fun m' h1 h2 => ?_⟩
          have e : m' = m := Int.le_antisymm (h2 _ m1) (m2 _ h1)
          rw [e]
          exact h.sm rh (.int _)
  · cases e
end
end PyI
end

section
set_option Elab.async false
set_option linter.all false
set_option maxRecDepth 100000
set_option maxHeartbeats 4000000
/-! Subscripts, slices, methods, calls without arguments. -/
namespace PyI
open PySem PySem.Spec PyProof.Rows L2

theorem _root_.L2.PO.weak {X : Cx} {e : Option Expr} {t t' : TO} (h : PO X e t) (k : ∀ σ H Q, t' σ H Q → t σ H Q) : PO X e t' := ⟨fun pins s σ H Q I hw => h.run pins s σ H Q I (k σ H Q hw)⟩
/-! ### what they give -/
def ixD (st : Store) (x i : D) : Option D := match i with
  | .int k => match x with
    | .str z => if z.length ≤ sizeLine then (atI z.cps.toList k).map fun c => .str ⟨#[c]⟩ else none
    | x => match seqOf st x with
      | some xs => atI xs k
      | none => none
  | _ => none
abbrev OO := CL → Env → M (Option Int)
def noO : OO := fun _ _ st => .ok none st
def someO (a : EE) : OO := fun cl env st => (a cl env st).bind fun x s => match x with
  | .int i => .ok (some i) s
  | _ => .stuck
def cutL (xs : List D) (lo hi : Option Int) : List D := (xs.drop (HT.sIx xs.length 0 lo)).take (HT.sIx xs.length xs.length hi - HT.sIx xs.length 0 lo)
def cutD (st : Store) (x : D) (lo hi : Option Int) : Option D := match x with
  | .str z => if z.length ≤ sizeLine then some (.str (L2.cutS z lo hi)) else none
  | .tup xs => some (.tup (cutL xs lo hi))
  | x => match lOf st x with
    | some xs => some (.lst (cutL xs lo hi))
    | none => none
def slM (a : EE) (lo hi : OO) : EE := fun cl env st => (a cl env st).bind fun x s1 => (lo cl env s1).bind fun l s2 => (hi cl env s2).bind fun h s3 => liftO (cutD s3 x l h) s3
def revM (a : EE) : EE := fun cl env st => (a cl env st).bind fun x s1 => match x with
  | .tup xs => .ok (.tup xs.reverse) s1
  | _ => .stuck
/-- a list's method: the receiver, the arguments -/
abbrev MO := Store → D → List D → Option (D × Store)
def isL (st : Store) (x : D) : Bool := (lOf st x).isSome
def mtM (o : MO) (a : EE) (as : AA) : EE := fun cl env st => (a cl env st).bind fun x s1 => match isL s1 x with
  | true => (as cl env s1).bind fun xs s2 => resO (o s2 x xs)
  | false => .stuck
def mAppend : MO := fun st x xs => match x, xs with
  | .ref l, [y] => match listAt st l with
    | some zs => if zs.length < sizeLine then some (.non, st.put l (.lst (zs ++ [y]))) else none
    | none => none
  | _, _ => none
def mExtend : MO := fun st x xs => match x, xs with
  | .ref l, [y] => match listAt st l, derefL st y with
    | some zs, some ys => if zs.length + ys.length ≤ sizeLine then some (.non, st.put l (.lst (zs ++ ys))) else none
    | _, _ => none
  | _, _ => none
def mPop : MO := fun st x xs => match x, xs with
  | .ref l, [] => match listAt st l with
    | some zs => match zs[zs.length - 1]? with
      | some y => some (y, st.put l (.lst zs.dropLast))
      | none => none
    | none => none
  | _, _ => none
def mPopAt : MO := fun st x xs => match x, xs with
  | .ref l, [.int i] => match listAt st l with
    | some zs => match ixN zs.length i with
      | some k => match zs[k]? with
        | some y => if -(2 ^ 63) ≤ i ∧ i < 2 ^ 63 then some (y, st.put l (.lst (zs.eraseIdx k))) else none
        | none => none
      | none => none
    | none => none
  | _, _ => none
def idxF (x : D) : List D → Option Nat
  | [] => none
  | y :: r => if eqF y x then some 0 else match idxF x r with
    | some k => some (k + 1)
    | none => none
def mIndex : MO := fun st x xs => match xs with
  | [y] => match lOf st x with
    | some zs => if isFlat y && zs.all isFlat then match idxF y zs with
      | some k => some (.int (k : Int), st)
      | none => none
      else none
    | none => none
  | _ => none
/-- a call without arguments -/
def call0M (i : Nat) : EE := fun cl _ st => cl i [] st

section
variable {g : Gb} {cl : CL} {n : Nat} {X : Cx} {W : WX} {e o a b c : Expr} {es : List Expr} {ma mb mc mo : EE} {mt mu : TT'} {ms : AA} {pos p2 : Pos}
theorem RelDs.atI {w : Wd} {vs : List V} {ds : List D} {k : Int} {d : D} (r : RelDs g w vs ds) (h : L2.atI ds k = some d) : ∃ v, L2.atI vs k = some v ∧ RelD g w v d := by
  unfold L2.atI at h ⊢
  rw [r.length]
  cases q : ixN ds.length k with
  | none => rw [q] at h; cases h
  | some j =>
    rw [q] at h
    obtain ⟨v, h1, h2⟩ := r.get h
    exact ⟨v, h1, h2⟩
theorem o_ix (hK : X.K = g.K) : IxR X (rOp g ixD) := by
  intro ve se pins s σ H x y v u Q I rx ry ⟨w, d, e, st, rh, r1, r2, h⟩ hs
  have go : ∀ d', ixD st d e = some d' → OutV g w (some d') st Q := fun d' q => by rw [q] at h; exact h
  cases q : ixD st d e with
  | none => rw [q] at h; exact h.elim
  | some z =>
    have h1 := go z q
    unfold ixD at q
    split at q
    · rename_i k
      cases r2
      split at q
      · rename_i tx
        cases r1
        split at q
        · rename_i hz
          cases q2 : L2.atI tx.cps.toList k with
          | none => rw [q2] at q; cases q
          | some c =>
            rw [q2] at q
            cases Option.some.inj q
            exact ix_seq ve se pins s σ H _ _ v u Q I rx ry (.inr (.inr ⟨tx, k, c, rfl, rfl, hz, q2, h1.sm rh (.str _)⟩)) hs
        · cases q
      · cases q2 : seqOf st d with
        | none => simp only [q2] at q; cases q
        | some xs =>
          simp only [q2] at q
          obtain ⟨a, vs, rfl, hq, rs⟩ := rel_seq rh r1 q2
          rw [← hK] at hq
          obtain ⟨v1, h2, h3⟩ := rs.atI q
          rcases hq with hq | hq
          · exact ix_seq ve se pins s σ H _ _ v u Q I rx ry (.inl ⟨a, vs, k, v1, rfl, rfl, hq, h2, h1.sm rh h3⟩) hs
          · exact ix_seq ve se pins s σ H _ _ v u Q I rx ry (.inr (.inl ⟨a, vs, k, v1, rfl, rfl, hq, h2, h1.sm rh h3⟩)) hs
    · cases q
theorem s_ix (hK : X.K = g.K) (ha : PE X a (rdE g cl W ma)) (hb : PE X b (rdE g cl W mb)) (hs : PlainIx b) : PE X (.Subscript a b pos) (rdE g cl W (binM ixD ma mb)) :=
  (pe_ix (o_ix hK) ha hb hs).weak rd_bin

/-! slices -/
def rdO (g : Gb) (cl : CL) (W : WX) (m : OO) : TO := fun σ H Q => ∃ w env st, RelH g w H st ∧ RelE g w σ env ∧ Out g (fun _ (o o' : Option Int) => o = o') W w σ (m cl env st) Q
theorem s_noO : PO X none (rdO g cl W noO) := po_none.weak fun σ H Q ⟨w, env, st, rh, re, h⟩ => h w none H (.refl w) rh rfl
theorem s_someO (ha : PE X a (rdE g cl W ma)) : PO X (some a) (rdO g cl W (someO ma)) := (po_some ha).weak fun σ H Q ⟨w, env, st, rh, re, h⟩ => by
  refine ⟨w, env, st, rh, re, h.bind.imp fun v H1 ⟨w1, d, s1, le1, rh1, rx, h1⟩ => ?_⟩
  cases rx with
  | int i => exact ⟨i, rfl, h1 w1 _ H1 (.refl _) rh1 rfl⟩
  | _ => exact h1.elim
theorem RelDs.cut {w : Wd} {vs : List V} {ds : List D} (r : RelDs g w vs ds) (lo hi : Option Int) : RelDs g w (cutV vs lo hi) (cutL ds lo hi) := by
  unfold cutV cutL
  rw [r.length]
  exact (r.drop _).take _
def rSl (g : Gb) : V → Option Int → Option Int → Hp → VK → Prop := fun x lo hi H Q => ∃ w d st, RelH g w H st ∧ RelD g w x d ∧ OutV g w (cutD st d lo hi) st Q
theorem cutL_all {xs : List D} {lo hi : Option Int} (h : HT.sIx xs.length 0 lo = 0 ∧ HT.sIx xs.length xs.length hi = xs.length) : cutL xs lo hi = xs := by
  unfold cutL
  rw [h.1, h.2, List.drop_zero, Nat.sub_zero, List.take_length]
theorem o_sl (hK : X.K = g.K) : SlR X (rSl g) := by
  intro pins s σ H x v vl vu lo hi sl Q I rx hs pl pu ⟨w, d, st, rh, r1, h⟩
  cases q : cutD st d lo hi with
  | none => rw [q] at h; exact h.elim
  | some z =>
    rw [q] at h
    unfold cutD at q
    split at q
    · split at q
      · rename_i hz
        cases Option.some.inj q
        cases r1
        exact sl_str pins s σ H _ v vl vu lo hi sl Q I rx hs pl pu ⟨_, rfl, hz, h.sm rh (.str _)⟩
      · cases q
    · cases Option.some.inj q
      have r1' := r1
      cases r1 with
      | @tup a vs ds hq hr =>
        refine sl_tupA pins s σ H _ v vl vu lo hi sl Q I rx hs pl pu ⟨a, vs, rfl, by rw [hK]; exact same_sqT rh.F hq, fun hw => ?_, fun _ => h.tup rh (hr.cut lo hi)⟩
        rw [hr.length] at hw
        rw [cutL_all hw] at h
        exact h.sm rh r1'
    · cases q2 : lOf st d with
      | none => simp only [q2] at q; cases q
      | some xs =>
        simp only [q2] at q
        cases Option.some.inj q
        obtain ⟨a, vs, rfl, hq, rs⟩ := rel_l rh r1 q2
        rw [← hK] at hq
        exact sl_list pins s σ H _ v vl vu lo hi sl Q I rx hs pl pu ⟨a, vs, rfl, hq, h.lst rh (rs.cut lo hi)⟩
theorem s_sl {lo hi : Option Expr} {ml mh : OO} (hK : X.K = g.K) (ha : PE X a (rdE g cl W ma)) (hl : PO X lo (rdO g cl W ml)) (hh : PO X hi (rdO g cl W mh)) : PE X (.Subscript a (.Slice lo hi none p2) pos) (rdE g cl W (slM ma ml mh)) :=
  (pe_slice (o_sl hK) ha hl hh).weak fun σ H Q ⟨w, env, st, rh, re, h⟩ =>
    ⟨w, env, st, rh, re, h.bind.imp fun x H1 ⟨w1, d, s1, le1, rh1, rx, h1⟩ => ⟨w1, env, s1, rh1, re.mono le1, h1.bind.imp fun l H2 ⟨w2, l2, s2, le2, rh2, el, h2⟩ =>
      ⟨w2, env, s2, rh2, re.mono (le1.trans le2), h2.bind.imp fun u H3 ⟨w3, u3, s3, le3, rh3, eu, h3⟩ => by
        cases (show l = l2 from el)
        cases (show u = u3 from eu)
        exact ⟨w3, d, s3, rh3, rx.mono (le2.trans le3), h3.v⟩⟩⟩⟩

/-! methods of lists -/
def rMt (g : Gb) (o : MO) : V → List V → Hp → VK → Prop := fun x xs H Q => ∃ w d ds st, RelH g w H st ∧ RelD g w x d ∧ RelDs g w xs ds ∧ OutP g w (o st d ds) Q
theorem rel_isL {w : Wd} {st : Store} {H : Hp} {v : V} {d : D} (rh : RelH g w H st) (r : RelD g w v d) (h : isL st d = true) : tyV g.K "list" v H := by
  obtain ⟨ds, q⟩ := Option.isSome_iff_exists.mp h
  obtain ⟨a, vs, rfl, hq, rs⟩ := rel_l rh r q
  exact .inl ⟨rfl, vs, hq⟩
theorem rd_mt {mo : MO} (hK : X.K = g.K) : ∀ σ H Q, rdE g cl W (mtM mo ma ms) σ H Q → tBM X.K "list" (rMt g mo) (rdE g cl W ma) (rdA g cl W ms) σ H Q := fun σ H Q ⟨w, env, st, rh, re, h⟩ =>
  ⟨w, env, st, rh, re, h.bind.imp fun v H1 ⟨w1, d, s1, le1, rh1, rx, h1⟩ => by
    cases q : isL s1 d with
    | false => rw [q] at h1; exact h1.elim
    | true =>
      rw [q] at h1
      refine ⟨by rw [hK]; exact rel_isL rh1 rx q, w1, env, s1, rh1, re.mono le1, ?_⟩
      have h1' : Out g (RelD g) W w1 σ ((ms cl env s1).bind fun xs s2 => resO (mo s2 d xs)) Q := h1
      refine h1'.bind.imp fun vs H2 ⟨w2, ds, s2, le2, rh2, rs, h2⟩ => ⟨w2, d, ds, s2, rh2, rx.mono le2, rs, ?_⟩
      cases q2 : mo s2 d ds with
      | none => rw [q2] at h2; exact h2.elim
      | some p => rw [q2] at h2; exact h2⟩
theorem rd_mt0 {mo : MO} (hK : X.K = g.K) : ∀ σ H Q, rdE g cl W (mtM mo ma nilM) σ H Q → tBM0 X.K "list" (rMt g mo) (rdE g cl W ma) σ H Q := fun σ H Q ⟨w, env, st, rh, re, h⟩ =>
  ⟨w, env, st, rh, re, h.bind.imp fun v H1 ⟨w1, d, s1, le1, rh1, rx, h1⟩ => by
    cases q : isL s1 d with
    | false => rw [q] at h1; exact h1.elim
    | true =>
      rw [q] at h1
      refine ⟨by rw [hK]; exact rel_isL rh1 rx q, w1, d, [], s1, rh1, rx, .nil, ?_⟩
      have h1' : Out g (RelD g) W w1 σ (resO (mo s1 d [])) Q := h1
      cases q2 : mo s1 d [] with
      | none => rw [q2] at h1'; exact h1'.elim
      | some p => rw [q2] at h1'; exact h1'⟩
theorem s_mt {mo : MO} {name : Str} {apos cpos : Pos} {id : String} (hK : X.K = g.K) (slot : Slot "list" name id) (hty : typeOf (.builtin id) = pure (.type "method_descriptor")) (hm : MtR X id (rMt g mo)) (ho : PE X o (rdE g cl W ma)) (ha : PA X (e :: es) (rdA g cl W ms))
    (hbase : attributeBase o name X.env (eval o X.env) = eval o X.env)
    (hfew : ((backTo cpos (starEach (e :: es) X.env)).all (fun x => !x.1) && (backToKw cpos (keywordEach [] X.env)).all (fun x => x.1.isSome)
      && decide ((e :: es).length + ([] : List Keyword).length + (if ([] : List Keyword).isEmpty then 0 else 1) < 30)) = true)
    (hline : (apos.endLine == cpos.line) = true) (hs : starEach (e :: es) X.env = (false, eval e X.env) :: starEach es X.env) (hplain : (backTo cpos (starEach es X.env)).any (·.1) = false) :
    PE X (.Call (.Attribute o name apos) (e :: es) [] cpos) (rdE g cl W (mtM mo ma ms)) :=
  (pe_bm PySem.F.plainAttrs_list slot hty hm ho ha hbase hfew hline hs hplain).weak (rd_mt hK)
theorem s_mt0 {mo : MO} {name : Str} {apos cpos : Pos} {id : String} (hK : X.K = g.K) (slot : Slot "list" name id) (hty : typeOf (.builtin id) = pure (.type "method_descriptor")) (hm : MtR X id (rMt g mo)) (ho : PE X o (rdE g cl W ma))
    (hbase : attributeBase o name X.env (eval o X.env) = eval o X.env) (hline : (apos.endLine == cpos.line) = true) :
    PE X (.Call (.Attribute o name apos) [] [] cpos) (rdE g cl W (mtM mo ma nilM)) :=
  (pe_bm0 PySem.F.plainAttrs_list slot hty hm ho hbase hline).weak (rd_mt0 hK)
theorem OutP.put {w : Wd} {st : Store} {l : Nat} {so : SO} {zs : List D} {vs : List V} {H : Hp} {Q : VK} {v : V} {d : D} (h : OutP g w (some (d, st.put l (.lst zs))) Q) (rh : RelH g w H st) (hl : st.at_ l = some so) (r : RelDs g w vs zs) (rv : RelD g w v d) : Q v (upd H (w.μ l) (.lst vs)) :=
  h w v _ (.refl w) (rh.put hl r) rv
theorem m_append : MtR X "list.append" (rMt g mAppend) := by
  intro pins s σ H x xs v us Q I rx rxs ⟨w, d, ds, st, rh, r1, rs, h⟩
  unfold mAppend at h
  split at h
  · rename_i l y
    cases q : listAt st l with
    | none => simp only [q] at h; exact h.elim
    | some zs =>
      simp only [q] at h
      split at h
      · rename_i hz
        cases r1
        obtain ⟨v1, rfl, rv⟩ := rel1 rs
        obtain ⟨vs, h1, h2⟩ := rh.lst q
        exact mt_append pins s σ H _ _ v us Q I rx rxs ⟨_, vs, v1, rfl, rfl, h1, by rw [h2.length]; exact hz, h.put rh (listAt_some q) (h2.append (.cons rv .nil)) .non⟩
      · exact h.elim
  · exact h.elim
theorem m_extend : MtR X "list.extend" (rMt g mExtend) := by
  intro pins s σ H x xs v us Q I rx rxs ⟨w, d, ds, st, rh, r1, rs, h⟩
  unfold mExtend at h
  split at h
  · rename_i l y
    cases q : listAt st l with
    | none => simp only [q] at h; exact h.elim
    | some zs =>
      simp only [q] at h
      cases q2 : derefL st y with
      | none => simp only [q2] at h; exact h.elim
      | some ys =>
        simp only [q2] at h
        split at h
        · rename_i hz
          cases r1
          obtain ⟨v1, rfl, rv⟩ := rel1 rs
          obtain ⟨vs, h1, h2⟩ := rh.lst q
          obtain ⟨b, us2, rfl, h3, h4⟩ := rel_deref rh rv q2
          exact mt_extend pins s σ H _ _ v us Q I rx rxs ⟨_, b, vs, us2, rfl, rfl, h1, h3, by rw [h2.length, h4.length]; exact hz, h.put rh (listAt_some q) (h2.append h4) .non⟩
        · exact h.elim
  · exact h.elim
theorem RelDs.dropLast {w : Wd} : ∀ {vs : List V} {ds : List D}, RelDs g w vs ds → RelDs g w vs.dropLast ds.dropLast
  | _, _, .nil => .nil
  | _, _, .cons _ .nil => .nil
  | _, _, .cons a (.cons b r) => .cons a (RelDs.dropLast (.cons b r))
theorem RelDs.erase {w : Wd} : ∀ {vs : List V} {ds : List D} (k : Nat), RelDs g w vs ds → RelDs g w (vs.eraseIdx k) (ds.eraseIdx k)
  | _, _, _, .nil => .nil
  | _, _, 0, .cons _ r => r
  | _, _, k + 1, .cons a r => .cons a (r.erase k)
theorem m_pop : MtR X "list.pop" (rMt g mPop) := by
  intro pins s σ H x xs v us Q I rx rxs ⟨w, d, ds, st, rh, r1, rs, h⟩
  unfold mPop at h
  split at h
  · rename_i l
    cases q : listAt st l with
    | none => simp only [q] at h; exact h.elim
    | some zs =>
      simp only [q] at h
      cases q2 : zs[zs.length - 1]? with
      | none => simp only [q2] at h; exact h.elim
      | some y =>
        simp only [q2] at h
        cases r1
        cases rs
        obtain ⟨vs, h1, h2⟩ := rh.lst q
        obtain ⟨v1, h3, h4⟩ := h2.get q2
        exact mt_pop pins s σ H _ _ v us Q I rx rxs ⟨_, vs, v1, rfl, rfl, h1, by rw [h2.length]; exact h3, h.put rh (listAt_some q) h2.dropLast h4⟩
  · exact h.elim
theorem m_popAt : MtR X "list.pop" (rMt g mPopAt) := by
  intro pins s σ H x xs v us Q I rx rxs ⟨w, d, ds, st, rh, r1, rs, h⟩
  unfold mPopAt at h
  split at h
  · rename_i l i
    cases q : listAt st l with
    | none => simp only [q] at h; exact h.elim
    | some zs =>
      simp only [q] at h
      cases q1 : ixN zs.length i with
      | none => simp only [q1] at h; exact h.elim
      | some k =>
        simp only [q1] at h
        cases q2 : zs[k]? with
        | none => simp only [q2] at h; exact h.elim
        | some y =>
          simp only [q2] at h
          split at h
          · rename_i hb
            cases r1
            obtain ⟨v0, rfl, rv⟩ := rel1 rs
            cases rv
            obtain ⟨vs, h1, h2⟩ := rh.lst q
            obtain ⟨v1, h3, h4⟩ := h2.get q2
            exact mt_popAt pins s σ H _ _ v us Q I rx rxs ⟨_, vs, i, k, v1, rfl, rfl, h1, hb.1, hb.2, by rw [h2.length]; exact (ixN_seq q1).1, h3, h.put rh (listAt_some q) (h2.erase k) h4⟩
          · exact h.elim
  · exact h.elim
theorem idxF_at {w : Wd} {u : V} {x : D} (ru : RelD g w u x) (fx : isFlat x = true) : ∀ {vs : List V} {ds : List D} {k : Nat}, RelDs g w vs ds → ds.all isFlat = true → idxF x ds = some k →
    ∃ z, vs[k]? = some z ∧ eqV z u = true ∧ ∀ (m : Nat) (z' : V), m < k → vs[m]? = some z' → eqV z' u = false
  | _, _, _, .nil, _, h => by cases h
  | _, _, k, .cons (v := v) (d := d) a r, f, h => by
    rw [List.all_cons, Bool.and_eq_true] at f
    have e := rel_eqF a ru f.1 fx
    unfold idxF at h
    split at h
    · rename_i hq
      cases Option.some.inj h
      exact ⟨v, rfl, e.trans hq, fun m z' hm => absurd hm (Nat.not_lt_zero _)⟩
    · rename_i hq
      rename_i ds'
      cases q : idxF x ds' with
      | none => simp only [q] at h; cases h
      | some j =>
        simp only [q] at h
        cases Option.some.inj h
        obtain ⟨z, h1, h2, h3⟩ := idxF_at ru fx r f.2 q
        refine ⟨z, h1, h2, fun m z' hm hz => ?_⟩
        cases m with
        | zero =>
          cases Option.some.inj hz
          rw [e]
          exact Bool.eq_false_iff.mpr hq
        | succ m => exact h3 m z' (by omega) hz
theorem m_index (hK : X.K = g.K) : MtR X "list.index" (rMt g mIndex) := by
  intro pins s σ H x xs v us Q I rx rxs ⟨w, d, ds, st, rh, r1, rs, h⟩
  unfold mIndex at h
  split at h
  · rename_i y
    cases q : lOf st d with
    | none => simp only [q] at h; exact h.elim
    | some zs =>
      simp only [q] at h
      split at h
      · rename_i hf
        rw [Bool.and_eq_true] at hf
        cases q2 : idxF y zs with
        | none => simp only [q2] at h; exact h.elim
        | some k =>
          simp only [q2] at h
          obtain ⟨v0, rfl, rv⟩ := rel1 rs
          obtain ⟨a, vs, rfl, hq, hr⟩ := rel_l rh r1 q
          rw [← hK] at hq
          obtain ⟨z, h1, h2, h3⟩ := idxF_at rv hf.1 hr hf.2 q2
          exact mt_index pins s σ H _ _ v us Q I rx rxs ⟨a, vs, v0, k, z, rfl, rfl, hq, rel_flat rv hf.1, rel_flats hr hf.2, h1, h2, h3, h w _ H (.refl w) rh (.int _)⟩
      · exact h.elim
  · exact h.elim
/-! a call without arguments -/
theorem s_call0 {i : Nat} {x : Str} {p : Pos} (G : Good g cl n X W) (hg : Gl X x) (hm : X.mg x = some (.ref (g.fa i))) (hk : PySem.W.keepIn X.K (.ref (g.fa i)) = true) (hb : Binds X.K (g.fd i) (g.fp i) []) (hl : (g.fp i).length = 0)
    (hdb : (x == ("__debug__" : Str)) = false) : PE X (.Call (.Name x p) [] [] pos) (rdE g cl W (call0M i)) := by
  refine ⟨fun pins s σ H Q I ⟨w, env, st, rh, re, h⟩ => ?_⟩
  refine wpAny_Call_Name_kw (ld_glob I hg hm ?_ hdb)
  exact PySem.W.callWith_K0 I.kIn hk (run_fnSD (us := []) (E := fun σ => WE W σ) (good_fn G i) G.room hb .nil (passAt G.tk σ) I .nil ⟨w, [], st, rh, .nil, hl.symm, h.f⟩)
/-! isinstance of several types -/
def tCs (vs : List V) : TA := fun _ H Q => Q vs H
theorem pa_tys0 : PA X [] (tCs []) := pa_nil
theorem pa_tys {v : V} {vs : List V} (h : PE X a (tC v)) (hr : PA X es (tCs vs)) (hs : starEach (a :: es) X.env = (false, eval a X.env) :: starEach es X.env) : PA X (a :: es) (tCs (v :: vs)) :=
  (pa_cons h hr hs).weak fun σ H Q q => q
theorem cls_tys : ∀ ns : List String, Paired ClsV (ns.map V.ty) (ns.map Value.type)
  | [] => .nil
  | n :: ns => .cons (.ty n) (cls_tys ns)
theorem s_isis {p : Pos} {k : Nat} {ns : List String} {tes : List Expr} {tpos : Pos} (hK : X.K = g.K) (hg : Gl X "isinstance") (hm : X.mg "isinstance" = none) (ha : PE X a (rdE g cl W ma)) (ht : PA X tes (tCs (ns.map V.ty)))
    (hs : starEach [a, .Tuple tes k tpos] X.env = (false, eval a X.env) :: starEach [.Tuple tes k tpos] X.env) (hs2 : starEach [.Tuple tes k tpos] X.env = (false, eval (.Tuple tes k tpos) X.env) :: starEach [] X.env) (hpl : (backTo pos (starEach [.Tuple tes k tpos] X.env)).any (·.1) = false) (hn : ns.length ≤ sizeLine) :
    PE X (.Call (.Name "isinstance" p) [a, .Tuple tes k tpos] [] pos) (rdE g cl W (isisM ns ma)) := by
  refine (pe_callB (hc := call_isiT) hg hm rfl (pa_cons ha (pa_cons (pe_tup ht) pa_nil hs2) hs) (by decide) (by decide) hs hpl).weak fun σ H Q ⟨w, env, st, rh, re, h⟩ => ?_
  refine ⟨w, env, st, rh, re, h.bind.imp fun v H1 ⟨w1, d, s1, le1, rh1, rx, h1⟩ => ⟨by rw [List.length_map]; exact hn, fun tp hp => ?_⟩⟩
  cases q : tyD s1 d with
  | none => simp only [q] at h1; exact h1.elim
  | some t =>
    simp only [q] at h1
    cases q2 : subTs t ns with
    | none => rw [q2] at h1; exact h1.elim
    | some b =>
      rw [q2] at h1
      refine ⟨v, tp, ns.map V.ty, .type t, ns.map Value.type, b, rfl, upd_same, cls_tys ns, ?_, subs_kit (ty_mem q) q2, ?_⟩
      · rw [hK]
        exact rel_ty (rh1.drop (o := .tup (ns.map V.ty)) hp) rx q
      · exact h1 w1 (.bl b) _ (.refl _) (rh1.drop hp) (.bl b)
/-! t[::-1] -/
theorem rev_adjust (n : Nat) : Builtin.Slice.sliceAdjust none none (-1) (n : Int) = ((n : Int) - 1, -1) := rfl
theorem rev_places (n : Nat) : Builtin.Slice.slicePlaces ((n : Int) - 1) (-1) (-1) = n := by
  unfold Builtin.Slice.slicePlaces
  rw [if_neg (by decide)]
  by_cases h : (n : Int) - 1 > -1
  · rw [if_pos h]
    have e : ((n : Int) - 1 - (-1) - 1) / (-(-1)) = (n : Int) - 1 := by
      rw [show (-(-1) : Int) = 1 from rfl, Int.ediv_one]
      omega
    rw [e]
    omega
  · rw [if_neg h]
    omega
theorem rev_pick (xs : Array Value) : ((List.range xs.size).filterMap fun (m : Nat) => xs[(((xs.size : Int) - 1) + (m : Int) * (-1)).toNat]?).toArray = xs.toList.reverse.toArray := by
  have h : ∀ (l : List Nat), (∀ m ∈ l, m < xs.size) → (l.filterMap fun (m : Nat) => xs[(((xs.size : Int) - 1) + (m : Int) * (-1)).toNat]?) = l.map fun m => xs.getD (xs.size - 1 - m) .none := by
    intro l
    induction l with
    | nil => intro _; rfl
    | cons m l ih =>
      intro hm
      have hlt := hm m List.mem_cons_self
      have e : (((xs.size : Int) - 1) + (m : Int) * (-1)).toNat = xs.size - 1 - m := by omega
      have hb : xs.size - 1 - m < xs.size := by omega
      rw [List.filterMap_cons, e, Array.getElem?_eq_getElem hb, List.map_cons, ih fun k hk => hm k (List.mem_cons_of_mem _ hk)]
      show xs[xs.size - 1 - m] :: _ = _
      rw [Array.getD_eq_getD_getElem?, Array.getElem?_eq_getElem hb]
      rfl
  rw [h _ fun m hm => List.mem_range.mp hm]
  congr 1
  refine List.ext_getElem? fun i => ?_
  rw [List.getElem?_map]
  by_cases hi : i < xs.size
  · rw [List.getElem?_range hi, List.getElem?_reverse (by simpa using hi)]
    show some (xs.getD (xs.size - 1 - i) .none) = _
    have hb : xs.size - 1 - i < xs.size := by omega
    rw [Array.getD_eq_getD_getElem?, Array.getElem?_eq_getElem hb, Array.getElem?_toList, Array.length_toList, Array.getElem?_eq_getElem hb]
    rfl
  · rw [List.getElem?_eq_none (by simpa using hi), List.getElem?_eq_none (by simpa using hi)]
    rfl
theorem sliceApplied_rev {prog : Program} {w : World} {A : Around} {E : Value → Shared → Prop} {s : Shared} {sl : Addr} {t : Tok} {n : Nat} {Q : Int × Int × Nat → Shared → Prop} (hs : s.heap.IsSliceOf sl .none .none (.int (-1) t))
    (h : Q ((n : Int) - 1, -1, n) s) : wpAny (model prog w) A (Builtin.Slice.sliceApplied (.ref sl) (pure (n : Int))) Q E s := by
  obtain ⟨os, hos, hcs, hds⟩ := id hs
  unfold Builtin.Slice.sliceApplied Builtin.Slice.sliceFields
  refine wpAny_bind (wpAny_bind (wpAny_field hos hds (x := .none) rfl (wpAny_bind (wpAny_field hos hds (x := .none) rfl (wpAny_bind (wpAny_field hos hds (x := .int (-1) t) rfl (wpAny_pure ?_)))))))
  refine wpAny_bind (HT.slicePart_ (.int (-1) t) ?_)
  show wpAny _ _ (if ((-1 : Int) == 0) = true then _ else _) _ _ s
  rw [if_neg (by decide)]
  refine wpAny_bind (HT.slicePart_ .none (wpAny_bind (HT.slicePart_ .none (wpAny_bind (wpAny_pure ?_)))))
  show wpAny _ _ (match Builtin.Slice.sliceAdjust none none (-1) (n : Int) with | (lo, hi) => pure (lo, (-1 : Int), Builtin.Slice.slicePlaces lo hi (-1))) _ _ s
  rw [rev_adjust]
  show wpAny _ _ (pure ((n : Int) - 1, (-1 : Int), Builtin.Slice.slicePlaces ((n : Int) - 1) (-1) (-1))) _ _ s
  rw [rev_places]
  exact wpAny_pure h
theorem getItem_tuple_rev {prog : Program} {w : World} {A : Around} {E : Value → Shared → Prop} {s : Shared} {t sl : Addr} {items : Array Value} {k : Tok} {Q : Value → Shared → Prop} (ht : IsTup s.heap t items) (hs : s.heap.IsSliceOf sl .none .none (.int (-1) k))
    (h : Q (.ref s.heap.objs.size) { s with heap := s.heap.push { cls := .type "tuple", data := .seq items.toList.reverse.toArray } })
    (hsz : items.size ≤ sizeLine) : wpAny (model prog w) A (getItem (.ref t) (.ref sl)) Q E s := by
  have htake : sizeOk (.seq items.toList.reverse.toArray) := by
    show items.toList.reverse.toArray.size ≤ sizeLine
    rw [List.size_toArray, List.length_reverse, Array.length_toList]
    exact hsz
  obtain ⟨os, hos, hcs, hds⟩ := id hs
  have hTs : s.TypeIs (.ref sl) "slice" := ⟨os, hos, hcs⟩
  unfold getItem
  try with_reducible refine wpAny_holding ?_
  first | refine wpAny_bind (wpAny_pure ?_) | skip
  refine wpAny_bind (wpAny_sequenceKey ht.typeIs (by decide) ?_)
  refine wpAny_bind (wpAny_callSpecial?_slot (name := Str.ofString "__getitem__") ht.typeIs PyProof.Rows.slot_tuple_getitem
    (wpAny_call_entry PyProof.Rows.slot_tuple_getitem ht.typeIs entry_tuple_getitem ?_ (args_tuple_getitem _ _)))
  show wpAny _ _ (Builtin.Tuple.tupleItemsOf (.ref t) >>= _) _ _ s
  refine wpAny_bind (tupleItemsOf_ ht ?_)
  refine wpAny_bind (wpAny_typeOf hTs ?_)
  rw [if_pos (by decide)]
  refine wpAny_bind (sliceApplied_rev hs ?_)
  have hno : ¬ ((((items.size : Int) - 1) == 0 && (-1 : Int) == 1 && items.size == items.size) = true) := by
    intro q
    rw [Bool.and_eq_true, Bool.and_eq_true] at q
    exact absurd q.1.2 (by decide)
  show wpAny _ _ (if (((items.size : Int) - 1) == 0 && (-1 : Int) == 1 && items.size == items.size) = true then _ else _) _ _ s
  rw [if_neg hno, rev_pick]
  first
    | exact wpAny_bind (m := Builtin.Tuple.tupleExact _) (wpAny_newObj_type (wpAny_pure ⟨_, rfl, wpAny_pure h⟩) htake)
    | exact wpAny_bind (m := Builtin.Tuple.tupleExact _) (wpAny_newObj_type (wpAny_bind (wpAny_pure (wpAny_pure ⟨_, rfl, wpAny_pure h⟩))) htake)
    | exact wpAny_bind (wpAny_bind (m := Builtin.Tuple.tupleExact _) (wpAny_newObj_type (wpAny_pure (wpAny_pure ⟨_, rfl, wpAny_pure h⟩)) htake))
    | exact wpAny_bind (wpAny_bind (m := Builtin.Tuple.tupleExact _) (wpAny_newObj_type (wpAny_pure ⟨_, rfl, wpAny_pure h⟩) htake))
theorem s_rev {stx : Expr} (hK : X.K = g.K) (ha : PE X a (rdE g cl W ma)) (hst : PE X stx (tC (.int (-1)))) : PE X (.Subscript a (.Slice none none (some stx) p2) pos) (rdE g cl W (revM ma)) := by
  refine ⟨fun pins s σ H Q I ⟨w, env, st, rh, re, h⟩ => ?_⟩
  refine Subscript_ (thn (ha.run pins s σ H _ I ⟨w, env, st, rh, re, h.bind⟩) fun v s1 ⟨x, H1, I1, r1, w1, d, t1, le1, rh1, rx, h1⟩ => ?_)
  refine wpAny_Slice ?_
  rw [evalPart_none, evalPart_some]
  refine wpAny_pure (wpAny_pure ?_)
  refine thn (hst.run pins s1 σ H1 (fun y H2 => y = .int (-1) ∧ H2 = H1) I1 ⟨rfl, rfl⟩) fun u s2 ⟨y, H2, I2, r2, ey, eH⟩ => ?_
  subst ey eH
  obtain ⟨k, rfl⟩ := r2
  have I4 : Inv X pins σ H2 { s2 with heap := s2.heap.push { cls := .type "slice", data := .fields #[.none, .none, .int (-1) k] } } := I2.kept (t' := s2.toks) fun b ob q => Heap.get?_push_of_some _ q
  cases rx with
  | @tup ad vs ds hq hr =>
    cases r1
    obtain ⟨its, rv, ht, hz⟩ := I4.tuple (by rw [hK]; exact same_sqT rh1.F hq)
    refine tail_any (ops := [.ref ad, .ref s2.heap.objs.size]) ht.typeIs PyProof.Rows.slot_tuple_getitem.lookup (getItem_tuple_rev ht (Heap.IsSliceOf.new ..) ?_ (by rw [List.size_toArray, ← rv.length]; exact hz)) (by with_unfolding_all rfl)
    have hf : H2 (s2.heap.push { cls := .type "slice", data := .fields #[.none, .none, .int (-1) k] }).objs.size = none := I4.hok.fresh (Nat.le_refl _)
    refine ⟨.ref _, upd H2 _ (.tup vs.reverse), I4.laid (t' := s2.toks) (o := .tup vs.reverse) (fun b ob q => Heap.get?_push_of_some _ q) (Nat.le_refl _) ?_, rfl, ?_⟩
    · exact ⟨by rw [List.length_reverse]; exact hz, its.reverse, rv.reverse, by simpa using IsTup.new (s2.heap.push { cls := .type "slice", data := .fields #[.none, .none, .int (-1) k] }) its.reverse.toArray⟩
    · have le2 := Wd.frz_le (o := .tup vs.reverse) (rh1.F.free hf)
      exact h1 _ _ _ le2 (rh1.frz hf) (.tup (.inl (.inl upd_same)) (hr.rev.mono le2))
  | _ => exact h1.elim
theorem s_rev1 {stx : Expr} {c p3 p4 : Pos} {j : Nat} (hK : X.K = g.K) (ha : PE X a (rdE g cl W ma)) : PE X (.Subscript a (.Slice none none (some (.UnaryOp .USub (.Constant (.int 1) j p3) p4)) p2) pos) (rdE g cl W (revM ma)) :=
  s_rev hK ha ((pe_un un_neg pe_int).weak fun σ H Q q => ⟨1, rfl, q⟩)
end
end PyI
end

section
set_option Elab.async false
set_option linter.all false
set_option maxRecDepth 100000
set_option maxHeartbeats 4000000
/-! An empty dict that is never changed; try. -/
namespace PyI
open PySem PySem.Spec PyProof.Rows L2
section
variable {g : Gb} {cl : CL} {n : Nat} {X : Cx} {W : WX} {e o a b c : Expr} {es : List Expr} {ma mb mc mo : EE} {mt mu : TT'} {ms : AA} {pos p2 : Pos}
def noDict : EE := fun _ _ st => .ok (.dct [] []) st
theorem s_nodict : PE X (.Dict [] [] pos) (rdE g cl W noDict) := ⟨fun pins s σ H Q I ⟨w, env, st, rh, re, h⟩ => by
  refine wpAny_Dict_empty ?_
  have hf : H s.heap.objs.size = none := I.hok.fresh (Nat.le_refl _)
  have le := Wd.frz_le (o := .frz { cls := .type "dict", data := .dict #[] } (.dK [])) (rh.F.free hf)
  refine ⟨.ref s.heap.objs.size, _, I.laid (a := s.heap.objs.size) (o := .frz { cls := .type "dict", data := .dict #[] } (.dK [])) (t' := s.toks) (fun _ _ q => Heap.get?_push_of_some _ q) (Nat.le_refl _) ⟨Heap.get?_push_size _ rfl, dk_empty s.heap I.big⟩, rfl, ?_⟩
  exact h _ _ _ le (rh.frz hf) (.dct upd_same rfl .nil)⟩
/-- the body raises nothing -/
def tryS (m : SS) : SS := fun cl env st => match m cl env st with
  | .exc _ _ _ => .stuck
  | r => r
end
end PyI
end

section
set_option Elab.async false
set_option linter.all false
set_option maxRecDepth 100000
set_option maxHeartbeats 4000000
/-! What is left for a text of the program: tests by cases, stores in parallel, the sides of the rules. -/
namespace PyI
open PySem PySem.Spec PyProof.Rows L2

def ifT (t a b : TT') : TT' := fun cl env st => (t cl env st).bind fun x s1 => match x with
  | true => a cl env s1
  | false => b cl env s1
def parS (is : List Nat) (as : AA) : SS := fun cl env st => (as cl env st).toS env fun ds s => if ds.length = is.length then .nx (putE (is.zip ds) env) s else .stuck
def stuckS : SS := fun _ _ _ => .stuck
section
variable {g : Gb} {cl : CL} {n : Nat} {X : Cx} {W : WX} {e o a b c : Expr} {es : List Expr} {ma mb mc mo : EE} {mt mu mv : TT'} {ms : AA} {pos p2 : Pos}
theorem s_ifT (hc : PT X c (rdT g cl W mt)) (ha : PT X a (rdT g cl W mu)) (hb : PT X b (rdT g cl W mv)) : PT X (.IfExp c a b pos) (rdT g cl W (ifT mt mu mv)) := by
  refine ⟨fun pins s σ H Q I ⟨w, env, st, rh, re, h⟩ => ?_⟩
  rw [arm_isTrue_IfExp]
  refine wpAny_bind (thn (hc.run pins s σ H _ I ⟨w, env, st, rh, re, h.bind⟩) fun k s1 ⟨H1, I1, w1, d, t1, le1, rh1, ek, h1⟩ => ?_)
  cases (show k = d from ek)
  cases k with
  | true => exact ha.run pins s1 σ H1 Q I1 ⟨w1, env, t1, rh1, re.mono le1, h1⟩
  | false => exact hb.run pins s1 σ H1 Q I1 ⟨w1, env, t1, rh1, re.mono le1, h1⟩
/-! sides -/
def star : Expr → Bool
  | .Starred .. => true
  | _ => false
theorem star_each {env : PySem.Env} (h : star a = false) : starEach (a :: es) env = (false, eval a env) :: starEach es env := by
  cases a <;> first | rfl | cases h
theorem asg_each {env : PySem.Env} (h : star a = false) : assignEach (a :: es) env = (false, assign a env) :: assignEach es env := by
  cases a <;> first | rfl | cases h
theorem star_none {env : PySem.Env} : ∀ {es : List Expr}, es.all (fun e => !star e) = true → (starEach es env).any (·.1) = false
  | [], _ => rfl
  | a :: es, h => by
    rw [List.all_cons, Bool.and_eq_true] at h
    have ha : star a = false := by simpa using h.1
    rw [star_each ha, List.any_cons, star_none h.2]
    rfl
theorem back_any {env : PySem.Env} (h : es.all (fun e => !star e) = true) : (backTo pos (starEach es env)).any (·.1) = false := by
  have : ∀ l : List (Bool × Sem Value), (backTo pos l).any (·.1) = l.any (·.1) := by
    intro l
    unfold backTo
    rw [List.any_map]
    rfl
  rw [this]
  exact star_none h
theorem back_all {env : PySem.Env} (h : es.all (fun e => !star e) = true) : (backTo pos (starEach es env)).all (fun x => !x.1) = true := by
  have := back_any (pos := pos) (env := env) h
  rw [List.all_eq_true]
  intro x hx
  rw [List.any_eq_false] at this
  simpa using this x hx
def isSlice : Expr → Bool
  | .Slice .. => true
  | _ => false
theorem plain_ix (h : isSlice b = false) : PlainIx b := by
  cases b <;> first | (intro _ _; rfl) | cases h
def isSet : Expr → Bool
  | .Set .. => true
  | _ => false
theorem not_marks {op : CmpOp} (h : isSet b = false) : behindInMarks op b = false := by
  cases b <;> first | rfl | cases h
theorem not_folded {env : PySem.Env} (h : isSet b = false) : ∀ x, foldedSetIterable b env x = pure x := by
  cases b <;> first | (intro _; rfl) | cases h
/-- as a test by its value -/
def plainT : Expr → Bool
  | .UnaryOp .Not _ _ => false
  | .BoolOp .. => false
  | .IfExp .. => false
  | .Compare .. => false
  | _ => true
theorem plain_true {env : PySem.Env} (h : plainT a = true) : ∀ whole, isTrue a env whole = (do let v ← whole; standAt a.pos; holding [v] (truthy v)) := by
  cases a with
  | UnaryOp op x p => cases op <;> first | (intro _; rfl) | cases h
  | BoolOp => cases h
  | IfExp => cases h
  | Compare => cases h
  | _ => intro _; rfl
def isComp : Expr → Bool
  | .ListComp .. => true
  | .SetComp .. => true
  | .DictComp .. => true
  | _ => false
theorem no_swap {env : PySem.Env} {tg : Option Expr} {k : Nat} (h : isComp a = false) : swapsWith a tg k env = pure false := by
  cases a <;> first | rfl | cases h
def plainBase : Expr → Bool
  | .Call (.Name _ _) [] [] _ => false
  | _ => true
theorem plain_base {env : PySem.Env} {nm : Str} (h : plainBase o = true) : attributeBase o nm env (eval o env) = eval o env := by
  unfold attributeBase
  split
  · cases h
  · rfl
theorem few_ok {env : PySem.Env} (h : es.all (fun e => !star e) = true) (hn : es.length < 30) : ((backTo pos (starEach es env)).all (fun x => !x.1) && (backToKw pos (keywordEach [] env)).all (fun x => x.1.isSome)
      && decide (es.length + ([] : List Keyword).length + (if ([] : List Keyword).isEmpty then 0 else 1) < 30)) = true := by
  rw [back_all h, Bool.true_and]
  have e : (backToKw pos (keywordEach [] env)).all (fun x => x.1.isSome) = true := rfl
  rw [e, Bool.true_and]
  exact decide_eq_true (by simpa using hn)
/-! stores in parallel -/
theorem s_par {i j : Nat} {x y : Str} {px py pt pt2 : Pos} {kt k2 : Nat} (hc : X.calm = true) (hN : X.N.Nodup) (hi : X.N[i]? = some x) (hj : X.N[j]? = some y) (hij : i ≠ j)
    (hx : X.env.scope.names.lookup x = some .local) (hy : X.env.scope.names.lookup y = some .local) (ha : PA X [a, b] (rdA g cl W ms))
    (hw : swappedStores [.Tuple [.Name x px, .Name y py] kt pt] (.Tuple [a, b] k2 pt2) X.env = pure (some [x, y])) :
    PS X (.Assign [.Tuple [.Name x px, .Name y py] kt pt] (.Tuple [a, b] k2 pt2) pos) (rdS g cl W (parS [i, j] ms)) :=
  (ps_par hc hN hi hj hij hx hy ha hw).weak fun D σ H ⟨w, env, st, rh, re, h⟩ => by
    refine ⟨w, env, st, rh, re, (h.toS re).imp fun vs H1 ⟨w1, ds, s1, le1, rh1, rx, h1⟩ => ?_⟩
    split at h1
    · rename_i hl
      cases rx with
      | nil => cases hl
      | cons a r =>
        cases r with
        | nil => cases hl
        | cons b r =>
          cases r with
          | nil => exact ⟨_, _, rfl, h1 w1 _ H1 (.refl _) rh1 (((re.mono le1).set i a).set j b)⟩
          | cons => cases hl
    · exact h1.elim
theorem s_par3 {i j l : Nat} {x y z : Str} {px py pz pt pt2 : Pos} {kt k2 : Nat} (hc : X.calm = true) (hN : X.N.Nodup) (hi : X.N[i]? = some x) (hj : X.N[j]? = some y) (hl : X.N[l]? = some z) (hij : i ≠ j) (hil : i ≠ l) (hjl : j ≠ l)
    (hx : X.env.scope.names.lookup x = some .local) (hy : X.env.scope.names.lookup y = some .local) (hz : X.env.scope.names.lookup z = some .local) (ha : PA X [a, b, c] (rdA g cl W ms))
    (hw : swappedStores [.Tuple [.Name x px, .Name y py, .Name z pz] kt pt] (.Tuple [a, b, c] k2 pt2) X.env = pure (some [x, y, z])) :
    PS X (.Assign [.Tuple [.Name x px, .Name y py, .Name z pz] kt pt] (.Tuple [a, b, c] k2 pt2) pos) (rdS g cl W (parS [i, j, l] ms)) :=
  (ps_par3 hc hN hi hj hl hij hil hjl hx hy hz ha hw).weak fun D σ H ⟨w, env, st, rh, re, h⟩ => by
    refine ⟨w, env, st, rh, re, (h.toS re).imp fun vs H1 ⟨w1, ds, s1, le1, rh1, rx, h1⟩ => ?_⟩
    split at h1
    · rename_i hl
      cases rx with
      | nil => cases hl
      | cons a r =>
        cases r with
        | nil => cases hl
        | cons b r =>
          cases r with
          | nil => cases hl
          | cons c r =>
            cases r with
            | nil => exact ⟨_, _, _, rfl, h1 w1 _ H1 (.refl _) rh1 ((((re.mono le1).set i a).set j b).set l c)⟩
            | cons => cases hl
    · exact h1.elim
/-! try, the body raising nothing -/
theorem s_try {bd : List Stmt} {h₀ : ExceptHandler} {hs : List ExceptHandler} {m : SS} (hb : PSs X.nox bd (rdS g cl W0 m)) : PS X (.Try bd (h₀ :: hs) [] [] pos) (rdS g cl W (tryS m)) :=
  (ps_try_thru0 hb).weak fun D σ H ⟨w, env, st, rh, re, h⟩ => by
    refine ⟨w, env, st, rh, re, ?_⟩
    unfold tryS at h
    cases q : m cl env st with
    | nx e s => rw [q] at h; exact h
    | ret d s => rw [q] at h; exact h
    | bk e s => rw [q] at h; exact h
    | ct e s => rw [q] at h; exact h
    | exc x e s => rw [q] at h; exact h.elim
    | stuck => rw [q] at h; exact h.elim
theorem s_stuckS' {st : Stmt} : PS X st (rdS g cl W stuckS) := s_stuckS fun _ _ _ => rfl
end
end PyI
end

section
set_option Elab.async false
set_option linter.all false
set_option maxRecDepth 100000
set_option maxHeartbeats 4000000
/-! From a text of the program to its interpretation. -/
namespace PyI
open PySem PySem.Spec PyProof.Rows L2
section
variable {g : Gb} {cl : CL} {n : Nat} {X : Cx} {W : WX} {e o a b c : Expr} {es : List Expr} {ma mb mc mo : EE} {mt mu mv : TT'} {ms : AA} {pos p2 : Pos}
variable {tg iter elt : Expr} {ifs : List Expr} {scope : Scope} {own : List (Str × Nat)} {mi : II} {mg : GG} {i : Nat} {y : Str} {py spos : Pos}
theorem rd_setlc {m : AA} {k : List D → Store → Res D} {D : Ends} {σ : L2.St} {H : Hp} (h : rdS g cl W (asgS (fun cl env st => (m cl env st).bind k) (nameG i)) D σ H) :
    ∃ w env st, RelH g w H st ∧ RelE g w σ env ∧ Out g (RelD g) W w σ ((m cl env st).bind k) (fun x H1 => gName i x σ H1 D.nx) := by
  obtain ⟨w, env, st, rh, re, h⟩ := rd_asg h
  exact ⟨w, env, st, rh, re, h.imp fun v H1 ⟨w1, s1, d, l, rh1, rv, e, hq⟩ => by
    cases (show some [(i, d)] = some l from e)
    exact hq [v] (.cons rv .nil)⟩
theorem s_setLc (hc : X.calm = true) (hN : X.N.Nodup) (hy : X.N[i]? = some y) (hyl : X.env.scope.names.lookup y = some .local)
    (hsw : swapsWith (.ListComp elt [⟨tg, iter, ifs, 0⟩] scope pos) (some (.Name y py)) spos.line X.env = pure true) (hi : PI X tg iter (rdI g cl W mi)) (ok : BlkOk X.N X.env.scope scope own)
    (hg : ∀ (s : Shared) (H : Hp) (C : Addr) (cs : List (Str × Addr)) (fp : List Addr), PG (X.blk s H scope (compEnvC scope cs C X.env) fp) tg (rdG g mg))
    (ht : ∀ (s : Shared) (H : Hp) (C : Addr) (cs : List (Str × Addr)) (fp : List Addr), PTs (X.blk s H scope (compEnvC scope cs C X.env) fp) ifs (rdT g cl W0 mt))
    (he : ∀ (s : Shared) (H : Hp) (C : Addr) (cs : List (Str × Addr)) (fp : List Addr), PE (X.blk s H scope (compEnvC scope cs C X.env) fp) elt (rdE g cl W0 ma))
    (hs : ∀ x, foldedSetIterable iter X.env x = pure x) (hown : ∀ d l, mg d = some l → ∀ p ∈ l, p.1 ∈ own.map (·.2)) :
    PS X (.Assign [.Name y py] (.ListComp elt [⟨tg, iter, ifs, 0⟩] scope pos) spos) (rdS g cl W (asgS (lcM (compA (own.map (·.2)) mi mg mt ma)) (nameG i))) :=
  (ps_setLc hc hN hy hyl hsw hi ok hg ht he hs).weak fun D σ H h => rd_lc (tW := fun _ => rdE g cl W0 ma) (K := X.K) hown (k := fun xs s1 => .ok (.lst xs) s1) (fun w1 w2 D1 H2 st acc vs a b c d e f h => end_frz w1 w2 D1 H2 st acc vs a b c d e f h) (rd_setlc h)
theorem s_setLcN (hc : X.calm = true) (hN : X.N.Nodup) (hy : X.N[i]? = some y) (hyl : X.env.scope.names.lookup y = some .local)
    (hsw : swapsWith (.ListComp elt [⟨tg, iter, ifs, 0⟩] scope pos) (some (.Name y py)) spos.line X.env = pure true) (hi : PI X tg iter (rdI g cl W mi)) (ok : BlkOk X.N X.env.scope scope own)
    (hg : ∀ (s : Shared) (H : Hp) (C : Addr) (cs : List (Str × Addr)) (fp : List Addr), PG (X.blk s H scope (compEnvC scope cs C X.env) fp) tg (rdG g mg))
    (ht : ∀ (s : Shared) (H : Hp) (C : Addr) (cs : List (Str × Addr)) (fp : List Addr), PTs (X.blk s H scope (compEnvC scope cs C X.env) fp) ifs (rdT g cl W0 mt))
    (he : ∀ (s : Shared) (H : Hp) (C : Addr) (cs : List (Str × Addr)) (fp : List Addr), PE (X.blk s H scope (compEnvC scope cs C X.env) fp) elt (rdE g cl W0 ma))
    (hs : ∀ x, foldedSetIterable iter X.env x = pure x) (hown : ∀ d l, mg d = some l → ∀ p ∈ l, p.1 ∈ own.map (·.2)) :
    PS X (.Assign [.Name y py] (.ListComp elt [⟨tg, iter, ifs, 0⟩] scope pos) spos) (rdS g cl W (asgS (lcN (compA (own.map (·.2)) mi mg mt ma)) (nameG i))) :=
  (ps_setLc hc hN hy hyl hsw hi ok hg ht he hs).weak fun D σ H h => rd_lc (tW := fun _ => rdE g cl W0 ma) (K := X.K) hown (k := fun xs s1 => newL xs s1) (fun w1 w2 D1 H2 st acc vs a b c d e f h => end_new w1 w2 D1 H2 st acc vs a b c d e f h) (rd_setlc h)
end
end PyI
end

section
set_option Elab.async false
set_option linter.all false
set_option maxRecDepth 100000
set_option maxHeartbeats 4000000
/-! The interpretation of a text, found by going through it. -/
namespace PyI
open PySem PySem.Spec PyProof.Rows L2

/-- what is known of the names -/
structure Cn where
  N : List Str
  sc : List (Str × NameKind)
  fn : Str → Bool
  fns : List (Str × Nat)
  cns : List (Str × D)
  mu : Pos → Bool
def idx (x : Str) : List Str → Option Nat
  | [] => none
  | y :: r => if x = y then some 0 else (idx x r).bind fun k => some (k + 1)
theorem idx_get {x : Str} : ∀ {N : List Str} {i : Nat}, idx x N = some i → N[i]? = some x
  | [], _, h => by cases h
  | y :: r, i, h => by
    unfold idx at h
    split at h
    · rename_i e
      cases Option.some.inj h
      exact congrArg some e.symm
    · cases q : idx x r with
      | none => rw [q] at h; cases h
      | some k =>
        rw [q] at h
        cases Option.some.inj h
        show r[k]? = some x
        exact idx_get q
def look {α : Type} (x : Str) : List (Str × α) → Option α
  | [] => none
  | (y, v) :: r => if x = y then some v else look x r
theorem look_mem {α : Type} {x : Str} {v : α} : ∀ {l : List (Str × α)}, look x l = some v → (x, v) ∈ l
  | [], h => by cases h
  | (y, u) :: r, h => by
    unfold look at h
    split at h
    · rename_i e
      cases Option.some.inj h
      subst e
      exact List.mem_cons_self
    · exact List.mem_cons_of_mem _ (look_mem h)
/-- a def's number and its arity -/
def lookF (x : Str) : List (Str × Nat) → Option (Nat × Nat)
  | [] => none
  | (y, k) :: r => if x = y then some (0, k) else (lookF x r).bind fun p => some (p.1 + 1, p.2)
theorem lookF_get {x : Str} {k : Nat} : ∀ {l : List (Str × Nat)} {i : Nat}, lookF x l = some (i, k) → l[i]? = some (x, k)
  | [], _, h => by cases h
  | (y, u) :: r, i, h => by
    unfold lookF at h
    split at h
    · rename_i e
      cases Option.some.inj h
      subst e
      rfl
    · cases q : lookF x r with
      | none => rw [q] at h; cases h
      | some p =>
        rw [q] at h
        obtain ⟨j, m⟩ := p
        cases Option.some.inj h
        show r[j]? = some (x, m)
        exact lookF_get q
def guardO (b : Bool) : Option Unit := if b then some () else none
theorem guardO_some {b : Bool} {u : Unit} (h : guardO b = some u) : b = true := by
  unfold guardO at h
  split at h
  · assumption
  · cases h
def tyTable : List (Str × String) := [("int", "int"), ("str", "str"), ("bool", "bool"), ("tuple", "tuple"), ("list", "list"), ("dict", "dict")]
def denName (C : Cn) (x : Str) : Option EE := match C.sc.lookup x with
  | some .local => (idx x C.N).bind fun i => some (varM i)
  | some .cell => (idx x C.N).bind fun i => some (varM i)
  | some .free => (idx x C.N).bind fun i => some (varM i)
  | some .globalImplicit => match look x C.cns with
    | some d => some (conM d)
    | none => (look x tyTable).bind fun n => some (conM (.ty n))
  | _ => none
def isGl (C : Cn) (x : Str) : Bool := match C.sc.lookup x with
  | some .globalImplicit => true
  | _ => false
def isLoc (C : Cn) (x : Str) : Bool := match C.sc.lookup x with
  | some .local => true
  | some .cell => true
  | _ => false
def isLocal (C : Cn) (x : Str) : Bool := match C.sc.lookup x with
  | some .local => true
  | _ => false
def binOf : Operator → Option (Store → D → D → Option D)
  | .Add => some opAdd
  | .Sub => some opSub
  | .Mult => some opMul
  | .FloorDiv => some opDiv
  | .Mod => some opMod
  | .Pow => some opPow
  | .LShift => some opShl
  | .BitAnd => some opAnd
  | .BitOr => some opOr
  | _ => none
def cmpOf : CmpOp → Option (Store → D → D → Option D)
  | .Lt => some cLt
  | .LtE => some cLe
  | .Gt => some cGt
  | .GtE => some cGe
  | .Eq => some cEq
  | .NotEq => some cNe
  | .Is => some cIs
  | .IsNot => some cIsNot
  | .In => some cIn
  | .NotIn => some cNotIn
/-- a builtin by its name and how many arguments -/
inductive Bn where
  | len | isi | all | tup | sum | int | lst | any | abs | max | min
def bnT : List (Str × Bn) := [("len", .len), ("isinstance", .isi), ("all", .all), ("tuple", .tup), ("sum", .sum), ("int", .int), ("list", .lst), ("any", .any), ("abs", .abs), ("max", .max), ("min", .min)]
def bnO (b : Bn) (k : Nat) (m : Bool) : Option BO := match b, k with
  | .len, 1 => some (keep bLen)
  | .isi, 2 => some (keep bIsi)
  | .all, 1 => some (keep bAll)
  | .tup, 1 => some (keep bTup)
  | .sum, 1 => some (keep bSum)
  | .int, 1 => some (keep bInt)
  | .lst, 1 => some (if m then bLstN else keep bLst)
  | .any, 1 => some (keep bAny)
  | .abs, 1 => some (keep bAbs)
  | .max, 2 => some (keep bMax2)
  | .max, 1 => some (keep bMax1)
  | .min, 2 => some (keep bMin2)
  | .min, 1 => some (keep bMin1)
  | _, _ => none
def bnOf (x : Str) (k : Nat) (m : Bool) : Option BO := (look x bnT).bind fun b => bnO b k m
inductive Mn where
  | append | extend | pop | index
def mtT : List (Str × Mn) := [("append", .append), ("extend", .extend), ("pop", .pop), ("index", .index)]
def mtO (b : Mn) (k : Nat) : Option MO := match b, k with
  | .append, 1 => some mAppend
  | .extend, 1 => some mExtend
  | .pop, 0 => some mPop
  | .pop, 1 => some mPopAt
  | .index, 1 => some mIndex
  | _, _ => none
def mtOf (x : Str) (k : Nat) : Option MO := (look x mtT).bind fun b => mtO b k
/-- what is walked by a name -/
inductive In where
  | range | enum | zip
def inT : List (Str × In) := [("range", .range), ("enumerate", .enum), ("zip", .zip)]
def isTup : Expr → Bool
  | .Tuple _ _ _ => true
  | _ => false
def inO (b : In) (k : Nat) (tg : Expr) : Option (Store → List D → Option IT) := match b, k with
  | .range, 1 => some rng1
  | .range, 2 => some rng2
  | .enum, 1 => if isTup tg then some enu else none
  | .zip, 2 => if isTup tg then some zips else none
  | _, _ => none
def tyNms (C : Cn) : List Expr → Option (List String)
  | [] => some []
  | .Name x _ :: r => (guardO (isGl C x)).bind fun _ => (look x tyTable).bind fun n => (tyNms C r).bind fun ns => some (n :: ns)
  | _ => none
def ownF (scope : Scope) : Nat → List Str → List (Str × Nat)
  | _, [] => []
  | k, x :: r => match scope.names.lookup x with
    | some .local => (x, k) :: ownF scope (k + 1) r
    | some .cell => (x, k) :: ownF scope (k + 1) r
    | _ => ownF scope (k + 1) r
/-- a block's own names, by their slots -/
def ownOf (N : List Str) (scope : Scope) : List (Str × Nat) := ownF scope 0 N
def relN (ns sc : List (Str × NameKind)) : List (Str × NameKind) := ns.map fun p => if (p.2 == .free && sc.lookup p.1 == some .cell) then (p.1, .cell) else p
def Cn.inn (C : Cn) (scope : Scope) : Cn := { C with sc := relN scope.names C.sc, fn := fun x => scope.names.lookup x == some .cell }
def scOf (C : Cn) : Scope := { kind := .function, names := C.sc, isGenerator := false, isCoroutine := false }
mutual
def denG : Nat → Cn → Expr → Option (GG × List Nat)
  | 0, _, _ => none
  | f + 1, C, e => match e with
    | .Name x _ => (idx x C.N).bind fun i => (guardO (isLoc C x && (C.fn x || isLocal C x))).bind fun _ => some (nameG i, [i])
    | .Tuple es _ _ => (denGs f C es).bind fun p => some (tupG p.1, p.2)
    | _ => none
def denGs : Nat → Cn → List Expr → Option (List GG × List Nat)
  | 0, _, _ => none
  | f + 1, C, es => match es with
    | [] => some ([], [])
    | e :: es => (denG f C e).bind fun p => (denGs f C es).bind fun q => some (p.1 :: q.1, p.2 ++ q.2)
end
mutual
def denE : Nat → Cn → Expr → Option EE
  | 0, _, _ => none
  | f + 1, C, e => match e with
    | .Name x _ => denName C x
    | .Constant c _ _ => match c with
      | .int i => some (conM (.int i))
      | .bool b => some (conM (.bl b))
      | .str x => some (conM (.str x))
      | .none => some (conM .non)
      | _ => none
    | .BinOp a op b _ => (binOf op).bind fun o => (denE f C a).bind fun ma => (denE f C b).bind fun mb => some (binM o ma mb)
    | .UnaryOp op a _ => match op with
      | .USub => (denE f C a).bind fun ma => some (unM opNeg ma)
      | .Not => (denE f C a).bind fun ma => some (notM ma)
      | _ => none
    | .Compare a ops bs _ => match ops, bs with
      | [op], [b] => (cmpOf op).bind fun o => (denE f C a).bind fun ma => (denE f C b).bind fun mb => (guardO (!isSet b)).bind fun _ => some (binM o ma mb)
      | [op, op'], [b, c] => (cmpOf op).bind fun o => (cmpOf op').bind fun o' => (denE f C a).bind fun ma => (denE f C b).bind fun mb => (denE f C c).bind fun mc => (guardO (!isSet c)).bind fun _ => some (chainM o o' ma mb mc)
      | _, _ => none
    | .BoolOp op es _ => denBV f C op es
    | .IfExp c a b _ => (denT f C c).bind fun mt => (denE f C a).bind fun ma => (denE f C b).bind fun mb => some (ifM mt ma mb)
    | .Tuple es _ _ => (denA f C es).bind fun ms => some (tupM ms)
    | .List es pos => (denA f C es).bind fun ms => some (if C.mu pos then lstN ms else lstM ms)
    | .Dict ks vs _ => match ks, vs with
      | [], [] => some noDict
      | _, _ => none
    | .Subscript a b _ => match b with
      | .Slice lo hi none _ => (denE f C a).bind fun ma => (denO f C lo).bind fun ml => (denO f C hi).bind fun mh => some (slM ma ml mh)
      | .Slice none none (some (.UnaryOp .USub (.Constant (.int 1) _ _) _)) _ => (denE f C a).bind fun ma => some (revM ma)
      | b => (guardO (!isSlice b)).bind fun _ => (denE f C a).bind fun ma => (denE f C b).bind fun mb => some (binM ixD ma mb)
    | .Call fe args kws pos => match kws with
      | [] => match fe with
        | .Name x _ => (guardO (isGl C x)).bind fun _ => (guardO (args.all fun e => !star e)).bind fun _ => match lookF x C.fns with
          | some (i, k) => (guardO (args.length == k)).bind fun _ => match args with
            | [] => some (call0M i)
            | _ => (denA f C args).bind fun ms => some (callM i ms)
          | none => match args with
            | [] => none
            | [a, .Tuple tes _ _] => (guardO (x == "isinstance")).bind fun _ => (denE f C a).bind fun ma => (tyNms C tes).bind fun ns => (guardO (ns.length ≤ 100)).bind fun _ => some (isisM ns ma)
            | _ => (bnOf x args.length (C.mu pos)).bind fun o => (denA f C args).bind fun ms => some (bltM o ms)
        | .Attribute o name apos => (guardO (plainBase o && apos.endLine == pos.line && (args.all fun e => !star e) && decide (args.length < 30))).bind fun _ => (mtOf name args.length).bind fun mo => (denE f C o).bind fun ma =>
            match args with
            | [] => some (mtM mo ma nilM)
            | _ => (denA f C args).bind fun ms => some (mtM mo ma ms)
        | _ => none
      | _ => none
    | .ListComp elt gens scope pos => (denC f C elt gens scope).bind fun m => some (if C.mu pos then lcN m else lcM m)
    | _ => none
def denBV : Nat → Cn → BoolOp → List Expr → Option EE
  | 0, _, _, _ => none
  | f + 1, C, op, es => match es with
    | [] => none
    | [a] => denE f C a
    | a :: b :: r => (denE f C a).bind fun ma => (denBV f C op (b :: r)).bind fun mb => some (match op with
      | .And => andM ma mb
      | .Or => orM ma mb)
def denT : Nat → Cn → Expr → Option TT'
  | 0, _, _ => none
  | f + 1, C, e => match e with
    | .UnaryOp .Not a _ => (denT f C a).bind fun mt => some (notT mt)
    | .BoolOp op es _ => denBT f C op es
    | .IfExp c a b _ => (denT f C c).bind fun mt => (denT f C a).bind fun mu => (denT f C b).bind fun mv => some (ifT mt mu mv)
    | .Compare a ops bs _ => match ops, bs with
      | [op], [b] => (cmpOf op).bind fun o => (denE f C a).bind fun ma => (denE f C b).bind fun mb => (guardO (!isSet b)).bind fun _ => some (boolT (binM o ma mb))
      | [op, op'], [b, c] => (cmpOf op).bind fun o => (cmpOf op').bind fun o' => (denE f C a).bind fun ma => (denE f C b).bind fun mb => (denE f C c).bind fun mc => (guardO (!isSet c)).bind fun _ => some (boolT (chainM o o' ma mb mc))
      | _, _ => none
    | e => (guardO (plainT e)).bind fun _ => (denE f C e).bind fun ma => some (boolT ma)
def denBT : Nat → Cn → BoolOp → List Expr → Option TT'
  | 0, _, _, _ => none
  | f + 1, C, op, es => match es with
    | [] => none
    | [a] => denT f C a
    | a :: b :: r => (denT f C a).bind fun ma => (denBT f C op (b :: r)).bind fun mb => some (match op with
      | .And => andT ma mb
      | .Or => orT ma mb)
def denA : Nat → Cn → List Expr → Option AA
  | 0, _, _ => none
  | f + 1, C, es => match es with
    | [] => some nilM
    | a :: r => (guardO (!star a)).bind fun _ => (denE f C a).bind fun ma => (denA f C r).bind fun ms => some (consM ma ms)
def denO : Nat → Cn → Option Expr → Option OO
  | 0, _, _ => none
  | f + 1, C, o => match o with
    | none => some noO
    | some a => (denE f C a).bind fun ma => some (someO ma)
def denI : Nat → Cn → Expr → Expr → Option II
  | 0, _, _, _ => none
  | f + 1, C, tg, e => match e with
    | .Call (.Name x _) args [] _ => match look x inT with
      | some b => (guardO (isGl C x && (args.all fun e => !star e))).bind fun _ => (inO b args.length tg).bind fun o => (denA f C args).bind fun ms => some (argM o ms)
      | none => (denE f C e).bind fun ma => some (seqI ma)
    | _ => (denE f C e).bind fun ma => some (seqI ma)
def denIfs : Nat → Cn → List Expr → Option TT'
  | 0, _, _ => none
  | f + 1, C, es => match es with
    | [] => some yesT
    | [c] => denT f C c
    | _ => none
def denC : Nat → Cn → Expr → List Comprehension → Scope → Option AA
  | 0, _, _, _, _ => none
  | f + 1, C, elt, gens, scope => match gens with
    | [⟨tg, iter, ifs, 0⟩] => (guardO (blkC C.N (scOf C) scope (ownOf C.N scope) && !isSet iter)).bind fun _ => (denI f C tg iter).bind fun mi => (denG f (C.inn scope) tg).bind fun p =>
        (guardO (p.2.all fun i => ((ownOf C.N scope).map (·.2)).contains i)).bind fun _ => (denIfs f (C.inn scope) ifs).bind fun mt => (denE f (C.inn scope) elt).bind fun ma => some (compA ((ownOf C.N scope).map (·.2)) mi p.1 mt ma)
    | _ => none
end
mutual
def denS : Nat → Cn → Stmt → Option SS
  | 0, _, _ => none
  | f + 1, C, st => match st with
    | .Expr a _ => (guardO (!isComp a)).bind fun _ => (denE f C a).bind fun ma => some (exprS ma)
    | .Pass _ => some skipS
    | .Break _ => some bkS
    | .Continue _ => some ctS
    | .Raise _ _ _ => some stuckS
    | .Return r _ => match r with
      | none => some retN
      | some a => (denE f C a).bind fun ma => some (retS ma)
    | .If c a b _ => (denT f C c).bind fun mt => (denSs f C a).bind fun m1 => (denSs f C b).bind fun m2 => some (ifS mt m1 m2)
    | .While c a b _ => match b with
      | [] => (denT f C c).bind fun mt => (denSs f C a).bind fun m1 => some (whileS mt m1)
      | _ => none
    | .For tg it a b _ => match b with
      | [] => (guardO (!isSet it)).bind fun _ => (denI f C tg it).bind fun mi => (denG f C tg).bind fun p => (denSs f C a).bind fun m1 => some (forS mi p.1 m1)
      | _ => none
    | .Try bd hs oe fi _ => match hs, oe, fi with
      | _ :: _, [], [] => (denSs f C bd).bind fun m => some (tryS m)
      | _, _, _ => none
    | .Assign tgs a pos => match tgs with
      | [tg] => match tg with
        | .Name x _ => (idx x C.N).bind fun i => (guardO (isLoc C x)).bind fun _ => match a with
          | .ListComp elt gens scope p2 => (denC f C elt gens scope).bind fun m => some (asgS (if C.mu p2 then lcN m else lcM m) (nameG i))
          | a => (guardO (!isComp a)).bind fun _ => (denE f C a).bind fun ma => some (asgS ma (nameG i))
        | .Subscript o i _ => (guardO (!isSlice i && !isComp a)).bind fun _ => (denE f C a).bind fun ma => (denE f C o).bind fun mo => (denE f C i).bind fun mi => some (setS ma mo mi)
        | .Tuple ts _ _ => match a with
          | .Tuple vs _ _ => if vs.all (foldedForSure 8) then (denE f C a).bind fun ma => (denG f C tg).bind fun p => some (asgS ma p.1) else match ts, vs with
            | [.Name x px, .Name y py], [_, _] => (idx x C.N).bind fun i => (idx y C.N).bind fun j => (guardO (isLocal C x && isLocal C y && px.line == py.line && x != y && !(vs.all (constantsAlone 8)) && (vs.all fun e => !star e))).bind fun _ => (denA f C vs).bind fun ms => some (parS [i, j] ms)
            | [.Name x px, .Name y py, .Name z pz], [_, _, _] => (idx x C.N).bind fun i => (idx y C.N).bind fun j => (idx z C.N).bind fun k =>
                (guardO (isLocal C x && isLocal C y && isLocal C z && px.line == py.line && px.line == pz.line && x != y && x != z && y != z && !(vs.all (constantsAlone 8)) && (vs.all fun e => !star e))).bind fun _ => (denA f C vs).bind fun ms => some (parS [i, j, k] ms)
            | _, _ => none
          | a => (guardO (!isComp a)).bind fun _ => (denE f C a).bind fun ma => (denG f C tg).bind fun p => some (asgS ma p.1)
        | _ => none
      | _ => none
    | _ => none
def denSs : Nat → Cn → List Stmt → Option SS
  | 0, _, _ => none
  | f + 1, C, sts => match sts with
    | [] => some skipS
    | st :: r => (denS f C st).bind fun m1 => (denSs f C r).bind fun m2 => some (seqS m1 m2)
end
end PyI
end

section
set_option Elab.async false
set_option linter.all false
set_option maxRecDepth 100000
set_option maxHeartbeats 4000000
/-! .. and that it is what the rules say. -/
namespace PyI
open PySem PySem.Spec PyProof.Rows L2

def bltNames : List Str := ["int", "str", "bool", "tuple", "list", "dict", "len", "isinstance", "all", "sum", "any", "abs", "max", "min", "range", "enumerate", "zip"]
structure Glob (g : Gb) (C : Cn) : Prop where
  fns : ∀ (i k : Nat) (x : Str), C.fns[i]? = some (x, k) → g.mg x = some (.ref (g.fa i)) ∧ PySem.W.keepIn g.K (.ref (g.fa i)) = true ∧ Binds g.K (g.fd i) (g.fp i) [] ∧ (g.fp i).length = k ∧ (x == ("__debug__" : Str)) = false
  cns : ∀ (x : Str) (d : D), (x, d) ∈ C.cns → (x == ("__debug__" : Str)) = false ∧ ∃ v u, g.mg x = some u ∧ RelV v u ∧ ∀ w, RelD g w v d
  blt : ∀ x ∈ bltNames, g.mg x = none
  nms : ∀ x ∈ C.N, (x == ("__debug__" : Str)) = false ∧ (x == ("__classdict__" : Str)) = false
structure St (g : Gb) (cl : CL) (n : Nat) (C : Cn) (X : Cx) (W : WX) : Prop where
  G : Good g cl n X W
  N : X.N = C.N
  sc : X.env.scope.names = C.sc
  kind : X.env.scope.kind = .function
  fn : ∀ x, C.fn x = true → X.fn x = true
  gl : Glob g C
section
variable {g : Gb} {cl : CL} {n : Nat} {C : Cn} {X : Cx} {W : WX}
theorem St.mg (S : St g cl n C X W) {x : Str} {o : Option Value} (h : g.mg x = o) : X.mg x = o := by rw [S.G.mg]; exact h
theorem St.getN (S : St g cl n C X W) {x : Str} {i : Nat} (h : idx x C.N = some i) : X.N[i]? = some x := by rw [S.N]; exact idx_get h
theorem St.nm (S : St g cl n C X W) {x : Str} {i : Nat} (h : idx x C.N = some i) : (x == ("__debug__" : Str)) = false ∧ (x == ("__classdict__" : Str)) = false :=
  S.gl.nms x (List.mem_iff_getElem?.mpr ⟨i, idx_get h⟩)
theorem St.isGl (S : St g cl n C X W) {x : Str} (h : isGl C x = true) : Gl X x := by
  unfold PyI.isGl at h
  show X.env.scope.names.lookup x = _
  rw [S.sc]
  split at h
  · assumption
  · cases h
theorem St.isLoc (S : St g cl n C X W) {x : Str} (h : isLoc C x = true) : L2.Loc X.env.scope x := by
  unfold PyI.isLoc at h
  unfold L2.Loc
  rw [S.sc]
  split at h
  · exact .inl (by assumption)
  · exact .inr (by assumption)
  · cases h
theorem St.isLocal (S : St g cl n C X W) {x : Str} (h : isLocal C x = true) : X.env.scope.names.lookup x = some .local := by
  unfold PyI.isLocal at h
  rw [S.sc]
  split at h
  · assumption
  · cases h
theorem St.hf (S : St g cl n C X W) {x : Str} (h : (C.fn x || PyI.isLocal C x) = true) : X.fn x = true ∨ X.env.scope.names.lookup x = some .local := by
  rw [Bool.or_eq_true] at h
  exact h.imp (S.fn x) S.isLocal
theorem St.name (S : St g cl n C X W) {x : Str} {pos : Pos} {m : EE} (h : denName C x = some m) : PE X (.Name x pos) (rdE g cl W m) := by
  unfold denName at h
  have var : ∀ i, idx x C.N = some i → Vis X.env.scope x → PE X (.Name x pos) (rdE g cl W (varM i)) := fun i hi hv => s_var (S.getN hi) hv (S.nm hi).1 (S.nm hi).2
  split at h
  · rename_i q
    obtain ⟨i, hi, e⟩ := Option.bind_eq_some_iff.mp h
    cases Option.some.inj e
    exact var i hi (.inl (by rw [S.sc]; exact q))
  · rename_i q
    obtain ⟨i, hi, e⟩ := Option.bind_eq_some_iff.mp h
    cases Option.some.inj e
    exact var i hi (.inr (.inl (by rw [S.sc]; exact q)))
  · rename_i q
    obtain ⟨i, hi, e⟩ := Option.bind_eq_some_iff.mp h
    cases Option.some.inj e
    exact var i hi (.inr (.inr (by rw [S.sc]; exact q)))
  · rename_i q
    have hg : Gl X x := by
      show X.env.scope.names.lookup x = _
      rw [S.sc]
      exact q
    split at h
    · rename_i d hd
      cases Option.some.inj h
      obtain ⟨h1, v, u, h2, h3, h4⟩ := S.gl.cns x d (look_mem hd)
      exact s_glob hg (S.mg h2) h3 h4 h1
    · obtain ⟨t, ht, e⟩ := Option.bind_eq_some_iff.mp h
      cases Option.some.inj e
      have hm := look_mem ht
      have key : x ∈ bltNames ∧ bootBuiltins x = some (.type t) ∧ x ≠ "__name__" ∧ (x == ("__debug__" : Str)) = false := by
        simp only [tyTable, List.mem_cons, List.not_mem_nil, or_false, Prod.mk.injEq] at hm
        rcases hm with ⟨rfl, rfl⟩ | ⟨rfl, rfl⟩ | ⟨rfl, rfl⟩ | ⟨rfl, rfl⟩ | ⟨rfl, rfl⟩ | ⟨rfl, rfl⟩ <;> exact ⟨by decide, rfl, by decide, by decide⟩
      exact con_ok (pe_bltn hg (S.mg (S.gl.blt x key.1)) key.2.1 (v := .ty t) rfl key.2.2.1 key.2.2.2) fun _ => .ty t
  · cases h
theorem St.hu (S : St g cl n C X W) : X.A.units + 65 < cLine := by have := S.G.room.un; omega
theorem St.bin (S : St g cl n C X W) {op : Operator} {o : Store → D → D → Option D} (h : binOf op = some o) : OpR X (binaryOp op) (rOp g o) := by
  unfold binOf at h
  split at h
  · cases h; exact o_add S.G.K
  · cases h; exact o_sub
  · cases h; exact o_mul S.G.K
  · cases h; exact o_div
  · cases h; exact o_mod
  · cases h; exact o_pow
  · cases h; exact o_shl
  · cases h; exact o_and
  · cases h; exact o_or
  · cases h
theorem St.cmp (S : St g cl n C X W) {op : CmpOp} {o : Store → D → D → Option D} (h : cmpOf op = some o) : OpR X (compareOp op) (rOp g o) := by
  have hu := S.hu
  unfold cmpOf at h
  split at h
  · cases h; exact o_lt
  · cases h; exact o_le
  · cases h; exact o_gt
  · cases h; exact o_ge
  · cases h; exact o_eq S.G.K (by omega)
  · cases h; exact o_ne S.G.K (by omega)
  · cases h; exact o_is
  · cases h; exact o_isnot
  · cases h; exact o_in S.G.K hu
  · cases h; exact o_notin S.G.K hu
theorem St.blt (S : St g cl n C X W) {x : Str} {k : Nat} {m : Bool} {o : BO} (h : bnOf x k m = some o) : x ∈ bltNames ∧ x ≠ "__name__" ∧ (x == ("__debug__" : Str)) = false ∧
    ((∃ id, bootBuiltins x = some (.builtin id) ∧ CallR X (.builtin id) (rBl g o)) ∨ ∃ T, bootBuiltins x = some (.type T) ∧ CallR X (.type T) (rBl g o)) := by
  have hK := S.G.K
  have hc := S.G.calm
  obtain ⟨b, hb, h⟩ := Option.bind_eq_some_iff.mp h
  have hm := look_mem hb
  simp only [bnT, List.mem_cons, List.not_mem_nil, or_false, Prod.mk.injEq] at hm
  rcases hm with ⟨rfl, rfl⟩ | ⟨rfl, rfl⟩ | ⟨rfl, rfl⟩ | ⟨rfl, rfl⟩ | ⟨rfl, rfl⟩ | ⟨rfl, rfl⟩ | ⟨rfl, rfl⟩ | ⟨rfl, rfl⟩ | ⟨rfl, rfl⟩ | ⟨rfl, rfl⟩ | ⟨rfl, rfl⟩
  all_goals refine ⟨by decide, by decide, by decide, ?_⟩
  · match k, h with
    | 1, h => cases h; exact .inl ⟨_, rfl, b_len hK⟩
  · match k, h with
    | 2, h => cases h; exact .inl ⟨_, rfl, b_isi hK⟩
  · match k, h with
    | 1, h => cases h; exact .inl ⟨_, rfl, b_all hK hc⟩
  · match k, h with
    | 1, h => cases h; exact .inr ⟨_, rfl, b_tup hK⟩
  · match k, h with
    | 1, h => cases h; exact .inl ⟨_, rfl, b_sum hK hc⟩
  · match k, h with
    | 1, h => cases h; exact .inr ⟨_, rfl, b_int⟩
  · match k, h with
    | 1, h =>
      cases h
      cases m with
      | true => exact .inr ⟨_, rfl, b_lstN hK⟩
      | false => exact .inr ⟨_, rfl, b_lst hK⟩
  · match k, h with
    | 1, h => cases h; exact .inl ⟨_, rfl, b_any hK hc⟩
  · match k, h with
    | 1, h => cases h; exact .inl ⟨_, rfl, b_abs⟩
  · match k, h with
    | 2, h => cases h; exact .inl ⟨_, rfl, b_max2 hc⟩
    | 1, h => cases h; exact .inl ⟨_, rfl, b_max1 hK hc⟩
  · match k, h with
    | 2, h => cases h; exact .inl ⟨_, rfl, b_min2 hc⟩
    | 1, h => cases h; exact .inl ⟨_, rfl, b_min1 hK hc⟩
theorem St.mt (S : St g cl n C X W) {x : Str} {k : Nat} {mo : MO} (h : mtOf x k = some mo) : ∃ id, Slot "list" x id ∧ typeOf (.builtin id) = pure (.type "method_descriptor") ∧ MtR X id (rMt g mo) := by
  obtain ⟨b, hb, h⟩ := Option.bind_eq_some_iff.mp h
  have hm := look_mem hb
  simp only [mtT, List.mem_cons, List.not_mem_nil, or_false, Prod.mk.injEq] at hm
  rcases hm with ⟨rfl, rfl⟩ | ⟨rfl, rfl⟩ | ⟨rfl, rfl⟩ | ⟨rfl, rfl⟩
  · match k, h with
    | 1, h => cases h; exact ⟨_, PySem.F.slot_list_append, PySem.F.type_list_append, m_append⟩
  · match k, h with
    | 1, h => cases h; exact ⟨_, PySem.F.slot_list_extend, PySem.F.type_list_extend, m_extend⟩
  · match k, h with
    | 0, h => cases h; exact ⟨_, PySem.F.slot_list_pop, PySem.F.type_list_pop, m_pop⟩
    | 1, h => cases h; exact ⟨_, PySem.F.slot_list_pop, PySem.F.type_list_pop, m_popAt⟩
  · match k, h with
    | 1, h => cases h; exact ⟨_, PySem.F.slot_list_index, PySem.F.type_list_index, m_index S.G.K⟩
end
end PyI
end

section
set_option Elab.async false
set_option linter.all false
set_option maxRecDepth 100000
set_option maxHeartbeats 4000000
/-! Soundness, by the fuel. -/
namespace PyI
open PySem PySem.Spec PyProof.Rows L2

section
variable {g : Gb} {cl : CL} {n : Nat}
structure Snd (g : Gb) (cl : CL) (n : Nat) (f : Nat) : Prop where
  G : ∀ {C : Cn} {X : Cx} {W : WX} {e : Expr} {p : GG × List Nat}, St g cl n C X W → denG f C e = some p → PG X e (rdG g p.1) ∧ ∀ d l, p.1 d = some l → ∀ q ∈ l, q.1 ∈ p.2
  Gs : ∀ {C : Cn} {X : Cx} {W : WX} {e : List Expr} {p : List GG × List Nat}, St g cl n C X W → denGs f C e = some p → PGs X e (rdGs g p.1) ∧ (∀ d l, tupGs p.1 d = some l → ∀ q ∈ l, q.1 ∈ p.2) ∧ (assignEach e X.env).length = p.1.length ∧ (assignEach e X.env).findIdx? (·.1) = none
  E : ∀ {C : Cn} {X : Cx} {W : WX} {e : Expr} {m : EE}, St g cl n C X W → denE f C e = some m → PE X e (rdE g cl W m)
  BV : ∀ {C : Cn} {X : Cx} {W : WX} {op : BoolOp} {e : List Expr} {m : EE} {pos : Pos}, St g cl n C X W → denBV f C op e = some m → PE X (.BoolOp op e pos) (rdE g cl W m)
  T : ∀ {C : Cn} {X : Cx} {W : WX} {e : Expr} {m : TT'}, St g cl n C X W → denT f C e = some m → PT X e (rdT g cl W m)
  BT : ∀ {C : Cn} {X : Cx} {W : WX} {op : BoolOp} {e : List Expr} {m : TT'} {pos : Pos}, St g cl n C X W → denBT f C op e = some m → PW X (.BoolOp op e pos) (rdT g cl W m)
  A : ∀ {C : Cn} {X : Cx} {W : WX} {e : List Expr} {m : AA}, St g cl n C X W → denA f C e = some m → PA X e (rdA g cl W m) ∧ (e.all fun e => !star e) = true ∧ ∀ cl env st xs s, m cl env st = .ok xs s → xs.length = e.length
  O : ∀ {C : Cn} {X : Cx} {W : WX} {e : Option Expr} {m : OO}, St g cl n C X W → denO f C e = some m → PO X e (rdO g cl W m)
  I : ∀ {C : Cn} {X : Cx} {W : WX} {tg e : Expr} {m : II}, St g cl n C X W → denI f C tg e = some m → PI X tg e (rdI g cl W m)
  Is : ∀ {C : Cn} {X : Cx} {W : WX} {e : List Expr} {m : TT'}, St g cl n C X W → denIfs f C e = some m → PTs X e (rdT g cl W m)
  C : ∀ {C : Cn} {X : Cx} {W : WX} {elt : Expr} {gens : List Comprehension} {scope : Scope} {m : AA}, St g cl n C X W → denC f C elt gens scope = some m →
    (∀ pos, PE X (.ListComp elt gens scope pos) (rdE g cl W (lcM m)) ∧ PE X (.ListComp elt gens scope pos) (rdE g cl W (lcN m))) ∧
    ∀ (i : Nat) (y : Str) (py pos spos : Pos), X.N[i]? = some y → X.env.scope.names.lookup y = some .local → swapsWith (.ListComp elt gens scope pos) (some (.Name y py)) spos.line X.env = pure true →
      PS X (.Assign [.Name y py] (.ListComp elt gens scope pos) spos) (rdS g cl W (asgS (lcM m) (nameG i))) ∧ PS X (.Assign [.Name y py] (.ListComp elt gens scope pos) spos) (rdS g cl W (asgS (lcN m) (nameG i)))

variable {C : Cn} {X : Cx} {W : WX}
theorem St.tgt (S : St g cl n C X W) {x : Str} {pos : Pos} {i : Nat} (h1 : idx x C.N = some i) (h2 : (PyI.isLoc C x && (C.fn x || PyI.isLocal C x)) = true) : PG X (.Name x pos) (rdG g (nameG i)) := by
  rw [Bool.and_eq_true] at h2
  exact s_gname S.G.nd (S.getN h1) (S.isLoc h2.1) (S.hf h2.2)
theorem St.blk (S : St g cl n C X W) {scope : Scope} {own : List (Str × Nat)} (ok : BlkOk X.N X.env.scope scope own) (s : Shared) (H : Hp) (Ca : Addr) (cs : List (Str × Addr)) (fp : List Addr) : St g cl n (C.inn scope) (X.blk s H scope (compEnvC scope cs Ca X.env) fp) W0 := by
  refine ⟨⟨S.G.P, S.G.w, S.G.K, S.G.mg, S.G.base, S.G.nd, S.G.calm, S.G.room, takes0, S.G.fns⟩, S.N, ?_, ok.kind, fun x h => h, ⟨S.gl.fns, S.gl.cns, S.gl.blt, S.gl.nms⟩⟩
  show (relabel scope X.env).names = relN scope.names C.sc
  unfold relabel relN
  show scope.names.map _ = _
  refine List.map_congr_left fun p hp => ?_
  obtain ⟨nm, k⟩ := p
  show (if (k == .free && X.env.scope.kind == .function && X.env.scope.names.lookup nm == some .cell) = true then _ else _) = _
  rw [S.kind, S.sc]
  have e : (ScopeKind.function == ScopeKind.function) = true := rfl
  rw [e, Bool.and_true]
theorem blk_ok (S : St g cl n C X W) {scope : Scope} (h : blkC C.N (scOf C) scope (ownOf C.N scope) = true) : BlkOk X.N X.env.scope scope (ownOf C.N scope) := by
  have ok := blkOk_by h
  refine ⟨ok.kind, ok.uniq, fun p hp => by rw [S.N]; exact ok.ix p hp, fun y hy e => ?_, fun y hy e => ?_⟩
  · rw [S.sc]
    exact ok.free y hy e
  · rw [S.N]
    exact ok.own y hy e
theorem snd_zero : Snd g cl n 0 := by
  constructor <;> (intros; rename_i h; cases h)
theorem snd_G {f : Nat} (F : Snd g cl n f) {e : Expr} {p : GG × List Nat} (S : St g cl n C X W) (h : denG (f + 1) C e = some p) : PG X e (rdG g p.1) ∧ ∀ d l, p.1 d = some l → ∀ q ∈ l, q.1 ∈ p.2 := by
  unfold denG at h
  split at h
  · obtain ⟨i, hi, h⟩ := Option.bind_eq_some_iff.mp h
    obtain ⟨u, hg, h⟩ := Option.bind_eq_some_iff.mp h
    cases Option.some.inj h
    refine ⟨S.tgt hi (guardO_some hg), fun d l e q hq => ?_⟩
    cases Option.some.inj e
    rw [List.mem_singleton.mp hq]
    exact List.mem_cons_self
  · obtain ⟨p1, h1, h⟩ := Option.bind_eq_some_iff.mp h
    cases Option.some.inj h
    obtain ⟨k1, k2, k3, k4⟩ := F.Gs S h1
    refine ⟨s_gtup S.G.K S.G.calm k1 k3 k4, fun d l e q hq => ?_⟩
    have e' : tupG p1.1 d = some l := e
    unfold tupG at e'
    split at e'
    · exact k2 _ _ e' q hq
    · cases e'
  · cases h
theorem den_nostar {f : Nat} {e : Expr} {p : GG × List Nat} (h : denG f C e = some p) : star e = false := by
  cases f with
  | zero => cases h
  | succ f =>
    unfold denG at h
    split at h
    · rfl
    · rfl
    · cases h
theorem denE_nostar {f : Nat} {e : Expr} {m : EE} (h : denE f C e = some m) : star e = false := by
  cases f with
  | zero => cases h
  | succ f =>
    cases e with
    | Starred => unfold denE at h; cases h
    | _ => rfl
theorem snd_Gs {f : Nat} (F : Snd g cl n f) {e : List Expr} {p : List GG × List Nat} (S : St g cl n C X W) (h : denGs (f + 1) C e = some p) :
    PGs X e (rdGs g p.1) ∧ (∀ d l, tupGs p.1 d = some l → ∀ q ∈ l, q.1 ∈ p.2) ∧ (assignEach e X.env).length = p.1.length ∧ (assignEach e X.env).findIdx? (·.1) = none := by
  unfold denGs at h
  split at h
  · cases Option.some.inj h
    refine ⟨s_gnil, fun d l e q hq => ?_, rfl, rfl⟩
    have e' : tupGs [] d = some l := e
    cases d with
    | nil => cases Option.some.inj e'; cases hq
    | cons _ _ => cases e'
  · rename_i a es
    obtain ⟨p1, h1, h⟩ := Option.bind_eq_some_iff.mp h
    obtain ⟨p2, h2, h⟩ := Option.bind_eq_some_iff.mp h
    cases Option.some.inj h
    obtain ⟨j1, j2⟩ := F.G S h1
    obtain ⟨k1, k2, k3, k4⟩ := F.Gs S h2
    have hs := asg_each (es := es) (env := X.env) (den_nostar h1)
    refine ⟨s_gcons j1 k1 (by rw [hs]; rfl), fun d l e q hq => ?_, by rw [hs, List.length_cons, k3]; rfl, ?_⟩
    · have e' : tupGs (p1.1 :: p2.1) d = some l := e
      cases d with
      | nil => cases e'
      | cons d ds =>
        have e2 : (match p1.1 d with
          | some a => match tupGs p2.1 ds with
            | some b => some (a ++ b)
            | none => none
          | none => none) = some l := e'
        cases q1 : p1.1 d with
        | none => rw [q1] at e2; cases e2
        | some la =>
          rw [q1] at e2
          cases q2 : tupGs p2.1 ds with
          | none => rw [q2] at e2; cases e2
          | some lb =>
            rw [q2] at e2
            cases Option.some.inj e2
            rcases List.mem_append.mp hq with hq | hq
            · exact List.mem_append_left _ (j2 d la q1 q hq)
            · exact List.mem_append_right _ (k2 ds lb q2 q hq)
    · rw [hs, List.findIdx?_cons, k4]
      rfl
theorem snd_BV {f : Nat} (F : Snd g cl n f) {op : BoolOp} {e : List Expr} {m : EE} {pos : Pos} (S : St g cl n C X W) (h : denBV (f + 1) C op e = some m) : PE X (.BoolOp op e pos) (rdE g cl W m) := by
  unfold denBV at h
  split at h
  · cases h
  · exact s_oneV (F.E S h)
  · obtain ⟨ma, h1, h⟩ := Option.bind_eq_some_iff.mp h
    obtain ⟨mb, h2, h⟩ := Option.bind_eq_some_iff.mp h
    cases Option.some.inj h
    cases op with
    | And => exact s_andV (F.E S h1) (F.BV S h2)
    | Or => exact s_orV (F.E S h1) (F.BV S h2)
theorem snd_BT {f : Nat} (F : Snd g cl n f) {op : BoolOp} {e : List Expr} {m : TT'} {pos : Pos} (S : St g cl n C X W) (h : denBT (f + 1) C op e = some m) : PW X (.BoolOp op e pos) (rdT g cl W m) := by
  unfold denBT at h
  split at h
  · cases h
  · cases op with
    | And => exact pw_and1 (F.T S h)
    | Or => exact pw_or1 (F.T S h)
  · obtain ⟨ma, h1, h⟩ := Option.bind_eq_some_iff.mp h
    obtain ⟨mb, h2, h⟩ := Option.bind_eq_some_iff.mp h
    cases Option.some.inj h
    cases op with
    | And => exact s_andT (F.T S h1) (F.BT S h2)
    | Or => exact s_orT (F.T S h1) (F.BT S h2)
theorem snd_T {f : Nat} (F : Snd g cl n f) {e : Expr} {m : TT'} (S : St g cl n C X W) (h : denT (f + 1) C e = some m) : PT X e (rdT g cl W m) := by
  unfold denT at h
  split at h
  · obtain ⟨mt, h1, h⟩ := Option.bind_eq_some_iff.mp h
    cases Option.some.inj h
    exact s_notT (F.T S h1)
  · exact (F.BT S h).pt
  · obtain ⟨mt, h1, h⟩ := Option.bind_eq_some_iff.mp h
    obtain ⟨ma, h2, h⟩ := Option.bind_eq_some_iff.mp h
    obtain ⟨mb, h3, h⟩ := Option.bind_eq_some_iff.mp h
    cases Option.some.inj h
    exact s_ifT (F.T S h1) (F.T S h2) (F.T S h3)
  · split at h
    · obtain ⟨o, h0, h⟩ := Option.bind_eq_some_iff.mp h
      obtain ⟨ma, h1, h⟩ := Option.bind_eq_some_iff.mp h
      obtain ⟨mb, h2, h⟩ := Option.bind_eq_some_iff.mp h
      obtain ⟨u, h3, h⟩ := Option.bind_eq_some_iff.mp h
      cases Option.some.inj h
      exact s_cmpT (S.cmp h0) (F.E S h1) (F.E S h2) (not_marks (by simpa using guardO_some h3))
    · obtain ⟨o, h0, h⟩ := Option.bind_eq_some_iff.mp h
      obtain ⟨o', h0', h⟩ := Option.bind_eq_some_iff.mp h
      obtain ⟨ma, h1, h⟩ := Option.bind_eq_some_iff.mp h
      obtain ⟨mb, h2, h⟩ := Option.bind_eq_some_iff.mp h
      obtain ⟨mc, h2', h⟩ := Option.bind_eq_some_iff.mp h
      obtain ⟨u, h3, h⟩ := Option.bind_eq_some_iff.mp h
      cases Option.some.inj h
      exact s_chainT (S.cmp h0) (S.cmp h0') (F.E S h1) (F.E S h2) (F.E S h2') (not_marks (by simpa using guardO_some h3))
    · cases h
  · obtain ⟨u, h0, h⟩ := Option.bind_eq_some_iff.mp h
    obtain ⟨ma, h1, h⟩ := Option.bind_eq_some_iff.mp h
    cases Option.some.inj h
    exact s_boolT (F.E S h1) (plain_true (guardO_some h0))
theorem snd_A {f : Nat} (F : Snd g cl n f) {e : List Expr} {m : AA} (S : St g cl n C X W) (h : denA (f + 1) C e = some m) : PA X e (rdA g cl W m) ∧ (e.all fun e => !star e) = true ∧ ∀ cl env st xs s, m cl env st = .ok xs s → xs.length = e.length := by
  unfold denA at h
  split at h
  · cases Option.some.inj h
    exact ⟨s_nil, rfl, fun cl env st xs s e => by cases e; rfl⟩
  · rename_i a r
    obtain ⟨u, h0, h⟩ := Option.bind_eq_some_iff.mp h
    obtain ⟨ma, h1, h⟩ := Option.bind_eq_some_iff.mp h
    obtain ⟨ms, h2, h⟩ := Option.bind_eq_some_iff.mp h
    cases Option.some.inj h
    have hs : star a = false := by simpa using guardO_some h0
    obtain ⟨k1, k2, k3⟩ := F.A S h2
    refine ⟨s_cons (F.E S h1) k1 (star_each hs), by rw [List.all_cons, hs, k2]; rfl, fun cl env st xs s e => ?_⟩
    unfold consM at e
    cases q : ma cl env st with
    | ok x s1 =>
      rw [q] at e
      have e' : ((ms cl env s1).bind fun xs s2 => Res.ok (x :: xs) s2) = .ok xs s := e
      cases q2 : ms cl env s1 with
      | ok ys s2 =>
        rw [q2] at e'
        cases e'
        exact congrArg Nat.succ (k3 _ _ _ _ _ q2)
      | exc _ _ => rw [q2] at e'; cases e'
      | stuck => rw [q2] at e'; cases e'
    | exc _ _ => rw [q] at e; cases e
    | stuck => rw [q] at e; cases e
theorem snd_O {f : Nat} (F : Snd g cl n f) {e : Option Expr} {m : OO} (S : St g cl n C X W) (h : denO (f + 1) C e = some m) : PO X e (rdO g cl W m) := by
  unfold denO at h
  split at h
  · cases Option.some.inj h
    exact s_noO
  · obtain ⟨ma, h1, h⟩ := Option.bind_eq_some_iff.mp h
    cases Option.some.inj h
    exact s_someO (F.E S h1)
theorem snd_Is {f : Nat} (F : Snd g cl n f) {e : List Expr} {m : TT'} (S : St g cl n C X W) (h : denIfs (f + 1) C e = some m) : PTs X e (rdT g cl W m) := by
  unfold denIfs at h
  split at h
  · cases Option.some.inj h
    exact s_yes
  · exact pts_one (F.T S h)
  · cases h
theorem snd_C {f : Nat} (F : Snd g cl n f) {elt : Expr} {gens : List Comprehension} {scope : Scope} {m : AA} (S : St g cl n C X W) (h : denC (f + 1) C elt gens scope = some m) :
    (∀ pos, PE X (.ListComp elt gens scope pos) (rdE g cl W (lcM m)) ∧ PE X (.ListComp elt gens scope pos) (rdE g cl W (lcN m))) ∧
    ∀ (i : Nat) (y : Str) (py pos spos : Pos), X.N[i]? = some y → X.env.scope.names.lookup y = some .local → swapsWith (.ListComp elt gens scope pos) (some (.Name y py)) spos.line X.env = pure true →
      PS X (.Assign [.Name y py] (.ListComp elt gens scope pos) spos) (rdS g cl W (asgS (lcM m) (nameG i))) ∧ PS X (.Assign [.Name y py] (.ListComp elt gens scope pos) spos) (rdS g cl W (asgS (lcN m) (nameG i))) := by
  unfold denC at h
  split at h
  · rename_i tg iter ifs
    obtain ⟨u, h0, h⟩ := Option.bind_eq_some_iff.mp h
    obtain ⟨mi, h1, h⟩ := Option.bind_eq_some_iff.mp h
    obtain ⟨p, h2, h⟩ := Option.bind_eq_some_iff.mp h
    obtain ⟨u3, h3, h⟩ := Option.bind_eq_some_iff.mp h
    obtain ⟨mt, h4, h⟩ := Option.bind_eq_some_iff.mp h
    obtain ⟨ma, h5, h⟩ := Option.bind_eq_some_iff.mp h
    cases Option.some.inj h
    have g0 := guardO_some h0
    rw [Bool.and_eq_true] at g0
    have ok := blk_ok S g0.1
    have hset : isSet iter = false := by simpa using g0.2
    have hi := F.I S h1
    have hG : ∀ (s : Shared) (H : Hp) (Ca : Addr) (cs : List (Str × Addr)) (fp : List Addr), PG (X.blk s H scope (compEnvC scope cs Ca X.env) fp) tg (rdG g p.1) := fun s H Ca cs fp => (F.G (S.blk ok s H Ca cs fp) h2).1
    have hT : ∀ (s : Shared) (H : Hp) (Ca : Addr) (cs : List (Str × Addr)) (fp : List Addr), PTs (X.blk s H scope (compEnvC scope cs Ca X.env) fp) ifs (rdT g cl W0 mt) := fun s H Ca cs fp => F.Is (S.blk ok s H Ca cs fp) h4
    have hE : ∀ (s : Shared) (H : Hp) (Ca : Addr) (cs : List (Str × Addr)) (fp : List Addr), PE (X.blk s H scope (compEnvC scope cs Ca X.env) fp) elt (rdE g cl W0 ma) := fun s H Ca cs fp => F.E (S.blk ok s H Ca cs fp) h5
    have hown : ∀ d l, p.1 d = some l → ∀ q ∈ l, q.1 ∈ (ownOf C.N scope).map (·.2) := fun d l e q hq => by
      have w0 := (F.G (S.blk ok X.s_0 X.H_0 X.env.locals [] []) h2).2 d l e q hq
      have g3 := guardO_some h3
      rw [List.all_eq_true] at g3
      have := g3 _ w0
      exact List.contains_iff_mem.mp this
    exact ⟨fun pos => ⟨s_lc S.G.calm S.G.nd hi ok hG hT hE (not_folded hset) hown, s_lcN S.G.calm S.G.nd hi ok hG hT hE (not_folded hset) hown⟩,
      fun i y py pos spos hN hl hsw => ⟨s_setLc S.G.calm S.G.nd hN hl hsw hi ok hG hT hE (not_folded hset) hown, s_setLcN S.G.calm S.G.nd hN hl hsw hi ok hG hT hE (not_folded hset) hown⟩⟩
  · cases h
end
end PyI
end

section
set_option Elab.async false
set_option linter.all false
set_option maxRecDepth 100000
set_option maxHeartbeats 4000000
/-! Soundness: expressions, statements. -/
namespace PyI
open PySem PySem.Spec PyProof.Rows L2

section
variable {g : Gb} {cl : CL} {n : Nat} {C : Cn} {X : Cx} {W : WX}
theorem St.blm (S : St g cl n C X W) {x : Str} (h : x ∈ bltNames) : X.mg x = none := S.mg (S.gl.blt x h)
theorem St.bltE (S : St g cl n C X W) {x : Str} {p pos : Pos} {args : List Expr} {m : Bool} {o : BO} {ms : AA} (hg : Gl X x) (ha : PA X args (rdA g cl W ms)) (hst : (args.all fun e => !star e) = true) (h : bnOf x args.length m = some o) (hne : args ≠ []) :
    PE X (.Call (.Name x p) args [] pos) (rdE g cl W (bltM o ms)) := by
  obtain ⟨h1, h2, h3, h4⟩ := S.blt h
  cases args with
  | nil => exact absurd rfl hne
  | cons a r =>
    rw [List.all_cons, Bool.and_eq_true] at hst
    have hs : star a = false := by simpa using hst.1
    rcases h4 with ⟨id, hv, hc⟩ | ⟨T, hv, hc⟩
    · exact s_bltB hc hg (S.blm h1) hv ha h2 h3 (star_each hs) (back_any hst.2)
    · exact s_bltT hc hg (S.blm h1) hv ha h2 h3 (star_each hs) (back_any hst.2)
theorem St.tys (S : St g cl n C X W) : ∀ {es : List Expr} {ns : List String}, tyNms C es = some ns → PA X es (tCs (ns.map V.ty))
  | [], ns, h => by
    cases Option.some.inj h
    exact pa_tys0
  | .Name x p :: r, ns, h => by
    unfold tyNms at h
    obtain ⟨u, h0, h⟩ := Option.bind_eq_some_iff.mp h
    obtain ⟨t, ht, h⟩ := Option.bind_eq_some_iff.mp h
    obtain ⟨ns', h1, h⟩ := Option.bind_eq_some_iff.mp h
    cases Option.some.inj h
    have hm := look_mem ht
    have key : x ∈ bltNames ∧ bootBuiltins x = some (.type t) ∧ x ≠ "__name__" ∧ (x == ("__debug__" : Str)) = false := by
      simp only [tyTable, List.mem_cons, List.not_mem_nil, or_false, Prod.mk.injEq] at hm
      rcases hm with ⟨rfl, rfl⟩ | ⟨rfl, rfl⟩ | ⟨rfl, rfl⟩ | ⟨rfl, rfl⟩ | ⟨rfl, rfl⟩ | ⟨rfl, rfl⟩ <;> exact ⟨by decide, rfl, by decide, by decide⟩
    exact pa_tys (pe_bltn (S.isGl (guardO_some h0)) (S.blm key.1) key.2.1 (v := .ty t) rfl key.2.2.1 key.2.2.2) (S.tys h1) rfl
theorem boot_isi : ("isinstance" : Str) ∈ bltNames := by decide
theorem St.fn_ok (S : St g cl n C X W) {x : Str} {i k : Nat} (h : lookF x C.fns = some (i, k)) : X.mg x = some (.ref (g.fa i)) ∧ PySem.W.keepIn X.K (.ref (g.fa i)) = true ∧ Binds X.K (g.fd i) (g.fp i) [] ∧ (g.fp i).length = k ∧ (x == ("__debug__" : Str)) = false := by
  rw [S.G.mg, S.G.K]
  exact S.gl.fns i k x (lookF_get h)
theorem St.callE (S : St g cl n C X W) {x : Str} {p pos : Pos} {i k : Nat} {args : List Expr} {ms : AA} (hg : Gl X x) (hst : (args.all fun e => !star e) = true) (hne : args ≠ []) (hlen : args.length = k) (f1 : X.mg x = some (.ref (g.fa i))) (f2 : PySem.W.keepIn X.K (.ref (g.fa i)) = true) (f3 : Binds X.K (g.fd i) (g.fp i) []) (f4 : (g.fp i).length = k) (f5 : (x == ("__debug__" : Str)) = false)
    (k1 : PA X args (rdA g cl W ms)) (k3 : ∀ cl env st xs s, ms cl env st = .ok xs s → xs.length = args.length) : PE X (.Call (.Name x p) args [] pos) (rdE g cl W (callM i ms)) := by
  cases args with
  | nil => exact absurd rfl hne
  | cons a r =>
    rw [List.all_cons, Bool.and_eq_true] at hst
    have hs : star a = false := by simpa using hst.1
    exact s_call S.G hg f1 f2 f3 k1 (fun cl env st xs s e => (k3 cl env st xs s e).trans (hlen.trans f4.symm)) f5 (star_each hs) (back_any hst.2)
theorem St.mtE (S : St g cl n C X W) {nm : Str} {ap cp : Pos} {o : Expr} {args : List Expr} {ms : AA} {ma : EE} {mo : MO} {id : String} (hne : args ≠ []) (g1 : plainBase o = true) (g2 : (ap.endLine == cp.line) = true) (g3 : (args.all fun e => !star e) = true) (g4 : args.length < 30)
    (m1 : Slot "list" nm id) (m2 : typeOf (.builtin id) = pure (.type "method_descriptor")) (m3 : MtR X id (rMt g mo)) (ho : PE X o (rdE g cl W ma)) (k1 : PA X args (rdA g cl W ms)) : PE X (.Call (.Attribute o nm ap) args [] cp) (rdE g cl W (mtM mo ma ms)) := by
  cases args with
  | nil => exact absurd rfl hne
  | cons a r =>
    have g3' := g3
    rw [List.all_cons, Bool.and_eq_true] at g3'
    have hs : star a = false := by simpa using g3'.1
    exact s_mt S.G.K m1 m2 m3 ho k1 (plain_base g1) (few_ok g3 g4) g2 (star_each hs) (back_any g3'.2)
theorem snd_E {f : Nat} (F : Snd g cl n f) {e : Expr} {m : EE} (S : St g cl n C X W) (h : denE (f + 1) C e = some m) : PE X e (rdE g cl W m) := by
  unfold denE at h
  split at h
  · exact S.name h
  · split at h
    · cases h; exact s_int
    · cases h; exact s_bl
    · cases h; exact s_str
    · cases h; exact s_non
    · cases h
  · obtain ⟨o, h0, h⟩ := Option.bind_eq_some_iff.mp h
    obtain ⟨ma, h1, h⟩ := Option.bind_eq_some_iff.mp h
    obtain ⟨mb, h2, h⟩ := Option.bind_eq_some_iff.mp h
    cases Option.some.inj h
    exact s_bin (S.bin h0) (F.E S h1) (F.E S h2)
  · split at h
    · obtain ⟨ma, h1, h⟩ := Option.bind_eq_some_iff.mp h
      cases Option.some.inj h
      exact s_un o_neg (F.E S h1)
    · obtain ⟨ma, h1, h⟩ := Option.bind_eq_some_iff.mp h
      cases Option.some.inj h
      exact s_notV (F.E S h1)
    · cases h
  · split at h
    · obtain ⟨o, h0, h⟩ := Option.bind_eq_some_iff.mp h
      obtain ⟨ma, h1, h⟩ := Option.bind_eq_some_iff.mp h
      obtain ⟨mb, h2, h⟩ := Option.bind_eq_some_iff.mp h
      obtain ⟨u, h3, h⟩ := Option.bind_eq_some_iff.mp h
      cases Option.some.inj h
      exact s_cmp (S.cmp h0) (F.E S h1) (F.E S h2) (not_marks (by simpa using guardO_some h3))
    · obtain ⟨o, h0, h⟩ := Option.bind_eq_some_iff.mp h
      obtain ⟨o', h0', h⟩ := Option.bind_eq_some_iff.mp h
      obtain ⟨ma, h1, h⟩ := Option.bind_eq_some_iff.mp h
      obtain ⟨mb, h2, h⟩ := Option.bind_eq_some_iff.mp h
      obtain ⟨mc, h2', h⟩ := Option.bind_eq_some_iff.mp h
      obtain ⟨u, h3, h⟩ := Option.bind_eq_some_iff.mp h
      cases Option.some.inj h
      exact s_chain (S.cmp h0) (S.cmp h0') (F.E S h1) (F.E S h2) (F.E S h2') (not_marks (by simpa using guardO_some h3))
    · cases h
  · exact F.BV S h
  · obtain ⟨mt, h0, h⟩ := Option.bind_eq_some_iff.mp h
    obtain ⟨ma, h1, h⟩ := Option.bind_eq_some_iff.mp h
    obtain ⟨mb, h2, h⟩ := Option.bind_eq_some_iff.mp h
    cases Option.some.inj h
    exact s_if (F.T S h0) (F.E S h1) (F.E S h2)
  · obtain ⟨ms, h1, h⟩ := Option.bind_eq_some_iff.mp h
    cases Option.some.inj h
    exact s_tup (F.A S h1).1
  · obtain ⟨ms, h1, h⟩ := Option.bind_eq_some_iff.mp h
    cases Option.some.inj h
    split
    · exact s_lstN (F.A S h1).1
    · exact s_lst (F.A S h1).1
  · split at h
    · cases h
      exact s_nodict
    · cases h
  · split at h
    · obtain ⟨ma, h1, h⟩ := Option.bind_eq_some_iff.mp h
      obtain ⟨ml, h2, h⟩ := Option.bind_eq_some_iff.mp h
      obtain ⟨mh, h3, h⟩ := Option.bind_eq_some_iff.mp h
      cases Option.some.inj h
      exact s_sl S.G.K (F.E S h1) (F.O S h2) (F.O S h3)
    · obtain ⟨ma, h1, h⟩ := Option.bind_eq_some_iff.mp h
      cases Option.some.inj h
      exact s_rev1 (stx := .Name "" ⟨0, 0, 0, 0⟩) (c := ⟨0, 0, 0, 0⟩) S.G.K (F.E S h1)
    · obtain ⟨u, h0, h⟩ := Option.bind_eq_some_iff.mp h
      obtain ⟨ma, h1, h⟩ := Option.bind_eq_some_iff.mp h
      obtain ⟨mb, h2, h⟩ := Option.bind_eq_some_iff.mp h
      cases Option.some.inj h
      exact s_ix S.G.K (F.E S h1) (F.E S h2) (plain_ix (by simpa using guardO_some h0))
  · split at h
    · split at h
      · rename_i x p
        obtain ⟨u, h0, h⟩ := Option.bind_eq_some_iff.mp h
        obtain ⟨u1, h1, h⟩ := Option.bind_eq_some_iff.mp h
        have hg := S.isGl (guardO_some h0)
        have hst := guardO_some h1
        split at h
        · rename_i i k hl
          obtain ⟨u2, h2, h⟩ := Option.bind_eq_some_iff.mp h
          have hlen := eq_of_beq (guardO_some h2)
          obtain ⟨f1, f2, f3, f4, f5⟩ := S.fn_ok hl
          split at h
          · cases h
            exact s_call0 S.G hg f1 f2 f3 (f4.trans hlen.symm) f5
          · rename_i hne
            obtain ⟨ms, h3, h⟩ := Option.bind_eq_some_iff.mp h
            cases Option.some.inj h
            obtain ⟨k1, k2, k3⟩ := F.A S h3
            exact S.callE hg hst (fun z => hne z) hlen f1 f2 f3 f4 f5 k1 k3
        · split at h
          · cases h
          · rename_i a tes tk tp _ _
            obtain ⟨u2, h2, h⟩ := Option.bind_eq_some_iff.mp h
            obtain ⟨ma, h3, h⟩ := Option.bind_eq_some_iff.mp h
            obtain ⟨ns, h4, h⟩ := Option.bind_eq_some_iff.mp h
            obtain ⟨u3, h5, h⟩ := Option.bind_eq_some_iff.mp h
            cases Option.some.inj h
            have ex := eq_of_beq (guardO_some h2)
            subst ex
            rw [List.all_cons, Bool.and_eq_true] at hst
            have hs : star a = false := by simpa using hst.1
            have hz : ns.length ≤ sizeLine := Nat.le_trans (of_decide_eq_true (guardO_some h5)) (by decide)
            exact s_isis S.G.K hg (S.blm boot_isi) (F.E S h3) (S.tys h4) (star_each hs) rfl (back_any hst.2) hz
          · rename_i hne _
            obtain ⟨o, h2, h⟩ := Option.bind_eq_some_iff.mp h
            obtain ⟨ms, h3, h⟩ := Option.bind_eq_some_iff.mp h
            cases Option.some.inj h
            exact S.bltE hg (F.A S h3).1 hst h2 hne
      · obtain ⟨u, h0, h⟩ := Option.bind_eq_some_iff.mp h
        obtain ⟨mo, h1, h⟩ := Option.bind_eq_some_iff.mp h
        obtain ⟨ma, h2, h⟩ := Option.bind_eq_some_iff.mp h
        have g0 := guardO_some h0
        rw [Bool.and_eq_true, Bool.and_eq_true, Bool.and_eq_true] at g0
        obtain ⟨⟨⟨g1, g2⟩, g3⟩, g4⟩ := g0
        obtain ⟨id, m1, m2, m3⟩ := S.mt h1
        split at h
        · cases h
          exact s_mt0 S.G.K m1 m2 m3 (F.E S h2) (plain_base g1) g2
        · rename_i hne
          obtain ⟨ms, h3, h⟩ := Option.bind_eq_some_iff.mp h
          cases Option.some.inj h
          exact S.mtE (fun z => hne z) g1 g2 g3 (of_decide_eq_true g4) m1 m2 m3 (F.E S h2) (F.A S h3).1
      · cases h
    · cases h
  · obtain ⟨m1, h1, h⟩ := Option.bind_eq_some_iff.mp h
    cases Option.some.inj h
    split
    · exact ((F.C S h1).1 _).2
    · exact ((F.C S h1).1 _).1
  · cases h
theorem one_arg {es : List Expr} (h : es.length = 1) : ∃ a, es = [a] := by
  match es, h with
  | [a], _ => exact ⟨a, rfl⟩
theorem two_arg {es : List Expr} (h : es.length = 2) : ∃ a b, es = [a, b] := by
  match es, h with
  | [a, b], _ => exact ⟨a, b, rfl⟩
theorem tup_of {tg : Expr} (h : isTup tg = true) : ∃ es k p, tg = .Tuple es k p := by
  cases tg with
  | Tuple es k p => exact ⟨es, k, p, rfl⟩
  | _ => cases h
theorem snd_I {f : Nat} (F : Snd g cl n f) {tg e : Expr} {m : II} (S : St g cl n C X W) (h : denI (f + 1) C tg e = some m) : PI X tg e (rdI g cl W m) := by
  unfold denI at h
  split at h
  · rename_i x p args pos
    split at h
    · rename_i b hb
      obtain ⟨u, h0, h⟩ := Option.bind_eq_some_iff.mp h
      obtain ⟨o, h1, h⟩ := Option.bind_eq_some_iff.mp h
      obtain ⟨ms, h2, h⟩ := Option.bind_eq_some_iff.mp h
      cases Option.some.inj h
      have g0 := guardO_some h0
      rw [Bool.and_eq_true] at g0
      obtain ⟨g1, g2⟩ := g0
      have hg := S.isGl g1
      have hA := (F.A S h2).1
      have hm := look_mem hb
      simp only [inT, List.mem_cons, List.not_mem_nil, or_false, Prod.mk.injEq] at hm
      rcases hm with ⟨rfl, rfl⟩ | ⟨rfl, rfl⟩ | ⟨rfl, rfl⟩
      · have hb : X.mg "range" = none := S.blm (by decide)
        unfold inO at h1
        generalize hk : args.length = k at h1
        match k, h1 with
        | 1, h1 =>
          cases h1
          obtain ⟨a, rfl⟩ := one_arg hk
          simp only [List.all_cons, List.all_nil, Bool.and_true, Bool.not_eq_true'] at g2
          exact s_range1 hg hb hA (star_each g2)
        | 2, h1 =>
          cases h1
          obtain ⟨a, b, rfl⟩ := two_arg hk
          simp only [List.all_cons, List.all_nil, Bool.and_true, Bool.and_eq_true, Bool.not_eq_true'] at g2
          have e2 : starEach [b] X.env = [(false, eval b X.env)] := star_each g2.2
          exact s_range2 hg hb hA (by rw [star_each g2.1, e2]) e2
      · have hb : X.mg "enumerate" = none := S.blm (by decide)
        unfold inO at h1
        generalize hk : args.length = k at h1
        match k, h1 with
        | 1, h1 =>
          have h1' : (if isTup tg then some enu else none) = some o := h1
          split at h1'
          · rename_i ht
            cases h1'
            obtain ⟨es, k, p, rfl⟩ := tup_of ht
            obtain ⟨a, rfl⟩ := one_arg hk
            simp only [List.all_cons, List.all_nil, Bool.and_true, Bool.not_eq_true'] at g2
            exact s_enum S.G.K hg hb hA (star_each g2)
          · cases h1'
      · have hb : X.mg "zip" = none := S.blm (by decide)
        unfold inO at h1
        generalize hk : args.length = k at h1
        match k, h1 with
        | 2, h1 =>
          have h1' : (if isTup tg then some zips else none) = some o := h1
          split at h1'
          · rename_i ht
            cases h1'
            obtain ⟨es, k, p, rfl⟩ := tup_of ht
            obtain ⟨a, b, rfl⟩ := two_arg hk
            rw [List.all_cons, Bool.and_eq_true] at g2
            have hs : star a = false := by simpa using g2.1
            exact s_zip S.G.K hg hb hA (star_each hs) (back_any g2.2)
          · cases h1'
    · obtain ⟨ma, h1, h⟩ := Option.bind_eq_some_iff.mp h
      cases Option.some.inj h
      exact s_seqI S.G.K (F.E S h1)
  · obtain ⟨ma, h1, h⟩ := Option.bind_eq_some_iff.mp h
    cases Option.some.inj h
    exact s_seqI S.G.K (F.E S h1)
theorem snd_all (g : Gb) (cl : CL) (n : Nat) : ∀ f, Snd g cl n f
  | 0 => snd_zero
  | f + 1 => have F := snd_all g cl n f
    ⟨snd_G F, snd_Gs F, snd_E F, snd_BV F, snd_T F, snd_BT F, snd_A F, snd_O F, snd_I F, snd_Is F, snd_C F⟩
end
end PyI
end

section
set_option Elab.async false
set_option linter.all false
set_option maxRecDepth 100000
set_option maxHeartbeats 4000000
/-! Soundness: statements. -/
namespace PyI
open PySem PySem.Spec PyProof.Rows L2

structure StS (g : Gb) (cl : CL) (n : Nat) (C : Cn) (X : Cx) (W : WX) : Prop extends St g cl n C X W where
  hp : PassesOwn (model X.prog X.w) X.A X.env X.xe
  hfn : ∀ x, X.fn x = true
section
variable {g : Gb} {cl : CL} {n : Nat} {C : Cn} {X : Cx} {W : WX}
structure SndS (g : Gb) (cl : CL) (n : Nat) (f : Nat) : Prop where
  S : ∀ {C : Cn} {X : Cx} {W : WX} {st : Stmt} {m : SS}, StS g cl n C X W → denS f C st = some m → PS X st (rdS g cl W m)
  Ss : ∀ {C : Cn} {X : Cx} {W : WX} {sts : List Stmt} {m : SS}, StS g cl n C X W → denSs f C sts = some m → PSs X sts (rdS g cl W m)
theorem StS.nox (S : StS g cl n C X W) : StS g cl n C X.nox W0 :=
  ⟨⟨⟨S.G.P, S.G.w, S.G.K, S.G.mg, S.G.base, S.G.nd, S.G.calm, S.G.room, takes0, S.G.fns⟩, S.N, S.sc, S.kind, fun x h => S.fn x h, S.gl⟩, PassesOwn.never, S.hfn⟩
theorem blockK (S : St g cl n C X W) : X.env.blockKind = .function := by
  unfold Env.blockKind
  rw [S.kind]
  rfl
theorem swaps_lc (S : St g cl n C X W) {elt : Expr} {gens : List Comprehension} {scope : Scope} {pos px : Pos} {x : Str} {k : Nat} :
    swapsWith (.ListComp elt gens scope pos) (some (.Name x px)) k X.env = pure (C.sc.lookup x == some .local && px.line == pos.line && !(scope.names.any fun p => p.1 == x && (p.2 == .local || p.2 == .cell))) := by
  have e1 : X.env.kindOf x = C.sc.lookup x := by
    show X.env.scope.names.lookup x = _
    rw [S.sc]
  show (pure (X.env.blockKind == .function && X.env.kindOf x == some .local && px.line == pos.line && !(scope.names.any fun (p : Str × NameKind) => p.1 == x && (p.2 == .local || p.2 == .cell))) : Sem Bool) = _
  rw [blockK S, e1]
  rfl
theorem no_stores (S : St g cl n C X W) {ts vs : List Expr} {k k2 : Nat} {p p2 : Pos} (h : vs.all (foldedForSure 8) = true) : swappedStores [.Tuple ts k p] (.Tuple vs k2 p2) X.env = pure none := by
  unfold swappedStores
  dsimp only
  rw [h]
  simp only [if_true]
  split
  · rfl
  · split
    · rfl
    · split <;> rfl
theorem star_any {vs : List Expr} (h : (vs.all fun e => !star e) = true) : (vs.any fun | .Starred .. => true | _ => false) = false := by
  induction vs with
  | nil => rfl
  | cons a r ih =>
    rw [List.all_cons, Bool.and_eq_true] at h
    rw [List.any_cons, ih h.2, Bool.or_false]
    have hs : star a = false := by simpa using h.1
    cases a <;> first | rfl | cases hs
theorem kind_local (S : St g cl n C X W) {x : Str} (h : PyI.isLocal C x = true) : (X.env.kindOf x == some NameKind.local) = true := by
  show (X.env.scope.names.lookup x == some NameKind.local) = true
  rw [S.isLocal h]
  rfl
theorem stores2 (S : St g cl n C X W) {x y : Str} {px py pt pt2 : Pos} {a b : Expr} {k k2 : Nat} (h1 : PyI.isLocal C x = true) (h2 : PyI.isLocal C y = true) (h3 : (px.line == py.line) = true) (h4 : (x != y) = true) (h5 : (!([a, b].all (constantsAlone 8))) = true) (h6 : ([a, b].all fun e => !star e) = true) (hf : ¬ [a, b].all (foldedForSure 8) = true) :
    swappedStores [.Tuple [.Name x px, .Name y py] k pt] (.Tuple [a, b] k2 pt2) X.env = pure (some [x, y]) := by
  have e3 : (py.line == px.line) = true := by rw [eq_of_beq h3]; exact beq_self_eq_true _
  have hs := star_any h6
  have k1 := kind_local S h1
  have k2 := kind_local S h2
  have hb := blockK S
  have h4' : x ≠ y := by simpa using h4
  have e1 : (y == x) = false := by simpa using fun z : y = x => h4' z.symm
  unfold swappedStores
  dsimp only
  split
  · rename_i c
    rw [hb] at c
    exact absurd c Bool.false_ne_true
  split
  · rename_i c
    exact absurd (hs.symm.trans c) Bool.false_ne_true
  have k1' : X.env.kindOf x = some NameKind.local := eq_of_beq k1
  have k2' : X.env.kindOf y = some NameKind.local := eq_of_beq k2
  have e3' : py.line = px.line := eq_of_beq e3
  have ep : (Expr.Name x px).pos.line = px.line := rfl
  split
  · rename_i c
    simp [List.filterMap_cons, k1', k2', e3', ep, List.eraseDups_cons, e1] at c
  split
  · rename_i c
    rw [c] at h5
    cases h5
  · simp [List.filterMap_cons, k1', k2', e3', ep]
theorem stores3 (S : St g cl n C X W) {x y z : Str} {px py pz pt pt2 : Pos} {a b c : Expr} {k k2 : Nat} (h1 : PyI.isLocal C x = true) (h2 : PyI.isLocal C y = true) (h2' : PyI.isLocal C z = true) (h3 : (px.line == py.line) = true) (h3' : (px.line == pz.line) = true) (h4 : (x != y) = true) (h7 : (x != z) = true) (h8 : (y != z) = true) (h5 : (!([a, b, c].all (constantsAlone 8))) = true) (h6 : ([a, b, c].all fun e => !star e) = true) (hf : ¬ [a, b, c].all (foldedForSure 8) = true) :
    swappedStores [.Tuple [.Name x px, .Name y py, .Name z pz] k pt] (.Tuple [a, b, c] k2 pt2) X.env = pure (some [x, y, z]) := by
  have e3 : (py.line == px.line) = true := by rw [eq_of_beq h3]; exact beq_self_eq_true _
  have hs := star_any h6
  have k1 := kind_local S h1
  have k2 := kind_local S h2
  have hb := blockK S
  have h4' : x ≠ y := by simpa using h4
  have k3 := kind_local S h2'
  have h7' : x ≠ z := by simpa using h7
  have h8' : y ≠ z := by simpa using h8
  have e4' : pz.line = px.line := (eq_of_beq h3').symm
  have e5 : (z == x) = false := by simpa using fun w : z = x => h7' w.symm
  have e6 : (z == y) = false := by simpa using fun w : z = y => h8' w.symm
  have k3' : X.env.kindOf z = some NameKind.local := eq_of_beq k3
  have e1 : (y == x) = false := by simpa using fun z : y = x => h4' z.symm
  unfold swappedStores
  dsimp only
  split
  · rename_i cc
    rw [hb] at cc
    exact absurd cc Bool.false_ne_true
  split
  · rename_i cc
    exact absurd (hs.symm.trans cc) Bool.false_ne_true
  have k1' : X.env.kindOf x = some NameKind.local := eq_of_beq k1
  have k2' : X.env.kindOf y = some NameKind.local := eq_of_beq k2
  have e3' : py.line = px.line := eq_of_beq e3
  have ep : (Expr.Name x px).pos.line = px.line := rfl
  split
  · rename_i cc
    simp [List.filterMap_cons, k1', k2', k3', e3', e4', ep, List.eraseDups_cons, e1, e5, e6] at cc
  split
  · rename_i cc
    rw [cc] at h5
    cases h5
  · simp [List.filterMap_cons, k1', k2', k3', e3', e4', ep]
theorem assign_sub {o i : Expr} {ps : Pos} {env : PySem.Env} {v : Value} (h : isSlice i = false) : assign (.Subscript o i ps) env v = (do
      let ov ← holding [v] (eval o env)
      let iv ← holding [v, ov] (eval i env)
      standAt ps
      holding [v, ov, iv] (PySem.setItem ov iv v)
      release [v, ov, iv] []) := by
  rw [arm_assign_Subscript]
  cases i <;> first | rfl | cases h
theorem no_sole {tg a : Expr} {k : Nat} {env : PySem.Env} (h : isComp a = false) : swapsWithSole [tg] a k env = pure false := no_swap h
theorem no_stores' {ts : List Expr} {k : Nat} {p : Pos} {a : Expr} {env : PySem.Env} (h : ∀ vs k p, a = .Tuple vs k p → False) : swappedStores [.Tuple ts k p] a env = pure none := by
  cases a <;> first | rfl | exact absurd rfl (h _ _ _)
theorem idx_ne {x y : Str} {i j : Nat} (h1 : idx x C.N = some i) (h2 : idx y C.N = some j) (h : (x != y) = true) : i ≠ j := fun z => by
  have a := idx_get h1
  have b := idx_get h2
  rw [z, b] at a
  have : x ≠ y := by simpa using h
  exact this (Option.some.inj a).symm
theorem sndS_zero : SndS g cl n 0 := by
  constructor <;> (intros; rename_i h; cases h)
theorem snd_Ss {f : Nat} (F : SndS g cl n f) {sts : List Stmt} {m : SS} (S : StS g cl n C X W) (h : denSs (f + 1) C sts = some m) : PSs X sts (rdS g cl W m) := by
  unfold denSs at h
  split at h
  · cases Option.some.inj h
    exact s_snil
  · obtain ⟨m1, h1, h⟩ := Option.bind_eq_some_iff.mp h
    obtain ⟨m2, h2, h⟩ := Option.bind_eq_some_iff.mp h
    cases Option.some.inj h
    exact s_scons (F.S S h1) (F.Ss S h2)
theorem snd_S {f : Nat} (F : SndS g cl n f) {st : Stmt} {m : SS} (S : StS g cl n C X W) (h : denS (f + 1) C st = some m) : PS X st (rdS g cl W m) := by
  have E := snd_all g cl n f
  have S0 := S.toSt
  unfold denS at h
  split at h
  · obtain ⟨u, h0, h⟩ := Option.bind_eq_some_iff.mp h
    obtain ⟨ma, h1, h⟩ := Option.bind_eq_some_iff.mp h
    cases Option.some.inj h
    exact s_expr (E.E S0 h1) (no_swap (by simpa using guardO_some h0))
  · cases h; exact s_pass
  · cases h; exact s_break
  · cases h; exact s_continue
  · cases h; exact s_stuckS'
  · split at h
    · cases h; exact s_retN
    · obtain ⟨ma, h1, h⟩ := Option.bind_eq_some_iff.mp h
      cases Option.some.inj h
      exact s_ret (E.E S0 h1)
  · obtain ⟨mt, h1, h⟩ := Option.bind_eq_some_iff.mp h
    obtain ⟨m1, h2, h⟩ := Option.bind_eq_some_iff.mp h
    obtain ⟨m2, h3, h⟩ := Option.bind_eq_some_iff.mp h
    cases Option.some.inj h
    exact s_ifS (E.T S0 h1) (F.Ss S h2) (F.Ss S h3)
  · split at h
    · obtain ⟨mt, h1, h⟩ := Option.bind_eq_some_iff.mp h
      obtain ⟨m1, h2, h⟩ := Option.bind_eq_some_iff.mp h
      cases Option.some.inj h
      exact s_while S.hp (E.T S0 h1) (F.Ss S h2)
    · cases h
  · split at h
    · obtain ⟨u, h0, h⟩ := Option.bind_eq_some_iff.mp h
      obtain ⟨mi, h1, h⟩ := Option.bind_eq_some_iff.mp h
      obtain ⟨p, h2, h⟩ := Option.bind_eq_some_iff.mp h
      obtain ⟨m1, h3, h⟩ := Option.bind_eq_some_iff.mp h
      cases Option.some.inj h
      exact s_for S.hp S.G.calm (E.I S0 h1) (E.G S0 h2).1 (F.Ss S h3) (not_folded (by simpa using guardO_some h0))
    · cases h
  · split at h
    · obtain ⟨m1, h1, h⟩ := Option.bind_eq_some_iff.mp h
      cases Option.some.inj h
      exact s_try (F.Ss S.nox h1)
    · cases h
  · split at h
    · split at h
      · rename_i x px
        obtain ⟨i, h0, h⟩ := Option.bind_eq_some_iff.mp h
        obtain ⟨u, h1, h⟩ := Option.bind_eq_some_iff.mp h
        have hl := S0.isLoc (guardO_some h1)
        split at h
        · rename_i elt gens scope p2 _ _
          obtain ⟨mc, h2, h⟩ := Option.bind_eq_some_iff.mp h
          cases Option.some.inj h
          obtain ⟨c1, c2⟩ := E.C S0 h2
          have sw := fun k => swaps_lc S0 (elt := elt) (gens := gens) (scope := scope) (pos := p2) (px := px) (x := x) (k := k)
          cases hsw : (C.sc.lookup x == some .local && px.line == p2.line && !(scope.names.any fun p => p.1 == x && (p.2 == .local || p.2 == .cell))) with
          | true =>
            simp only [hsw] at sw
            rw [Bool.and_eq_true, Bool.and_eq_true] at hsw
            have hlo : X.env.scope.names.lookup x = some .local := by
              rw [S0.sc]
              exact eq_of_beq hsw.1.1
            split
            · exact (c2 i x px p2 _ (S0.getN h0) hlo (sw _)).2
            · exact (c2 i x px p2 _ (S0.getN h0) hlo (sw _)).1
          | false =>
            simp only [hsw] at sw
            split
            · exact s_set S0.G.nd (S0.getN h0) hl (c1 p2).2 (sw _) (.inl (S.hfn x))
            · exact s_set S0.G.nd (S0.getN h0) hl (c1 p2).1 (sw _) (.inl (S.hfn x))
        · obtain ⟨u2, h2, h⟩ := Option.bind_eq_some_iff.mp h
          obtain ⟨ma, h3, h⟩ := Option.bind_eq_some_iff.mp h
          cases Option.some.inj h
          exact s_set S0.G.nd (S0.getN h0) hl (E.E S0 h3) (no_swap (by simpa using guardO_some h2)) (.inl (S.hfn x))
      · obtain ⟨u, h0, h⟩ := Option.bind_eq_some_iff.mp h
        obtain ⟨ma, h1, h⟩ := Option.bind_eq_some_iff.mp h
        obtain ⟨mo, h2, h⟩ := Option.bind_eq_some_iff.mp h
        obtain ⟨mi, h3, h⟩ := Option.bind_eq_some_iff.mp h
        cases Option.some.inj h
        have g0 := guardO_some h0
        rw [Bool.and_eq_true] at g0
        exact s_setI (E.E S0 h1) (E.E S0 h2) (E.E S0 h3) (fun v => assign_sub (by simpa using g0.1)) (no_sole (by simpa using g0.2)) rfl rfl
      · split at h
        · split at h
          · rename_i hf
            obtain ⟨ma, h1, h⟩ := Option.bind_eq_some_iff.mp h
            obtain ⟨p, h2, h⟩ := Option.bind_eq_some_iff.mp h
            cases Option.some.inj h
            exact s_asg (E.E S0 h1) (E.G S0 h2).1 (no_sole rfl) (no_stores S0 hf) rfl
          · rename_i hf
            split at h
            · obtain ⟨i, h0, h⟩ := Option.bind_eq_some_iff.mp h
              obtain ⟨j, h1, h⟩ := Option.bind_eq_some_iff.mp h
              obtain ⟨u, h2, h⟩ := Option.bind_eq_some_iff.mp h
              obtain ⟨ms, h3, h⟩ := Option.bind_eq_some_iff.mp h
              cases Option.some.inj h
              have g0 := guardO_some h2
              simp only [Bool.and_eq_true] at g0
              obtain ⟨⟨⟨⟨⟨a1, a2⟩, a3⟩, a4⟩, a5⟩, a6⟩ := g0
              exact s_par S0.G.calm S0.G.nd (S0.getN h0) (S0.getN h1) (idx_ne h0 h1 a4) (S0.isLocal a1) (S0.isLocal a2) (E.A S0 h3).1 (stores2 S0 a1 a2 a3 a4 a5 a6 hf)
            · obtain ⟨i, h0, h⟩ := Option.bind_eq_some_iff.mp h
              obtain ⟨j, h1, h⟩ := Option.bind_eq_some_iff.mp h
              obtain ⟨k, h1', h⟩ := Option.bind_eq_some_iff.mp h
              obtain ⟨u, h2, h⟩ := Option.bind_eq_some_iff.mp h
              obtain ⟨ms, h3, h⟩ := Option.bind_eq_some_iff.mp h
              cases Option.some.inj h
              have g0 := guardO_some h2
              simp only [Bool.and_eq_true] at g0
              obtain ⟨⟨⟨⟨⟨⟨⟨⟨⟨a1, a2⟩, a3⟩, a4⟩, a5⟩, a6⟩, a7⟩, a8⟩, a9⟩, a10⟩ := g0
              exact s_par3 S0.G.calm S0.G.nd (S0.getN h0) (S0.getN h1) (S0.getN h1') (idx_ne h0 h1 a6) (idx_ne h0 h1' a7) (idx_ne h1 h1' a8) (S0.isLocal a1) (S0.isLocal a2) (S0.isLocal a3) (E.A S0 h3).1 (stores3 S0 a1 a2 a3 a4 a5 a6 a7 a8 a9 a10 hf)
            · cases h
        · rename_i hne
          obtain ⟨u, h0, h⟩ := Option.bind_eq_some_iff.mp h
          obtain ⟨ma, h1, h⟩ := Option.bind_eq_some_iff.mp h
          obtain ⟨p, h2, h⟩ := Option.bind_eq_some_iff.mp h
          cases Option.some.inj h
          exact s_asg (E.E S0 h1) (E.G S0 h2).1 (no_sole (by simpa using guardO_some h0)) (no_stores' hne) rfl
      · cases h
    · cases h
  · cases h
theorem sndS_all (g : Gb) (cl : CL) (n : Nat) : ∀ f, SndS g cl n f
  | 0 => sndS_zero
  | f + 1 => have F := sndS_all g cl n f
    ⟨snd_S F, snd_Ss F⟩
end
end PyI
end

section
set_option Elab.async false
set_option linter.all false
set_option maxRecDepth 100000
set_option maxHeartbeats 4000000
/-! The defs of a program, each by its interpretation. -/
namespace PyI
open PySem PySem.Spec PyProof.Rows L2

/-- a def, as it stands in the program -/
structure DF where
  name : Str
  qual : Str
  params : Arguments
  body : List Stmt
  scope : Scope
  ps : List Str
  N : List Str
/-- a body's run from its arguments -/
def runF (k : Nat) (m : SS) (cl : CL) (ds : List D) : M D := fun st => match m cl (ds.map some ++ List.replicate (k - ds.length) none) st with
  | .nx _ s => .ok .non s
  | .ret d s => .ok d s
  | .exc x _ s => .exc x s
  | _ => .stuck
/-- the calls, so deep -/
def callN (tab : Nat → Option (Nat × SS)) : Nat → CL
  | 0 => fun _ _ _ => .stuck
  | n + 1 => fun i ds st => match tab i with
    | some p => runF p.1 p.2 (callN tab n) ds st
    | none => .stuck
structure Gd where
  fns : List (Str × Nat)
  cns : List (Str × D)
  mu : Pos → Bool
def Gd.cn (G : Gd) (d : DF) : Cn := { N := d.N, sc := d.scope.names, fn := fun _ => true, fns := G.fns, cns := G.cns, mu := G.mu }
/-- what is plain of a def: by deciding -/
structure DfOk (G : Gd) (d : DF) (k : Nat) (m : SS) : Prop where
  den : ∃ f, denSs f (G.cn d) d.body = some m
  sz : d.N.length = k
  nms : ∀ x ∈ d.N, (x == ("__debug__" : Str)) = false ∧ (x == ("__classdict__" : Str)) = false
  fs : FnScope d.N d.ps d.scope
structure Tab (g : Gb) (G : Gd) (tab : Nat → Option (Nat × SS)) : Prop where
  glob : ∀ d : DF, (∀ x ∈ d.N, (x == ("__debug__" : Str)) = false ∧ (x == ("__classdict__" : Str)) = false) → Glob g (G.cn d)
  def_ : ∀ i p, tab i = some p → ∃ d : DF, g.fp i = d.ps ∧ FunD g.K d.name d.qual d.params d.body d.scope [] [] (g.fa i) (g.fd i) ∧ DfOk G d p.1 p.2
theorem start_rel {g : Gb} {w : Wd} {N : List Str} {vs : List V} {ds : List D} (r : RelDs g w vs ds) : RelE g w (start N vs) (ds.map some ++ List.replicate (N.length - ds.length) none) := by
  unfold L2.start
  rw [r.length]
  refine ⟨by rw [List.length_append, List.length_append, List.length_map, List.length_map, r.length, List.length_replicate, List.length_replicate], fun i d e => ?_⟩
  by_cases hi : i < ds.length
  · rw [List.getElem?_append_left (by rw [List.length_map]; exact hi), List.getElem?_map] at e
    cases q : ds[i]? with
    | none => rw [q] at e; cases e
    | some d' =>
      rw [q] at e
      cases Option.some.inj (Option.some.inj e)
      obtain ⟨v, h1, h2⟩ := r.get q
      refine ⟨v, ?_, h2⟩
      rw [List.getElem?_append_left (by rw [List.length_map, r.length]; exact hi), List.getElem?_map, h1]
      rfl
  · rw [List.getElem?_append_right (by rw [List.length_map]; omega), List.getElem?_replicate] at e
    split at e <;> cases e
theorem OutF.runS {g : Gb} {cl : CL} {w : Wd} {m : SS} {k : Nat} {ds : List D} {st : Store} {Q : VK} {E : XK} (h : OutF g w (runF k m cl ds st) Q E) : OutS g (fun cls d _ H => E cls d H) w (m cl (ds.map some ++ List.replicate (k - ds.length) none) st) { nx := fun _ H' => Q .non H', rt := Q } := by
  unfold runF at h
  cases q : m cl (ds.map some ++ List.replicate (k - ds.length) none) st with
  | nx e s =>
    rw [q] at h
    exact fun w' σ' H' le rh re => h w' .non H' le rh .non
  | ret d s =>
    rw [q] at h
    exact h
  | bk e s => rw [q] at h; exact h.elim
  | ct e s => rw [q] at h; exact h.elim
  | exc x e s =>
    rw [q] at h
    exact fun w' σ' H' dd le rh re rx => h w' H' dd le rh rx
  | stuck => rw [q] at h; exact h.elim
theorem fn_stuck {g : Gb} {cl : CL} {k n : Nat} {i : Nat} (h : ∀ ds st, cl i ds st = .stuck) : FnOk g.P g.w g.K g.mg g.base (L2.CX g.P g.w) k (g.fa i) (g.fd i) (g.fp i) (spI g cl i) := by
  refine ⟨fun vs H Q E ⟨w, ds, st, rh, rs, hl, hq⟩ => rs.length.trans hl, fun A outer s H args us vs Q E _ _ _ _ ⟨w, ds, st, rh, rs, hl, hq⟩ => ?_⟩
  rw [h] at hq
  exact hq.elim
theorem fns_ok {g : Gb} {G : Gd} {tab : Nat → Option (Nat × SS)} (T : Tab g G tab) : ∀ n i, FnOk g.P g.w g.K g.mg g.base (L2.CX g.P g.w) n (g.fa i) (g.fd i) (g.fp i) (spI g (callN tab n) i)
  | 0, i => fn_stuck (n := 0) fun _ _ => rfl
  | n + 1, i => by
    cases q : tab i with
    | none =>
      refine fn_stuck (n := 0) fun ds st => ?_
      show (match tab i with
        | some p => runF p.1 p.2 (callN tab n) ds st
        | none => .stuck) = _
      rw [q]
    | some p =>
      obtain ⟨d, hp, hF, ok⟩ := T.def_ i p q
      have len : ∀ vs H Q E, spI g (callN tab (n + 1)) i vs H Q E → vs.length = (g.fp i).length := fun vs H Q E ⟨w, ds, st, rh, rs, hl, hq⟩ => rs.length.trans hl
      have F := hF.ok (P := g.P) (w := g.w) (mg := g.mg) (base := g.base) (CX := L2.CX g.P g.w) (k := n) (sp := spI g (callN tab (n + 1)) i) ok.fs (by rw [← hp]; exact len) fun cdv A outer s H vs Q E hr ⟨w, ds, st, rh, rs, hl, hq⟩ => by
        obtain ⟨f, hd⟩ := ok.den
        have hq' : OutF g w (runF p.1 p.2 (callN tab n) ds st) Q E := by
          have e : callN tab (n + 1) i ds st = runF p.1 p.2 (callN tab n) ds st := by
            show (match tab i with
              | some p => runF p.1 p.2 (callN tab n) ds st
              | none => .stuck) = _
            rw [q]
          rw [e] at hq
          exact hq
        have S : StS g (callN tab n) n (G.cn d) (cxOf (L2.CX g.P g.w) g.P g.w g.K g.mg g.base d.N d.qual d.scope (g.fa i) cdv A outer s H E) (fun cls dd _ H => E cls dd H) :=
          ⟨⟨⟨rfl, rfl, rfl, rfl, rfl, ok.fs.nd, rfl, hr, takes_of rfl rfl rfl rfl, fun j => fns_ok T n j⟩, rfl, rfl, ok.fs.kind, fun x _ => rfl, T.glob d ok.nms⟩, passes_of rfl, fun x => rfl⟩
        refine ⟨rdS g (callN tab n) (fun cls dd _ H => E cls dd H) p.2, (sndS_all g (callN tab n) n f).Ss S hd, w, _, st, rh, start_rel rs, ?_⟩
        rw [ok.sz]
        exact hq'.runS
      rw [hp]
      exact F
end PyI
end

section
set_option Elab.async false
set_option linter.all false
set_option maxRecDepth 100000
set_option maxHeartbeats 4000000
/-! The head: what the module holds, the law's call. -/
namespace PyI
open PySem PySem.Spec PyProof.Rows L2

mutual
def conV : Nat → PySem.W.Frag → D → Value → Bool
  | 0, _, _, _ => false
  | f + 1, K, d, u => match d, u with
    | .non, .none => true
    | .bl b, .bool c => b == c
    | .int i, .int j _ => decide (i = j)
    | .str x, .str y _ => decide (x = y)
    | .tup ds, .ref a => match K.lookup a with
      | some ⟨.type c, _, .seq its _, _⟩ => decide (c = "tuple") && (decide (its.size ≤ sizeLine) && conVs f K ds its.toList)
      | _ => false
    | _, _ => false
def conVs : Nat → PySem.W.Frag → List D → List Value → Bool
  | 0, _, _, _ => false
  | f + 1, K, ds, us => match ds, us with
    | [], [] => true
    | d :: ds, u :: us => conV f K d u && conVs f K ds us
    | _, _ => false
end
theorem con_ok' {g : Gb} : ∀ f, (∀ d u, conV f g.K d u = true → ∃ v, RelV v u ∧ ∀ w, RelD g w v d) ∧ ∀ ds us, conVs f g.K ds us = true → ∃ vs, Vals vs us ∧ ∀ w, RelDs g w vs ds
  | 0 => ⟨fun _ _ h => (nomatch h), fun _ _ h => (nomatch h)⟩
  | f + 1 => by
    obtain ⟨ih1, ih2⟩ := con_ok' (g := g) f
    constructor
    · intro d u h
      unfold conV at h
      split at h
      · exact ⟨.non, rfl, fun w => .non⟩
      · rename_i b c
        have e := eq_of_beq h
        subst e
        exact ⟨.bl b, rfl, fun w => .bl b⟩
      · rename_i i j t
        have e := of_decide_eq_true h
        subst e
        exact ⟨.int i, ⟨t, rfl⟩, fun w => .int i⟩
      · rename_i x y t
        have e := of_decide_eq_true h
        subst e
        exact ⟨.str x, ⟨t, rfl⟩, fun w => .str x⟩
      · rename_i ds a
        split at h
        · rename_i c od its n sl q
          rw [Bool.and_eq_true, Bool.and_eq_true] at h
          obtain ⟨h1, h2, h3⟩ := h
          obtain ⟨vs, h4, h5⟩ := ih2 _ _ h3
          exact ⟨.ref a, rfl, fun w => .tup (.inr ⟨_, its, n, q, congrArg Value.type (of_decide_eq_true h1), rfl, of_decide_eq_true h2, h4⟩) (h5 w)⟩
        · cases h
      · cases h
    · intro ds us h
      unfold conVs at h
      split at h
      · exact ⟨[], .nil, fun w => .nil⟩
      · rw [Bool.and_eq_true] at h
        obtain ⟨v, h1, h2⟩ := ih1 _ _ h.1
        obtain ⟨vs, h3, h4⟩ := ih2 _ _ h.2
        exact ⟨v :: vs, .cons h1 h3, fun w => .cons (h2 w) (h4 w)⟩
      · cases h
/-- the module's constants -/
def consB (cns : List (Str × D)) (K : PySem.W.Frag) : Bool := cns.all fun q => (match PySem.W.nsIn K mainGlobals q.1 with
  | some (some u) => conV 20 K q.2 u
  | _ => false) && !(q.1 == ("__debug__" : Str))
def DF.at_ (d : DF) : He.DefD := ⟨(d.name, none), d.name, d.qual, d.params, d.body, d.scope, [], []⟩
def faOf (dfs : List DF) : List He.Fa := dfs.map (fun d => He.Fa.glo d.name) ++ bltNames.map He.Fa.free
def gbOf (P : Program) (w : World) (K : PySem.W.Frag) (mg : Str → Option Value) (base : Heap) (dfs : List DF) (fd : Nat → FuncData) (ex : List Str) : Gb :=
  { P := P, w := w, K := K, mg := mg, base := base, fa := fun i => He.ga K ((dfs[i]?.map DF.name).getD ""), fd := fd, fp := fun i => (dfs[i]?.map DF.ps).getD [], ca := fun i => He.ga K (ex.getD i "") }
/-- the plain binding of a def -/
def BindD (d : DF) : Prop := ∀ (kV doc pm : Value) (an : Option Addr) (cdv ct : Value) (us : List Value), us.length = d.ps.length → bindArgs (PySem.W.fnOf d.name d.qual d.params d.body d.scope .none kV doc pm an cdv ct) ⟨us, []⟩ = pure (d.ps.zip us)
structure Lst (G : Gd) (dfs : List DF) (tab : Nat → Option (Nat × SS)) : Prop where
  fns : G.fns = dfs.map fun d => (d.name, d.ps.length)
  nodb : (dfs.all fun d => !(d.name == ("__debug__" : Str))) = true
  ok : ∀ (i : Nat) (p : Nat × SS), tab i = some p → ∃ d : DF, dfs[i]? = some d ∧ DfOk G d p.1 p.2
  bind : ∀ (i : Nat) (d : DF), dfs[i]? = some d → BindD d
section
variable {G : Gd} {dfs : List DF} {tab : Nat → Option (Nat × SS)} {K : PySem.W.Frag} {mg : Str → Option Value} {h : Heap}
theorem defs_ok (X : K.In h) (Gm : h.Ns mainGlobals mg) (hne : dfs ≠ []) (c : He.SaysD (faOf dfs) (dfs.map DF.at_) K) : ∃ fd : Nat → FuncData, ∀ (i : Nat) (d : DF), dfs[i]? = some d → FunD K d.name d.qual d.params d.body d.scope [] [] (He.ga K d.name) (fd i) := by
  have one : ∀ d ∈ dfs, ∃ fd, FunD K d.name d.qual d.params d.body d.scope [] [] (He.ga K d.name) fd := fun d hd => He.SaysD.defs c (d := d.at_) (List.mem_map_of_mem hd)
  have hd0 : ∃ fd : FuncData, True := by
    cases dfs with
    | nil => exact absurd rfl hne
    | cons d r =>
      obtain ⟨fd, _⟩ := one d List.mem_cons_self
      exact ⟨fd, trivial⟩
  have all : ∀ i : Nat, ∃ fd, ∀ d : DF, dfs[i]? = some d → FunD K d.name d.qual d.params d.body d.scope [] [] (He.ga K d.name) fd := fun i => by
    cases q : dfs[i]? with
    | none =>
      obtain ⟨fd, _⟩ := hd0
      exact ⟨fd, fun d e => by cases e⟩
    | some d =>
      obtain ⟨fd, hf⟩ := one d (List.mem_of_getElem? q)
      exact ⟨fd, fun d' e => by cases e; exact hf⟩
  exact ⟨fun i => Classical.choose (all i), fun i d e => Classical.choose_spec (all i) d e⟩
theorem glo_at (X : K.In h) (Gm : h.Ns mainGlobals mg) (c : He.SaysD (faOf dfs) (dfs.map DF.at_) K) {d : DF} (hd : d ∈ dfs) : mg d.name = some (.ref (He.ga K d.name)) :=
  He.glo_ok X Gm (He.SaysD.facts c (f := .glo d.name) (List.mem_append_left _ (List.mem_map_of_mem hd)))
theorem free_at (X : K.In h) (Gm : h.Ns mainGlobals mg) (c : He.SaysD (faOf dfs) (dfs.map DF.at_) K) {x : Str} (hx : x ∈ bltNames) : mg x = none :=
  He.free_ok X Gm (He.SaysD.facts c (f := .free x) (List.mem_append_right _ (List.mem_map_of_mem hx)))
theorem tab_of {P : Program} {w : World} {base : Heap} {fd : Nat → FuncData} {ex : List Str} (L : Lst G dfs tab) (X : K.In h) (Gm : h.Ns mainGlobals mg) (c : He.SaysD (faOf dfs) (dfs.map DF.at_) K) (hc : consB G.cns K = true)
    (hfd : ∀ (i : Nat) (d : DF), dfs[i]? = some d → FunD K d.name d.qual d.params d.body d.scope [] [] (He.ga K d.name) (fd i)) : Tab (gbOf P w K mg base dfs fd ex) G tab := by
  refine ⟨fun d hn => ⟨fun i k x hx => ?_, fun x dd hx => ?_, fun x hx => free_at X Gm c hx, hn⟩, fun i p hp => ?_⟩
  · have hx' : (dfs.map fun d => (d.name, d.ps.length))[i]? = some (x, k) := by rw [← L.fns]; exact hx
    rw [List.getElem?_map] at hx'
    cases q : dfs[i]? with
    | none => rw [q] at hx'; cases hx'
    | some d =>
      rw [q] at hx'
      cases Option.some.inj hx'
      have F := hfd i d q
      have ea : (gbOf P w K mg base dfs fd ex).fa i = He.ga K d.name := by
        show He.ga K ((dfs[i]?.map DF.name).getD "") = _
        rw [q]
        rfl
      have ep : (gbOf P w K mg base dfs fd ex).fp i = d.ps := by
        show (dfs[i]?.map DF.ps).getD [] = _
        rw [q]
        rfl
      rw [ea, ep]
      have hd : d ∈ dfs := List.mem_of_getElem? q
      refine ⟨glo_at X Gm c hd, F.kp, F.bindsN (L.bind i d q), rfl, ?_⟩
      have := L.nodb
      rw [List.all_eq_true] at this
      simpa using this d hd
  · have hc' := hc
    unfold consB at hc'
    rw [List.all_eq_true] at hc'
    have := hc' _ hx
    rw [Bool.and_eq_true] at this
    refine ⟨by simpa using this.2, ?_⟩
    have h1 := this.1
    split at h1
    · rename_i u q
      obtain ⟨v, h2, h3⟩ := (con_ok' (g := gbOf P w K mg base dfs fd ex) 20).1 _ _ h1
      exact ⟨v, u, PySem.W.mg_of X Gm q, h2, h3⟩
    · cases h1
  · obtain ⟨d, hd, ok⟩ := L.ok i p hp
    refine ⟨d, ?_, ?_, ok⟩
    · show (dfs[i]?.map DF.ps).getD [] = _
      rw [hd]
      rfl
    · have ea : (gbOf P w K mg base dfs fd ex).fa i = He.ga K d.name := by
        show He.ga K ((dfs[i]?.map DF.name).getD "") = _
        rw [hd]
        rfl
      rw [ea]
      exact hfd i d hd
end
/-- the law's promise, from the plain law -/
def st0 : Store := ⟨0, fun _ => none⟩
theorem cx_no {P : Program} {w : World} {H : Hp} {s : Shared} {e : Value} {s' : Shared} (h : L2.CX P w [] H s (fun _ _ _ => False) e s') : False := by
  obtain ⟨_, _, _, _, _, _, _, _, _, _, _, _, z⟩ := h
  exact z.elim
def AllI1 {α : Type} (P : α → Prop) : List α → Prop
  | [] => True
  | a :: r => P a ∧ AllI1 P r
def AllI2 {α β : Type} (P : α → β → Prop) : List α → List β → Prop
  | [], [] => True
  | a :: r, b :: q => P a b ∧ AllI2 P r q
  | _, _ => False
theorem AllI1.get {α : Type} {P : α → Prop} : ∀ {l : List α} (h : AllI1 P l) (i : Nat) (a : α), l[i]? = some a → P a
  | [], _, _, _, e => by cases e
  | _ :: _, h, 0, _, e => by cases Option.some.inj e; exact h.1
  | _ :: _, h, i + 1, a, e => AllI1.get h.2 i a e
theorem AllI2.get {α β : Type} {P : α → β → Prop} : ∀ {l : List α} {q : List β} (h : AllI2 P l q) (i : Nat) (b : β), q[i]? = some b → ∃ a, l[i]? = some a ∧ P a b
  | [], [], _, _, _, e => by cases e
  | a :: _, _ :: _, h, 0, _, e => by cases Option.some.inj e; exact ⟨a, rfl, h.1⟩
  | _ :: _, _ :: _, h, i + 1, b, e => AllI2.get h.2 i b e
  | [], _ :: _, h, _, _, _ => h.elim
  | _ :: _, [], h, _, _, _ => h.elim
def spLaw (K : PySem.W.Frag) (n : Nat) : Sp := fun vs H Q _ => ∃ (a : Addr) (ns : List Int), vs = [.ref a] ∧ ns.length ≤ n ∧ SqL K H a (ns.map V.int) ∧ ∀ H', Q (.bl true) H'
theorem law_rel {g : Gb} {cl : CL} {i n : Nat} (hp : (g.fp i).length = 1) (h : ∀ ns : List Int, ns.length ≤ n → ∃ st, cl i [.scr (ns.map D.int)] st0 = .ok (.bl true) st) : ∀ vs H Q E, spLaw g.K n vs H Q E → spI g cl i vs H Q E := by
  rintro vs H Q E ⟨a, ns, rfl, hn, hs, hq⟩
  obtain ⟨st, h⟩ := h ns hn
  refine ⟨⟨H, fun _ => none, fun _ => 0, 0⟩, [.scr (ns.map D.int)], st0, ⟨Same.refl _, rfl, fun l o e => (nomatch e), fun l o e => (nomatch e), fun l o e => (nomatch e), fun a o e => (nomatch e), fun l l' o o' e => (nomatch e)⟩, .cons (.scr hs .of_ints) .nil, hp.symm, ?_⟩
  rw [h]
  intro w' v H' le rh r
  cases r
  exact hq H'
theorem walk_ofEw {l : PySem.W.OpenLaw} {n k : Nat} {q : Program} {loose : List Str} {XP : (Str → Option Value) → Heap → Prop} {YP : World → Heap → Prop} {d : DefRec} {CX : World → CXT} {x : Str}
    (hn : l.most = some n) (hn2 : n ≤ sizeLine) (hdf : d.params.defaults = []) (hr : Room k callerA)
    (F : ∀ (w : World) (mg : Str → Option Value) (fa : Addr) (h : Heap), YP w h → h.Ns mainGlobals mg → mg d.name = some (.ref fa) →
      ∃ (K : PySem.W.Frag) (fd : FuncData) (sp : Sp), K.In h ∧ (∀ (s : Shared) (u : Value), BindsTo s fd ⟨[u], []⟩ [(x, u)]) ∧
        (∀ (H : Hp) (a : Addr) (ns : List Int), ns.length ≤ n → Only H → SqL K H a (ns.map V.int) → sp [.ref a] H (fun v _ => v = .bl true) fun _ _ _ => False) ∧
        ∀ base : Heap, K.In base → base.Ns mainGlobals mg → FnOk l.prog w K mg base (CX w) k fa fd [x] sp)
    (hCX : ∀ (w : World) (H : Hp) (s : Shared) (e : Value) (s' : Shared), CX w [] H s (fun _ _ _ => False) e s' → False) :
    PySem.W.WalkO q loose XP YP l.row.toRowW d [] (fun f vs => PySem.call f vs) := by
  refine Att.attach_call hn hdf fun w s₀ s₁ mg mb fa o pm cd doc a vs ns G Y ho hd hcd hmg hobj hints hlen hg => ?_
  obtain ⟨K, fd, sp, KX, hb, hsp, hF⟩ := F w mg fa _ Y G.T.g hmg
  exact law_call KX G.T.g G.T.b G.T.builtins G.T.nolimit hg hobj hints (Nat.le_trans hlen hn2) hr hF hb (fun H hO hS => hsp H a ns hlen hO hS) fun H e s' => hCX w H s₁ e s'
/-- the whole head but the run: a law whose def is the i-th -/
theorem head_of {l : PySem.W.OpenLaw} {n k : Nat} {G : Gd} {dfs : List DF} {tab : Nat → Option (Nat × SS)} {i : Nat} {dl : DF} {x : Str} {w : World} {mg : Str → Option Value} {fa : Addr} {h : Heap} {ts : List He.Tab} {tf : List He.Defn}
    (L : Lst G dfs tab) (hne : dfs ≠ []) (hi : dfs[i]? = some dl) (hps : dl.ps = [x]) (hlaw : ∀ ns : List Int, ns.length ≤ n → ∃ st, callN tab k i [.scr (ns.map D.int)] st0 = .ok (.bl true) st)
    (Y : ∃ K : PySem.W.Frag, K.In h ∧ He.SaysX (faOf dfs) (dfs.map DF.at_) ts tf (consB G.cns) w h K) (Gm : h.Ns mainGlobals mg) (hfa : mg dl.name = some (.ref fa)) :
    ∃ (K : PySem.W.Frag) (fd : FuncData) (sp : Sp), K.In h ∧ (∀ (s : Shared) (u : Value), BindsTo s fd ⟨[u], []⟩ [(x, u)]) ∧
        (∀ (H : Hp) (a : Addr) (ns : List Int), ns.length ≤ n → Only H → SqL K H a (ns.map V.int) → sp [.ref a] H (fun v _ => v = .bl true) fun _ _ _ => False) ∧
        ∀ base : Heap, K.In base → base.Ns mainGlobals mg → FnOk l.prog w K mg base (L2.CX l.prog w) k fa fd [x] sp := by
  obtain ⟨K, X, S⟩ := Y
  have c : He.SaysD (faOf dfs) (dfs.map DF.at_) K := S.t.d
  obtain ⟨fd, hfd⟩ := defs_ok X Gm hne c
  have F := hfd i dl hi
  have hd : dl ∈ dfs := List.mem_of_getElem? hi
  have e := hfa.symm.trans (glo_at X Gm c hd)
  cases e
  have hb := FunD.bindsA (ps := [x]) F (by
    have := L.bind i dl hi
    unfold BindD at this
    rw [hps] at this
    exact this)
  refine ⟨K, fd i, spLaw K n, X, fun s u => hb s [u] rfl, fun H a ns hn hO hS => ⟨a, ns, rfl, hn, hS, fun _ => rfl⟩, fun base hbk hbm => ?_⟩
  have T : Tab (gbOf l.prog w K mg base dfs fd []) G tab := tab_of L X Gm c S.more hfd
  have ok := fns_ok T k i
  have ea : (gbOf l.prog w K mg base dfs fd []).fa i = He.ga K dl.name := by
    show He.ga K ((dfs[i]?.map DF.name).getD "") = _
    rw [hi]
    rfl
  have ep : (gbOf l.prog w K mg base dfs fd []).fp i = [x] := by
    show (dfs[i]?.map DF.ps).getD [] = _
    rw [hi]
    exact hps
  have ok2 := ok.imp (law_rel (n := n) (by rw [ep]; rfl) hlaw)
  rw [ea, ep] at ok2
  exact ok2
end PyI
end

section
set_option Elab.async false
set_option linter.all false
set_option maxRecDepth 100000
set_option maxHeartbeats 4000000
/-! Going through an interpretation by simp. -/
namespace PyI
open PySem PySem.Spec PyProof.Rows L2

section
variable {cl : CL} {env : Env} {st : Store} {α β : Type}
@[simp] theorem bind_ok {a : α} {k : α → Store → Res β} : (Res.ok a st).bind k = k a st := rfl
@[simp] theorem bindN_ok {a : α} {k : α → Store → Res β} : (Res.ok a st).bindN k = k a st := rfl
@[simp] theorem toS_ok {a : α} {k : α → Store → SR} : (Res.ok a st).toS env k = k a st := rfl
@[simp] theorem seq_nx {k : Env → Store → SR} : (SR.nx env st).seq k = k env st := rfl
@[simp] theorem seq_ret {d : D} {k : Env → Store → SR} : (SR.ret d st).seq k = .ret d st := rfl
@[simp] theorem liftO_some {a : α} : liftO (some a) st = .ok a st := rfl
@[simp] theorem resO_some {d : D} {s : Store} : resO (some (d, s)) = .ok d s := rfl
@[simp] theorem e_seqS {a b : SS} : seqS a b cl env st = (a cl env st).seq (b cl) := rfl
@[simp] theorem e_skipS : skipS cl env st = .nx env st := rfl
@[simp] theorem e_retS {m : EE} : retS m cl env st = (m cl env st).toS env fun d s => .ret d s := rfl
@[simp] theorem e_exprS {m : EE} : exprS m cl env st = (m cl env st).toS env fun _ s => .nx env s := rfl
@[simp] theorem e_var {i : Nat} : varM i cl env st = (match env[i]? with
  | some (some d) => .ok d st
  | _ => .stuck) := rfl
@[simp] theorem e_con {d : D} : conM d cl env st = .ok d st := rfl
@[simp] theorem e_bin {o : Store → D → D → Option D} {a b : EE} : binM o a b cl env st = (a cl env st).bind fun x s1 => (b cl env s1).bind fun y s2 => liftO (o s2 x y) s2 := rfl
@[simp] theorem e_un {o : Store → D → Option D} {a : EE} : unM o a cl env st = (a cl env st).bind fun x s1 => liftO (o s1 x) s1 := rfl
@[simp] theorem e_boolT {a : EE} : boolT a cl env st = (a cl env st).bind fun x s1 => liftO (boolOf x) s1 := rfl
@[simp] theorem boolOf_bl {b : Bool} : boolOf (.bl b) = some b := rfl
@[simp] theorem e_notT {a : TT'} : notT a cl env st = (a cl env st).bind fun x s1 => .ok (!x) s1 := rfl
@[simp] theorem e_nil : nilM cl env st = .ok [] st := rfl
@[simp] theorem e_cons {a : EE} {r : AA} : consM a r cl env st = (a cl env st).bind fun x s1 => (r cl env s1).bind fun xs s2 => .ok (x :: xs) s2 := rfl
@[simp] theorem e_blt {o : BO} {as : AA} : bltM o as cl env st = (as cl env st).bind fun xs s1 => resO (o s1 xs) := rfl
@[simp] theorem e_call {i : Nat} {as : AA} : callM i as cl env st = (as cl env st).bind fun xs s1 => cl i xs s1 := rfl
@[simp] theorem e_call0 {i : Nat} : call0M i cl env st = cl i [] st := rfl
def andK (x : D) (r : Res D) (s : Store) : Res D := match x with
  | .bl true => r
  | .bl false => .ok (.bl false) s
  | _ => .stuck
def orK (x : D) (r : Res D) (s : Store) : Res D := match x with
  | .bl true => .ok (.bl true) s
  | .bl false => r
  | _ => .stuck
def notK (x : D) (s : Store) : Res D := match x with
  | .bl b => .ok (.bl (!b)) s
  | _ => .stuck
def chK (x : Option D) (r : Res D) (s : Store) : Res D := match x with
  | some (.bl true) => r
  | some (.bl false) => .ok (.bl false) s
  | _ => .stuck
@[simp] theorem andK_bl {b : Bool} {r : Res D} {s : Store} : andK (.bl b) r s = if b = true then r else .ok (.bl false) s := by cases b <;> rfl
@[simp] theorem orK_bl {b : Bool} {r : Res D} {s : Store} : orK (.bl b) r s = if b = true then .ok (.bl true) s else r := by cases b <;> rfl
@[simp] theorem notK_bl {b : Bool} {s : Store} : notK (.bl b) s = .ok (.bl (!b)) s := rfl
@[simp] theorem chK_bl {b : Bool} {r : Res D} {s : Store} : chK (some (.bl b)) r s = if b = true then r else .ok (.bl false) s := by cases b <;> rfl
@[simp] theorem e_notM {a : EE} : notM a cl env st = (a cl env st).bind fun x s1 => notK x s1 := rfl
@[simp] theorem e_andM {a b : EE} : andM a b cl env st = (a cl env st).bind fun x s1 => andK x (b cl env s1) s1 := rfl
@[simp] theorem e_orM {a b : EE} : orM a b cl env st = (a cl env st).bind fun x s1 => orK x (b cl env s1) s1 := rfl
theorem bind_congr {r : Res α} {k k' : α → Store → Res β} (h : ∀ a s, k a s = k' a s) : r.bind k = r.bind k' := by
  have e : k = k' := funext fun a => funext fun s => h a s
  rw [e]
theorem toS_congr {r : Res α} {k k' : α → Store → SR} (h : ∀ a s, k a s = k' a s) : r.toS env k = r.toS env k' := by
  have e : k = k' := funext fun a => funext fun s => h a s
  rw [e]
@[simp] theorem e_andT {a b : TT'} : andT a b cl env st = (a cl env st).bind fun x s1 => if x = true then b cl env s1 else .ok false s1 := bind_congr fun x s => by cases x <;> rfl
@[simp] theorem e_orT {a b : TT'} : orT a b cl env st = (a cl env st).bind fun x s1 => if x = true then .ok true s1 else b cl env s1 := bind_congr fun x s => by cases x <;> rfl
@[simp] theorem e_ifM {t : TT'} {a b : EE} : ifM t a b cl env st = (t cl env st).bind fun x s1 => if x = true then a cl env s1 else b cl env s1 := bind_congr fun x s => by cases x <;> rfl
@[simp] theorem e_ifT {t : TT'} {a b : TT'} : ifT t a b cl env st = (t cl env st).bind fun x s1 => if x = true then a cl env s1 else b cl env s1 := bind_congr fun x s => by cases x <;> rfl
@[simp] theorem e_ifS {t : TT'} {a b : SS} : ifS t a b cl env st = (t cl env st).toS env fun x s1 => if x = true then a cl env s1 else b cl env s1 := toS_congr fun x s => by cases x <;> rfl
@[simp] theorem e_tup {as : AA} : tupM as cl env st = (as cl env st).bind fun xs s => if xs.length ≤ sizeLine then .ok (.tup xs) s else .stuck := rfl
@[simp] theorem e_lst {as : AA} : lstM as cl env st = (as cl env st).bind fun xs s => if xs.length ≤ sizeLine then .ok (.lst xs) s else .stuck := rfl
@[simp] theorem e_lstN {as : AA} : lstN as cl env st = (as cl env st).bind fun xs s => newL xs s := rfl
def asgK (o : Option (List (Nat × D))) (env : Env) (s : Store) : SR := match o with
  | some l => .nx (putE l env) s
  | none => .stuck
@[simp] theorem asgK_some {l : List (Nat × D)} : asgK (some l) env st = .nx (putE l env) st := rfl
@[simp] theorem e_asg {m : EE} {g : GG} : asgS m g cl env st = (m cl env st).toS env fun d s => asgK (g d) env s := rfl
@[simp] theorem e_nameG {i : Nat} {d : D} : nameG i d = some [(i, d)] := rfl
@[simp] theorem putE_nil : putE [] env = env := rfl
@[simp] theorem putE_cons {i : Nat} {d : D} {r : List (Nat × D)} : putE ((i, d) :: r) env = putE r (env.set i (some d)) := rfl
@[simp] theorem e_chain {o o' : Store → D → D → Option D} {a b c : EE} : chainM o o' a b c cl env st = (a cl env st).bind fun x s1 => (b cl env s1).bind fun y s2 => chK (o s2 x y) ((c cl env s2).bind fun z s3 => liftO (o' s3 y z) s3) s2 := rfl
@[simp] theorem e_sl {a : EE} {lo hi : OO} : slM a lo hi cl env st = (a cl env st).bind fun x s1 => (lo cl env s1).bind fun l s2 => (hi cl env s2).bind fun h s3 => liftO (cutD s3 x l h) s3 := rfl
@[simp] theorem e_noO : noO cl env st = .ok none st := rfl
def intK (x : D) (s : Store) : Res (Option Int) := match x with
  | .int i => .ok (some i) s
  | _ => .stuck
@[simp] theorem intK_int {i : Int} {s : Store} : intK (.int i) s = .ok (some i) s := rfl
@[simp] theorem e_someO {a : EE} : someO a cl env st = (a cl env st).bind fun x s => intK x s := rfl
@[simp] theorem e_par {is : List Nat} {as : AA} : parS is as cl env st = (as cl env st).toS env fun ds s => if ds.length = is.length then .nx (putE (is.zip ds) env) s else .stuck := rfl
@[simp] theorem e_mt {o : MO} {a : EE} {as : AA} : mtM o a as cl env st = (a cl env st).bind fun x s1 => if isL s1 x = true then (as cl env s1).bind fun xs s2 => resO (o s2 x xs) else .stuck := bind_congr fun x s => by
  cases q : isL s x <;> rfl
@[simp] theorem e_noDict : noDict cl env st = .ok (.dct [] []) st := rfl
end
theorem call_tab {tab : Nat → Option (Nat × SS)} {i k n : Nat} {m : SS} {ds : List D} {st : Store} (h : tab i = some (k, m)) : callN tab (n + 1) i ds st = runF k m (callN tab n) ds st := by
  show (match tab i with
    | some p => runF p.1 p.2 (callN tab n) ds st
    | none => .stuck) = _
  rw [h]
theorem run_ret {k : Nat} {m : SS} {cl : CL} {ds : List D} {st s : Store} {d : D} (h : m cl (ds.map some ++ List.replicate (k - ds.length) none) st = .ret d s) : runF k m cl ds st = .ok d s := by
  unfold runF
  rw [h]
/-! ### what is walked, as lists -/
def compR (tg : GG) (tt : TT') (el : EE) (cl : CL) (env : Env) : List D → List D → Store → Res (List D)
  | [], acc, st => .ok acc st
  | x :: r, acc, st => match tg x with
    | none => .stuck
    | some l => (tt cl (putE l env) st).bindN fun b s1 => match b with
      | true => (el cl (putE l env) s1).bindN fun y s2 => if acc.length < sizeLine then compR tg tt el cl env r (acc ++ [y]) s2 else .stuck
      | false => compR tg tt el cl env r acc s1
theorem compL_from {tg : GG} {tt : TT'} {el : EE} {cl : CL} {env : Env} {xs : List D} : ∀ (r : List D) (i : Nat) (acc : List D) (st : Store), xs.drop i = r → compL (.items xs) tg tt el cl env (r.length + 1) i acc st = compR tg tt el cl env r acc st
  | [], i, acc, st, h => by
    have e : xs[i]? = none := List.getElem?_eq_none (by have := congrArg List.length h; rw [List.length_drop, List.length_nil] at this; omega)
    unfold compL
    show (match some xs[i]? with
      | none => Res.stuck
      | some none => .ok acc st
      | some (some x) => _) = _
    rw [e]
    rfl
  | x :: r, i, acc, st, h => by
    have e : xs[i]? = some x := by
      have := congrArg (fun l => l[0]?) h
      simpa [List.getElem?_drop] using this
    have h' : xs.drop (i + 1) = r := by
      have := congrArg List.tail h
      simpa [List.tail_drop] using this
    unfold compL
    show (match some xs[i]? with
      | none => Res.stuck
      | some none => .ok acc st
      | some (some x) => match tg x with
        | none => .stuck
        | some l => (tt cl (putE l env) st).bindN fun b s1 => match b with
          | true => (el cl (putE l env) s1).bindN fun y s2 => if acc.length < sizeLine then compL (.items xs) tg tt el cl env (r.length + 1) (i + 1) (acc ++ [y]) s2 else .stuck
          | false => compL (.items xs) tg tt el cl env (r.length + 1) (i + 1) acc s1) = _
    rw [e]
    show (match tg x with
        | none => Res.stuck
        | some l => (tt cl (putE l env) st).bindN fun b s1 => match b with
          | true => (el cl (putE l env) s1).bindN fun y s2 => if acc.length < sizeLine then compL (.items xs) tg tt el cl env (r.length + 1) (i + 1) (acc ++ [y]) s2 else .stuck
          | false => compL (.items xs) tg tt el cl env (r.length + 1) (i + 1) acc s1) = (match tg x with
        | none => Res.stuck
        | some l => (tt cl (putE l env) st).bindN fun b s1 => match b with
          | true => (el cl (putE l env) s1).bindN fun y s2 => if acc.length < sizeLine then compR tg tt el cl env r (acc ++ [y]) s2 else .stuck
          | false => compR tg tt el cl env r acc s1)
    simp only [compL_from r (i + 1) _ _ h']
theorem e_comp {own : List Nat} {iter : II} {tg : GG} {tt : TT'} {el : EE} {cl : CL} {env : Env} {st s : Store} {xs : List D} (h : iter cl env st = .ok (.items xs) s) : compA own iter tg tt el cl env st = compR tg tt el cl (wipeE own env) xs [] s := by
  unfold compA
  rw [h]
  exact compL_from xs 0 [] s rfl
/-- each item by itself, nothing of the store changed -/
theorem compR_map {tg : GG} {el : EE} {cl : CL} {env : Env} {st : Store} {f : D → D} : ∀ {xs acc : List D}, (∀ x ∈ xs, ∃ l, tg x = some l ∧ el cl (putE l env) st = .ok (f x) st) → acc.length + xs.length ≤ sizeLine → compR tg yesT el cl env xs acc st = .ok (acc ++ xs.map f) st
  | [], acc, _, _ => by rw [List.map_nil, List.append_nil]; rfl
  | x :: r, acc, h, hl => by
    obtain ⟨l, h1, h2⟩ := h x List.mem_cons_self
    unfold compR
    rw [h1]
    show (el cl (putE l env) st).bindN (fun y s2 => if acc.length < sizeLine then compR tg yesT el cl env r (acc ++ [y]) s2 else .stuck) = _
    rw [List.length_cons] at hl
    rw [h2, bindN_ok, if_pos (by omega), compR_map (fun y hy => h y (List.mem_cons_of_mem _ hy)) (by rw [List.length_append, List.length_singleton]; omega), List.map_cons, List.append_assoc]
    rfl
theorem lc_map {own : List Nat} {iter : II} {tg : GG} {el : EE} {cl : CL} {env : Env} {st : Store} {xs : List D} (f : D → D) (h : iter cl env st = .ok (.items xs) st) (hx : ∀ x ∈ xs, ∃ l, tg x = some l ∧ el cl (putE l (wipeE own env)) st = .ok (f x) st) (hl : xs.length ≤ sizeLine) :
    lcM (compA own iter tg yesT el) cl env st = .ok (.lst (xs.map f)) st := by
  unfold lcM
  rw [e_comp h, compR_map hx (by rw [List.length_nil]; omega)]
  rfl
theorem bools_map (p : D → Bool) : ∀ xs : List D, boolsOf (xs.map fun x => .bl (p x)) = some (xs.map p)
  | [] => rfl
  | x :: r => by
    show ((boolsOf (r.map fun x => .bl (p x))).map (p x :: ·)) = _
    rw [bools_map p r]
    rfl
theorem ints_map (p : D → Int) : ∀ xs : List D, intsOf (xs.map fun x => .int (p x)) = some (xs.map p)
  | [] => rfl
  | x :: r => by
    show ((intsOf (r.map fun x => .int (p x))).map (p x :: ·)) = _
    rw [ints_map p r]
    rfl
theorem keep_some {f : Store → List D → Option D} {st : Store} {xs : List D} {d : D} (h : f st xs = some d) : keep f st xs = some (d, st) := by
  unfold keep
  rw [h]
@[simp] theorem bAll_map {st : Store} {xs : List D} (p : D → Bool) : bAll st [.lst (xs.map fun x => .bl (p x))] = some (.bl (xs.all p)) := by
  show (boolsOf (xs.map fun x => .bl (p x))).map (fun bs => D.bl (bs.all id)) = _
  rw [bools_map]
  show some (D.bl ((xs.map p).all id)) = _
  rw [List.all_map]
  rfl
@[simp] theorem bSum_map {st : Store} {xs : List D} (p : D → Int) : bSum st [.lst (xs.map fun x => .int (p x))] = some (.int (xs.map p).sum) := by
  show (intsOf (xs.map fun x => .int (p x))).map (fun bs => D.int bs.sum) = _
  rw [ints_map]
  rfl
theorem all_lc {own : List Nat} {iter : II} {tg : GG} {el : EE} {cl : CL} {env : Env} {st : Store} {xs : List D} (p : D → Bool) (h : iter cl env st = .ok (.items xs) st) (hx : ∀ x ∈ xs, ∃ l, tg x = some l ∧ el cl (putE l (wipeE own env)) st = .ok (.bl (p x)) st) (hl : xs.length ≤ sizeLine) :
    bltM (keep bAll) (consM (lcM (compA own iter tg yesT el)) nilM) cl env st = .ok (.bl (xs.all p)) st := by
  have e := lc_map (fun x => .bl (p x)) h hx hl
  rw [e_blt, e_cons, e, bind_ok, e_nil, bind_ok, bind_ok]
  have e2 : bAll st [.lst (xs.map fun x => .bl (p x))] = some (.bl (xs.all p)) := by
    show (boolsOf (xs.map fun x => .bl (p x))).map (fun bs => D.bl (bs.all id)) = _
    rw [bools_map]
    show some (D.bl ((xs.map p).all id)) = _
    rw [List.all_map]
    rfl
  rw [keep_some e2]
  rfl
theorem sum_lc {own : List Nat} {iter : II} {tg : GG} {el : EE} {cl : CL} {env : Env} {st : Store} {xs : List D} (p : D → Int) (h : iter cl env st = .ok (.items xs) st) (hx : ∀ x ∈ xs, ∃ l, tg x = some l ∧ el cl (putE l (wipeE own env)) st = .ok (.int (p x)) st) (hl : xs.length ≤ sizeLine) :
    bltM (keep bSum) (consM (lcM (compA own iter tg yesT el)) nilM) cl env st = .ok (.int (xs.map p).sum) st := by
  have e := lc_map (fun x => .int (p x)) h hx hl
  rw [e_blt, e_cons, e, bind_ok, e_nil, bind_ok, bind_ok]
  have e2 : bSum st [.lst (xs.map fun x => .int (p x))] = some (.int (xs.map p).sum) := by
    show (intsOf (xs.map fun x => .int (p x))).map (fun bs => D.int bs.sum) = _
    rw [ints_map]
    rfl
  rw [keep_some e2]
  rfl
def forR (tg : GG) (body : SS) (cl : CL) : List D → Env → Store → SR
  | [], env, st => .nx env st
  | x :: r, env, st => match tg x with
    | none => .stuck
    | some l => match body cl (putE l env) st with
      | .nx e s => forR tg body cl r e s
      | .ct e s => forR tg body cl r e s
      | .bk e s => .nx e s
      | .ret d s => .ret d s
      | .exc x e s => .exc x e s
      | .stuck => .stuck
theorem forL_from {tg : GG} {body : SS} {cl : CL} {xs : List D} : ∀ (r : List D) (i : Nat) (env : Env) (st : Store), xs.drop i = r → forL (.items xs) tg body cl (r.length + 1) i env st = forR tg body cl r env st
  | [], i, env, st, h => by
    have e : xs[i]? = none := List.getElem?_eq_none (by have := congrArg List.length h; rw [List.length_drop, List.length_nil] at this; omega)
    unfold forL
    show (match some xs[i]? with
      | none => SR.stuck
      | some none => .nx env st
      | some (some x) => _) = _
    rw [e]
    rfl
  | x :: r, i, env, st, h => by
    have e : xs[i]? = some x := by
      have := congrArg (fun l => l[0]?) h
      simpa [List.getElem?_drop] using this
    have h' : xs.drop (i + 1) = r := by
      have := congrArg List.tail h
      simpa [List.tail_drop] using this
    unfold forL
    show (match some xs[i]? with
      | none => SR.stuck
      | some none => .nx env st
      | some (some x) => match tg x with
        | none => .stuck
        | some l => match body cl (putE l env) st with
          | .nx e s => forL (.items xs) tg body cl (r.length + 1) (i + 1) e s
          | .ct e s => forL (.items xs) tg body cl (r.length + 1) (i + 1) e s
          | .bk e s => .nx e s
          | .ret d s => .ret d s
          | .exc x e s => .exc x e s
          | .stuck => .stuck) = _
    rw [e]
    simp only [forL_from r (i + 1) _ _ h']
    rfl
theorem e_for {iter : II} {tg : GG} {body : SS} {cl : CL} {env : Env} {st s : Store} {xs : List D} (h : iter cl env st = .ok (.items xs) s) : forS iter tg body cl env st = forR tg body cl xs env s := by
  unfold forS
  rw [h]
  exact forL_from xs 0 env s rfl
theorem bind_ite {α β : Type} {c : Prop} [Decidable c] {a b : Res α} {k : α → Store → Res β} : (if c then a else b).bind k = if c then a.bind k else b.bind k := by split <;> rfl
theorem toS_ite {α : Type} {c : Prop} [Decidable c] {a b : Res α} {env : Env} {k : α → Store → SR} : (if c then a else b).toS env k = if c then a.toS env k else b.toS env k := by split <;> rfl
theorem seq_ite {c : Prop} [Decidable c] {a b : SR} {k : Env → Store → SR} : (if c then a else b).seq k = if c then a.seq k else b.seq k := by split <;> rfl
/-! ### indices, lengths, comparisons -/
section
variable {st : Store} {a b c d e : D} {r : List D} {i j : Int} {x y : Str}
@[simp] theorem ix0 : ixD st (.tup (a :: r)) (.int 0) = some a := by simp [ixD, seqOf, L2.atI, ixN]
@[simp] theorem ix1 : ixD st (.tup (a :: b :: r)) (.int 1) = some b := by
  have h : (1 : Int) < (r.length : Int) + 1 + 1 := by omega
  simp [ixD, seqOf, L2.atI, ixN, h]
@[simp] theorem ix2 : ixD st (.tup (a :: b :: c :: r)) (.int 2) = some c := by
  have h : (2 : Int) < (r.length : Int) + 1 + 1 + 1 := by omega
  simp [ixD, seqOf, L2.atI, ixN, h]
@[simp] theorem ix3 : ixD st (.tup (a :: b :: c :: d :: r)) (.int 3) = some d := by
  have h : (3 : Int) < (r.length : Int) + 1 + 1 + 1 + 1 := by omega
  simp [ixD, seqOf, L2.atI, ixN, h]
@[simp] theorem eq_int : cEq st (.int i) (.int j) = some (.bl (i == j)) := rfl
@[simp] theorem ne_int : cNe st (.int i) (.int j) = some (.bl (!(i == j))) := rfl
@[simp] theorem eq_str : cEq st (.str x) (.str y) = some (.bl (x == y)) := rfl
@[simp] theorem ne_str : cNe st (.str x) (.str y) = some (.bl (!(x == y))) := rfl
@[simp] theorem eq_bl {p q : Bool} : cEq st (.bl p) (.bl q) = some (.bl (p == q)) := rfl
@[simp] theorem lt_int : cLt st (.int i) (.int j) = some (.bl (decide (i < j))) := rfl
@[simp] theorem le_int : cLe st (.int i) (.int j) = some (.bl (decide (i ≤ j))) := rfl
@[simp] theorem gt_int : cGt st (.int i) (.int j) = some (.bl (decide (j < i))) := rfl
@[simp] theorem ge_int : cGe st (.int i) (.int j) = some (.bl (decide (j ≤ i))) := rfl
@[simp] theorem add_int : opAdd st (.int i) (.int j) = some (.int (i + j)) := rfl
@[simp] theorem sub_int : opSub st (.int i) (.int j) = some (.int (i - j)) := rfl
@[simp] theorem neg_int : opNeg st (.int i) = some (.int (-i)) := rfl
@[simp] theorem len_tup : bLen st [.tup r] = some (.int (r.length : Int)) := rfl
@[simp] theorem len_lst : bLen st [.lst r] = some (.int (r.length : Int)) := rfl
@[simp] theorem keepE {f : Store → List D → Option D} {xs : List D} : keep f st xs = (f st xs).map fun d => (d, st) := by
  unfold keep
  cases f st xs <;> rfl
@[simp] theorem isi_non {t : String} : bIsi st [.non, .ty t] = (subT "NoneType" t).map .bl := rfl
@[simp] theorem isi_bl {p : Bool} {t : String} : bIsi st [.bl p, .ty t] = (subT "bool" t).map .bl := rfl
@[simp] theorem isi_int {t : String} : bIsi st [.int i, .ty t] = (subT "int" t).map .bl := rfl
@[simp] theorem isi_str {t : String} : bIsi st [.str x, .ty t] = (subT "str" t).map .bl := rfl
@[simp] theorem isi_tup {t : String} : bIsi st [.tup r, .ty t] = (subT "tuple" t).map .bl := rfl
@[simp] theorem isi_lst {t : String} : bIsi st [.lst r, .ty t] = (subT "list" t).map .bl := rfl
@[simp] theorem isi_dct {k : List L2.Key} {t : String} : bIsi st [.dct k r, .ty t] = (subT "dict" t).map .bl := rfl
@[simp] theorem subT_self_tuple : subT "tuple" "tuple" = some true := rfl
end
/-! ### lengths -/
@[simp] theorem ln_eq_1_0 {n : Nat} : ((n : Int) + 1 = 0) = False := by apply eq_false; omega
@[simp] theorem ln_lt_1_0 {n : Nat} : ((n : Int) + 1 < 0) = False := by apply eq_false; omega
@[simp] theorem ln_gt_1_0 {n : Nat} : (0 < (n : Int) + 1) = True := by apply eq_true; omega
@[simp] theorem ln_ge_1_0 {n : Nat} : (0 ≤ (n : Int) + 1) = True := by apply eq_true; omega
@[simp] theorem ln_lt_1_1 {n : Nat} : ((n : Int) + 1 < 1) = False := by apply eq_false; omega
@[simp] theorem ln_ge_1_1 {n : Nat} : (1 ≤ (n : Int) + 1) = True := by apply eq_true; omega
@[simp] theorem ln_eq_2_0 {n : Nat} : ((n : Int) + 1 + 1 = 0) = False := by apply eq_false; omega
@[simp] theorem ln_lt_2_0 {n : Nat} : ((n : Int) + 1 + 1 < 0) = False := by apply eq_false; omega
@[simp] theorem ln_gt_2_0 {n : Nat} : (0 < (n : Int) + 1 + 1) = True := by apply eq_true; omega
@[simp] theorem ln_ge_2_0 {n : Nat} : (0 ≤ (n : Int) + 1 + 1) = True := by apply eq_true; omega
@[simp] theorem ln_eq_2_1 {n : Nat} : ((n : Int) + 1 + 1 = 1) = False := by apply eq_false; omega
@[simp] theorem ln_lt_2_1 {n : Nat} : ((n : Int) + 1 + 1 < 1) = False := by apply eq_false; omega
@[simp] theorem ln_gt_2_1 {n : Nat} : (1 < (n : Int) + 1 + 1) = True := by apply eq_true; omega
@[simp] theorem ln_ge_2_1 {n : Nat} : (1 ≤ (n : Int) + 1 + 1) = True := by apply eq_true; omega
@[simp] theorem ln_lt_2_2 {n : Nat} : ((n : Int) + 1 + 1 < 2) = False := by apply eq_false; omega
@[simp] theorem ln_ge_2_2 {n : Nat} : (2 ≤ (n : Int) + 1 + 1) = True := by apply eq_true; omega
@[simp] theorem ln_eq_3_0 {n : Nat} : ((n : Int) + 1 + 1 + 1 = 0) = False := by apply eq_false; omega
@[simp] theorem ln_lt_3_0 {n : Nat} : ((n : Int) + 1 + 1 + 1 < 0) = False := by apply eq_false; omega
@[simp] theorem ln_gt_3_0 {n : Nat} : (0 < (n : Int) + 1 + 1 + 1) = True := by apply eq_true; omega
@[simp] theorem ln_ge_3_0 {n : Nat} : (0 ≤ (n : Int) + 1 + 1 + 1) = True := by apply eq_true; omega
@[simp] theorem ln_eq_3_1 {n : Nat} : ((n : Int) + 1 + 1 + 1 = 1) = False := by apply eq_false; omega
@[simp] theorem ln_lt_3_1 {n : Nat} : ((n : Int) + 1 + 1 + 1 < 1) = False := by apply eq_false; omega
@[simp] theorem ln_gt_3_1 {n : Nat} : (1 < (n : Int) + 1 + 1 + 1) = True := by apply eq_true; omega
@[simp] theorem ln_ge_3_1 {n : Nat} : (1 ≤ (n : Int) + 1 + 1 + 1) = True := by apply eq_true; omega
@[simp] theorem ln_eq_3_2 {n : Nat} : ((n : Int) + 1 + 1 + 1 = 2) = False := by apply eq_false; omega
@[simp] theorem ln_lt_3_2 {n : Nat} : ((n : Int) + 1 + 1 + 1 < 2) = False := by apply eq_false; omega
@[simp] theorem ln_gt_3_2 {n : Nat} : (2 < (n : Int) + 1 + 1 + 1) = True := by apply eq_true; omega
@[simp] theorem ln_ge_3_2 {n : Nat} : (2 ≤ (n : Int) + 1 + 1 + 1) = True := by apply eq_true; omega
@[simp] theorem ln_lt_3_3 {n : Nat} : ((n : Int) + 1 + 1 + 1 < 3) = False := by apply eq_false; omega
@[simp] theorem ln_ge_3_3 {n : Nat} : (3 ≤ (n : Int) + 1 + 1 + 1) = True := by apply eq_true; omega
@[simp] theorem ln_eq_4_0 {n : Nat} : ((n : Int) + 1 + 1 + 1 + 1 = 0) = False := by apply eq_false; omega
@[simp] theorem ln_lt_4_0 {n : Nat} : ((n : Int) + 1 + 1 + 1 + 1 < 0) = False := by apply eq_false; omega
@[simp] theorem ln_gt_4_0 {n : Nat} : (0 < (n : Int) + 1 + 1 + 1 + 1) = True := by apply eq_true; omega
@[simp] theorem ln_ge_4_0 {n : Nat} : (0 ≤ (n : Int) + 1 + 1 + 1 + 1) = True := by apply eq_true; omega
@[simp] theorem ln_eq_4_1 {n : Nat} : ((n : Int) + 1 + 1 + 1 + 1 = 1) = False := by apply eq_false; omega
@[simp] theorem ln_lt_4_1 {n : Nat} : ((n : Int) + 1 + 1 + 1 + 1 < 1) = False := by apply eq_false; omega
@[simp] theorem ln_gt_4_1 {n : Nat} : (1 < (n : Int) + 1 + 1 + 1 + 1) = True := by apply eq_true; omega
@[simp] theorem ln_ge_4_1 {n : Nat} : (1 ≤ (n : Int) + 1 + 1 + 1 + 1) = True := by apply eq_true; omega
@[simp] theorem ln_eq_4_2 {n : Nat} : ((n : Int) + 1 + 1 + 1 + 1 = 2) = False := by apply eq_false; omega
@[simp] theorem ln_lt_4_2 {n : Nat} : ((n : Int) + 1 + 1 + 1 + 1 < 2) = False := by apply eq_false; omega
@[simp] theorem ln_gt_4_2 {n : Nat} : (2 < (n : Int) + 1 + 1 + 1 + 1) = True := by apply eq_true; omega
@[simp] theorem ln_ge_4_2 {n : Nat} : (2 ≤ (n : Int) + 1 + 1 + 1 + 1) = True := by apply eq_true; omega
@[simp] theorem ln_eq_4_3 {n : Nat} : ((n : Int) + 1 + 1 + 1 + 1 = 3) = False := by apply eq_false; omega
@[simp] theorem ln_lt_4_3 {n : Nat} : ((n : Int) + 1 + 1 + 1 + 1 < 3) = False := by apply eq_false; omega
@[simp] theorem ln_gt_4_3 {n : Nat} : (3 < (n : Int) + 1 + 1 + 1 + 1) = True := by apply eq_true; omega
@[simp] theorem ln_ge_4_3 {n : Nat} : (3 ≤ (n : Int) + 1 + 1 + 1 + 1) = True := by apply eq_true; omega
@[simp] theorem ln_lt_4_4 {n : Nat} : ((n : Int) + 1 + 1 + 1 + 1 < 4) = False := by apply eq_false; omega
@[simp] theorem ln_ge_4_4 {n : Nat} : (4 ≤ (n : Int) + 1 + 1 + 1 + 1) = True := by apply eq_true; omega
@[simp] theorem ln_eq_5_0 {n : Nat} : ((n : Int) + 1 + 1 + 1 + 1 + 1 = 0) = False := by apply eq_false; omega
@[simp] theorem ln_lt_5_0 {n : Nat} : ((n : Int) + 1 + 1 + 1 + 1 + 1 < 0) = False := by apply eq_false; omega
@[simp] theorem ln_gt_5_0 {n : Nat} : (0 < (n : Int) + 1 + 1 + 1 + 1 + 1) = True := by apply eq_true; omega
@[simp] theorem ln_ge_5_0 {n : Nat} : (0 ≤ (n : Int) + 1 + 1 + 1 + 1 + 1) = True := by apply eq_true; omega
@[simp] theorem ln_eq_5_1 {n : Nat} : ((n : Int) + 1 + 1 + 1 + 1 + 1 = 1) = False := by apply eq_false; omega
@[simp] theorem ln_lt_5_1 {n : Nat} : ((n : Int) + 1 + 1 + 1 + 1 + 1 < 1) = False := by apply eq_false; omega
@[simp] theorem ln_gt_5_1 {n : Nat} : (1 < (n : Int) + 1 + 1 + 1 + 1 + 1) = True := by apply eq_true; omega
@[simp] theorem ln_ge_5_1 {n : Nat} : (1 ≤ (n : Int) + 1 + 1 + 1 + 1 + 1) = True := by apply eq_true; omega
@[simp] theorem ln_eq_5_2 {n : Nat} : ((n : Int) + 1 + 1 + 1 + 1 + 1 = 2) = False := by apply eq_false; omega
@[simp] theorem ln_lt_5_2 {n : Nat} : ((n : Int) + 1 + 1 + 1 + 1 + 1 < 2) = False := by apply eq_false; omega
@[simp] theorem ln_gt_5_2 {n : Nat} : (2 < (n : Int) + 1 + 1 + 1 + 1 + 1) = True := by apply eq_true; omega
@[simp] theorem ln_ge_5_2 {n : Nat} : (2 ≤ (n : Int) + 1 + 1 + 1 + 1 + 1) = True := by apply eq_true; omega
@[simp] theorem ln_eq_5_3 {n : Nat} : ((n : Int) + 1 + 1 + 1 + 1 + 1 = 3) = False := by apply eq_false; omega
@[simp] theorem ln_lt_5_3 {n : Nat} : ((n : Int) + 1 + 1 + 1 + 1 + 1 < 3) = False := by apply eq_false; omega
@[simp] theorem ln_gt_5_3 {n : Nat} : (3 < (n : Int) + 1 + 1 + 1 + 1 + 1) = True := by apply eq_true; omega
@[simp] theorem ln_ge_5_3 {n : Nat} : (3 ≤ (n : Int) + 1 + 1 + 1 + 1 + 1) = True := by apply eq_true; omega
@[simp] theorem ln_eq_5_4 {n : Nat} : ((n : Int) + 1 + 1 + 1 + 1 + 1 = 4) = False := by apply eq_false; omega
@[simp] theorem ln_lt_5_4 {n : Nat} : ((n : Int) + 1 + 1 + 1 + 1 + 1 < 4) = False := by apply eq_false; omega
@[simp] theorem ln_gt_5_4 {n : Nat} : (4 < (n : Int) + 1 + 1 + 1 + 1 + 1) = True := by apply eq_true; omega
@[simp] theorem ln_ge_5_4 {n : Nat} : (4 ≤ (n : Int) + 1 + 1 + 1 + 1 + 1) = True := by apply eq_true; omega
@[simp] theorem ln_lt_5_5 {n : Nat} : ((n : Int) + 1 + 1 + 1 + 1 + 1 < 5) = False := by apply eq_false; omega
@[simp] theorem ln_ge_5_5 {n : Nat} : (5 ≤ (n : Int) + 1 + 1 + 1 + 1 + 1) = True := by apply eq_true; omega
@[simp] theorem ln_beq_1_0 {n : Nat} : ((n : Int) + 1 == 0) = false := by rw [beq_eq_false_iff_ne]; omega
@[simp] theorem ln_beq_2_0 {n : Nat} : ((n : Int) + 1 + 1 == 0) = false := by rw [beq_eq_false_iff_ne]; omega
@[simp] theorem ln_beq_2_1 {n : Nat} : ((n : Int) + 1 + 1 == 1) = false := by rw [beq_eq_false_iff_ne]; omega
@[simp] theorem ln_beq_3_0 {n : Nat} : ((n : Int) + 1 + 1 + 1 == 0) = false := by rw [beq_eq_false_iff_ne]; omega
@[simp] theorem ln_beq_3_1 {n : Nat} : ((n : Int) + 1 + 1 + 1 == 1) = false := by rw [beq_eq_false_iff_ne]; omega
@[simp] theorem ln_beq_3_2 {n : Nat} : ((n : Int) + 1 + 1 + 1 == 2) = false := by rw [beq_eq_false_iff_ne]; omega
@[simp] theorem ln_beq_4_0 {n : Nat} : ((n : Int) + 1 + 1 + 1 + 1 == 0) = false := by rw [beq_eq_false_iff_ne]; omega
@[simp] theorem ln_beq_4_1 {n : Nat} : ((n : Int) + 1 + 1 + 1 + 1 == 1) = false := by rw [beq_eq_false_iff_ne]; omega
@[simp] theorem ln_beq_4_2 {n : Nat} : ((n : Int) + 1 + 1 + 1 + 1 == 2) = false := by rw [beq_eq_false_iff_ne]; omega
@[simp] theorem ln_beq_4_3 {n : Nat} : ((n : Int) + 1 + 1 + 1 + 1 == 3) = false := by rw [beq_eq_false_iff_ne]; omega
@[simp] theorem ln_beq_5_0 {n : Nat} : ((n : Int) + 1 + 1 + 1 + 1 + 1 == 0) = false := by rw [beq_eq_false_iff_ne]; omega
@[simp] theorem ln_beq_5_1 {n : Nat} : ((n : Int) + 1 + 1 + 1 + 1 + 1 == 1) = false := by rw [beq_eq_false_iff_ne]; omega
@[simp] theorem ln_beq_5_2 {n : Nat} : ((n : Int) + 1 + 1 + 1 + 1 + 1 == 2) = false := by rw [beq_eq_false_iff_ne]; omega
@[simp] theorem ln_beq_5_3 {n : Nat} : ((n : Int) + 1 + 1 + 1 + 1 + 1 == 3) = false := by rw [beq_eq_false_iff_ne]; omega
@[simp] theorem ln_beq_5_4 {n : Nat} : ((n : Int) + 1 + 1 + 1 + 1 + 1 == 4) = false := by rw [beq_eq_false_iff_ne]; omega
@[simp] theorem ln_beq_6_0 {n : Nat} : ((n : Int) + 1 + 1 + 1 + 1 + 1 + 1 == 0) = false := by rw [beq_eq_false_iff_ne]; omega
@[simp] theorem ln_beq_6_1 {n : Nat} : ((n : Int) + 1 + 1 + 1 + 1 + 1 + 1 == 1) = false := by rw [beq_eq_false_iff_ne]; omega
@[simp] theorem ln_beq_6_2 {n : Nat} : ((n : Int) + 1 + 1 + 1 + 1 + 1 + 1 == 2) = false := by rw [beq_eq_false_iff_ne]; omega
@[simp] theorem ln_beq_6_3 {n : Nat} : ((n : Int) + 1 + 1 + 1 + 1 + 1 + 1 == 3) = false := by rw [beq_eq_false_iff_ne]; omega
@[simp] theorem ln_beq_6_4 {n : Nat} : ((n : Int) + 1 + 1 + 1 + 1 + 1 + 1 == 4) = false := by rw [beq_eq_false_iff_ne]; omega
@[simp] theorem ln_beq_6_5 {n : Nat} : ((n : Int) + 1 + 1 + 1 + 1 + 1 + 1 == 5) = false := by rw [beq_eq_false_iff_ne]; omega
/-! ### plain data -/
mutual
def dt : D → Bool
  | .non => true
  | .bl _ => true
  | .int _ => true
  | .str z => decide (z.length ≤ 100)
  | .tup xs => dts xs && decide (xs.length ≤ 1000)
  | .lst xs => dts xs && decide (xs.length ≤ 1000)
  | .dct ks xs => ks.isEmpty && xs.isEmpty
  | _ => false
def dts : List D → Bool
  | [] => true
  | d :: ds => dt d && dts ds
end
theorem dts_mem : ∀ {xs : List D}, dts xs = true → ∀ x ∈ xs, dt x = true
  | [], _, _, h => by cases h
  | d :: ds, h, x, hx => by
    unfold dts at h
    rw [Bool.and_eq_true] at h
    rcases List.mem_cons.mp hx with rfl | hx
    · exact h.1
    · exact dts_mem h.2 x hx
theorem dt_tup {xs : List D} (h : dt (.tup xs) = true) : dts xs = true ∧ xs.length ≤ 1000 := by
  unfold dt at h
  rw [Bool.and_eq_true] at h
  exact ⟨h.1, of_decide_eq_true h.2⟩
theorem dt_mem {xs : List D} (h : dt (.tup xs) = true) : ∀ x ∈ xs, dt x = true := dts_mem (dt_tup h).1
theorem dt_str {z : Str} (h : dt (.str z) = true) : z.length ≤ 100 := by
  unfold dt at h
  exact of_decide_eq_true h
theorem le_line {n : Nat} (h : n ≤ 1000) : n ≤ sizeLine := by rw [sizeLine_eq]; omega
def pl : D → Bool
  | .ref _ => false
  | .ty _ => false
  | .fn _ => false
  | _ => true
theorem dt_pl {d : D} (h : dt d = true) : pl d = true := by
  cases d <;> first | rfl | (unfold dt at h; cases h)
@[simp] theorem sl_1 : (1 ≤ sizeLine) = True := by rw [sizeLine_eq]; decide
@[simp] theorem sl_2 : (2 ≤ sizeLine) = True := by rw [sizeLine_eq]; decide
@[simp] theorem sl_3 : (3 ≤ sizeLine) = True := by rw [sizeLine_eq]; decide
@[simp] theorem sl_4 : (4 ≤ sizeLine) = True := by rw [sizeLine_eq]; decide
@[simp] theorem sl_5 : (5 ≤ sizeLine) = True := by rw [sizeLine_eq]; decide
@[simp] theorem sl_6 : (6 ≤ sizeLine) = True := by rw [sizeLine_eq]; decide
@[simp] theorem sl_7 : (7 ≤ sizeLine) = True := by rw [sizeLine_eq]; decide
@[simp] theorem sl_8 : (8 ≤ sizeLine) = True := by rw [sizeLine_eq]; decide
@[simp] theorem sl_9 : (9 ≤ sizeLine) = True := by rw [sizeLine_eq]; decide
@[simp] theorem sl_10 : (10 ≤ sizeLine) = True := by rw [sizeLine_eq]; decide
@[simp] theorem sl_11 : (11 ≤ sizeLine) = True := by rw [sizeLine_eq]; decide
@[simp] theorem sl_12 : (12 ≤ sizeLine) = True := by rw [sizeLine_eq]; decide
@[simp] theorem sl_13 : (13 ≤ sizeLine) = True := by rw [sizeLine_eq]; decide
@[simp] theorem sl_14 : (14 ≤ sizeLine) = True := by rw [sizeLine_eq]; decide
@[simp] theorem sl_15 : (15 ≤ sizeLine) = True := by rw [sizeLine_eq]; decide
@[simp] theorem sl_16 : (16 ≤ sizeLine) = True := by rw [sizeLine_eq]; decide
@[simp] theorem sl_17 : (17 ≤ sizeLine) = True := by rw [sizeLine_eq]; decide
@[simp] theorem sl_18 : (18 ≤ sizeLine) = True := by rw [sizeLine_eq]; decide
@[simp] theorem sl_19 : (19 ≤ sizeLine) = True := by rw [sizeLine_eq]; decide
@[simp] theorem sl_20 : (20 ≤ sizeLine) = True := by rw [sizeLine_eq]; decide
@[simp] theorem sl_21 : (21 ≤ sizeLine) = True := by rw [sizeLine_eq]; decide
@[simp] theorem sl_22 : (22 ≤ sizeLine) = True := by rw [sizeLine_eq]; decide
@[simp] theorem sl_23 : (23 ≤ sizeLine) = True := by rw [sizeLine_eq]; decide
@[simp] theorem sl_24 : (24 ≤ sizeLine) = True := by rw [sizeLine_eq]; decide
@[simp] theorem sl_25 : (25 ≤ sizeLine) = True := by rw [sizeLine_eq]; decide
@[simp] theorem sl_26 : (26 ≤ sizeLine) = True := by rw [sizeLine_eq]; decide
@[simp] theorem sl_27 : (27 ≤ sizeLine) = True := by rw [sizeLine_eq]; decide
@[simp] theorem sl_28 : (28 ≤ sizeLine) = True := by rw [sizeLine_eq]; decide
@[simp] theorem sl_29 : (29 ≤ sizeLine) = True := by rw [sizeLine_eq]; decide
@[simp] theorem sl_30 : (30 ≤ sizeLine) = True := by rw [sizeLine_eq]; decide
@[simp] theorem sl_31 : (31 ≤ sizeLine) = True := by rw [sizeLine_eq]; decide
@[simp] theorem sl_32 : (32 ≤ sizeLine) = True := by rw [sizeLine_eq]; decide
@[simp] theorem sl_33 : (33 ≤ sizeLine) = True := by rw [sizeLine_eq]; decide
@[simp] theorem sl_34 : (34 ≤ sizeLine) = True := by rw [sizeLine_eq]; decide
@[simp] theorem sl_35 : (35 ≤ sizeLine) = True := by rw [sizeLine_eq]; decide
@[simp] theorem sl_36 : (36 ≤ sizeLine) = True := by rw [sizeLine_eq]; decide
@[simp] theorem sl_37 : (37 ≤ sizeLine) = True := by rw [sizeLine_eq]; decide
@[simp] theorem sl_38 : (38 ≤ sizeLine) = True := by rw [sizeLine_eq]; decide
@[simp] theorem sl_39 : (39 ≤ sizeLine) = True := by rw [sizeLine_eq]; decide
@[simp] theorem sl_lt0 : (0 < sizeLine) = True := by rw [sizeLine_eq]; decide
@[simp] theorem bAll_1 {st : Store} {a : Bool} : bAll st [.lst [.bl a]] = some (.bl a) := by cases a <;> rfl
@[simp] theorem bAll_2 {st : Store} {a b : Bool} : bAll st [.lst [.bl a, .bl b]] = some (.bl (a && b)) := by cases a <;> cases b <;> rfl
@[simp] theorem bSum_1 {st : Store} {a : Int} : bSum st [.lst [.int a]] = some (.int a) := by
  show some (D.int (a + 0)) = _
  rw [Int.add_zero]
@[simp] theorem bSum_2 {st : Store} {a b : Int} : bSum st [.lst [.int a, .int b]] = some (.int (a + b)) := by
  show some (D.int (a + (b + 0))) = _
  rw [Int.add_zero]
/-- a walk that goes on while p, and else gives r back -/
theorem forR_guard {tg : GG} {body : SS} {cl : CL} {st : Store} {r : D} (p : D → Bool) (Iv : Env → Prop) : ∀ (xs : List D) (env : Env), (∀ x ∈ xs, ∀ env, Iv env → ∃ l, tg x = some l ∧ (p x = true → ∃ e, body cl (putE l env) st = .nx e st ∧ Iv e) ∧ (p x = false → body cl (putE l env) st = .ret r st)) → Iv env →
    (xs.all p = true → ∃ e, forR tg body cl xs env st = .nx e st ∧ Iv e) ∧ (xs.all p = false → forR tg body cl xs env st = .ret r st)
  | [], env, _, hi => ⟨fun _ => ⟨env, rfl, hi⟩, fun h => by cases h⟩
  | x :: xs, env, h, hi => by
    obtain ⟨l, h1, h2, h3⟩ := h x List.mem_cons_self env hi
    cases q : p x with
    | false =>
      refine ⟨fun z => ?_, fun _ => ?_⟩
      · rw [List.all_cons, q] at z
        cases z
      · unfold forR
        rw [h1]
        show (match body cl (putE l env) st with
          | .nx e s => forR tg body cl xs e s
          | .ct e s => forR tg body cl xs e s
          | .bk e s => .nx e s
          | .ret d s => .ret d s
          | .exc x e s => .exc x e s
          | .stuck => .stuck) = _
        rw [h3 q]
    | true =>
      obtain ⟨e, h4, h5⟩ := h2 q
      obtain ⟨k1, k2⟩ := forR_guard p Iv xs e (fun y hy => h y (List.mem_cons_of_mem _ hy)) h5
      have e1 : forR tg body cl (x :: xs) env st = forR tg body cl xs e st := by
        conv => lhs; unfold forR
        rw [h1]
        show (match body cl (putE l env) st with
          | .nx e s => forR tg body cl xs e s
          | .ct e s => forR tg body cl xs e s
          | .bk e s => .nx e s
          | .ret d s => .ret d s
          | .exc x e s => .exc x e s
          | .stuck => .stuck) = _
        rw [h4]
      rw [List.all_cons, q, Bool.true_and, e1]
      exact ⟨k1, k2⟩
/-- each item by itself, those that pass -/
theorem compR_filter {tg : GG} {tt : TT'} {el : EE} {cl : CL} {env : Env} {st : Store} {p : D → Bool} {f : D → D} : ∀ {xs acc : List D}, (∀ x ∈ xs, ∃ l, tg x = some l ∧ tt cl (putE l env) st = .ok (p x) st ∧ el cl (putE l env) st = .ok (f x) st) → acc.length + xs.length ≤ sizeLine → compR tg tt el cl env xs acc st = .ok (acc ++ (xs.filter p).map f) st
  | [], acc, _, _ => by rw [List.filter_nil, List.map_nil, List.append_nil]; rfl
  | x :: r, acc, h, hl => by
    obtain ⟨l, h1, h2, h3⟩ := h x List.mem_cons_self
    rw [List.length_cons] at hl
    unfold compR
    rw [h1]
    show ((tt cl (putE l env) st).bindN fun b s1 => match b with
      | true => (el cl (putE l env) s1).bindN fun y s2 => if acc.length < sizeLine then compR tg tt el cl env r (acc ++ [y]) s2 else .stuck
      | false => compR tg tt el cl env r acc s1) = _
    rw [h2, bindN_ok]
    cases q : p x with
    | false =>
      show compR tg tt el cl env r acc st = _
      rw [compR_filter (fun y hy => h y (List.mem_cons_of_mem _ hy)) (by omega), List.filter_cons_of_neg (by rw [q]; exact Bool.false_ne_true)]
    | true =>
      show ((el cl (putE l env) st).bindN fun y s2 => if acc.length < sizeLine then compR tg tt el cl env r (acc ++ [y]) s2 else .stuck) = _
      rw [h3, bindN_ok, if_pos (by omega), compR_filter (fun y hy => h y (List.mem_cons_of_mem _ hy)) (by rw [List.length_append, List.length_singleton]; omega), List.filter_cons_of_pos q, List.map_cons, List.append_assoc]
      rfl
theorem lc_filter {own : List Nat} {iter : II} {tg : GG} {tt : TT'} {el : EE} {cl : CL} {env : Env} {st : Store} {xs : List D} (p : D → Bool) (f : D → D) (h : iter cl env st = .ok (.items xs) st) (hx : ∀ x ∈ xs, ∃ l, tg x = some l ∧ tt cl (putE l (wipeE own env)) st = .ok (p x) st ∧ el cl (putE l (wipeE own env)) st = .ok (f x) st) (hl : xs.length ≤ sizeLine) :
    lcM (compA own iter tg tt el) cl env st = .ok (.lst ((xs.filter p).map f)) st := by
  unfold lcM
  rw [e_comp h, compR_filter hx (by rw [List.length_nil]; omega)]
  rfl
@[simp] theorem ret_of_for {s : SR} {env : Env} {st : Store} : s.seq (fun e s => .nx e s) = s := by cases s <;> rfl
theorem any_strs (d : D) (hd : isStr d = false) : ∀ ss : List Str, ((ss.map D.str).any fun z => eqF z d) = false
  | [] => rfl
  | s :: r => by
    rw [List.map_cons, List.any_cons, any_strs d hd r]
    cases d <;> first | rfl | cases hd
theorem all_strs (f : D → Bool) (hf : ∀ s, f (.str s) = true) : ∀ ss : List Str, (ss.map D.str).all f = true
  | [] => rfl
  | s :: r => by rw [List.map_cons, List.all_cons, hf, all_strs f hf r]; rfl
def inS (ss : List Str) (d : D) : Bool := match d with
  | .str z => (ss.map D.str).any fun w => eqF w (.str z)
  | _ => false
theorem inB_strs {st : Store} {c d : D} {ss : List Str} (hc : seqOf st c = some (ss.map .str)) (hn : isStr c = false) (h : pl d = true) : inB st d c = some (inS ss d) := by
  have e : inB st d c = (match seqOf st c with
    | none => none
    | some ys => if isFlat d && ys.all isFlat then some (ys.any fun z => eqF z d) else
      if isObj st d && ys.all isStr then some false else match toPr st d, toPs ys with
        | some p, some qs => if SeqAt.shaped p && SeqAt.shaped (.list qs) then some (qs.any fun z => PyData.eqv z p) else none
        | _, _ => none) := by
    cases d <;> first | rfl | (cases c <;> first | rfl | cases hn)
  rw [e, hc]
  have a1 : (ss.map D.str).all isFlat = true := all_strs _ (fun _ => rfl) ss
  have a2 : (ss.map D.str).all isStr = true := all_strs _ (fun _ => rfl) ss
  simp only [a1, a2, Bool.and_true]
  cases d with
  | non => exact congrArg some (any_strs _ rfl ss)
  | bl b => exact congrArg some (any_strs _ rfl ss)
  | int i => exact congrArg some (any_strs _ rfl ss)
  | str z => rfl
  | tup xs => rfl
  | lst xs => rfl
  | scr xs => rfl
  | dct ks xs => rfl
  | _ => cases h
theorem in_tup {st : Store} {d : D} (ss : List Str) (h : pl d = true) : cIn st d (.tup (ss.map .str)) = some (.bl (inS ss d)) := by
  unfold cIn
  rw [inB_strs rfl rfl h]
  rfl
theorem in_lst {st : Store} {d : D} (ss : List Str) (h : pl d = true) : cIn st d (.lst (ss.map .str)) = some (.bl (inS ss d)) := by
  unfold cIn
  rw [inB_strs rfl rfl h]
  rfl
theorem notin_tup {st : Store} {d : D} (ss : List Str) (h : pl d = true) : cNotIn st d (.tup (ss.map .str)) = some (.bl (!inS ss d)) := by
  unfold cNotIn
  rw [inB_strs rfl rfl h]
  rfl
theorem ne_any_str {st : Store} {d : D} {z : Str} (h : pl d = true) : cNe st d (.str z) = some (.bl (match d with
    | .str y => !(y == z)
    | _ => true)) := by
  cases d <;> first | rfl | cases h
@[simp] theorem cut2 {a b : D} {r : List D} {st : Store} : cutD st (.tup (a :: b :: r)) (some 2) none = some (.tup r) := by
  simp [cutD, cutL, HT.sIx]
theorem e_seqT {m : EE} {cl : CL} {env : Env} {st s : Store} {xs : List D} (h : m cl env st = .ok (.tup xs) s) : seqI m cl env st = .ok (.items xs) s := by
  unfold seqI
  rw [h]
  rfl
theorem e_seqL {m : EE} {cl : CL} {env : Env} {st s : Store} {xs : List D} (h : m cl env st = .ok (.lst xs) s) : seqI m cl env st = .ok (.items xs) s := by
  unfold seqI
  rw [h]
  rfl
end PyI
end

section
set_option Elab.async false
set_option linter.all false
set_option maxRecDepth 100000
set_option maxHeartbeats 4000000
/-! Stores that grow, lists of the store, sizes of data. -/
namespace PyI
open PySem PySem.Spec PyProof.Rows L2
structure Ext (st st' : Store) : Prop where
  nx : st.nx ≤ st'.nx
  old : ∀ l, l < st.nx → st'.at_ l = st.at_ l
theorem Ext.refl (st : Store) : Ext st st := ⟨Nat.le_refl _, fun _ _ => rfl⟩
theorem Ext.trans {a b c : Store} (h : Ext a b) (k : Ext b c) : Ext a c := ⟨Nat.le_trans h.nx k.nx, fun l hl => (k.old l (Nat.lt_of_lt_of_le hl h.nx)).trans (h.old l hl)⟩
theorem Ext.new {st : Store} {o : SO} : Ext st (st.new o) := ⟨Nat.le_succ _, fun l hl => if_neg (Nat.ne_of_lt hl)⟩
theorem Ext.put {st s : Store} {l : Nat} {o : SO} (h : Ext st s) (hl : st.nx ≤ l) : Ext st (s.put l o) := ⟨h.nx, fun k hk => (if_neg (by omega)).trans (h.old k hk)⟩
theorem Ext.list {st s : Store} {l : Nat} {xs : List D} (h : Ext st s) (hl : l < st.nx) (e : listAt st l = some xs) : listAt s l = some xs := by
  unfold listAt at e ⊢
  rw [h.old l hl]
  exact e
theorem list_new {st : Store} {xs : List D} : listAt (st.new (.lst xs)) st.nx = some xs := by
  unfold listAt Store.new
  simp
theorem list_put {st : Store} {l : Nat} {xs : List D} : listAt (st.put l (.lst xs)) l = some xs := by
  unfold listAt Store.put
  simp
theorem list_put_ne {st : Store} {l k : Nat} {xs : List D} (h : k ≠ l) : listAt (st.put l (.lst xs)) k = listAt st k := by
  unfold listAt Store.put
  simp [h]
theorem newL_ok {xs : List D} {st : Store} (h : xs.length ≤ sizeLine) : newL xs st = .ok (.ref st.nx) (st.new (.lst xs)) := by
  unfold newL
  rw [if_pos h]
theorem isL_ref {st : Store} {l : Nat} {xs : List D} (h : listAt st l = some xs) : isL st (.ref l) = true := by
  show (listAt st l).isSome = true
  rw [h]
  rfl
theorem app_ok {st : Store} {l : Nat} {xs : List D} {y : D} (h : listAt st l = some xs) (hl : xs.length < sizeLine) : mAppend st (.ref l) [y] = some (.non, st.put l (.lst (xs ++ [y]))) := by
  unfold mAppend
  simp only [h]
  rw [if_pos hl]
theorem ext_ok {st : Store} {l : Nat} {xs ys : List D} {y : D} (h : listAt st l = some xs) (h2 : derefL st y = some ys) (hl : xs.length + ys.length ≤ sizeLine) : mExtend st (.ref l) [y] = some (.non, st.put l (.lst (xs ++ ys))) := by
  unfold mExtend
  simp only [h, h2]
  rw [if_pos hl]
theorem pop_ok {st : Store} {l : Nat} {xs : List D} {y : D} (h : listAt st l = some (xs ++ [y])) : mPop st (.ref l) [] = some (y, st.put l (.lst xs)) := by
  unfold mPop
  simp only [h]
  have e1 : (xs ++ [y])[(xs ++ [y]).length - 1]? = some y := by simp
  simp only [e1, List.dropLast_concat]
theorem ne_nil {st : Store} {l : Nat} {xs : List D} (h : listAt st l = some xs) : cNe st (.ref l) (.lst []) = some (.bl (!xs.isEmpty)) := by
  have e1 : emptyEq st (.ref l) (.lst []) = some xs.isEmpty := by
    unfold emptyEq
    have d1 : derefL st (.ref l) = some xs := h
    have d2 : derefL st (.lst []) = some [] := rfl
    rw [d1, d2]
    simp
  have e2 : eqB' st (.ref l) (.lst []) = some xs.isEmpty := by
    unfold eqB'
    have f1 : flatEq (.ref l) (.lst []) = none := rfl
    have f2 : (isObj st (.ref l) && isStr (.lst [])) = false := by
      rw [show isStr (.lst []) = false from rfl, Bool.and_false]
    simp only [f1, f2, e1]
    rfl
  unfold cNe
  rw [e2]
  rfl
/-! sizes -/
mutual
def szD : D → Nat
  | .tup xs => 1 + szDs xs
  | .lst xs => 1 + szDs xs
  | _ => 1
def szDs : List D → Nat
  | [] => 0
  | d :: ds => szD d + szDs ds
end
mutual
def dpD : D → Nat
  | .tup xs => 1 + dpDs xs
  | .lst xs => 1 + dpDs xs
  | _ => 0
def dpDs : List D → Nat
  | [] => 0
  | d :: ds => max (dpD d) (dpDs ds)
end
@[simp] theorem szDs_nil : szDs [] = 0 := rfl
@[simp] theorem szDs_cons {d : D} {ds : List D} : szDs (d :: ds) = szD d + szDs ds := rfl
@[simp] theorem dpDs_nil : dpDs [] = 0 := rfl
@[simp] theorem dpDs_cons {d : D} {ds : List D} : dpDs (d :: ds) = max (dpD d) (dpDs ds) := rfl
@[simp] theorem szD_tup {ds : List D} : szD (.tup ds) = 1 + szDs ds := rfl
@[simp] theorem szD_lst {ds : List D} : szD (.lst ds) = 1 + szDs ds := rfl
@[simp] theorem dpD_tup {ds : List D} : dpD (.tup ds) = 1 + dpDs ds := rfl
@[simp] theorem dpD_lst {ds : List D} : dpD (.lst ds) = 1 + dpDs ds := rfl
theorem szD_pos (d : D) : 1 ≤ szD d := by
  cases d <;> (unfold szD; omega)
theorem szDs_len : ∀ xs : List D, xs.length ≤ szDs xs
  | [] => Nat.le_refl _
  | d :: ds => by
    have := szDs_len ds
    have := szD_pos d
    rw [szDs_cons, List.length_cons]
    omega
theorem szDs_app : ∀ xs ys : List D, szDs (xs ++ ys) = szDs xs + szDs ys
  | [], ys => by simp
  | d :: ds, ys => by
    rw [List.cons_append, szDs_cons, szDs_cons, szDs_app ds ys]
    omega
theorem dpDs_mem : ∀ {xs : List D} {x : D}, x ∈ xs → dpD x ≤ dpDs xs
  | d :: ds, x, h => by
    unfold dpDs
    rcases List.mem_cons.mp h with rfl | h
    · exact Nat.le_max_left _ _
    · exact Nat.le_trans (dpDs_mem h) (Nat.le_max_right _ _)
theorem dpDs_app : ∀ xs ys : List D, dpDs (xs ++ ys) = max (dpDs xs) (dpDs ys)
  | [], ys => by simp
  | d :: ds, ys => by
    rw [List.cons_append, dpDs_cons, dpDs_cons, dpDs_app ds ys, Nat.max_assoc]
theorem szDs_mem : ∀ {xs : List D} {x : D}, x ∈ xs → szD x ≤ szDs xs
  | d :: ds, x, h => by
    unfold szDs
    rcases List.mem_cons.mp h with rfl | h
    · omega
    · have := szDs_mem h
      omega
/-- a while by a measure -/
theorem whileL_inv {t : TT'} {body : SS} {cl : CL} (Iv : Nat → Env → Store → Prop) (step : ∀ k env st, Iv k env st → ∃ s1, (t cl env st = .ok false s1 ∧ Iv 0 env s1) ∨ (t cl env st = .ok true s1 ∧ ∃ k' env' st', k' < k ∧ body cl env s1 = .nx env' st' ∧ Iv k' env' st')) :
    ∀ (f k : Nat) (env : Env) (st : Store), k < f → Iv k env st → ∃ env' st' , whileL t body cl f env st = .nx env' st' ∧ Iv 0 env' st'
  | 0, _, _, _, h, _ => absurd h (Nat.not_lt_zero _)
  | f + 1, k, env, st, h, hi => by
    obtain ⟨s1, ⟨h1, h2⟩ | ⟨h1, k', env', st', hk, h2, h3⟩⟩ := step k env st hi
    · refine ⟨env, s1, ?_, h2⟩
      unfold whileL
      rw [h1]
      rfl
    · obtain ⟨e2, s2, h4, h5⟩ := whileL_inv Iv step f k' env' st' (by omega) h3
      refine ⟨e2, s2, ?_, h5⟩
      unfold whileL
      rw [h1]
      show (match body cl env s1 with
        | .nx e s => whileL t body cl f e s
        | .ct e s => whileL t body cl f e s
        | .bk e s => .nx e s
        | .ret d s => .ret d s
        | .exc x e s => .exc x e s
        | .stuck => .stuck) = _
      rw [h2]
      exact h4
/-- a for by an invariant -/
theorem forR_inv {tg : GG} {body : SS} {cl : CL} (Iv : List D → Env → Store → Prop) : ∀ (xs : List D) (env : Env) (st : Store), (∀ x r env st, Iv (x :: r) env st → ∃ l, tg x = some l ∧ ∃ env' st', body cl (putE l env) st = .nx env' st' ∧ Iv r env' st') → Iv xs env st → ∃ env' st', forR tg body cl xs env st = .nx env' st' ∧ Iv [] env' st'
  | [], env, st, _, hi => ⟨env, st, rfl, hi⟩
  | x :: r, env, st, h, hi => by
    obtain ⟨l, h1, env', st', h2, h3⟩ := h x r env st hi
    obtain ⟨e2, s2, h4, h5⟩ := forR_inv Iv r env' st' h h3
    refine ⟨e2, s2, ?_, h5⟩
    unfold forR
    rw [h1]
    show (match body cl (putE l env) st with
      | .nx e s => forR tg body cl r e s
      | .ct e s => forR tg body cl r e s
      | .bk e s => .nx e s
      | .ret d s => .ret d s
      | .exc x e s => .exc x e s
      | .stuck => .stuck) = _
    rw [h2]
    exact h4
end PyI
namespace PyI
open PySem PySem.Spec PyProof.Rows L2
theorem rng1_ok {st : Store} {m : Nat} (h : m ≤ 1000) : rng1 st [.int (m : Int)] = some (.items ((List.range m).map fun (i : Nat) => D.int (i : Int))) := by
  have hs : small (m : Int) = true := by
    show Nat.ble m 1000000 = true
    exact Nat.ble_eq_true_of_le (by omega)
  unfold rng1
  simp only [Int.toNat_natCast]
  rw [if_pos hs]
theorem e_rng1 {st s : Store} {m : Nat} {as : AA} {cl : CL} {env : PyI.Env} (ha : as cl env st = .ok [.int (m : Int)] s) (h : m ≤ 1000) : argM rng1 as cl env st = .ok (.items ((List.range m).map fun (i : Nat) => D.int (i : Int))) s := by
  unfold argM
  rw [ha, bind_ok, rng1_ok h]
  rfl
end PyI
end

section
set_option Elab.async false
set_option linter.all false
set_option maxRecDepth 100000
set_option maxHeartbeats 4000000
/-! Lists of the store by their items; numbers. -/
namespace PyI
open PySem PySem.Spec PyProof.Rows L2
def setK (o : Option Store) (env : PyI.Env) : SR := match o with
  | some s => .nx env s
  | none => .stuck
@[simp] theorem setK_some {s : Store} {env : PyI.Env} : setK (some s) env = .nx env s := rfl
@[simp] theorem e_setS {m o i : EE} {cl : CL} {env : PyI.Env} {st : Store} : setS m o i cl env st = (m cl env st).toS env fun d s => (o cl env s).toS env fun x s1 => (i cl env s1).toS env fun y s2 => setK (setItem s2 x y d) env := rfl
theorem ix_ref {st : Store} {l : Nat} {xs : List D} {i : Int} (h : listAt st l = some xs) : ixD st (.ref l) (.int i) = L2.atI xs i := by
  show (match seqOf st (.ref l) with
    | some xs => L2.atI xs i
    | none => none) = _
  have e : seqOf st (.ref l) = some xs := h
  rw [e]
theorem set_ref {st : Store} {l : Nat} {xs : List D} {i : Int} {v : D} {j : Nat} (h : listAt st l = some xs) (hj : ixN xs.length i = some j) : setItem st (.ref l) (.int i) v = some (st.put l (.lst (xs.set j v))) := by
  show (match listAt st l with
    | some xs => (setL xs i v).map fun ys => st.put l (.lst ys)
    | none => none) = _
  rw [h]
  show (setL xs i v).map _ = _
  unfold setL
  rw [hj]
  rfl
theorem mod_ok {st : Store} {a b : Int} (h : 0 < b) : opMod st (.int a) (.int b) = some (.int (a % b)) := by
  have e : opMod st (.int a) (.int b) = if 0 < b then some (.int (a % b)) else none := rfl
  rw [e, if_pos h]
theorem div_ok {st : Store} {a b : Int} (h : 0 < b) (h2 : b.natAbs.log2 < 9000) : opDiv st (.int a) (.int b) = some (.int (a / b)) := by
  have e : opDiv st (.int a) (.int b) = if 0 < b ∧ b.natAbs.log2 < 9000 then some (.int (a / b)) else none := rfl
  rw [e, if_pos ⟨h, h2⟩]
/-- bits -/
def Lo (k : Nat) (a : Int) : Prop := a.natAbs < 2 ^ k
theorem Lo.log {k : Nat} {a : Int} (h : Lo k a) : a.natAbs.log2 ≤ k := by
  by_cases h0 : a.natAbs = 0
  · rw [h0]
    exact Nat.le_trans (by decide : Nat.log2 0 ≤ 0) (Nat.zero_le _)
  · exact Nat.le_of_lt ((Nat.log2_lt h0).mpr h)
theorem Lo.mono {k m : Nat} {a : Int} (h : Lo k a) (hm : k ≤ m) : Lo m a := Nat.lt_of_lt_of_le h (Nat.pow_le_pow_right (by decide) hm)
theorem Lo.mul {k m : Nat} {a b : Int} (h : Lo k a) (h2 : Lo m b) : Lo (k + m) (a * b) := by
  unfold Lo at *
  rw [Int.natAbs_mul, Nat.pow_add]
  exact Nat.mul_lt_mul'' h h2
theorem Lo.add {k : Nat} {a b : Int} (h : Lo k a) (h2 : Lo k b) : Lo (k + 1) (a + b) := by
  unfold Lo at *
  have := Int.natAbs_add_le a b
  rw [Nat.pow_succ]
  omega
theorem mul_lo {st : Store} {a b : Int} {k m : Nat} (h : Lo k a) (h2 : Lo m b) (hk : k + m < 1000000) : opMul st (.int a) (.int b) = some (.int (a * b)) := by
  have := h.log
  have := h2.log
  have e : opMul st (.int a) (.int b) = if a.natAbs.log2 + b.natAbs.log2 < 1000000 then some (.int (a * b)) else none := rfl
  rw [e, if_pos (by omega)]
/-- one object alone is changed -/
structure But (l : Nat) (st st' : Store) : Prop where
  nx : st.nx ≤ st'.nx
  old : ∀ k, k < st.nx → k ≠ l → st'.at_ k = st.at_ k
theorem But.refl (l : Nat) (st : Store) : But l st st := ⟨Nat.le_refl _, fun _ _ _ => rfl⟩
theorem But.trans {l : Nat} {a b c : Store} (h : But l a b) (k : But l b c) : But l a c := ⟨Nat.le_trans h.nx k.nx, fun x hx hn => (k.old x (Nat.lt_of_lt_of_le hx h.nx) hn).trans (h.old x hx hn)⟩
theorem Ext.but {l : Nat} {a b : Store} (h : Ext a b) : But l a b := ⟨h.nx, fun x hx _ => h.old x hx⟩
theorem But.put {l : Nat} {st s : Store} {o : SO} (h : But l st s) : But l st (s.put l o) := ⟨h.nx, fun k hk hn => (if_neg hn).trans (h.old k hk hn)⟩
theorem But.list {l k : Nat} {st s : Store} {xs : List D} (h : But l st s) (hk : k < st.nx) (hn : k ≠ l) (e : listAt st k = some xs) : listAt s k = some xs := by
  unfold listAt at e ⊢
  rw [h.old k hk hn]
  exact e
end PyI
end

section
set_option Elab.async false
set_option linter.all false
set_option maxRecDepth 100000
set_option maxHeartbeats 0
namespace L11
open PySem PySem.Spec PyProof.Rows L2 PyI
/-! the text -/
def top (i : Nat) : Stmt := PySem.Challenge.pw_evenclock_k11_whole_programs_judged.main.body.getD i (.Pass ⟨0, 0, 0, 0⟩)
abbrev c_LETTERS : D := (.str "abcdefghijklmnopqrstuvwxyz")
abbrev c_MOST_DEEP : D := (.int 30)
abbrev c_DEEDS : D := (.tup [(.str "sum"), (.str "less"), (.str "and"), (.str "or"), (.str "same"), (.str "below")])
abbrev c_KINDS : D := (.tup [(.str "word"), (.str "cell"), (.str "look"), (.str "not"), (.str "sum"), (.str "less"), (.str "and"), (.str "or"), (.str "same"), (.str "below"), (.str "set"), (.str "tell"), (.str "pick"), (.str "test"), (.str "go")])
abbrev c_OPEN : D := (.str "open")
abbrev c_HIDDEN : D := (.str "hidden")
abbrev c_MOST_EXPRESSION : D := (.int 6)
abbrev c_MOST_BLOCK : D := (.int 6)
abbrev c_MOST_STATEMENTS : D := (.int 60)
abbrev c_MOST_FILLINGS : D := (.int 64)
abbrev c_MOST_BOTH : D := (.int 512)
abbrev c_MOST_ROWS : D := (.int 4096)
def d0 : DF := ⟨"is_integer", "is_integer", defArgs (top 7), defBody (top 7), defScope (top 7), ["thing"], ["thing"]⟩
def d1 : DF := ⟨"is_within", "is_within", defArgs (top 8), defBody (top 8), defScope (top 8), ["thing", "low", "high"], ["thing", "low", "high"]⟩
def d2 : DF := ⟨"is_tuple_of", "is_tuple_of", defArgs (top 9), defBody (top 9), defScope (top 9), ["thing", "many"], ["thing", "many"]⟩
def d3 : DF := ⟨"is_name", "is_name", defArgs (top 10), defBody (top 10), defScope (top 10), ["thing"], ["thing", "sign"]⟩
def d4 : DF := ⟨"size_of", "size_of", defArgs (top 11), defBody (top 11), defScope (top 11), ["width"], ["width"]⟩
def d5 : DF := ⟨"are_within", "are_within", defArgs (top 12), defBody (top 12), defScope (top 12), ["thing", "low", "high"], ["thing", "low", "high", "one"]⟩
def d6 : DF := ⟨"is_flat", "is_flat", defArgs (top 13), defBody (top 13), defScope (top 13), ["thing"], ["thing", "waiting", "here", "deep", "one", "key"]⟩
def d7 : DF := ⟨"is_deed", "is_deed", defArgs (top 17), defBody (top 17), defScope (top 17), ["thing"], ["thing"]⟩
def d8 : DF := ⟨"is_kind", "is_kind", defArgs (top 18), defBody (top 18), defScope (top 18), ["thing"], ["thing"]⟩
def d9 : DF := ⟨"is_expression_to", "is_expression_to", defArgs (top 28), defBody (top 28), defScope (top 28), ["thing", "deep"], ["thing", "deep", "word"]⟩
def d10 : DF := ⟨"is_expression", "is_expression", defArgs (top 29), defBody (top 29), defScope (top 29), ["thing"], ["thing"]⟩
def d11 : DF := ⟨"is_look", "is_look", defArgs (top 30), defBody (top 30), defScope (top 30), ["thing"], ["thing"]⟩
def d12 : DF := ⟨"inner_blocks", "inner_blocks", defArgs (top 31), defBody (top 31), defScope (top 31), ["statement"], ["statement"]⟩
def d13 : DF := ⟨"is_statement_to", "is_statement_to", defArgs (top 32), defBody (top 32), defScope (top 32), ["thing", "deep"], ["thing", "deep", "word", "block"]⟩
def d14 : DF := ⟨"is_block_to", "is_block_to", defArgs (top 33), defBody (top 33), defScope (top 33), ["thing", "deep"], ["thing", "deep", "one"]⟩
def d15 : DF := ⟨"statements_of", "statements_of", defArgs (top 34), defBody (top 34), defScope (top 34), ["block"], ["block", "found", "statement", "inner"]⟩
def d16 : DF := ⟨"is_statement", "is_statement", defArgs (top 35), defBody (top 35), defScope (top 35), ["thing"], ["thing"]⟩
def d17 : DF := ⟨"is_block", "is_block", defArgs (top 36), defBody (top 36), defScope (top 36), ["thing"], ["thing"]⟩
def d18 : DF := ⟨"is_cell", "is_cell", defArgs (top 37), defBody (top 37), defScope (top 37), ["thing"], ["thing"]⟩
def d19 : DF := ⟨"are_cells", "are_cells", defArgs (top 38), defBody (top 38), defScope (top 38), ["thing"], ["thing", "one"]⟩
def d20 : DF := ⟨"are_tables", "are_tables", defArgs (top 39), defBody (top 39), defScope (top 39), ["width", "thing"], ["width", "thing", "size", "one"]⟩
def d21 : DF := ⟨"power", "power", defArgs (top 40), defBody (top 40), defScope (top 40), ["size", "many"], ["size", "many", "found", "turn"]⟩
def d22 : DF := ⟨"is_shape", "is_shape", defArgs (top 41), defBody (top 41), defScope (top 41), ["thing"], ["thing", "width", "cells", "tables", "block", "size", "name", "word", "hidden", "both"]⟩
def d23 : DF := ⟨"_law_hand", "_law_hand", defArgs (top 43), defBody (top 43), defScope (top 43), ["script"], ["script", "cells", "cell"]⟩
def d24 : DF := ⟨"_law_draw", "_law_draw", defArgs (top 44), defBody (top 44), defScope (top 44), ["hand", "many"], ["hand", "many", "cell", "digit", "number"]⟩
def d25 : DF := ⟨"_law_some", "_law_some", defArgs (top 45), defBody (top 45), defScope (top 45), ["hand", "things"], ["hand", "things"]⟩
def d26 : DF := ⟨"_law_is", "_law_is", defArgs (top 46), defBody (top 46), defScope (top 46), ["said", "due"], ["said", "due", "one", "other"]⟩
def d27 : DF := ⟨"_law_kinds", "_law_kinds", defArgs (top 47), defBody (top 47), defScope (top 47), [], ["deeds"]⟩
def d28 : DF := ⟨"_law_e", "_law_e", defArgs (top 48), defBody (top 48), defScope (top 48), ["hand", "names", "deep"], ["hand", "names", "deep", "kind", "deed"]⟩
def d29 : DF := ⟨"_law_block", "_law_block", defArgs (top 49), defBody (top 49), defScope (top 49), ["hand", "names", "tables", "many", "deep"], ["hand", "names", "tables", "many", "deep", "found", "kind", "e", "look", "first", "last"]⟩
def d30 : DF := ⟨"_law_many", "_law_many", defArgs (top 50), defBody (top 50), defScope (top 50), ["block"], ["block", "found", "statement", "one"]⟩
def d31 : DF := ⟨"_law_inner", "_law_inner", defArgs (top 51), defBody (top 51), defScope (top 51), ["statement"], ["statement"]⟩
def d32 : DF := ⟨"_law_program", "_law_program", defArgs (top 52), defBody (top 52), defScope (top 52), ["hand"], ["hand", "width", "size", "second", "cells", "words", "at", "tables", "names", "cell"]⟩
def d33 : DF := ⟨"_law_is_int", "_law_is_int", defArgs (top 53), defBody (top 53), defScope (top 53), ["thing", "least", "most"], ["thing", "least", "most"]⟩
def d34 : DF := ⟨"_law_is_name", "_law_is_name", defArgs (top 54), defBody (top 54), defScope (top 54), ["thing"], ["thing", "sign"]⟩
def d35 : DF := ⟨"_law_is_e", "_law_is_e", defArgs (top 55), defBody (top 55), defScope (top 55), ["thing", "deep"], ["thing", "deep"]⟩
def d36 : DF := ⟨"_law_is_look", "_law_is_look", defArgs (top 56), defBody (top 56), defScope (top 56), ["thing"], ["thing"]⟩
def d37 : DF := ⟨"_law_wide", "_law_wide", defArgs (top 57), defBody (top 57), defScope (top 57), ["thing", "deep"], ["thing", "deep", "word", "wide", "block"]⟩
def d38 : DF := ⟨"_law_wide_block", "_law_wide_block", defArgs (top 58), defBody (top 58), defScope (top 58), ["thing", "deep"], ["thing", "deep", "one"]⟩
def d39 : DF := ⟨"_law_are_cells", "_law_are_cells", defArgs (top 59), defBody (top 59), defScope (top 59), ["thing"], ["thing", "cell"]⟩
def d40 : DF := ⟨"_law_are_tables", "_law_are_tables", defArgs (top 60), defBody (top 60), defScope (top 60), ["size", "thing"], ["size", "thing", "table", "word"]⟩
def d41 : DF := ⟨"_law_is_shape", "_law_is_shape", defArgs (top 61), defBody (top 61), defScope (top 61), ["thing"], ["thing", "size", "rows", "hides", "both", "name", "first"]⟩
def d42 : DF := ⟨"_law_odd", "_law_odd", defArgs (top 62), defBody (top 62), defScope (top 62), ["hand"], ["hand", "some"]⟩
def d43 : DF := ⟨"_law_bent", "_law_bent", defArgs (top 63), defBody (top 63), defScope (top 63), ["hand", "thing", "deep"], ["hand", "thing", "deep", "at", "way"]⟩
def d44 : DF := ⟨"_law_judged_right", "_law_judged_right", defArgs (top 64), defBody (top 64), defScope (top 64), ["hand", "program"], ["hand", "program", "width", "cells", "tables", "block", "size", "e", "look", "turn", "thing", "one", "some", "told"]⟩
def d45 : DF := ⟨"_law_bounds_right", "_law_bounds_right", defArgs (top 65), defBody (top 65), defScope (top 65), ["hand"], ["hand", "e", "block", "many", "turn", "wide", "things", "due", "width", "firsts", "at", "cells", "first", "program"]⟩
def d46 : DF := ⟨"_law_all", "_law_all", defArgs (top 66), defBody (top 66), defScope (top 66), ["script"], ["script", "hand", "turn"]⟩
def d47 : DF := ⟨"law", "law", defArgs (top 67), defBody (top 67), defScope (top 67), ["script"], ["script"]⟩
def gd : Gd := { fns := [(("is_integer" : Str), 1), (("is_within" : Str), 3), (("is_tuple_of" : Str), 2), (("is_name" : Str), 1), (("size_of" : Str), 1), (("are_within" : Str), 3), (("is_flat" : Str), 1), (("is_deed" : Str), 1), (("is_kind" : Str), 1), (("is_expression_to" : Str), 2), (("is_expression" : Str), 1), (("is_look" : Str), 1), (("inner_blocks" : Str), 1), (("is_statement_to" : Str), 2), (("is_block_to" : Str), 2), (("statements_of" : Str), 1), (("is_statement" : Str), 1), (("is_block" : Str), 1), (("is_cell" : Str), 1), (("are_cells" : Str), 1), (("are_tables" : Str), 2), (("power" : Str), 2), (("is_shape" : Str), 1), (("_law_hand" : Str), 1), (("_law_draw" : Str), 2), (("_law_some" : Str), 2), (("_law_is" : Str), 2), (("_law_kinds" : Str), 0), (("_law_e" : Str), 3), (("_law_block" : Str), 5), (("_law_many" : Str), 1), (("_law_inner" : Str), 1), (("_law_program" : Str), 1), (("_law_is_int" : Str), 3), (("_law_is_name" : Str), 1), (("_law_is_e" : Str), 2), (("_law_is_look" : Str), 1), (("_law_wide" : Str), 2), (("_law_wide_block" : Str), 2), (("_law_are_cells" : Str), 1), (("_law_are_tables" : Str), 2), (("_law_is_shape" : Str), 1), (("_law_odd" : Str), 1), (("_law_bent" : Str), 3), (("_law_judged_right" : Str), 2), (("_law_bounds_right" : Str), 1), (("_law_all" : Str), 1), (("law" : Str), 1)], cns := [(("LETTERS" : Str), c_LETTERS), (("MOST_DEEP" : Str), c_MOST_DEEP), (("DEEDS" : Str), c_DEEDS), (("KINDS" : Str), c_KINDS), (("OPEN" : Str), c_OPEN), (("HIDDEN" : Str), c_HIDDEN), (("MOST_EXPRESSION" : Str), c_MOST_EXPRESSION), (("MOST_BLOCK" : Str), c_MOST_BLOCK), (("MOST_STATEMENTS" : Str), c_MOST_STATEMENTS), (("MOST_FILLINGS" : Str), c_MOST_FILLINGS), (("MOST_BOTH" : Str), c_MOST_BOTH), (("MOST_ROWS" : Str), c_MOST_ROWS)], mu := fun p => [(29, 14), (96, 12), (146, 11), (187, 12), (345, 45)].contains (p.line, p.col) }
/-! the interpretations -/
/-- is_integer: 0 thing -/
def m0 : SS := (seqS (retS (andM (bltM (keep bIsi) (consM (varM 0) (consM (conM (.ty "int")) nilM))) (notM (bltM (keep bIsi) (consM (varM 0) (consM (conM (.ty "bool")) nilM)))))) skipS)
/-- is_within: 0 thing, 1 low, 2 high -/
def m1 : SS := (seqS (retS (andM (callM 0 (consM (varM 0) nilM)) (chainM cLe cLe (varM 1) (varM 0) (varM 2)))) skipS)
/-- is_tuple_of: 0 thing, 1 many -/
def m2 : SS := (seqS (retS (andM (bltM (keep bIsi) (consM (varM 0) (consM (conM (.ty "tuple")) nilM))) (binM cEq (bltM (keep bLen) (consM (varM 0) nilM)) (varM 1)))) skipS)
/-- is_name: 0 thing, 1 sign -/
def m3 : SS := (seqS (retS (andM (bltM (keep bIsi) (consM (varM 0) (consM (conM (.ty "str")) nilM))) (andM (chainM cLe cLe (conM (.int 1)) (bltM (keep bLen) (consM (varM 0) nilM)) (conM (.int 8))) (bltM (keep bAll) (consM (lcM (compA [1] (seqI (varM 0)) (nameG 1) yesT (binM cIn (varM 1) (conM c_LETTERS)))) nilM))))) skipS)
/-- size_of: 0 width -/
def m4 : SS := (seqS (ifS (notT (boolT (callM 1 (consM (varM 0) (consM (conM (.int 1)) (consM (conM (.int 3)) nilM)))))) (seqS stuckS skipS) skipS) (seqS (retS (binM opShl (conM (.int 1)) (varM 0))) skipS))
/-- are_within: 0 thing, 1 low, 2 high, 3 one -/
def m5 : SS := (seqS (retS (andM (bltM (keep bIsi) (consM (varM 0) (consM (conM (.ty "tuple")) nilM))) (bltM (keep bAll) (consM (lcM (compA [3] (seqI (varM 0)) (nameG 3) yesT (callM 1 (consM (varM 3) (consM (varM 1) (consM (varM 2) nilM)))))) nilM)))) skipS)
/-- is_flat: 0 thing, 1 waiting, 2 here, 3 deep, 4 one, 5 key -/
def m6 : SS := (seqS (asgS (lstN (consM (tupM (consM (varM 0) (consM (conM (.int 0)) nilM))) nilM)) (nameG 1)) (seqS (whileS (boolT (binM cNe (varM 1) (lstM nilM))) (seqS (asgS (mtM mPop (varM 1) nilM) (tupG [(nameG 2), (nameG 3)])) (seqS (ifS (boolT (binM cGt (varM 3) (conM c_MOST_DEEP))) (seqS (retS (conM (.bl false))) skipS) skipS) (seqS (ifS (boolT (isisM ["tuple", "list"] (varM 2))) (seqS (exprS (mtM mExtend (varM 1) (consM (lcM (compA [4] (seqI (varM 2)) (nameG 4) yesT (tupM (consM (varM 4) (consM (binM opAdd (varM 3) (conM (.int 1))) nilM))))) nilM))) skipS) (seqS (ifS (boolT (bltM (keep bIsi) (consM (varM 2) (consM (conM (.ty "dict")) nilM)))) (seqS (exprS (mtM mExtend (varM 1) (consM (lcM (compA [5] (seqI (varM 2)) (nameG 5) yesT (tupM (consM (binM ixD (varM 2) (varM 5)) (consM (binM opAdd (varM 3) (conM (.int 1))) nilM))))) nilM))) skipS) skipS) skipS)) skipS)))) (seqS (retS (conM (.bl true))) skipS)))
/-- is_deed: 0 thing -/
def m7 : SS := (seqS (retS (andM (bltM (keep bIsi) (consM (varM 0) (consM (conM (.ty "str")) nilM))) (binM cIn (varM 0) (conM c_DEEDS)))) skipS)
/-- is_kind: 0 thing -/
def m8 : SS := (seqS (retS (andM (bltM (keep bIsi) (consM (varM 0) (consM (conM (.ty "str")) nilM))) (binM cIn (varM 0) (conM c_KINDS)))) skipS)
/-- is_expression_to: 0 thing, 1 deep, 2 word -/
def m9 : SS := (seqS (ifS (orT (boolT (binM cEq (varM 1) (conM (.int 0)))) (orT (notT (boolT (bltM (keep bIsi) (consM (varM 0) (consM (conM (.ty "tuple")) nilM))))) (orT (boolT (binM cLt (bltM (keep bLen) (consM (varM 0) nilM)) (conM (.int 2)))) (notT (boolT (bltM (keep bIsi) (consM (binM ixD (varM 0) (conM (.int 0))) (consM (conM (.ty "str")) nilM)))))))) (seqS (retS (conM (.bl false))) skipS) skipS) (seqS (asgS (binM ixD (varM 0) (conM (.int 0))) (nameG 2)) (seqS (ifS (boolT (binM cEq (varM 2) (conM (.str "word")))) (seqS (retS (andM (binM cEq (bltM (keep bLen) (consM (varM 0) nilM)) (conM (.int 2))) (callM 1 (consM (binM ixD (varM 0) (conM (.int 1))) (consM (conM (.int 0)) (consM (conM (.int 7)) nilM)))))) skipS) skipS) (seqS (ifS (boolT (binM cEq (varM 2) (conM (.str "cell")))) (seqS (retS (andM (binM cEq (bltM (keep bLen) (consM (varM 0) nilM)) (conM (.int 2))) (callM 3 (consM (binM ixD (varM 0) (conM (.int 1))) nilM)))) skipS) skipS) (seqS (ifS (boolT (binM cEq (varM 2) (conM (.str "not")))) (seqS (retS (andM (binM cEq (bltM (keep bLen) (consM (varM 0) nilM)) (conM (.int 2))) (callM 9 (consM (binM ixD (varM 0) (conM (.int 1))) (consM (binM opSub (varM 1) (conM (.int 1))) nilM))))) skipS) skipS) (seqS (ifS (orT (notT (boolT (callM 7 (consM (varM 2) nilM)))) (boolT (binM cNe (bltM (keep bLen) (consM (varM 0) nilM)) (conM (.int 3))))) (seqS (retS (conM (.bl false))) skipS) skipS) (seqS (retS (andM (callM 9 (consM (binM ixD (varM 0) (conM (.int 1))) (consM (binM opSub (varM 1) (conM (.int 1))) nilM))) (callM 9 (consM (binM ixD (varM 0) (conM (.int 2))) (consM (binM opSub (varM 1) (conM (.int 1))) nilM))))) skipS)))))))
/-- is_expression: 0 thing -/
def m10 : SS := (seqS (retS (callM 9 (consM (varM 0) (consM (conM c_MOST_EXPRESSION) nilM)))) skipS)
/-- is_look: 0 thing -/
def m11 : SS := (seqS (ifS (orT (notT (boolT (callM 2 (consM (varM 0) (consM (conM (.int 3)) nilM))))) (orT (notT (boolT (bltM (keep bIsi) (consM (binM ixD (varM 0) (conM (.int 0))) (consM (conM (.ty "str")) nilM))))) (boolT (binM cNe (binM ixD (varM 0) (conM (.int 0))) (conM (.str "look")))))) (seqS (retS (conM (.bl false))) skipS) skipS) (seqS (retS (andM (callM 3 (consM (binM ixD (varM 0) (conM (.int 1))) nilM)) (callM 10 (consM (binM ixD (varM 0) (conM (.int 2))) nilM)))) skipS))
/-- inner_blocks: 0 statement -/
def m12 : SS := (seqS (ifS (boolT (binM cEq (binM ixD (varM 0) (conM (.int 0))) (conM (.str "if")))) (seqS (retS (lstM (consM (binM ixD (varM 0) (conM (.int 2))) (consM (binM ixD (varM 0) (conM (.int 3))) nilM)))) skipS) skipS) (seqS (retS (ifM (boolT (binM cEq (binM ixD (varM 0) (conM (.int 0))) (conM (.str "while")))) (lstM (consM (binM ixD (varM 0) (conM (.int 2))) nilM)) (lstM nilM))) skipS))
/-- is_statement_to: 0 thing, 1 deep, 2 word, 3 block -/
def m13 : SS := (seqS (ifS (orT (boolT (binM cEq (varM 1) (conM (.int 0)))) (orT (notT (boolT (bltM (keep bIsi) (consM (varM 0) (consM (conM (.ty "tuple")) nilM))))) (orT (boolT (binM cLt (bltM (keep bLen) (consM (varM 0) nilM)) (conM (.int 2)))) (notT (boolT (bltM (keep bIsi) (consM (binM ixD (varM 0) (conM (.int 0))) (consM (conM (.ty "str")) nilM)))))))) (seqS (retS (conM (.bl false))) skipS) skipS) (seqS (asgS (binM ixD (varM 0) (conM (.int 0))) (nameG 2)) (seqS (ifS (boolT (binM cEq (varM 2) (conM (.str "set")))) (seqS (retS (andM (binM cEq (bltM (keep bLen) (consM (varM 0) nilM)) (conM (.int 3))) (andM (callM 3 (consM (binM ixD (varM 0) (conM (.int 1))) nilM)) (orM (callM 11 (consM (binM ixD (varM 0) (conM (.int 2))) nilM)) (callM 10 (consM (binM ixD (varM 0) (conM (.int 2))) nilM)))))) skipS) skipS) (seqS (ifS (boolT (binM cEq (varM 2) (conM (.str "tell")))) (seqS (retS (andM (binM cEq (bltM (keep bLen) (consM (varM 0) nilM)) (conM (.int 2))) (callM 10 (consM (binM ixD (varM 0) (conM (.int 1))) nilM)))) skipS) skipS) (seqS (ifS (boolT (binM cEq (varM 2) (conM (.str "pick")))) (seqS (retS (andM (binM cEq (bltM (keep bLen) (consM (varM 0) nilM)) (conM (.int 2))) (callM 3 (consM (binM ixD (varM 0) (conM (.int 1))) nilM)))) skipS) skipS) (seqS (ifS (boolT (binM cEq (varM 2) (conM (.str "rest")))) (seqS (retS (andM (binM cEq (bltM (keep bLen) (consM (varM 0) nilM)) (conM (.int 3))) (andM (callM 8 (consM (binM ixD (varM 0) (conM (.int 1))) nilM)) (callM 1 (consM (binM ixD (varM 0) (conM (.int 2))) (consM (conM (.int 1)) (consM (conM (.int 99)) nilM))))))) skipS) skipS) (seqS (ifS (orT (boolT (binM cNotIn (varM 2) (tupM (consM (conM (.str "if")) (consM (conM (.str "while")) nilM))))) (orT (boolT (binM cNe (bltM (keep bLen) (consM (varM 0) nilM)) (ifM (boolT (binM cEq (varM 2) (conM (.str "if")))) (conM (.int 4)) (conM (.int 3))))) (notT (boolT (callM 10 (consM (binM ixD (varM 0) (conM (.int 1))) nilM)))))) (seqS (retS (conM (.bl false))) skipS) skipS) (seqS (retS (bltM (keep bAll) (consM (lcM (compA [3] (seqI (slM (varM 0) (someO (conM (.int 2))) noO)) (nameG 3) yesT (callM 14 (consM (varM 3) (consM (binM opSub (varM 1) (conM (.int 1))) nilM))))) nilM))) skipS))))))))
/-- is_block_to: 0 thing, 1 deep, 2 one -/
def m14 : SS := (seqS (retS (andM (bltM (keep bIsi) (consM (varM 0) (consM (conM (.ty "tuple")) nilM))) (bltM (keep bAll) (consM (lcM (compA [2] (seqI (varM 0)) (nameG 2) yesT (callM 13 (consM (varM 2) (consM (varM 1) nilM))))) nilM)))) skipS)
/-- statements_of: 0 block, 1 found, 2 statement, 3 inner -/
def m15 : SS := (seqS (asgS (lstN nilM) (nameG 1)) (seqS (forS (seqI (varM 0)) (nameG 2) (seqS (exprS (mtM mAppend (varM 1) (consM (varM 2) nilM))) (seqS (forS (seqI (callM 12 (consM (varM 2) nilM))) (nameG 3) (seqS (exprS (mtM mExtend (varM 1) (consM (callM 15 (consM (varM 3) nilM)) nilM))) skipS)) skipS))) (seqS (retS (varM 1)) skipS)))
/-- is_statement: 0 thing -/
def m16 : SS := (seqS (retS (andM (callM 6 (consM (varM 0) nilM)) (andM (callM 13 (consM (varM 0) (consM (conM c_MOST_BLOCK) nilM))) (binM cLe (bltM (keep bLen) (consM (callM 15 (consM (tupM (consM (varM 0) nilM)) nilM)) nilM)) (conM c_MOST_STATEMENTS))))) skipS)
/-- is_block: 0 thing -/
def m17 : SS := (seqS (retS (andM (callM 6 (consM (varM 0) nilM)) (andM (callM 14 (consM (varM 0) (consM (conM c_MOST_BLOCK) nilM))) (binM cLe (bltM (keep bLen) (consM (callM 15 (consM (varM 0) nilM)) nilM)) (conM c_MOST_STATEMENTS))))) skipS)
/-- is_cell: 0 thing -/
def m18 : SS := (seqS (ifS (orT (notT (boolT (callM 2 (consM (varM 0) (consM (conM (.int 2)) nilM))))) (notT (boolT (callM 3 (consM (binM ixD (varM 0) (conM (.int 0))) nilM))))) (seqS (retS (conM (.bl false))) skipS) skipS) (seqS (ifS (boolT (bltM (keep bIsi) (consM (binM ixD (varM 0) (conM (.int 1))) (consM (conM (.ty "str")) nilM)))) (seqS (retS (binM cIn (binM ixD (varM 0) (conM (.int 1))) (tupM (consM (conM c_OPEN) (consM (conM c_HIDDEN) nilM))))) skipS) skipS) (seqS (retS (callM 1 (consM (binM ixD (varM 0) (conM (.int 1))) (consM (conM (.int 0)) (consM (conM (.int 7)) nilM))))) skipS)))
/-- are_cells: 0 thing, 1 one -/
def m19 : SS := (seqS (retS (andM (bltM (keep bIsi) (consM (varM 0) (consM (conM (.ty "tuple")) nilM))) (andM (chainM cLe cLe (conM (.int 1)) (bltM (keep bLen) (consM (varM 0) nilM)) (conM (.int 6))) (bltM (keep bAll) (consM (lcM (compA [1] (seqI (varM 0)) (nameG 1) yesT (callM 18 (consM (varM 1) nilM)))) nilM))))) skipS)
/-- are_tables: 0 width, 1 thing, 2 size, 3 one -/
def m20 : SS := (seqS (asgS (callM 4 (consM (varM 0) nilM)) (nameG 2)) (seqS (ifS (orT (notT (boolT (bltM (keep bIsi) (consM (varM 1) (consM (conM (.ty "tuple")) nilM))))) (boolT (binM cGt (bltM (keep bLen) (consM (varM 1) nilM)) (conM (.int 4))))) (seqS (retS (conM (.bl false))) skipS) skipS) (seqS (forS (seqI (varM 1)) (nameG 3) (seqS (ifS (orT (notT (boolT (callM 2 (consM (varM 3) (consM (conM (.int 2)) nilM))))) (orT (notT (boolT (callM 3 (consM (binM ixD (varM 3) (conM (.int 0))) nilM)))) (notT (boolT (callM 2 (consM (binM ixD (varM 3) (conM (.int 1))) (consM (varM 2) nilM))))))) (seqS (retS (conM (.bl false))) skipS) skipS) (seqS (ifS (notT (boolT (callM 5 (consM (binM ixD (varM 3) (conM (.int 1))) (consM (conM (.int 0)) (consM (binM opSub (varM 2) (conM (.int 1))) nilM)))))) (seqS (retS (conM (.bl false))) skipS) skipS) skipS))) (seqS (retS (conM (.bl true))) skipS))))
/-- power: 0 size, 1 many, 2 found, 3 turn -/
def m21 : SS := (seqS (asgS (conM (.int 1)) (nameG 2)) (seqS (forS (argM rng1 (consM (varM 1) nilM)) (nameG 3) (seqS (asgS (binM opMul (varM 2) (varM 0)) (nameG 2)) skipS)) (seqS (retS (varM 2)) skipS)))
/-- is_shape: 0 thing, 1 width, 2 cells, 3 tables, 4 block, 5 size, 6 name, 7 word, 8 hidden, 9 both -/
def m22 : SS := (seqS (ifS (orT (notT (boolT (callM 2 (consM (varM 0) (consM (conM (.int 4)) nilM))))) (orT (notT (boolT (callM 1 (consM (binM ixD (varM 0) (conM (.int 0))) (consM (conM (.int 1)) (consM (conM (.int 3)) nilM)))))) (notT (boolT (callM 19 (consM (binM ixD (varM 0) (conM (.int 1))) nilM)))))) (seqS (retS (conM (.bl false))) skipS) skipS) (seqS (asgS (varM 0) (tupG [(nameG 1), (nameG 2), (nameG 3), (nameG 4)])) (seqS (asgS (callM 4 (consM (varM 1) nilM)) (nameG 5)) (seqS (ifS (orT (notT (boolT (callM 20 (consM (varM 1) (consM (varM 3) nilM))))) (notT (boolT (callM 17 (consM (varM 4) nilM))))) (seqS (retS (conM (.bl false))) skipS) skipS) (seqS (ifS (notT (boolT (bltM (keep bAll) (consM (lcM (compA [6, 7] (seqI (varM 2)) (tupG [(nameG 6), (nameG 7)]) yesT (orM (bltM (keep bIsi) (consM (varM 7) (consM (conM (.ty "str")) nilM))) (binM cLt (varM 7) (varM 5))))) nilM)))) (seqS (retS (conM (.bl false))) skipS) skipS) (seqS (asgS (bltM (keep bLen) (consM (lcM (compA [6, 7] (seqI (varM 2)) (tupG [(nameG 6), (nameG 7)]) (boolT (binM cEq (varM 7) (conM c_HIDDEN))) (conM (.int 1)))) nilM)) (nameG 8)) (seqS (asgS (bltM (keep bLen) (consM (lcM (compA [6, 7] (seqI (varM 2)) (tupG [(nameG 6), (nameG 7)]) (boolT (bltM (keep bIsi) (consM (varM 7) (consM (conM (.ty "str")) nilM)))) (conM (.int 1)))) nilM)) (nameG 9)) (seqS (ifS (orT (boolT (binM cGt (callM 21 (consM (varM 5) (consM (varM 8) nilM))) (conM c_MOST_FILLINGS))) (boolT (binM cGt (callM 21 (consM (varM 5) (consM (varM 9) nilM))) (conM c_MOST_BOTH)))) (seqS (retS (conM (.bl false))) skipS) skipS) (seqS (retS (binM cLe (callM 21 (consM (varM 5) (consM (bltM (keep bLen) (consM (varM 2) nilM)) nilM))) (conM c_MOST_ROWS))) skipS)))))))))
/-- _law_hand: 0 script, 1 cells, 2 cell -/
def m23 : SS := (seqS (asgS (lcM (compA [2] (seqI (slM (varM 0) noO (someO (conM (.int 63))))) (nameG 2) yesT (binM opMod (bltM (keep bInt) (consM (bltM (keep bAbs) (consM (bltM (keep bInt) (consM (varM 2) nilM)) nilM)) nilM)) (binM opPow (conM (.int 10)) (conM (.int 36)))))) (nameG 1)) (seqS (retS (lstN (consM (varM 1) (consM (conM (.int 0)) (consM (conM (.int 0)) (consM (binM opAdd (conM (.int 3889)) (binM opMul (conM (.int 7)) (bltM (keep bLen) (consM (varM 1) nilM)))) (consM (conM (.int 0)) nilM))))))) skipS))
/-- _law_draw: 0 hand, 1 many, 2 cell, 3 digit, 4 number -/
def m24 : SS := (seqS (ifS (andT (boolT (binM cEq (binM ixD (varM 0) (conM (.int 2))) (conM (.int 0)))) (boolT (binM cLt (binM ixD (varM 0) (conM (.int 1))) (bltM (keep bLen) (consM (binM ixD (varM 0) (conM (.int 0))) nilM))))) (seqS (asgS (binM ixD (binM ixD (varM 0) (conM (.int 0))) (binM ixD (varM 0) (conM (.int 1)))) (nameG 2)) (seqS (setS (binM opAdd (binM ixD (varM 0) (conM (.int 1))) (conM (.int 1))) (varM 0) (conM (.int 1))) (seqS (setS (binM opMod (bltM (keep bInt) (consM (binM opAdd (binM opAdd (binM opMul (binM ixD (varM 0) (conM (.int 3))) (conM (.int 69621))) (binM opMul (varM 2) (conM (.int 48271)))) (conM (.int 41))) nilM)) (conM (.int 2147483629))) (varM 0) (conM (.int 3))) (seqS (ifS (boolT (binM cGe (varM 2) (binM opPow (conM (.int 10)) (conM (.int 18))))) (seqS (setS (varM 2) (varM 0) (conM (.int 2))) skipS) skipS) skipS)))) skipS) (seqS (ifS (boolT (binM cGt (binM ixD (varM 0) (conM (.int 2))) (conM (.int 0)))) (seqS (asgS (binM opMod (bltM (keep bInt) (consM (binM ixD (varM 0) (conM (.int 2))) nilM)) (varM 1)) (nameG 3)) (seqS (setS (binM opDiv (binM ixD (varM 0) (conM (.int 2))) (varM 1)) (varM 0) (conM (.int 2))) (seqS (retS (varM 3)) skipS))) skipS) (seqS (setS (binM opAdd (binM ixD (varM 0) (conM (.int 4))) (conM (.int 1))) (varM 0) (conM (.int 4))) (seqS (asgS (binM opMod (bltM (keep bInt) (consM (binM opMul (bltM (keep bInt) (consM (binM opAdd (binM ixD (varM 0) (conM (.int 3))) (binM opMul (conM (.int 7919)) (binM ixD (varM 0) (conM (.int 4))))) nilM)) (conM (.int 40692))) nilM)) (conM (.int 2147483647))) (nameG 4)) (seqS (asgS (binM opMod (bltM (keep bInt) (consM (binM opMul (varM 4) (binM opAdd (binM opDiv (varM 4) (conM (.int 1009))) (conM (.int 69621)))) nilM)) (conM (.int 2147483647))) (nameG 4)) (seqS (asgS (binM opMod (bltM (keep bInt) (consM (binM opMul (varM 4) (binM opAdd (binM opDiv (varM 4) (conM (.int 2003))) (conM (.int 40014)))) nilM)) (conM (.int 2147483563))) (nameG 4)) (seqS (retS (binM opMod (bltM (keep bInt) (consM (binM opDiv (varM 4) (conM (.int 16))) nilM)) (varM 1))) skipS)))))))
/-- _law_some: 0 hand, 1 things -/
def m25 : SS := (seqS (retS (binM ixD (varM 1) (callM 24 (consM (varM 0) (consM (bltM (keep bLen) (consM (varM 1) nilM)) nilM))))) skipS)
/-- _law_is: 0 said, 1 due, 2 one, 3 other -/
def m26 : SS := (seqS (ifS (orT (boolT (bltM (keep bIsi) (consM (varM 1) (consM (conM (.ty "tuple")) nilM)))) (boolT (bltM (keep bIsi) (consM (varM 0) (consM (conM (.ty "tuple")) nilM))))) (seqS (ifS (orT (notT (boolT (bltM (keep bIsi) (consM (varM 1) (consM (conM (.ty "tuple")) nilM))))) (orT (notT (boolT (bltM (keep bIsi) (consM (varM 0) (consM (conM (.ty "tuple")) nilM))))) (boolT (binM cNe (bltM (keep bLen) (consM (varM 0) nilM)) (bltM (keep bLen) (consM (varM 1) nilM)))))) (seqS (retS (conM (.bl false))) skipS) skipS) (seqS (retS (bltM (keep bAll) (consM (lcM (compA [2, 3] (argM zips (consM (varM 0) (consM (varM 1) nilM))) (tupG [(nameG 2), (nameG 3)]) yesT (callM 26 (consM (varM 2) (consM (varM 3) nilM))))) nilM))) skipS)) skipS) (seqS (ifS (orT (boolT (binM cIs (varM 1) (conM .non))) (orT (boolT (binM cIs (varM 0) (conM .non))) (orT (boolT (bltM (keep bIsi) (consM (varM 1) (consM (conM (.ty "bool")) nilM)))) (boolT (bltM (keep bIsi) (consM (varM 0) (consM (conM (.ty "bool")) nilM))))))) (seqS (retS (andM (binM cEq (binM cIs (varM 1) (conM .non)) (binM cIs (varM 0) (conM .non))) (andM (binM cEq (bltM (keep bIsi) (consM (varM 1) (consM (conM (.ty "bool")) nilM))) (bltM (keep bIsi) (consM (varM 0) (consM (conM (.ty "bool")) nilM)))) (binM cEq (varM 1) (varM 0))))) skipS) skipS) (seqS (ifS (orT (boolT (binM cNe (bltM (keep bIsi) (consM (varM 0) (consM (conM (.ty "str")) nilM))) (bltM (keep bIsi) (consM (varM 1) (consM (conM (.ty "str")) nilM))))) (boolT (binM cNe (bltM (keep bIsi) (consM (varM 0) (consM (conM (.ty "int")) nilM))) (bltM (keep bIsi) (consM (varM 1) (consM (conM (.ty "int")) nilM)))))) (seqS (retS (conM (.bl false))) skipS) skipS) (seqS (retS (binM cEq (varM 0) (varM 1))) skipS))))
/-- _law_kinds: 0 deeds -/
def m27 : SS := (seqS (asgS (lstM (consM (conM (.str "sum")) (consM (conM (.str "less")) (consM (conM (.str "and")) (consM (conM (.str "or")) (consM (conM (.str "same")) (consM (conM (.str "below")) nilM))))))) (nameG 0)) (seqS (retS (binM opAdd (binM opAdd (lstM (consM (conM (.str "word")) (consM (conM (.str "cell")) (consM (conM (.str "look")) (consM (conM (.str "not")) nilM))))) (varM 0)) (lstM (consM (conM (.str "set")) (consM (conM (.str "tell")) (consM (conM (.str "pick")) (consM (conM (.str "test")) (consM (conM (.str "go")) nilM)))))))) skipS))
/-- _law_e: 0 hand, 1 names, 2 deep, 3 kind, 4 deed -/
def m28 : SS := (seqS (asgS (callM 24 (consM (varM 0) (consM (conM (.int 5)) nilM))) (nameG 3)) (seqS (ifS (orT (boolT (binM cLt (varM 2) (conM (.int 2)))) (boolT (binM cEq (varM 3) (conM (.int 0))))) (seqS (retS (ifM (boolT (binM cEq (callM 24 (consM (varM 0) (consM (conM (.int 3)) nilM))) (conM (.int 0)))) (tupM (consM (conM (.str "word")) (consM (callM 24 (consM (varM 0) (consM (conM (.int 4)) nilM))) nilM))) (tupM (consM (conM (.str "cell")) (consM (callM 25 (consM (varM 0) (consM (varM 1) nilM))) nilM))))) skipS) skipS) (seqS (ifS (boolT (binM cEq (varM 3) (conM (.int 1)))) (seqS (retS (tupM (consM (conM (.str "not")) (consM (callM 28 (consM (varM 0) (consM (varM 1) (consM (binM opSub (varM 2) (conM (.int 1))) nilM)))) nilM)))) skipS) skipS) (seqS (asgS (callM 25 (consM (varM 0) (consM (lstM (consM (conM (.str "sum")) (consM (conM (.str "less")) (consM (conM (.str "and")) (consM (conM (.str "or")) (consM (conM (.str "same")) (consM (conM (.str "below")) nilM))))))) nilM))) (nameG 4)) (seqS (retS (tupM (consM (varM 4) (consM (callM 28 (consM (varM 0) (consM (varM 1) (consM (binM opSub (varM 2) (conM (.int 1))) nilM)))) (consM (callM 28 (consM (varM 0) (consM (varM 1) (consM (binM opSub (varM 2) (conM (.int 1))) nilM)))) nilM))))) skipS)))))
/-- _law_block: 0 hand, 1 names, 2 tables, 3 many, 4 deep, 5 found, 6 kind, 7 e, 8 look, 9 first, 10 last -/
def m29 : SS := (seqS (asgS (lstN nilM) (nameG 5)) (seqS (whileS (andT (boolT (binM cGt (varM 3) (conM (.int 0)))) (boolT (binM cGt (callM 24 (consM (varM 0) (consM (conM (.int 6)) nilM))) (conM (.int 0))))) (seqS (parS [6, 7] (consM (callM 24 (consM (varM 0) (consM (conM (.int 9)) nilM))) (consM (callM 28 (consM (varM 0) (consM (varM 1) (consM (conM (.int 3)) nilM)))) nilM))) (seqS (asgS (binM opSub (varM 3) (conM (.int 1))) (nameG 3)) (seqS (ifS (boolT (binM cLt (varM 6) (conM (.int 2)))) (seqS (asgS (ifM (boolT (binM cGt (bltM (keep bLen) (consM (varM 2) nilM)) (conM (.int 0)))) (tupM (consM (conM (.str "look")) (consM (binM ixD (callM 25 (consM (varM 0) (consM (varM 2) nilM))) (conM (.int 0))) (consM (varM 7) nilM)))) (varM 7)) (nameG 8)) (seqS (exprS (mtM mAppend (varM 5) (consM (tupM (consM (conM (.str "set")) (consM (callM 25 (consM (varM 0) (consM (varM 1) nilM))) (consM (callM 25 (consM (varM 0) (consM (lstM (consM (varM 7) (consM (varM 8) nilM))) nilM))) nilM)))) nilM))) skipS)) (seqS (ifS (boolT (binM cLt (varM 6) (conM (.int 4)))) (seqS (exprS (mtM mAppend (varM 5) (consM (tupM (consM (conM (.str "tell")) (consM (varM 7) nilM))) nilM))) skipS) (seqS (ifS (boolT (binM cEq (varM 6) (conM (.int 4)))) (seqS (exprS (mtM mAppend (varM 5) (consM (tupM (consM (conM (.str "pick")) (consM (callM 25 (consM (varM 0) (consM (varM 1) nilM))) nilM))) nilM))) skipS) (seqS (ifS (boolT (binM cEq (varM 6) (conM (.int 5)))) (seqS (exprS (mtM mAppend (varM 5) (consM (tupM (consM (conM (.str "rest")) (consM (callM 25 (consM (varM 0) (consM (call0M 27) nilM))) (consM (binM opAdd (conM (.int 1)) (callM 24 (consM (varM 0) (consM (conM (.int 3)) nilM)))) nilM)))) nilM))) skipS) (seqS (ifS (andT (boolT (binM cGt (varM 4) (conM (.int 1)))) (boolT (binM cGt (varM 3) (conM (.int 0))))) (seqS (asgS (callM 29 (consM (varM 0) (consM (varM 1) (consM (varM 2) (consM (varM 3) (consM (binM opSub (varM 4) (conM (.int 1))) nilM)))))) (nameG 9)) (seqS (asgS (binM opSub (varM 3) (callM 30 (consM (varM 9) nilM))) (nameG 3)) (seqS (ifS (boolT (binM cEq (varM 6) (conM (.int 6)))) (seqS (exprS (mtM mAppend (varM 5) (consM (tupM (consM (conM (.str "while")) (consM (varM 7) (consM (varM 9) nilM)))) nilM))) skipS) (seqS (asgS (callM 29 (consM (varM 0) (consM (varM 1) (consM (varM 2) (consM (varM 3) (consM (binM opSub (varM 4) (conM (.int 1))) nilM)))))) (nameG 10)) (seqS (asgS (binM opSub (varM 3) (callM 30 (consM (varM 10) nilM))) (nameG 3)) (seqS (exprS (mtM mAppend (varM 5) (consM (tupM (consM (conM (.str "if")) (consM (varM 7) (consM (varM 9) (consM (varM 10) nilM))))) nilM))) skipS)))) skipS))) skipS) skipS)) skipS)) skipS)) skipS)) skipS)))) (seqS (retS (bltM (keep bTup) (consM (varM 5) nilM))) skipS)))
/-- _law_many: 0 block, 1 found, 2 statement, 3 one -/
def m30 : SS := (seqS (asgS (conM (.int 0)) (nameG 1)) (seqS (forS (seqI (varM 0)) (nameG 2) (seqS (asgS (binM opAdd (binM opAdd (varM 1) (conM (.int 1))) (bltM (keep bSum) (consM (lcM (compA [3] (seqI (callM 31 (consM (varM 2) nilM))) (nameG 3) yesT (callM 30 (consM (varM 3) nilM)))) nilM))) (nameG 1)) skipS)) (seqS (retS (varM 1)) skipS)))
/-- _law_inner: 0 statement -/
def m31 : SS := (seqS (retS (ifM (boolT (binM cIn (binM ixD (varM 0) (conM (.int 0))) (tupM (consM (conM (.str "if")) (consM (conM (.str "while")) nilM))))) (slM (varM 0) (someO (conM (.int 2))) noO) (tupM nilM))) skipS)
/-- _law_program: 0 hand, 1 width, 2 size, 3 second, 4 cells, 5 words, 6 at, 7 tables, 8 names, 9 cell -/
def m32 : SS := (seqS (asgS (binM opAdd (conM (.int 1)) (callM 24 (consM (varM 0) (consM (conM (.int 2)) nilM)))) (nameG 1)) (seqS (asgS (binM opMul (conM (.int 2)) (varM 1)) (nameG 2)) (seqS (asgS (callM 25 (consM (varM 0) (consM (lstM (consM (conM (.str "open")) (consM (conM (.str "hidden")) (consM (callM 24 (consM (varM 0) (consM (varM 2) nilM))) nilM)))) nilM))) (nameG 3)) (seqS (asgS (slM (tupM (consM (tupM (consM (conM (.str "a")) (consM (conM (.str "hidden")) nilM))) (consM (tupM (consM (conM (.str "b")) (consM (varM 3) nilM))) (consM (tupM (consM (conM (.str "c")) (consM (callM 24 (consM (varM 0) (consM (varM 2) nilM))) nilM))) nilM)))) noO (someO (binM opAdd (conM (.int 2)) (callM 24 (consM (varM 0) (consM (conM (.int 2)) nilM)))))) (nameG 4)) (seqS (asgS (ifM (boolT (binM cEq (callM 24 (consM (varM 0) (consM (conM (.int 3)) nilM))) (conM (.int 0)))) (revM (varM 4)) (varM 4)) (nameG 4)) (seqS (asgS (bltM (keep bTup) (consM (lcM (compA [6] (argM rng1 (consM (varM 2) nilM)) (nameG 6) yesT (callM 24 (consM (varM 0) (consM (varM 2) nilM))))) nilM)) (nameG 5)) (seqS (asgS (slM (tupM (consM (tupM (consM (conM (.str "t")) (consM (varM 5) nilM))) nilM)) noO (someO (callM 24 (consM (varM 0) (consM (conM (.int 2)) nilM))))) (nameG 7)) (seqS (asgS (lcM (compA [9] (seqI (varM 4)) (nameG 9) yesT (binM ixD (varM 9) (conM (.int 0))))) (nameG 8)) (seqS (retS (tupM (consM (varM 1) (consM (varM 4) (consM (varM 7) (consM (callM 29 (consM (varM 0) (consM (varM 8) (consM (varM 7) (consM (conM (.int 9)) (consM (conM (.int 3)) nilM)))))) nilM)))))) skipS)))))))))
/-- _law_is_int: 0 thing, 1 least, 2 most -/
def m33 : SS := (seqS (retS (andM (bltM (keep bIsi) (consM (varM 0) (consM (conM (.ty "int")) nilM))) (andM (notM (bltM (keep bIsi) (consM (varM 0) (consM (conM (.ty "bool")) nilM)))) (chainM cLe cLe (varM 1) (varM 0) (varM 2))))) skipS)
/-- _law_is_name: 0 thing, 1 sign -/
def m34 : SS := (seqS (ifS (orT (notT (boolT (bltM (keep bIsi) (consM (varM 0) (consM (conM (.ty "str")) nilM))))) (notT (boolT (chainM cLe cLe (conM (.int 1)) (bltM (keep bLen) (consM (varM 0) nilM)) (conM (.int 8)))))) (seqS (retS (conM (.bl false))) skipS) skipS) (seqS (retS (bltM (keep bAll) (consM (lcM (compA [1] (seqI (varM 0)) (nameG 1) yesT (binM cIn (varM 1) (conM (.str "abcdefghijklmnopqrstuvwxyz"))))) nilM))) skipS))
/-- _law_is_e: 0 thing, 1 deep -/
def m35 : SS := (seqS (ifS (orT (notT (boolT (bltM (keep bIsi) (consM (varM 0) (consM (conM (.ty "tuple")) nilM))))) (orT (boolT (binM cLt (bltM (keep bLen) (consM (varM 0) nilM)) (conM (.int 2)))) (orT (notT (boolT (bltM (keep bIsi) (consM (binM ixD (varM 0) (conM (.int 0))) (consM (conM (.ty "str")) nilM))))) (boolT (binM cLt (varM 1) (conM (.int 1))))))) (seqS (retS (conM (.bl false))) skipS) skipS) (seqS (ifS (boolT (binM cIn (binM ixD (varM 0) (conM (.int 0))) (tupM (consM (conM (.str "word")) (consM (conM (.str "cell")) nilM))))) (seqS (retS (andM (binM cEq (bltM (keep bLen) (consM (varM 0) nilM)) (conM (.int 2))) (ifM (boolT (binM cEq (binM ixD (varM 0) (conM (.int 0))) (conM (.str "word")))) (callM 33 (consM (binM ixD (varM 0) (conM (.int 1))) (consM (conM (.int 0)) (consM (conM (.int 7)) nilM)))) (callM 34 (consM (binM ixD (varM 0) (conM (.int 1))) nilM))))) skipS) skipS) (seqS (ifS (boolT (binM cEq (binM ixD (varM 0) (conM (.int 0))) (conM (.str "not")))) (seqS (retS (andM (binM cEq (bltM (keep bLen) (consM (varM 0) nilM)) (conM (.int 2))) (callM 35 (consM (binM ixD (varM 0) (conM (.int 1))) (consM (binM opSub (varM 1) (conM (.int 1))) nilM))))) skipS) skipS) (seqS (ifS (orT (boolT (binM cNotIn (binM ixD (varM 0) (conM (.int 0))) (tupM (consM (conM (.str "sum")) (consM (conM (.str "less")) (consM (conM (.str "and")) (consM (conM (.str "or")) (consM (conM (.str "same")) (consM (conM (.str "below")) nilM))))))))) (boolT (binM cNe (bltM (keep bLen) (consM (varM 0) nilM)) (conM (.int 3))))) (seqS (retS (conM (.bl false))) skipS) skipS) (seqS (retS (andM (callM 35 (consM (binM ixD (varM 0) (conM (.int 1))) (consM (binM opSub (varM 1) (conM (.int 1))) nilM))) (callM 35 (consM (binM ixD (varM 0) (conM (.int 2))) (consM (binM opSub (varM 1) (conM (.int 1))) nilM))))) skipS)))))
/-- _law_is_look: 0 thing -/
def m36 : SS := (seqS (ifS (orT (notT (boolT (bltM (keep bIsi) (consM (varM 0) (consM (conM (.ty "tuple")) nilM))))) (orT (boolT (binM cNe (bltM (keep bLen) (consM (varM 0) nilM)) (conM (.int 3)))) (boolT (binM cNe (binM ixD (varM 0) (conM (.int 0))) (conM (.str "look")))))) (seqS (retS (conM (.bl false))) skipS) skipS) (seqS (retS (andM (callM 34 (consM (binM ixD (varM 0) (conM (.int 1))) nilM)) (callM 35 (consM (binM ixD (varM 0) (conM (.int 2))) (consM (conM (.int 6)) nilM))))) skipS))
/-- _law_wide: 0 thing, 1 deep, 2 word, 3 wide, 4 block -/
def m37 : SS := (seqS (ifS (orT (notT (boolT (bltM (keep bIsi) (consM (varM 0) (consM (conM (.ty "tuple")) nilM))))) (orT (boolT (binM cLt (bltM (keep bLen) (consM (varM 0) nilM)) (conM (.int 2)))) (orT (notT (boolT (bltM (keep bIsi) (consM (binM ixD (varM 0) (conM (.int 0))) (consM (conM (.ty "str")) nilM))))) (boolT (binM cLt (varM 1) (conM (.int 1))))))) (seqS (retS (conM (.int 100))) skipS) skipS) (seqS (parS [2, 3] (consM (binM ixD (varM 0) (conM (.int 0))) (consM (bltM (keep bLen) (consM (varM 0) nilM)) nilM))) (seqS (ifS (boolT (binM cIn (varM 2) (tupM (consM (conM (.str "if")) (consM (conM (.str "while")) nilM))))) (seqS (ifS (orT (boolT (binM cNe (varM 3) (ifM (boolT (binM cEq (varM 2) (conM (.str "if")))) (conM (.int 4)) (conM (.int 3))))) (notT (boolT (callM 35 (consM (binM ixD (varM 0) (conM (.int 1))) (consM (conM (.int 6)) nilM)))))) (seqS (retS (conM (.int 100))) skipS) skipS) (seqS (retS (binM opAdd (conM (.int 1)) (bltM (keep bSum) (consM (lcM (compA [4] (seqI (slM (varM 0) (someO (conM (.int 2))) noO)) (nameG 4) yesT (callM 38 (consM (varM 4) (consM (binM opSub (varM 1) (conM (.int 1))) nilM))))) nilM)))) skipS)) skipS) (seqS (ifS (boolT (binM cEq (varM 2) (conM (.str "set")))) (seqS (ifS (orT (boolT (binM cNe (varM 3) (conM (.int 3)))) (notT (boolT (callM 34 (consM (binM ixD (varM 0) (conM (.int 1))) nilM))))) (seqS (retS (conM (.int 100))) skipS) skipS) (seqS (retS (ifM (orT (boolT (callM 35 (consM (binM ixD (varM 0) (conM (.int 2))) (consM (conM (.int 6)) nilM)))) (boolT (callM 36 (consM (binM ixD (varM 0) (conM (.int 2))) nilM)))) (conM (.int 1)) (conM (.int 100)))) skipS)) skipS) (seqS (ifS (boolT (binM cEq (varM 2) (conM (.str "rest")))) (seqS (retS (ifM (andT (boolT (binM cEq (varM 3) (conM (.int 3)))) (andT (boolT (binM cIn (binM ixD (varM 0) (conM (.int 1))) (call0M 27))) (boolT (callM 33 (consM (binM ixD (varM 0) (conM (.int 2))) (consM (conM (.int 1)) (consM (conM (.int 99)) nilM))))))) (conM (.int 1)) (conM (.int 100)))) skipS) skipS) (seqS (ifS (boolT (binM cIn (varM 2) (tupM (consM (conM (.str "tell")) (consM (conM (.str "pick")) nilM))))) (seqS (retS (ifM (andT (boolT (binM cEq (varM 3) (conM (.int 2)))) (ifT (boolT (binM cEq (varM 2) (conM (.str "tell")))) (boolT (callM 35 (consM (binM ixD (varM 0) (conM (.int 1))) (consM (conM (.int 6)) nilM)))) (boolT (callM 34 (consM (binM ixD (varM 0) (conM (.int 1))) nilM))))) (conM (.int 1)) (conM (.int 100)))) skipS) skipS) (seqS (retS (conM (.int 100))) skipS)))))))
/-- _law_wide_block: 0 thing, 1 deep, 2 one -/
def m38 : SS := (seqS (retS (ifM (boolT (bltM (keep bIsi) (consM (varM 0) (consM (conM (.ty "tuple")) nilM)))) (bltM (keep bSum) (consM (lcM (compA [2] (seqI (varM 0)) (nameG 2) yesT (callM 37 (consM (varM 2) (consM (varM 1) nilM))))) nilM)) (conM (.int 100)))) skipS)
/-- _law_are_cells: 0 thing, 1 cell -/
def m39 : SS := (seqS (ifS (orT (notT (boolT (bltM (keep bIsi) (consM (varM 0) (consM (conM (.ty "tuple")) nilM))))) (notT (boolT (chainM cLe cLe (conM (.int 1)) (bltM (keep bLen) (consM (varM 0) nilM)) (conM (.int 6)))))) (seqS (retS (conM (.bl false))) skipS) skipS) (seqS (forS (seqI (varM 0)) (nameG 1) (seqS (ifS (orT (notT (boolT (bltM (keep bIsi) (consM (varM 1) (consM (conM (.ty "tuple")) nilM))))) (orT (boolT (binM cNe (bltM (keep bLen) (consM (varM 1) nilM)) (conM (.int 2)))) (notT (boolT (callM 34 (consM (binM ixD (varM 1) (conM (.int 0))) nilM)))))) (seqS (retS (conM (.bl false))) skipS) skipS) (seqS (ifS (andT (boolT (binM cNotIn (binM ixD (varM 1) (conM (.int 1))) (tupM (consM (conM (.str "open")) (consM (conM (.str "hidden")) nilM))))) (notT (boolT (callM 33 (consM (binM ixD (varM 1) (conM (.int 1))) (consM (conM (.int 0)) (consM (conM (.int 7)) nilM))))))) (seqS (retS (conM (.bl false))) skipS) skipS) skipS))) (seqS (retS (conM (.bl true))) skipS)))
/-- _law_are_tables: 0 size, 1 thing, 2 table, 3 word -/
def m40 : SS := (seqS (ifS (orT (notT (boolT (bltM (keep bIsi) (consM (varM 1) (consM (conM (.ty "tuple")) nilM))))) (boolT (binM cGt (bltM (keep bLen) (consM (varM 1) nilM)) (conM (.int 4))))) (seqS (retS (conM (.bl false))) skipS) skipS) (seqS (forS (seqI (varM 1)) (nameG 2) (seqS (ifS (orT (notT (boolT (bltM (keep bIsi) (consM (varM 2) (consM (conM (.ty "tuple")) nilM))))) (orT (boolT (binM cNe (bltM (keep bLen) (consM (varM 2) nilM)) (conM (.int 2)))) (notT (boolT (callM 34 (consM (binM ixD (varM 2) (conM (.int 0))) nilM)))))) (seqS (retS (conM (.bl false))) skipS) skipS) (seqS (ifS (orT (notT (boolT (bltM (keep bIsi) (consM (binM ixD (varM 2) (conM (.int 1))) (consM (conM (.ty "tuple")) nilM))))) (boolT (binM cNe (bltM (keep bLen) (consM (binM ixD (varM 2) (conM (.int 1))) nilM)) (varM 0)))) (seqS (retS (conM (.bl false))) skipS) skipS) (seqS (ifS (notT (boolT (bltM (keep bAll) (consM (lcM (compA [3] (seqI (binM ixD (varM 2) (conM (.int 1)))) (nameG 3) yesT (callM 33 (consM (varM 3) (consM (conM (.int 0)) (consM (binM opSub (varM 0) (conM (.int 1))) nilM)))))) nilM)))) (seqS (retS (conM (.bl false))) skipS) skipS) skipS)))) (seqS (retS (conM (.bl true))) skipS)))
/-- _law_is_shape: 0 thing, 1 size, 2 rows, 3 hides, 4 both, 5 name, 6 first -/
def m41 : SS := (seqS (ifS (orT (notT (boolT (bltM (keep bIsi) (consM (varM 0) (consM (conM (.ty "tuple")) nilM))))) (orT (boolT (binM cNe (bltM (keep bLen) (consM (varM 0) nilM)) (conM (.int 4)))) (notT (boolT (callM 33 (consM (binM ixD (varM 0) (conM (.int 0))) (consM (conM (.int 1)) (consM (conM (.int 3)) nilM)))))))) (seqS (retS (conM (.bl false))) skipS) skipS) (seqS (asgS (ifM (boolT (binM cEq (binM ixD (varM 0) (conM (.int 0))) (conM (.int 3)))) (conM (.int 8)) (binM opMul (conM (.int 2)) (binM ixD (varM 0) (conM (.int 0))))) (nameG 1)) (seqS (ifS (orT (notT (boolT (callM 39 (consM (binM ixD (varM 0) (conM (.int 1))) nilM)))) (orT (notT (boolT (callM 40 (consM (varM 1) (consM (binM ixD (varM 0) (conM (.int 2))) nilM))))) (boolT (binM cGt (callM 38 (consM (binM ixD (varM 0) (conM (.int 3))) (consM (conM (.int 6)) nilM))) (conM (.int 60)))))) (seqS (retS (conM (.bl false))) skipS) skipS) (seqS (asgS (tupM (consM (conM (.int 1)) (consM (conM (.int 1)) (consM (conM (.int 1)) nilM)))) (tupG [(nameG 2), (nameG 3), (nameG 4)])) (seqS (forS (seqI (binM ixD (varM 0) (conM (.int 1)))) (tupG [(nameG 5), (nameG 6)]) (seqS (asgS (binM opMul (varM 2) (varM 1)) (nameG 2)) (seqS (asgS (binM opMul (varM 3) (ifM (boolT (binM cEq (varM 6) (conM (.str "hidden")))) (varM 1) (conM (.int 1)))) (nameG 3)) (seqS (asgS (binM opMul (varM 4) (ifM (boolT (binM cIn (varM 6) (tupM (consM (conM (.str "hidden")) (consM (conM (.str "open")) nilM))))) (varM 1) (conM (.int 1)))) (nameG 4)) (seqS (ifS (andT (boolT (bltM (keep bIsi) (consM (varM 6) (consM (conM (.ty "int")) nilM)))) (boolT (binM cGe (varM 6) (varM 1)))) (seqS (retS (conM (.bl false))) skipS) skipS) skipS))))) (seqS (retS (andM (binM cLe (varM 2) (conM (.int 4096))) (andM (binM cLe (varM 3) (conM (.int 64))) (binM cLe (varM 4) (conM (.int 512)))))) skipS))))))
/-- _law_odd: 0 hand, 1 some -/
def m42 : SS := (seqS (asgS (lstM (consM (conM .non) (consM (conM (.bl true)) (consM (unM opNeg (conM (.int 1))) (consM (conM (.int 8)) (consM (conM (.int 7)) (consM (conM (.str "A")) (consM (conM (.str "")) (consM (conM (.str "toolongname")) (consM (conM (.str "b")) (consM (tupM nilM) (consM (tupM (consM (conM (.str "word")) (consM (conM (.bl true)) nilM))) (consM (tupM (consM (conM (.str "word")) (consM (conM (.int 8)) nilM))) (consM (lstM (consM (conM (.str "cell")) (consM (conM (.str "a")) nilM))) (consM noDict nilM))))))))))))))) (nameG 1)) (seqS (retS (callM 25 (consM (varM 0) (consM (binM opAdd (varM 1) (lstM (consM (tupM (consM (conM (.str "cell")) (consM (conM (.int 3)) nilM))) (consM (tupM (consM (conM (.str "not")) (consM (tupM (consM (conM (.str "word")) (consM (conM (.int 1)) nilM))) (consM (conM (.int 2)) nilM)))) (consM (tupM (consM (conM (.str "rest")) (consM (conM (.str "go")) (consM (conM (.int 100)) nilM)))) (consM (tupM (consM (conM (.str "rest")) (consM (conM (.str "stop")) (consM (conM (.int 1)) nilM)))) nilM)))))) nilM)))) skipS))
/-- _law_bent: 0 hand, 1 thing, 2 deep, 3 at, 4 way -/
def m43 : SS := (seqS (ifS (orT (notT (boolT (bltM (keep bIsi) (consM (varM 1) (consM (conM (.ty "tuple")) nilM))))) (orT (boolT (binM cEq (bltM (keep bLen) (consM (varM 1) nilM)) (conM (.int 0)))) (orT (boolT (binM cEq (varM 2) (conM (.int 0)))) (boolT (binM cEq (callM 24 (consM (varM 0) (consM (conM (.int 4)) nilM))) (conM (.int 0))))))) (seqS (retS (callM 42 (consM (varM 0) nilM))) skipS) skipS) (seqS (parS [3, 4] (consM (callM 24 (consM (varM 0) (consM (bltM (keep bLen) (consM (varM 1) nilM)) nilM))) (consM (callM 24 (consM (varM 0) (consM (conM (.int 6)) nilM))) nilM))) (seqS (ifS (boolT (binM cEq (varM 4) (conM (.int 0)))) (seqS (retS (binM opAdd (slM (varM 1) noO (someO (varM 3))) (slM (varM 1) (someO (binM opAdd (varM 3) (conM (.int 1)))) noO))) skipS) skipS) (seqS (ifS (boolT (binM cEq (varM 4) (conM (.int 1)))) (seqS (retS (callM 25 (consM (varM 0) (consM (lstM (consM (bltM (keep bLst) (consM (varM 1) nilM)) (consM (binM opAdd (varM 1) (tupM (consM (callM 42 (consM (varM 0) nilM)) nilM))) (consM (revM (varM 1)) nilM)))) nilM)))) skipS) skipS) (seqS (retS (binM opAdd (binM opAdd (slM (varM 1) noO (someO (varM 3))) (tupM (consM (callM 43 (consM (varM 0) (consM (binM ixD (varM 1) (varM 3)) (consM (binM opSub (varM 2) (conM (.int 1))) nilM)))) nilM))) (slM (varM 1) (someO (binM opAdd (varM 3) (conM (.int 1)))) noO))) skipS)))))
/-- _law_judged_right: 0 hand, 1 program, 2 width, 3 cells, 4 tables, 5 block, 6 size, 7 e, 8 look, 9 turn, 10 thing, 11 one, 12 some, 13 told -/
def m44 : SS := (seqS (asgS (varM 1) (tupG [(nameG 2), (nameG 3), (nameG 4), (nameG 5)])) (seqS (parS [6, 7] (consM (binM opMul (conM (.int 2)) (varM 2)) (consM (callM 28 (consM (varM 0) (consM (lstM (consM (conM (.str "a")) (consM (conM (.str "b")) nilM))) (consM (conM (.int 5)) nilM)))) nilM))) (seqS (asgS (tupM (consM (conM (.str "look")) (consM (callM 25 (consM (varM 0) (consM (lstM (consM (conM (.str "t")) (consM (conM (.str "u")) nilM))) nilM))) (consM (varM 7) nilM)))) (nameG 8)) (seqS (ifS (orT (boolT (binM cIsNot (callM 11 (consM (varM 8) nilM)) (conM (.bl true)))) (orT (boolT (binM cIsNot (callM 10 (consM (varM 8) nilM)) (conM (.bl false)))) (boolT (binM cIsNot (callM 16 (consM (tupM (consM (conM (.str "set")) (consM (conM (.str "a")) (consM (varM 8) nilM)))) nilM)) (conM (.bl true)))))) (seqS (retS (conM (.bl false))) skipS) skipS) (seqS (ifS (orT (boolT (binM cIsNot (callM 22 (consM (varM 1) nilM)) (conM (.bl true)))) (orT (boolT (binM cIsNot (callM 10 (consM (varM 7) nilM)) (conM (.bl true)))) (boolT (binM cIsNot (callM 17 (consM (varM 5) nilM)) (conM (.bl true)))))) (seqS (retS (conM (.bl false))) skipS) skipS) (seqS (forS (argM rng1 (consM (conM (.int 4)) nilM)) (nameG 9) (seqS (asgS (callM 43 (consM (varM 0) (consM (varM 7) (consM (conM (.int 5)) nilM)))) (nameG 10)) (seqS (ifS (notT (boolT (callM 26 (consM (callM 10 (consM (varM 10) nilM)) (consM (callM 35 (consM (varM 10) (consM (conM (.int 6)) nilM))) nilM))))) (seqS (retS (conM (.bl false))) skipS) skipS) (seqS (asgS (callM 43 (consM (varM 0) (consM (varM 8) (consM (conM (.int 5)) nilM)))) (nameG 10)) (seqS (ifS (notT (boolT (callM 26 (consM (callM 11 (consM (varM 10) nilM)) (consM (callM 36 (consM (varM 10) nilM)) nilM))))) (seqS (retS (conM (.bl false))) skipS) skipS) (seqS (asgS (callM 43 (consM (varM 0) (consM (varM 5) (consM (conM (.int 6)) nilM)))) (nameG 10)) (seqS (ifS (notT (boolT (callM 26 (consM (callM 17 (consM (varM 10) nilM)) (consM (binM cLe (callM 38 (consM (varM 10) (consM (conM (.int 6)) nilM))) (conM (.int 60))) nilM))))) (seqS (retS (conM (.bl false))) skipS) skipS) (seqS (asgS (ifM (boolT (binM cGt (bltM (keep bLen) (consM (varM 5) nilM)) (conM (.int 0)))) (callM 43 (consM (varM 0) (consM (binM ixD (varM 5) (conM (.int 0))) (consM (conM (.int 6)) nilM)))) (varM 10)) (nameG 11)) (seqS (ifS (notT (boolT (callM 26 (consM (callM 16 (consM (varM 11) nilM)) (consM (binM cLe (callM 37 (consM (varM 11) (consM (conM (.int 6)) nilM))) (conM (.int 60))) nilM))))) (seqS (retS (conM (.bl false))) skipS) skipS) (seqS (asgS (lstM (consM (callM 43 (consM (varM 0) (consM (varM 3) (consM (conM (.int 3)) nilM)))) (consM (callM 43 (consM (varM 0) (consM (varM 4) (consM (conM (.int 3)) nilM)))) (consM (callM 43 (consM (varM 0) (consM (varM 1) (consM (conM (.int 6)) nilM)))) nilM)))) (nameG 12)) (seqS (asgS (tupM (consM (callM 19 (consM (binM ixD (varM 12) (conM (.int 0))) nilM)) (consM (callM 20 (consM (varM 2) (consM (binM ixD (varM 12) (conM (.int 1))) nilM))) (consM (callM 22 (consM (binM ixD (varM 12) (conM (.int 2))) nilM)) nilM)))) (nameG 13)) (seqS (ifS (notT (boolT (callM 26 (consM (varM 13) (consM (tupM (consM (callM 39 (consM (binM ixD (varM 12) (conM (.int 0))) nilM)) (consM (callM 40 (consM (varM 6) (consM (binM ixD (varM 12) (conM (.int 1))) nilM))) (consM (callM 41 (consM (binM ixD (varM 12) (conM (.int 2))) nilM)) nilM)))) nilM))))) (seqS (retS (conM (.bl false))) skipS) skipS) skipS)))))))))))) (seqS (retS (conM (.bl true))) skipS)))))))
/-- _law_bounds_right: 0 hand, 1 e, 2 block, 3 many, 4 turn, 5 wide, 6 things, 7 due, 8 width, 9 firsts, 10 at, 11 cells, 12 first, 13 program -/
def m45 : SS := (seqS (parS [1, 2, 3] (consM (tupM (consM (conM (.str "word")) (consM (conM (.int 1)) nilM))) (consM (tupM (consM (tupM (consM (conM (.str "tell")) (consM (tupM (consM (conM (.str "word")) (consM (conM (.int 1)) nilM))) nilM))) nilM)) (consM (binM opAdd (conM (.int 59)) (callM 24 (consM (varM 0) (consM (conM (.int 3)) nilM)))) nilM)))) (seqS (forS (argM rng1 (consM (callM 24 (consM (varM 0) (consM (conM (.int 8)) nilM))) nilM)) (nameG 4) (seqS (parS [1, 2] (consM (tupM (consM (conM (.str "not")) (consM (varM 1) nilM))) (consM (tupM (consM (tupM (consM (conM (.str "if")) (consM (tupM (consM (conM (.str "word")) (consM (conM (.int 0)) nilM))) (consM (varM 2) (consM (tupM nilM) nilM))))) nilM)) nilM))) skipS)) (seqS (asgS (binM opMul (tupM (consM (tupM (consM (conM (.str "pick")) (consM (conM (.str "a")) nilM))) nilM)) (varM 3)) (nameG 5)) (seqS (asgS (lstM (consM (callM 10 (consM (varM 1) nilM)) (consM (callM 17 (consM (varM 2) nilM)) (consM (callM 17 (consM (varM 5) nilM)) nilM)))) (nameG 6)) (seqS (asgS (lstM (consM (callM 35 (consM (varM 1) (consM (conM (.int 6)) nilM))) (consM (binM cLe (callM 38 (consM (varM 2) (consM (conM (.int 6)) nilM))) (conM (.int 60))) (consM (binM cLe (varM 3) (conM (.int 60))) nilM)))) (nameG 7)) (seqS (parS [8, 9] (consM (binM opAdd (conM (.int 1)) (callM 24 (consM (varM 0) (consM (conM (.int 3)) nilM)))) (consM (lstN nilM) nilM))) (seqS (forS (argM rng1 (consM (binM opAdd (conM (.int 1)) (callM 24 (consM (varM 0) (consM (conM (.int 7)) nilM)))) nilM)) (nameG 10) (seqS (exprS (mtM mAppend (varM 9) (consM (callM 25 (consM (varM 0) (consM (lstM (consM (conM (.str "hidden")) (consM (conM (.str "open")) (consM (conM (.int 0)) (consM (conM (.int 1)) nilM))))) nilM))) nilM))) skipS)) (seqS (asgS (bltM (keep bTup) (consM (lcM (compA [10, 12] (argM enu (consM (varM 9) nilM)) (tupG [(nameG 10), (nameG 12)]) yesT (tupM (consM (binM ixD (conM (.str "abcdefgh")) (varM 10)) (consM (varM 12) nilM))))) nilM)) (nameG 11)) (seqS (asgS (tupM (consM (varM 8) (consM (varM 11) (consM (tupM nilM) (consM (tupM nilM) nilM))))) (nameG 13)) (seqS (retS (andM (binM cEq (varM 6) (varM 7)) (callM 26 (consM (callM 22 (consM (varM 13) nilM)) (consM (callM 41 (consM (varM 13) nilM)) nilM))))) skipS))))))))))
/-- _law_all: 0 script, 1 hand, 2 turn -/
def m46 : SS := (seqS (asgS (callM 23 (consM (varM 0) nilM)) (nameG 1)) (seqS (forS (argM rng1 (consM (conM (.int 3)) nilM)) (nameG 2) (seqS (ifS (orT (notT (boolT (callM 44 (consM (varM 1) (consM (callM 32 (consM (varM 1) nilM)) nilM))))) (notT (boolT (callM 45 (consM (varM 1) nilM))))) (seqS (retS (conM (.bl false))) skipS) skipS) skipS)) (seqS (retS (andM (binM cIs (callM 22 (consM (tupM (consM (conM (.int 1)) (consM (tupM (consM (tupM (consM (conM (.str "a")) (consM (conM (.int 2)) nilM))) nilM)) (consM (tupM nilM) (consM (tupM nilM) nilM))))) nilM)) (conM (.bl false))) (binM cIs (callM 19 (consM (tupM (consM (tupM (consM (conM (.str "a")) (consM (conM (.int 7)) nilM))) nilM)) nilM)) (conM (.bl true))))) skipS)))
/-- law: 0 script -/
def m47 : SS := (seqS (tryS (seqS (retS (callM 46 (consM (varM 0) nilM))) skipS)) skipS)
end L11
end

section
set_option Elab.async false
set_option linter.all false
set_option maxRecDepth 100000
set_option maxHeartbeats 0
namespace L11
open PySem PySem.Spec PyProof.Rows L2 PyI
theorem k0 : DfOk gd d0 1 m0 := ⟨⟨60, by kernel_rfl⟩, rfl, by decide +kernel, ⟨by kernel_rfl, by kernel_rfl, by kernel_rfl, by decide +kernel, rfl, by decide +kernel, by decide +kernel⟩⟩
theorem b0 : BindD d0 := fun _ _ _ _ _ _ us hl => match us, hl with | [_], _ => rfl
theorem k1 : DfOk gd d1 3 m1 := ⟨⟨60, by kernel_rfl⟩, rfl, by decide +kernel, ⟨by kernel_rfl, by kernel_rfl, by kernel_rfl, by decide +kernel, rfl, by decide +kernel, by decide +kernel⟩⟩
theorem b1 : BindD d1 := fun _ _ _ _ _ _ us hl => match us, hl with | [_, _, _], _ => rfl
theorem k2 : DfOk gd d2 2 m2 := ⟨⟨60, by kernel_rfl⟩, rfl, by decide +kernel, ⟨by kernel_rfl, by kernel_rfl, by kernel_rfl, by decide +kernel, rfl, by decide +kernel, by decide +kernel⟩⟩
theorem b2 : BindD d2 := fun _ _ _ _ _ _ us hl => match us, hl with | [_, _], _ => rfl
theorem k3 : DfOk gd d3 2 m3 := ⟨⟨60, by kernel_rfl⟩, rfl, by decide +kernel, ⟨by kernel_rfl, by kernel_rfl, by kernel_rfl, by decide +kernel, rfl, by decide +kernel, by decide +kernel⟩⟩
theorem b3 : BindD d3 := fun _ _ _ _ _ _ us hl => match us, hl with | [_], _ => rfl
theorem k4 : DfOk gd d4 1 m4 := ⟨⟨60, by kernel_rfl⟩, rfl, by decide +kernel, ⟨by kernel_rfl, by kernel_rfl, by kernel_rfl, by decide +kernel, rfl, by decide +kernel, by decide +kernel⟩⟩
theorem b4 : BindD d4 := fun _ _ _ _ _ _ us hl => match us, hl with | [_], _ => rfl
theorem k5 : DfOk gd d5 4 m5 := ⟨⟨60, by kernel_rfl⟩, rfl, by decide +kernel, ⟨by kernel_rfl, by kernel_rfl, by kernel_rfl, by decide +kernel, rfl, by decide +kernel, by decide +kernel⟩⟩
theorem b5 : BindD d5 := fun _ _ _ _ _ _ us hl => match us, hl with | [_, _, _], _ => rfl
theorem k6 : DfOk gd d6 6 m6 := ⟨⟨60, by kernel_rfl⟩, rfl, by decide +kernel, ⟨by kernel_rfl, by kernel_rfl, by kernel_rfl, by decide +kernel, rfl, by decide +kernel, by decide +kernel⟩⟩
theorem b6 : BindD d6 := fun _ _ _ _ _ _ us hl => match us, hl with | [_], _ => rfl
theorem k7 : DfOk gd d7 1 m7 := ⟨⟨60, by kernel_rfl⟩, rfl, by decide +kernel, ⟨by kernel_rfl, by kernel_rfl, by kernel_rfl, by decide +kernel, rfl, by decide +kernel, by decide +kernel⟩⟩
theorem b7 : BindD d7 := fun _ _ _ _ _ _ us hl => match us, hl with | [_], _ => rfl
theorem k8 : DfOk gd d8 1 m8 := ⟨⟨60, by kernel_rfl⟩, rfl, by decide +kernel, ⟨by kernel_rfl, by kernel_rfl, by kernel_rfl, by decide +kernel, rfl, by decide +kernel, by decide +kernel⟩⟩
theorem b8 : BindD d8 := fun _ _ _ _ _ _ us hl => match us, hl with | [_], _ => rfl
theorem k9 : DfOk gd d9 3 m9 := ⟨⟨60, by kernel_rfl⟩, rfl, by decide +kernel, ⟨by kernel_rfl, by kernel_rfl, by kernel_rfl, by decide +kernel, rfl, by decide +kernel, by decide +kernel⟩⟩
theorem b9 : BindD d9 := fun _ _ _ _ _ _ us hl => match us, hl with | [_, _], _ => rfl
theorem k10 : DfOk gd d10 1 m10 := ⟨⟨60, by kernel_rfl⟩, rfl, by decide +kernel, ⟨by kernel_rfl, by kernel_rfl, by kernel_rfl, by decide +kernel, rfl, by decide +kernel, by decide +kernel⟩⟩
theorem b10 : BindD d10 := fun _ _ _ _ _ _ us hl => match us, hl with | [_], _ => rfl
theorem k11 : DfOk gd d11 1 m11 := ⟨⟨60, by kernel_rfl⟩, rfl, by decide +kernel, ⟨by kernel_rfl, by kernel_rfl, by kernel_rfl, by decide +kernel, rfl, by decide +kernel, by decide +kernel⟩⟩
theorem b11 : BindD d11 := fun _ _ _ _ _ _ us hl => match us, hl with | [_], _ => rfl
theorem k12 : DfOk gd d12 1 m12 := ⟨⟨60, by kernel_rfl⟩, rfl, by decide +kernel, ⟨by kernel_rfl, by kernel_rfl, by kernel_rfl, by decide +kernel, rfl, by decide +kernel, by decide +kernel⟩⟩
theorem b12 : BindD d12 := fun _ _ _ _ _ _ us hl => match us, hl with | [_], _ => rfl
theorem k13 : DfOk gd d13 4 m13 := ⟨⟨60, by kernel_rfl⟩, rfl, by decide +kernel, ⟨by kernel_rfl, by kernel_rfl, by kernel_rfl, by decide +kernel, rfl, by decide +kernel, by decide +kernel⟩⟩
theorem b13 : BindD d13 := fun _ _ _ _ _ _ us hl => match us, hl with | [_, _], _ => rfl
theorem k14 : DfOk gd d14 3 m14 := ⟨⟨60, by kernel_rfl⟩, rfl, by decide +kernel, ⟨by kernel_rfl, by kernel_rfl, by kernel_rfl, by decide +kernel, rfl, by decide +kernel, by decide +kernel⟩⟩
theorem b14 : BindD d14 := fun _ _ _ _ _ _ us hl => match us, hl with | [_, _], _ => rfl
theorem k15 : DfOk gd d15 4 m15 := ⟨⟨60, by kernel_rfl⟩, rfl, by decide +kernel, ⟨by kernel_rfl, by kernel_rfl, by kernel_rfl, by decide +kernel, rfl, by decide +kernel, by decide +kernel⟩⟩
theorem b15 : BindD d15 := fun _ _ _ _ _ _ us hl => match us, hl with | [_], _ => rfl
theorem k16 : DfOk gd d16 1 m16 := ⟨⟨60, by kernel_rfl⟩, rfl, by decide +kernel, ⟨by kernel_rfl, by kernel_rfl, by kernel_rfl, by decide +kernel, rfl, by decide +kernel, by decide +kernel⟩⟩
theorem b16 : BindD d16 := fun _ _ _ _ _ _ us hl => match us, hl with | [_], _ => rfl
theorem k17 : DfOk gd d17 1 m17 := ⟨⟨60, by kernel_rfl⟩, rfl, by decide +kernel, ⟨by kernel_rfl, by kernel_rfl, by kernel_rfl, by decide +kernel, rfl, by decide +kernel, by decide +kernel⟩⟩
theorem b17 : BindD d17 := fun _ _ _ _ _ _ us hl => match us, hl with | [_], _ => rfl
theorem k18 : DfOk gd d18 1 m18 := ⟨⟨60, by kernel_rfl⟩, rfl, by decide +kernel, ⟨by kernel_rfl, by kernel_rfl, by kernel_rfl, by decide +kernel, rfl, by decide +kernel, by decide +kernel⟩⟩
theorem b18 : BindD d18 := fun _ _ _ _ _ _ us hl => match us, hl with | [_], _ => rfl
theorem k19 : DfOk gd d19 2 m19 := ⟨⟨60, by kernel_rfl⟩, rfl, by decide +kernel, ⟨by kernel_rfl, by kernel_rfl, by kernel_rfl, by decide +kernel, rfl, by decide +kernel, by decide +kernel⟩⟩
theorem b19 : BindD d19 := fun _ _ _ _ _ _ us hl => match us, hl with | [_], _ => rfl
theorem k20 : DfOk gd d20 4 m20 := ⟨⟨60, by kernel_rfl⟩, rfl, by decide +kernel, ⟨by kernel_rfl, by kernel_rfl, by kernel_rfl, by decide +kernel, rfl, by decide +kernel, by decide +kernel⟩⟩
theorem b20 : BindD d20 := fun _ _ _ _ _ _ us hl => match us, hl with | [_, _], _ => rfl
theorem k21 : DfOk gd d21 4 m21 := ⟨⟨60, by kernel_rfl⟩, rfl, by decide +kernel, ⟨by kernel_rfl, by kernel_rfl, by kernel_rfl, by decide +kernel, rfl, by decide +kernel, by decide +kernel⟩⟩
theorem b21 : BindD d21 := fun _ _ _ _ _ _ us hl => match us, hl with | [_, _], _ => rfl
theorem k22 : DfOk gd d22 10 m22 := ⟨⟨60, by kernel_rfl⟩, rfl, by decide +kernel, ⟨by kernel_rfl, by kernel_rfl, by kernel_rfl, by decide +kernel, rfl, by decide +kernel, by decide +kernel⟩⟩
theorem b22 : BindD d22 := fun _ _ _ _ _ _ us hl => match us, hl with | [_], _ => rfl
theorem k23 : DfOk gd d23 3 m23 := ⟨⟨60, by kernel_rfl⟩, rfl, by decide +kernel, ⟨by kernel_rfl, by kernel_rfl, by kernel_rfl, by decide +kernel, rfl, by decide +kernel, by decide +kernel⟩⟩
theorem b23 : BindD d23 := fun _ _ _ _ _ _ us hl => match us, hl with | [_], _ => rfl
theorem k24 : DfOk gd d24 5 m24 := ⟨⟨60, by kernel_rfl⟩, rfl, by decide +kernel, ⟨by kernel_rfl, by kernel_rfl, by kernel_rfl, by decide +kernel, rfl, by decide +kernel, by decide +kernel⟩⟩
theorem b24 : BindD d24 := fun _ _ _ _ _ _ us hl => match us, hl with | [_, _], _ => rfl
theorem k25 : DfOk gd d25 2 m25 := ⟨⟨60, by kernel_rfl⟩, rfl, by decide +kernel, ⟨by kernel_rfl, by kernel_rfl, by kernel_rfl, by decide +kernel, rfl, by decide +kernel, by decide +kernel⟩⟩
theorem b25 : BindD d25 := fun _ _ _ _ _ _ us hl => match us, hl with | [_, _], _ => rfl
theorem k26 : DfOk gd d26 4 m26 := ⟨⟨60, by kernel_rfl⟩, rfl, by decide +kernel, ⟨by kernel_rfl, by kernel_rfl, by kernel_rfl, by decide +kernel, rfl, by decide +kernel, by decide +kernel⟩⟩
theorem b26 : BindD d26 := fun _ _ _ _ _ _ us hl => match us, hl with | [_, _], _ => rfl
theorem k27 : DfOk gd d27 1 m27 := ⟨⟨60, by kernel_rfl⟩, rfl, by decide +kernel, ⟨by kernel_rfl, by kernel_rfl, by kernel_rfl, by decide +kernel, rfl, by decide +kernel, by decide +kernel⟩⟩
theorem b27 : BindD d27 := fun _ _ _ _ _ _ us hl => match us, hl with | [], _ => rfl
theorem k28 : DfOk gd d28 5 m28 := ⟨⟨60, by kernel_rfl⟩, rfl, by decide +kernel, ⟨by kernel_rfl, by kernel_rfl, by kernel_rfl, by decide +kernel, rfl, by decide +kernel, by decide +kernel⟩⟩
theorem b28 : BindD d28 := fun _ _ _ _ _ _ us hl => match us, hl with | [_, _, _], _ => rfl
theorem k29 : DfOk gd d29 11 m29 := ⟨⟨60, by kernel_rfl⟩, rfl, by decide +kernel, ⟨by kernel_rfl, by kernel_rfl, by kernel_rfl, by decide +kernel, rfl, by decide +kernel, by decide +kernel⟩⟩
theorem b29 : BindD d29 := fun _ _ _ _ _ _ us hl => match us, hl with | [_, _, _, _, _], _ => rfl
theorem k30 : DfOk gd d30 4 m30 := ⟨⟨60, by kernel_rfl⟩, rfl, by decide +kernel, ⟨by kernel_rfl, by kernel_rfl, by kernel_rfl, by decide +kernel, rfl, by decide +kernel, by decide +kernel⟩⟩
theorem b30 : BindD d30 := fun _ _ _ _ _ _ us hl => match us, hl with | [_], _ => rfl
theorem k31 : DfOk gd d31 1 m31 := ⟨⟨60, by kernel_rfl⟩, rfl, by decide +kernel, ⟨by kernel_rfl, by kernel_rfl, by kernel_rfl, by decide +kernel, rfl, by decide +kernel, by decide +kernel⟩⟩
theorem b31 : BindD d31 := fun _ _ _ _ _ _ us hl => match us, hl with | [_], _ => rfl
theorem k32 : DfOk gd d32 10 m32 := ⟨⟨60, by kernel_rfl⟩, rfl, by decide +kernel, ⟨by kernel_rfl, by kernel_rfl, by kernel_rfl, by decide +kernel, rfl, by decide +kernel, by decide +kernel⟩⟩
theorem b32 : BindD d32 := fun _ _ _ _ _ _ us hl => match us, hl with | [_], _ => rfl
theorem k33 : DfOk gd d33 3 m33 := ⟨⟨60, by kernel_rfl⟩, rfl, by decide +kernel, ⟨by kernel_rfl, by kernel_rfl, by kernel_rfl, by decide +kernel, rfl, by decide +kernel, by decide +kernel⟩⟩
theorem b33 : BindD d33 := fun _ _ _ _ _ _ us hl => match us, hl with | [_, _, _], _ => rfl
theorem k34 : DfOk gd d34 2 m34 := ⟨⟨60, by kernel_rfl⟩, rfl, by decide +kernel, ⟨by kernel_rfl, by kernel_rfl, by kernel_rfl, by decide +kernel, rfl, by decide +kernel, by decide +kernel⟩⟩
theorem b34 : BindD d34 := fun _ _ _ _ _ _ us hl => match us, hl with | [_], _ => rfl
theorem k35 : DfOk gd d35 2 m35 := ⟨⟨60, by kernel_rfl⟩, rfl, by decide +kernel, ⟨by kernel_rfl, by kernel_rfl, by kernel_rfl, by decide +kernel, rfl, by decide +kernel, by decide +kernel⟩⟩
theorem b35 : BindD d35 := fun _ _ _ _ _ _ us hl => match us, hl with | [_, _], _ => rfl
theorem k36 : DfOk gd d36 1 m36 := ⟨⟨60, by kernel_rfl⟩, rfl, by decide +kernel, ⟨by kernel_rfl, by kernel_rfl, by kernel_rfl, by decide +kernel, rfl, by decide +kernel, by decide +kernel⟩⟩
theorem b36 : BindD d36 := fun _ _ _ _ _ _ us hl => match us, hl with | [_], _ => rfl
theorem k37 : DfOk gd d37 5 m37 := ⟨⟨60, by kernel_rfl⟩, rfl, by decide +kernel, ⟨by kernel_rfl, by kernel_rfl, by kernel_rfl, by decide +kernel, rfl, by decide +kernel, by decide +kernel⟩⟩
theorem b37 : BindD d37 := fun _ _ _ _ _ _ us hl => match us, hl with | [_, _], _ => rfl
theorem k38 : DfOk gd d38 3 m38 := ⟨⟨60, by kernel_rfl⟩, rfl, by decide +kernel, ⟨by kernel_rfl, by kernel_rfl, by kernel_rfl, by decide +kernel, rfl, by decide +kernel, by decide +kernel⟩⟩
theorem b38 : BindD d38 := fun _ _ _ _ _ _ us hl => match us, hl with | [_, _], _ => rfl
theorem k39 : DfOk gd d39 2 m39 := ⟨⟨60, by kernel_rfl⟩, rfl, by decide +kernel, ⟨by kernel_rfl, by kernel_rfl, by kernel_rfl, by decide +kernel, rfl, by decide +kernel, by decide +kernel⟩⟩
theorem b39 : BindD d39 := fun _ _ _ _ _ _ us hl => match us, hl with | [_], _ => rfl
theorem k40 : DfOk gd d40 4 m40 := ⟨⟨60, by kernel_rfl⟩, rfl, by decide +kernel, ⟨by kernel_rfl, by kernel_rfl, by kernel_rfl, by decide +kernel, rfl, by decide +kernel, by decide +kernel⟩⟩
theorem b40 : BindD d40 := fun _ _ _ _ _ _ us hl => match us, hl with | [_, _], _ => rfl
theorem k41 : DfOk gd d41 7 m41 := ⟨⟨60, by kernel_rfl⟩, rfl, by decide +kernel, ⟨by kernel_rfl, by kernel_rfl, by kernel_rfl, by decide +kernel, rfl, by decide +kernel, by decide +kernel⟩⟩
theorem b41 : BindD d41 := fun _ _ _ _ _ _ us hl => match us, hl with | [_], _ => rfl
theorem k42 : DfOk gd d42 2 m42 := ⟨⟨60, by kernel_rfl⟩, rfl, by decide +kernel, ⟨by kernel_rfl, by kernel_rfl, by kernel_rfl, by decide +kernel, rfl, by decide +kernel, by decide +kernel⟩⟩
theorem b42 : BindD d42 := fun _ _ _ _ _ _ us hl => match us, hl with | [_], _ => rfl
theorem k43 : DfOk gd d43 5 m43 := ⟨⟨60, by kernel_rfl⟩, rfl, by decide +kernel, ⟨by kernel_rfl, by kernel_rfl, by kernel_rfl, by decide +kernel, rfl, by decide +kernel, by decide +kernel⟩⟩
theorem b43 : BindD d43 := fun _ _ _ _ _ _ us hl => match us, hl with | [_, _, _], _ => rfl
theorem k44 : DfOk gd d44 14 m44 := ⟨⟨60, by kernel_rfl⟩, rfl, by decide +kernel, ⟨by kernel_rfl, by kernel_rfl, by kernel_rfl, by decide +kernel, rfl, by decide +kernel, by decide +kernel⟩⟩
theorem b44 : BindD d44 := fun _ _ _ _ _ _ us hl => match us, hl with | [_, _], _ => rfl
theorem k45 : DfOk gd d45 14 m45 := ⟨⟨60, by kernel_rfl⟩, rfl, by decide +kernel, ⟨by kernel_rfl, by kernel_rfl, by kernel_rfl, by decide +kernel, rfl, by decide +kernel, by decide +kernel⟩⟩
theorem b45 : BindD d45 := fun _ _ _ _ _ _ us hl => match us, hl with | [_], _ => rfl
theorem k46 : DfOk gd d46 3 m46 := ⟨⟨60, by kernel_rfl⟩, rfl, by decide +kernel, ⟨by kernel_rfl, by kernel_rfl, by kernel_rfl, by decide +kernel, rfl, by decide +kernel, by decide +kernel⟩⟩
theorem b46 : BindD d46 := fun _ _ _ _ _ _ us hl => match us, hl with | [_], _ => rfl
theorem k47 : DfOk gd d47 1 m47 := ⟨⟨60, by kernel_rfl⟩, rfl, by decide +kernel, ⟨by kernel_rfl, by kernel_rfl, by kernel_rfl, by decide +kernel, rfl, by decide +kernel, by decide +kernel⟩⟩
theorem b47 : BindD d47 := fun _ _ _ _ _ _ us hl => match us, hl with | [_], _ => rfl
def dfs : List DF := [d0, d1, d2, d3, d4, d5, d6, d7, d8, d9, d10, d11, d12, d13, d14, d15, d16, d17, d18, d19, d20, d21, d22, d23, d24, d25, d26, d27, d28, d29, d30, d31, d32, d33, d34, d35, d36, d37, d38, d39, d40, d41, d42, d43, d44, d45, d46, d47]
def tabL : List (Nat × SS) := [(1, m0), (3, m1), (2, m2), (2, m3), (1, m4), (4, m5), (6, m6), (1, m7), (1, m8), (3, m9), (1, m10), (1, m11), (1, m12), (4, m13), (3, m14), (4, m15), (1, m16), (1, m17), (1, m18), (2, m19), (4, m20), (4, m21), (10, m22), (3, m23), (5, m24), (2, m25), (4, m26), (1, m27), (5, m28), (11, m29), (4, m30), (1, m31), (10, m32), (3, m33), (2, m34), (2, m35), (1, m36), (5, m37), (3, m38), (2, m39), (4, m40), (7, m41), (2, m42), (5, m43), (14, m44), (14, m45), (3, m46), (1, m47)]
def tab (i : Nat) : Option (Nat × SS) := tabL[i]?
theorem allOk : AllI2 (fun d p => DfOk gd d p.1 p.2) dfs tabL := ⟨k0, k1, k2, k3, k4, k5, k6, k7, k8, k9, k10, k11, k12, k13, k14, k15, k16, k17, k18, k19, k20, k21, k22, k23, k24, k25, k26, k27, k28, k29, k30, k31, k32, k33, k34, k35, k36, k37, k38, k39, k40, k41, k42, k43, k44, k45, k46, k47, trivial⟩
theorem allBind : AllI1 BindD dfs := ⟨b0, b1, b2, b3, b4, b5, b6, b7, b8, b9, b10, b11, b12, b13, b14, b15, b16, b17, b18, b19, b20, b21, b22, b23, b24, b25, b26, b27, b28, b29, b30, b31, b32, b33, b34, b35, b36, b37, b38, b39, b40, b41, b42, b43, b44, b45, b46, b47, trivial⟩
theorem lst : Lst gd dfs tab := ⟨by kernel_rfl, by decide +kernel, fun i p h => allOk.get i p h, fun i d h => allBind.get i d h⟩
theorem t0 : tab 0 = some (1, m0) := rfl
theorem t1 : tab 1 = some (3, m1) := rfl
theorem t2 : tab 2 = some (2, m2) := rfl
theorem t3 : tab 3 = some (2, m3) := rfl
theorem t4 : tab 4 = some (1, m4) := rfl
theorem t5 : tab 5 = some (4, m5) := rfl
theorem t6 : tab 6 = some (6, m6) := rfl
theorem t7 : tab 7 = some (1, m7) := rfl
theorem t8 : tab 8 = some (1, m8) := rfl
theorem t9 : tab 9 = some (3, m9) := rfl
theorem t10 : tab 10 = some (1, m10) := rfl
theorem t11 : tab 11 = some (1, m11) := rfl
theorem t12 : tab 12 = some (1, m12) := rfl
theorem t13 : tab 13 = some (4, m13) := rfl
theorem t14 : tab 14 = some (3, m14) := rfl
theorem t15 : tab 15 = some (4, m15) := rfl
theorem t16 : tab 16 = some (1, m16) := rfl
theorem t17 : tab 17 = some (1, m17) := rfl
theorem t18 : tab 18 = some (1, m18) := rfl
theorem t19 : tab 19 = some (2, m19) := rfl
theorem t20 : tab 20 = some (4, m20) := rfl
theorem t21 : tab 21 = some (4, m21) := rfl
theorem t22 : tab 22 = some (10, m22) := rfl
theorem t23 : tab 23 = some (3, m23) := rfl
theorem t24 : tab 24 = some (5, m24) := rfl
theorem t25 : tab 25 = some (2, m25) := rfl
theorem t26 : tab 26 = some (4, m26) := rfl
theorem t27 : tab 27 = some (1, m27) := rfl
theorem t28 : tab 28 = some (5, m28) := rfl
theorem t29 : tab 29 = some (11, m29) := rfl
theorem t30 : tab 30 = some (4, m30) := rfl
theorem t31 : tab 31 = some (1, m31) := rfl
theorem t32 : tab 32 = some (10, m32) := rfl
theorem t33 : tab 33 = some (3, m33) := rfl
theorem t34 : tab 34 = some (2, m34) := rfl
theorem t35 : tab 35 = some (2, m35) := rfl
theorem t36 : tab 36 = some (1, m36) := rfl
theorem t37 : tab 37 = some (5, m37) := rfl
theorem t38 : tab 38 = some (3, m38) := rfl
theorem t39 : tab 39 = some (2, m39) := rfl
theorem t40 : tab 40 = some (4, m40) := rfl
theorem t41 : tab 41 = some (7, m41) := rfl
theorem t42 : tab 42 = some (2, m42) := rfl
theorem t43 : tab 43 = some (5, m43) := rfl
theorem t44 : tab 44 = some (14, m44) := rfl
theorem t45 : tab 45 = some (14, m45) := rfl
theorem t46 : tab 46 = some (3, m46) := rfl
theorem t47 : tab 47 = some (1, m47) := rfl
end L11
end

section
set_option Elab.async false
set_option linter.all false
set_option maxRecDepth 100000
set_option maxHeartbeats 1000000
namespace L11
open PySem PySem.Spec PyProof.Rows L2 PyI
def isInt : D → Bool
  | .int _ => true
  | _ => false
theorem p0 {n : Nat} {d : D} {st : Store} (h : pl d = true) : callN tab (n + 1) 0 [d] st = .ok (.bl (isInt d)) st := by
  rw [call_tab t0]
  refine run_ret ?_
  cases d <;> first | (cases h; done) | rfl
def isW (d : D) (lo hi : Int) : Bool := match d with
  | .int i => decide (lo ≤ i) && decide (i ≤ hi)
  | _ => false
theorem p1 {n : Nat} {d : D} {st : Store} {lo hi : Int} (h : pl d = true) : callN tab (n + 2) 1 [d, .int lo, .int hi] st = .ok (.bl (isW d lo hi)) st := by
  rw [call_tab t1]
  refine run_ret ?_
  simp [m1, p0 h]
  cases d <;> first | (cases h; done) | (simp [isInt, isW]; done) | skip
  rename_i i
  by_cases h1 : lo ≤ i <;> simp [isInt, isW, cLe, h1]
def isTupN (d : D) (k : Int) : Bool := match d with
  | .tup xs => decide ((xs.length : Int) = k)
  | _ => false
theorem p2 {n : Nat} {d : D} {st : Store} {k : Int} (h : pl d = true) : callN tab (n + 1) 2 [d, .int k] st = .ok (.bl (isTupN d k)) st := by
  rw [call_tab t2]
  refine run_ret ?_
  cases d <;> first | (cases h; done) | rfl
def inL (y : D) : Bool := match cIn ⟨0, fun _ => none⟩ y c_LETTERS with
  | some (.bl b) => b
  | _ => false
def nmB (z : Str) : Bool := decide ((1 : Int) ≤ (z.length : Int)) && (decide ((z.length : Int) ≤ 8) && (z.cps.toList.map fun c => D.str ⟨#[c]⟩).all inL)
def isNm : D → Bool
  | .str z => nmB z
  | _ => false
theorem p3 {n : Nat} {d : D} {st : Store} (h : dt d = true) : callN tab (n + 1) 3 [d] st = .ok (.bl (isNm d)) st := by
  rw [call_tab t3]
  refine run_ret ?_
  cases d with
  | str z =>
    have hz := dt_str h
    have hz' : z.length ≤ sizeLine := le_line (by omega)
    have hL := lc_map (own := [1]) (iter := seqI (varM 0)) (tg := nameG 1) (el := binM cIn (varM 1) (conM c_LETTERS)) (cl := callN tab n) (env := [some (.str z), none]) (st := st) (fun x => .bl (inL x)) (xs := z.cps.toList.map fun c => D.str ⟨#[c]⟩) rfl
      (fun x hx => by
        obtain ⟨c, hc, rfl⟩ := List.mem_map.mp hx
        exact ⟨_, rfl, rfl⟩) (by rw [List.length_map, Array.length_toList]; exact hz')
    simp [m3, keep, bIsi, tyD, subT, bLen, lenD, seqOf, cLe, hL, hz']
    by_cases h1 : (1 : Int) ≤ (z.length : Int) <;> by_cases h2 : (z.length : Int) ≤ 8 <;> simp [h1, h2, hL, isNm, nmB, -List.map_map, -List.all_map, keep]
  | _ => first | rfl | (cases h; done)
/-! numbers, tuples of numbers -/
theorem p4 {n : Nat} {i : Int} {st : Store} (h1 : 1 ≤ i) (h3 : i ≤ 3) : callN tab (n + 3) 4 [.int i] st = .ok (.int (2 ^ i.toNat)) st := by
  rw [call_tab t4]
  refine run_ret ?_
  have e : isW (.int i) 1 3 = true := by simp [isW, h1, h3]
  simp [m4, p1 (d := .int i) rfl, e, opShl]
  rw [if_pos ⟨by omega, by omega⟩]
  rfl
theorem p5 {n : Nat} {d : D} {st : Store} {lo hi : Int} (h : dt d = true) : callN tab (n + 3) 5 [d, .int lo, .int hi] st = .ok (.bl (match d with
    | .tup xs => xs.all fun x => isW x lo hi
    | _ => false)) st := by
  rw [call_tab t5]
  refine run_ret ?_
  cases d with
  | tup xs =>
    obtain ⟨h1, h2⟩ := dt_tup h
    have hL := lc_map (own := [3]) (iter := seqI (varM 0)) (tg := nameG 3) (el := callM 1 (consM (varM 3) (consM (varM 1) (consM (varM 2) nilM)))) (cl := callN tab (n + 2)) (env := [some (.tup xs), some (.int lo), some (.int hi), none]) (st := st) (fun x => .bl (isW x lo hi)) (xs := xs) rfl
      (fun x hx => ⟨_, rfl, p1 (dt_pl (dts_mem h1 x hx))⟩) (le_line h2)
    simp [m5, keep, bIsi, tyD, subT, hL]
  | _ => first | rfl | (cases h; done)
def deedL : List D := [.str "sum", .str "less", .str "and", .str "or", .str "same", .str "below"]
def deedB (z : Str) : Bool := deedL.any fun w => eqF w (.str z)
def kindL : List D := [.str "word", .str "cell", .str "look", .str "not", .str "sum", .str "less", .str "and", .str "or", .str "same", .str "below", .str "set", .str "tell", .str "pick", .str "test", .str "go"]
def kindB (z : Str) : Bool := kindL.any fun w => eqF w (.str z)
theorem p7 {n : Nat} {z : Str} {st : Store} : callN tab (n + 1) 7 [.str z] st = .ok (.bl (deedB z)) st := by
  rw [call_tab t7]
  exact run_ret rfl
theorem p8 {n : Nat} {d : D} {st : Store} (h : pl d = true) : callN tab (n + 1) 8 [d] st = .ok (.bl (match d with
    | .str z => kindB z
    | _ => false)) st := by
  rw [call_tab t8]
  refine run_ret ?_
  cases d <;> first | (cases h; done) | rfl
/-- an expression, so deep -/
def isE : Nat → D → Bool
  | 0, _ => false
  | k + 1, d => match d with
    | .tup (.str w :: a :: r) => if w = "word" then r.isEmpty && isW a 0 7 else if w = "cell" then r.isEmpty && isNm a else if w = "not" then r.isEmpty && isE k a else
        match r with
        | [b] => deedB w && (isE k a && isE k b)
        | _ => false
    | _ => false
theorem p9 : ∀ (k n : Nat) (d : D) (st : Store), dt d = true → callN tab (n + k + 4) 9 [d, .int k] st = .ok (.bl (isE k d)) st
  | 0, n, d, st, h => by
    rw [call_tab t9]
    exact run_ret rfl
  | k + 1, n, d, st, h => by
    rw [call_tab t9]
    refine run_ret ?_
    have hk : (((k : Int) + 1) == 0) = false := by
      rw [beq_eq_false_iff_ne]
      omega
    have hd : ((k : Int) + 1 - 1) = (k : Int) := by omega
    have ih := p9 k
    cases d with
    | tup xs =>
      match xs, h with
      | [], h => simp [m9, hk, subT, isE]
      | [a], h => simp [m9, hk, subT, isE]
      | a :: b :: r, h =>
        have hm := dt_mem h
        have hlt : ¬ ((r.length : Int) + 1 + 1 < 2) := by omega
        have hb := hm b (by simp)
        have q1 := fun n st => p1 (n := n) (st := st) (lo := 0) (hi := 7) (dt_pl hb)
        have q3 := fun n st => p3 (n := n) (st := st) hb
        have q9 : ∀ st, callN tab (n + (k + 1) + 3) 9 [b, .int (k : Int)] st = .ok (.bl (isE k b)) st := fun st => ih n b st hb
        cases a with
        | str w =>
          by_cases w1 : w = "word"
          · subst w1
            cases r <;> simp [m9, hk, subT, isE, q1]
          by_cases w2 : w = "cell"
          · subst w2
            cases r <;> simp [m9, hk, subT, isE, q3, w1]
          by_cases w3 : w = "not"
          · subst w3
            cases r <;> simp [m9, hk, hd, subT, isE, w1, w2, q9]
          match r with
          | [] => by_cases hw : deedB w = true <;> simp [m9, hk, subT, isE, w1, w2, w3, p7, hw]
          | [c] =>
            have q9' : ∀ st, callN tab (n + (k + 1) + 3) 9 [c, .int (k : Int)] st = .ok (.bl (isE k c)) st := fun st => ih n c st (hm c (by simp))
            by_cases hw : deedB w = true <;> by_cases hb : isE k b = true <;> simp [m9, hk, hd, subT, isE, w1, w2, w3, p7, hw, q9, q9', hb]
          | c :: c2 :: r => by_cases hw : deedB w = true <;> simp [m9, hk, subT, isE, w1, w2, w3, p7, hw]
        | _ => first | (simp [m9, hk, subT, isE]; done) | exact absurd (hm _ List.mem_cons_self) (by simp [dt])
    | _ => first | (simp [m9, hk, subT, isE]; done) | cases h
end L11
end

section
set_option Elab.async false
set_option linter.all false
set_option maxRecDepth 100000
set_option maxHeartbeats 2000000
namespace L11
open PySem PySem.Spec PyProof.Rows L2 PyI
theorem p10 {n : Nat} {d : D} {st : Store} (h : dt d = true) : callN tab (n + 11) 10 [d] st = .ok (.bl (isE 6 d)) st := by
  have q : callN tab (n + 10) 9 [d, .int 6] st = .ok (.bl (isE 6 d)) st := p9 6 n d st h
  rw [call_tab t10]
  refine run_ret ?_
  simp [m10, q]
def isLook : D → Bool
  | .tup [.str w, a, b] => decide (w = "look") && (isNm a && isE 6 b)
  | _ => false
theorem p11 {n : Nat} {d : D} {st : Store} (h : dt d = true) : callN tab (n + 12) 11 [d] st = .ok (.bl (isLook d)) st := by
  rw [call_tab t11]
  refine run_ret ?_
  have q2 := fun n st => p2 (n := n) (st := st) (k := 3) (dt_pl h)
  cases d with
  | tup xs =>
    match xs, h with
    | [], h => simp [m11, q2, isTupN, isLook]
    | [a], h => simp [m11, q2, isTupN, isLook]
    | [a, b], h => simp [m11, q2, isTupN, isLook]
    | a :: b :: c :: e :: r, h => simp [m11, q2, isTupN, isLook]
    | [a, b, c], h =>
      have hm := dt_mem h
      have q3 := fun n st => p3 (n := n) (st := st) (hm b (by simp))
      have q10 := fun st => p10 (n := n) (st := st) (hm c (by simp))
      cases a with
      | str w =>
        by_cases hw : w = "look"
        · subst hw
          by_cases hb : isNm b = true <;> simp [m11, q2, q3, q10, isTupN, isLook, subT, hb]
        · simp [m11, q2, isTupN, isLook, subT, hw]
      | _ => first | (simp [m11, q2, isTupN, isLook, subT]; done) | exact absurd (hm _ List.mem_cons_self) (by simp [dt])
  | _ => first | (simp [m11, q2, isTupN, isLook]; done) | cases h
def blkB (f : D → Bool) : D → Bool
  | .tup xs => xs.all f
  | _ => false
def isKd : D → Bool
  | .str z => kindB z
  | _ => false
theorem p8' {n : Nat} {d : D} {st : Store} (h : pl d = true) : callN tab (n + 1) 8 [d] st = .ok (.bl (isKd d)) st := by
  rw [p8 h]
  cases d <;> rfl
def isS : Nat → D → Bool
  | 0, _ => false
  | k + 1, d => match d with
    | .tup (.str w :: a :: r) =>
      if w = "set" then (match r with
        | [b] => isNm a && (isLook b || isE 6 b)
        | _ => false)
      else if w = "tell" then r.isEmpty && isE 6 a
      else if w = "pick" then r.isEmpty && isNm a
      else if w = "rest" then (match r with
        | [b] => isKd a && isW b 1 99
        | _ => false)
      else if w = "if" then (match r with
        | [b, c] => isE 6 a && (blkB (isS k) b && blkB (isS k) c)
        | _ => false)
      else if w = "while" then (match r with
        | [b] => isE 6 a && blkB (isS k) b
        | _ => false)
      else false
    | _ => false
theorem p14 {n : Nat} {d : D} {st : Store} {k : Int} {f : D → Bool} (hf : ∀ x st, dt x = true → callN tab n 13 [x, .int k] st = .ok (.bl (f x)) st) (h : dt d = true) : callN tab (n + 1) 14 [d, .int k] st = .ok (.bl (blkB f d)) st := by
  rw [call_tab t14]
  refine run_ret ?_
  cases d with
  | tup xs =>
    obtain ⟨h1, h2⟩ := dt_tup h
    have hL := lc_map (own := [2]) (iter := seqI (varM 0)) (tg := nameG 2) (el := callM 13 (consM (varM 2) (consM (varM 1) nilM))) (cl := callN tab n) (env := [some (.tup xs), some (.int k), none]) (st := st) (fun x => .bl (f x)) (xs := xs) rfl
      (fun x hx => ⟨_, rfl, hf x st (dts_mem h1 x hx)⟩) (le_line h2)
    simp [m14, hL, blkB]
  | _ => first | (simp [m14, blkB, subT]; done) | (cases h; done)
theorem str_ne {a b : Str} (h : ¬ a = b) : ¬ b = a := fun e => h e.symm
theorem p13 : ∀ (k n : Nat) (d : D) (st : Store), dt d = true → callN tab (n + 2 * k + 14) 13 [d, .int k] st = .ok (.bl (isS k d)) st
  | 0, n, d, st, h => by
    rw [call_tab t13]
    exact run_ret rfl
  | k + 1, n, d, st, h => by
    rw [call_tab t13]
    refine run_ret ?_
    have hk : (((k : Int) + 1) == 0) = false := by
      rw [beq_eq_false_iff_ne]
      omega
    have hd : ((k : Int) + 1 - 1) = (k : Int) := by omega
    have ih : ∀ x st, dt x = true → callN tab (n + 2 * k + 14) 13 [x, .int (k : Int)] st = .ok (.bl (isS k x)) st := fun x st hx => p13 k n x st hx
    have q14 : ∀ x st, dt x = true → callN tab (n + 2 * (k + 1) + 13) 14 [x, .int (k : Int)] st = .ok (.bl (blkB (isS k) x)) st := fun x st hx => p14 (n := n + 2 * k + 14) ih hx
    cases d with
    | tup xs =>
      match xs, h with
      | [], h => simp [m13, hk, subT, isS]
      | [a], h => simp [m13, hk, subT, isS]
      | a :: b :: r, h =>
        have hm := dt_mem h
        have hb := hm b (by simp)
        have q3 := fun n st => p3 (n := n) (st := st) hb
        have q8 := fun n st => p8' (n := n) (st := st) (dt_pl hb)
        have q10 := fun n st => p10 (n := n) (st := st) hb
        cases a with
        | str w =>
          have i2 := fun st => notin_tup (st := st) (d := .str w) ["if", "while"] rfl
          by_cases w1 : w = "set"
          · subst w1
            match r, hm with
            | [], hm => simp [m13, hk, subT, isS]
            | [c], hm =>
              have q11 := fun n st => p11 (n := n) (st := st) (hm c (by simp))
              have q10' := fun n st => p10 (n := n) (st := st) (hm c (by simp))
              by_cases h1 : isNm b = true <;> by_cases h2 : isLook c = true <;> simp [m13, hk, subT, isS, q3, q11, q10', h1, h2]
            | c :: c2 :: r, hm => simp [m13, hk, subT, isS]
          by_cases w2 : w = "tell"
          · subst w2
            cases r <;> simp [m13, hk, subT, isS, q10, w1]
          by_cases w3 : w = "pick"
          · subst w3
            cases r <;> simp [m13, hk, subT, isS, q3, w1, w2]
          by_cases w4 : w = "rest"
          · subst w4
            match r, hm with
            | [], hm => simp [m13, hk, subT, isS, w1, w2, w3]
            | [c], hm =>
              have q1 := fun n st => p1 (n := n) (st := st) (lo := 1) (hi := 99) (dt_pl (hm c (by simp)))
              by_cases h1 : isKd b = true <;> simp [m13, hk, subT, isS, q8, q1, w1, w2, w3, h1]
            | c :: c2 :: r, hm => simp [m13, hk, subT, isS, w1, w2, w3]
          by_cases w5 : w = "if"
          · subst w5
            have i2' : ∀ st, cNotIn st (.str "if") (.tup [.str "if", .str "while"]) = some (.bl false) := fun st => rfl
            match r, hm with
            | [], hm => simp [m13, hk, subT, isS, w1, w2, w3, w4, i2']
            | [c], hm => simp [m13, hk, subT, isS, w1, w2, w3, w4, i2']
            | [c, e], hm =>
              have hL : ∀ st, lcM (compA [3] (seqI (slM (varM 0) (someO (conM (.int 2))) noO)) (nameG 3) yesT (callM 14 (consM (varM 3) (consM (binM opSub (varM 1) (conM (.int 1))) nilM)))) (callN tab (n + 2 * (k + 1) + 13)) [some (.tup [.str "if", b, c, e]), some (.int ((k : Int) + 1)), some (.str "if"), none] st = .ok (.lst [.bl (blkB (isS k) c), .bl (blkB (isS k) e)]) st := fun st => by
                refine (lc_map (xs := [c, e]) (fun x => .bl (blkB (isS k) x)) (e_seqT (by simp)) (fun x hx => ⟨_, rfl, ?_⟩) (le_line (by simp)))
                have hx' := q14 x st (hm x (by simp at hx ⊢; rcases hx with rfl | rfl <;> simp))
                simp [wipeE, hd, hx']
              by_cases h1 : isE 6 b = true <;> simp [m13, hk, subT, isS, w1, w2, w3, w4, i2', q10, h1, hL]
            | c :: e :: e2 :: r, hm => simp [m13, hk, subT, isS, w1, w2, w3, w4, i2']
          by_cases w6 : w = "while"
          · subst w6
            have i2' : ∀ st, cNotIn st (.str "while") (.tup [.str "if", .str "while"]) = some (.bl false) := fun st => rfl
            match r, hm with
            | [], hm => simp [m13, hk, subT, isS, w1, w2, w3, w4, w5, i2']
            | [c], hm =>
              have hL : ∀ st, lcM (compA [3] (seqI (slM (varM 0) (someO (conM (.int 2))) noO)) (nameG 3) yesT (callM 14 (consM (varM 3) (consM (binM opSub (varM 1) (conM (.int 1))) nilM)))) (callN tab (n + 2 * (k + 1) + 13)) [some (.tup [.str "while", b, c]), some (.int ((k : Int) + 1)), some (.str "while"), none] st = .ok (.lst [.bl (blkB (isS k) c)]) st := fun st => by
                refine (lc_map (xs := [c]) (fun x => .bl (blkB (isS k) x)) (e_seqT (by simp)) (fun x hx => ⟨_, rfl, ?_⟩) (le_line (by simp)))
                have hx' := q14 x st (hm x (by simp at hx ⊢; rcases hx with rfl; simp))
                simp [wipeE, hd, hx']
              by_cases h1 : isE 6 b = true <;> simp [m13, hk, subT, isS, w1, w2, w3, w4, w5, i2', q10, h1, hL]
            | c :: e2 :: r, hm => simp [m13, hk, subT, isS, w1, w2, w3, w4, w5, i2']
          have i2' : ∀ st, cNotIn st (.str w) (.tup [.str "if", .str "while"]) = some (.bl true) := fun st => by
            refine (i2 st).trans ?_
            simp [inS, eqF, str_ne w5, str_ne w6]
          simp [m13, hk, subT, isS, w1, w2, w3, w4, w5, w6, i2']
        | _ => first | (simp [m13, hk, subT, isS]; done) | exact absurd (hm _ List.mem_cons_self) (by simp [dt])
    | _ => first | (simp [m13, hk, subT, isS]; done) | cases h
end L11
end

section
set_option Elab.async false
set_option linter.all false
set_option maxRecDepth 100000
set_option maxHeartbeats 2000000
namespace L11
open PySem PySem.Spec PyProof.Rows L2 PyI
theorem p33 {n : Nat} {d : D} {st : Store} {lo hi : Int} (h : pl d = true) : callN tab (n + 1) 33 [d, .int lo, .int hi] st = .ok (.bl (isW d lo hi)) st := by
  rw [call_tab t33]
  refine run_ret ?_
  cases d <;> first | (cases h; done) | rfl | (simp [m33, isW, subT]; done) | skip
  rename_i i
  by_cases h1 : lo ≤ i <;> simp [m33, isW, subT, h1]
theorem p34 {n : Nat} {d : D} {st : Store} (h : dt d = true) : callN tab (n + 1) 34 [d] st = .ok (.bl (isNm d)) st := by
  rw [call_tab t34]
  refine run_ret ?_
  cases d with
  | str z =>
    have hz := dt_str h
    have hz' : z.length ≤ sizeLine := le_line (by omega)
    have hl : bLen st [.str z] = some (.int (z.length : Int)) := by simp [bLen, lenD, hz']
    have hL := lc_map (own := [1]) (iter := seqI (varM 0)) (tg := nameG 1) (el := binM cIn (varM 1) (conM c_LETTERS)) (cl := callN tab n) (env := [some (.str z), none]) (st := st) (fun x => .bl (inL x)) (xs := z.cps.toList.map fun c => D.str ⟨#[c]⟩) rfl
      (fun x hx => by
        obtain ⟨c, hc, rfl⟩ := List.mem_map.mp hx
        exact ⟨_, rfl, rfl⟩) (by rw [List.length_map, Array.length_toList]; exact hz')
    have hL' : lcM (compA [1] (seqI (varM 0)) (nameG 1) yesT (binM cIn (varM 1) (conM (.str "abcdefghijklmnopqrstuvwxyz")))) (callN tab n) [some (.str z), none] st = _ := hL
    by_cases h1 : (1 : Int) ≤ (z.length : Int) <;> by_cases h2 : (z.length : Int) ≤ 8 <;> simp [m34, subT, hl, h1, h2, hL', isNm, nmB, -List.map_map, -List.all_map]
  | _ => first | (simp [m34, subT, isNm]; done) | (cases h; done)
theorem p35 : ∀ (k n : Nat) (d : D) (st : Store), dt d = true → callN tab (n + k + 4) 35 [d, .int k] st = .ok (.bl (isE k d)) st
  | k, n, d, st, h => by
    rw [call_tab t35]
    refine run_ret ?_
    cases d with
    | tup xs =>
      match xs, h with
      | [], h => cases k <;> simp [m35, subT, isE]
      | [a], h => cases k <;> simp [m35, subT, isE]
      | a :: b :: r, h =>
        have hm := dt_mem h
        have hb := hm b (by simp)
        have q1 := fun n st => p33 (n := n) (st := st) (lo := 0) (hi := 7) (dt_pl hb)
        have q3 := fun n st => p34 (n := n) (st := st) hb
        cases a with
        | str w =>
          match k with
          | 0 => simp [m35, subT, isE]
          | k + 1 =>
            have hd : ((k : Int) + 1 - 1) = (k : Int) := by omega
            have q9 : ∀ st, callN tab (n + (k + 1) + 3) 35 [b, .int (k : Int)] st = .ok (.bl (isE k b)) st := fun st => p35 k n b st hb
            have i1 : ∀ st, cIn st (.str w) (.tup [.str "word", .str "cell"]) = some (.bl (inS ["word", "cell"] (.str w))) := fun st => in_tup ["word", "cell"] rfl
            have i2 : ∀ st, cNotIn st (.str w) (.tup [.str "sum", .str "less", .str "and", .str "or", .str "same", .str "below"]) = some (.bl (!deedB w)) := fun st => notin_tup ["sum", "less", "and", "or", "same", "below"] rfl
            by_cases w1 : w = "word"
            · subst w1
              have e1 : inS ["word", "cell"] (.str "word") = true := rfl
              cases r <;> simp [m35, subT, isE, q1, i1, e1]
            by_cases w2 : w = "cell"
            · subst w2
              have e1 : inS ["word", "cell"] (.str "cell") = true := rfl
              cases r <;> simp [m35, subT, isE, q3, w1, i1, e1]
            have e1 : inS ["word", "cell"] (.str w) = false := by simp [inS, eqF, str_ne w1, str_ne w2]
            by_cases w3 : w = "not"
            · subst w3
              cases r <;> simp [m35, hd, subT, isE, w1, w2, q9, i1, e1]
            match r, hm with
            | [], hm => by_cases hw : deedB w = true <;> simp [m35, subT, isE, w1, w2, w3, hw, i1, e1, i2]
            | [c], hm =>
              have q9' : ∀ st, callN tab (n + (k + 1) + 3) 35 [c, .int (k : Int)] st = .ok (.bl (isE k c)) st := fun st => p35 k n c st (hm c (by simp))
              by_cases hw : deedB w = true <;> by_cases hb : isE k b = true <;> simp [m35, hd, subT, isE, w1, w2, w3, hw, q9, q9', hb, i1, e1, i2]
            | c :: c2 :: r, hm => by_cases hw : deedB w = true <;> simp [m35, subT, isE, w1, w2, w3, hw, i1, e1, i2]
        | _ => first | (cases k <;> simp [m35, subT, isE]; done) | exact absurd (hm _ List.mem_cons_self) (by simp [dt])
    | _ => first | (cases k <;> simp [m35, subT, isE]; done) | cases h
theorem p35' {n : Nat} {d : D} {st : Store} (h : dt d = true) : callN tab (n + 10) 35 [d, .int 6] st = .ok (.bl (isE 6 d)) st := p35 6 n d st h
theorem p36 {n : Nat} {d : D} {st : Store} (h : dt d = true) : callN tab (n + 11) 36 [d] st = .ok (.bl (isLook d)) st := by
  rw [call_tab t36]
  refine run_ret ?_
  cases d with
  | tup xs =>
    match xs, h with
    | [], h => simp [m36, subT, isLook]
    | [a], h => simp [m36, subT, isLook]
    | [a, b], h => simp [m36, subT, isLook]
    | a :: b :: c :: e :: r, h => simp [m36, subT, isLook]
    | [a, b, c], h =>
      have hm := dt_mem h
      have q3 := fun n st => p34 (n := n) (st := st) (hm b (by simp))
      have q10 := fun st => p35' (n := n) (st := st) (hm c (by simp))
      have hne := fun st => ne_any_str (st := st) (z := "look") (dt_pl (hm a (by simp)))
      cases a with
      | str w =>
        by_cases hw : w = "look"
        · subst hw
          by_cases hb : isNm b = true <;> simp [m36, q3, q10, isLook, subT, hb]
        · simp [m36, isLook, subT, hw]
      | _ => first | (simp [m36, isLook, subT, hne]; done) | exact absurd (hm _ List.mem_cons_self) (by simp [dt])
  | _ => first | (simp [m36, isLook, subT]; done) | cases h
/-! how many statements; a hundred for what is none -/
def wdB (f : D → Int) : D → Int
  | .tup xs => (xs.map f).sum
  | _ => 100
def wd : Nat → D → Int
  | 0, _ => 100
  | k + 1, d => match d with
    | .tup (.str w :: a :: r) =>
      if w = "if" then (match r with
        | [b, c] => if isE 6 a then 1 + (wdB (wd k) b + wdB (wd k) c) else 100
        | _ => 100)
      else if w = "while" then (match r with
        | [b] => if isE 6 a then 1 + wdB (wd k) b else 100
        | _ => 100)
      else if w = "set" then (match r with
        | [b] => if isNm a && (isE 6 b || isLook b) then 1 else 100
        | _ => 100)
      else if w = "rest" then (match r with
        | [b] => if isKd a && isW b 1 99 then 1 else 100
        | _ => 100)
      else if w = "tell" then (if r.isEmpty && isE 6 a then 1 else 100)
      else if w = "pick" then (if r.isEmpty && isNm a then 1 else 100)
      else 100
    | _ => 100
theorem p38 {n : Nat} {d : D} {st : Store} {k : Int} {f : D → Int} (hf : ∀ x st, dt x = true → callN tab n 37 [x, .int k] st = .ok (.int (f x)) st) (h : dt d = true) : callN tab (n + 1) 38 [d, .int k] st = .ok (.int (wdB f d)) st := by
  rw [call_tab t38]
  refine run_ret ?_
  cases d with
  | tup xs =>
    obtain ⟨h1, h2⟩ := dt_tup h
    have hL := lc_map (own := [2]) (iter := seqI (varM 0)) (tg := nameG 2) (el := callM 37 (consM (varM 2) (consM (varM 1) nilM))) (cl := callN tab n) (env := [some (.tup xs), some (.int k), none]) (st := st) (fun x => .int (f x)) (xs := xs) rfl
      (fun x hx => ⟨_, rfl, hf x st (dts_mem h1 x hx)⟩) (le_line h2)
    simp [m38, hL, wdB]
  | _ => first | (simp [m38, wdB, subT]; done) | (cases h; done)
theorem p27 {n : Nat} {st : Store} : callN tab (n + 1) 27 [] st = .ok (.lst kindL) st := by
  rw [call_tab t27]
  exact run_ret rfl
theorem in_kinds {d : D} {st : Store} (h : pl d = true) : cIn st d (.lst kindL) = some (.bl (isKd d)) := by
  have e : kindL = (["word", "cell", "look", "not", "sum", "less", "and", "or", "same", "below", "set", "tell", "pick", "test", "go"] : List Str).map D.str := rfl
  rw [e, in_lst _ h]
  cases d <;> rfl
theorem p37 : ∀ (k n : Nat) (d : D) (st : Store), dt d = true → callN tab (n + 2 * k + 14) 37 [d, .int k] st = .ok (.int (wd k d)) st
  | k, n, d, st, h => by
    rw [call_tab t37]
    refine run_ret ?_
    cases d with
    | tup xs =>
      match xs, h with
      | [], h => cases k <;> simp [m37, subT, wd]
      | [a], h => cases k <;> simp [m37, subT, wd]
      | a :: b :: r, h =>
        have hm := dt_mem h
        have hb := hm b (by simp)
        cases a with
        | str w =>
          match k with
          | 0 => simp [m37, subT, wd]
          | k + 1 =>
            have hd : ((k : Int) + 1 - 1) = (k : Int) := by omega
            have q3 := fun n st => p34 (n := n) (st := st) hb
            have q10 := fun n st => p35' (n := n) (st := st) hb
            have q38 : ∀ x st, dt x = true → callN tab (n + 2 * (k + 1) + 13) 38 [x, .int (k : Int)] st = .ok (.int (wdB (wd k) x)) st := fun x st hx => p38 (n := n + 2 * k + 14) (fun x st hx => p37 k n x st hx) hx
            have i1 : ∀ st, cIn st (.str w) (.tup [.str "if", .str "while"]) = some (.bl (inS ["if", "while"] (.str w))) := fun st => in_tup ["if", "while"] rfl
            have i2 : ∀ st, cIn st (.str w) (.tup [.str "tell", .str "pick"]) = some (.bl (inS ["tell", "pick"] (.str w))) := fun st => in_tup ["tell", "pick"] rfl
            by_cases w1 : w = "if"
            · subst w1
              have e1 : inS ["if", "while"] (.str "if") = true := rfl
              match r, hm with
              | [], hm => simp [m37, subT, wd, i1, e1]
              | [c], hm => simp [m37, subT, wd, i1, e1]
              | [c, e], hm =>
                have hL : ∀ st, lcM (compA [4] (seqI (slM (varM 0) (someO (conM (.int 2))) noO)) (nameG 4) yesT (callM 38 (consM (varM 4) (consM (binM opSub (varM 1) (conM (.int 1))) nilM)))) (callN tab (n + 2 * (k + 1) + 13)) [some (.tup [.str "if", b, c, e]), some (.int ((k : Int) + 1)), some (.str "if"), some (.int 4), none] st = .ok (.lst [.int (wdB (wd k) c), .int (wdB (wd k) e)]) st := fun st => by
                  refine (lc_map (xs := [c, e]) (fun x => .int (wdB (wd k) x)) (e_seqT (by simp)) (fun x hx => ⟨_, rfl, ?_⟩) (le_line (by simp)))
                  have hx' := q38 x st (hm x (by simp at hx ⊢; rcases hx with rfl | rfl <;> simp))
                  simp [wipeE, hd, hx']
                by_cases h1 : isE 6 b = true <;> simp [m37, subT, wd, i1, e1, q10, h1, hL]
              | c :: e :: e2 :: r, hm => simp [m37, subT, wd, i1, e1]
            by_cases w2 : w = "while"
            · subst w2
              have e1 : inS ["if", "while"] (.str "while") = true := rfl
              match r, hm with
              | [], hm => simp [m37, subT, wd, i1, e1, w1]
              | [c], hm =>
                have hL : ∀ st, lcM (compA [4] (seqI (slM (varM 0) (someO (conM (.int 2))) noO)) (nameG 4) yesT (callM 38 (consM (varM 4) (consM (binM opSub (varM 1) (conM (.int 1))) nilM)))) (callN tab (n + 2 * (k + 1) + 13)) [some (.tup [.str "while", b, c]), some (.int ((k : Int) + 1)), some (.str "while"), some (.int 3), none] st = .ok (.lst [.int (wdB (wd k) c)]) st := fun st => by
                  refine (lc_map (xs := [c]) (fun x => .int (wdB (wd k) x)) (e_seqT (by simp)) (fun x hx => ⟨_, rfl, ?_⟩) (le_line (by simp)))
                  have hx' := q38 x st (hm x (by simp at hx ⊢; rcases hx with rfl; simp))
                  simp [wipeE, hd, hx']
                by_cases h1 : isE 6 b = true <;> simp [m37, subT, wd, i1, e1, w1, q10, h1, hL]
              | c :: e2 :: r, hm => simp [m37, subT, wd, i1, e1, w1]
            have e1 : inS ["if", "while"] (.str w) = false := by simp [inS, eqF, str_ne w1, str_ne w2]
            by_cases w3 : w = "set"
            · subst w3
              match r, hm with
              | [], hm => simp [m37, subT, wd, i1, e1, w1, w2]
              | [c], hm =>
                have q10' := fun n st => p35' (n := n) (st := st) (hm c (by simp))
                have q36 := fun n st => p36 (n := n) (st := st) (hm c (by simp))
                by_cases h1 : isNm b = true <;> by_cases h2 : isE 6 c = true <;> by_cases h3 : isLook c = true <;> simp [m37, subT, wd, i1, e1, w1, w2, q3, q10', q36, h1, h2, h3]
              | c :: e2 :: r, hm => simp [m37, subT, wd, i1, e1, w1, w2]
            by_cases w4 : w = "rest"
            · subst w4
              match r, hm with
              | [], hm => simp [m37, subT, wd, i1, e1, w1, w2, w3]
              | [c], hm =>
                have q1 := fun n st => p33 (n := n) (st := st) (lo := 1) (hi := 99) (dt_pl (hm c (by simp)))
                have ik := fun st => in_kinds (st := st) (dt_pl hb)
                by_cases h1 : isKd b = true <;> by_cases h2 : isW c 1 99 = true <;> simp [m37, subT, wd, i1, e1, w1, w2, w3, q1, p27, ik, h1, h2]
              | c :: e2 :: r, hm => simp [m37, subT, wd, i1, e1, w1, w2, w3]
            by_cases w5 : w = "tell"
            · subst w5
              have e2 : inS ["tell", "pick"] (.str "tell") = true := rfl
              by_cases h1 : isE 6 b = true <;> cases r <;> simp [m37, subT, wd, i1, e1, i2, e2, w1, w2, w3, w4, q10, h1]
            by_cases w6 : w = "pick"
            · subst w6
              have e2 : inS ["tell", "pick"] (.str "pick") = true := rfl
              by_cases h1 : isNm b = true <;> cases r <;> simp [m37, subT, wd, i1, e1, i2, e2, w1, w2, w3, w4, w5, q3, h1]
            have e2 : inS ["tell", "pick"] (.str w) = false := by simp [inS, eqF, str_ne w5, str_ne w6]
            simp [m37, subT, wd, i1, e1, i2, e2, w1, w2, w3, w4, w5, w6]
        | _ => first | (cases k <;> simp [m37, subT, wd]; done) | exact absurd (hm _ List.mem_cons_self) (by simp [dt])
    | _ => first | (cases k <;> simp [m37, subT, wd]; done) | cases h
end L11
end

section
set_option Elab.async false
set_option linter.all false
set_option maxRecDepth 100000
set_option maxHeartbeats 2000000
namespace L11
open PySem PySem.Spec PyProof.Rows L2 PyI
def ohB (z : Str) : Bool := inS ["open", "hidden"] (.str z)
def isWd : D → Bool
  | .str z => ohB z
  | d => isW d 0 7
def isCell : D → Bool
  | .tup [a, b] => isNm a && isWd b
  | _ => false
theorem p18 {n : Nat} {d : D} {st : Store} (h : dt d = true) : callN tab (n + 3) 18 [d] st = .ok (.bl (isCell d)) st := by
  rw [call_tab t18]
  refine run_ret ?_
  have q2 := fun n st => p2 (n := n) (st := st) (k := 2) (dt_pl h)
  cases d with
  | tup xs =>
    match xs, h with
    | [], h => simp [m18, q2, isTupN, isCell]
    | [a], h => simp [m18, q2, isTupN, isCell]
    | a :: b :: c :: r, h => simp [m18, q2, isTupN, isCell]
    | [a, b], h =>
      have hm := dt_mem h
      have q3 := fun n st => p3 (n := n) (st := st) (hm a (by simp))
      have hb := dt_pl (hm b (by simp))
      have q1 := fun n st => p1 (n := n) (st := st) (lo := 0) (hi := 7) hb
      by_cases h1 : isNm a = true
      · cases b with
        | str z =>
          have i1 : ∀ st, cIn st (.str z) (.tup [.str "open", .str "hidden"]) = some (.bl (ohB z)) := fun st => in_tup ["open", "hidden"] rfl
          simp [m18, q2, isTupN, isCell, q3, h1, subT, isWd, i1]
        | scr zs => exact absurd (hm (.scr zs) (by simp)) (by simp [dt])
        | _ => first | (cases hb; done) | (simp [m18, q2, isTupN, isCell, q3, h1, subT, isWd, q1]; done)
      · simp [m18, q2, isTupN, isCell, q3, h1]
  | _ => first | (simp [m18, q2, isTupN, isCell]; done) | cases h
def arC : D → Bool
  | .tup xs => decide ((1 : Int) ≤ (xs.length : Int)) && (decide ((xs.length : Int) ≤ 6) && xs.all isCell)
  | _ => false
theorem p19 {n : Nat} {d : D} {st : Store} (h : dt d = true) : callN tab (n + 4) 19 [d] st = .ok (.bl (arC d)) st := by
  rw [call_tab t19]
  refine run_ret ?_
  cases d with
  | tup xs =>
    obtain ⟨h1, h2⟩ := dt_tup h
    have hL : ∀ st, _ := fun st => lc_map (own := [1]) (iter := seqI (varM 0)) (tg := nameG 1) (el := callM 18 (consM (varM 1) nilM)) (cl := callN tab (n + 3)) (env := [some (.tup xs), none]) (st := st) (fun x => .bl (isCell x)) (xs := xs) rfl
      (fun x hx => ⟨_, rfl, p18 (dts_mem h1 x hx)⟩) (le_line h2)
    by_cases k1 : (1 : Int) ≤ (xs.length : Int) <;> by_cases k2 : (xs.length : Int) ≤ 6 <;> simp [m19, hL, arC, subT, k1, k2]
  | _ => first | (simp [m19, arC, subT]; done) | (cases h; done)
theorem p39 {n : Nat} {d : D} {st : Store} (h : dt d = true) : callN tab (n + 2) 39 [d] st = .ok (.bl (arC d)) st := by
  rw [call_tab t39]
  refine run_ret ?_
  cases d with
  | tup xs =>
    obtain ⟨h1, h2⟩ := dt_tup h
    by_cases k1 : (1 : Int) ≤ (xs.length : Int) <;> by_cases k2 : (xs.length : Int) ≤ 6 <;> simp [m39, arC, subT, k1, k2]
    rw [e_for (xs := xs) rfl]
    have F := forR_guard (tg := nameG 1) (cl := callN tab (n + 1)) (st := st) (r := .bl false)
      (body := (seqS (ifS (orT (notT (boolT (bltM (keep bIsi) (consM (varM 1) (consM (conM (.ty "tuple")) nilM))))) (orT (boolT (binM cNe (bltM (keep bLen) (consM (varM 1) nilM)) (conM (.int 2)))) (notT (boolT (callM 34 (consM (binM ixD (varM 1) (conM (.int 0))) nilM)))))) (seqS (retS (conM (.bl false))) skipS) skipS) (seqS (ifS (andT (boolT (binM cNotIn (binM ixD (varM 1) (conM (.int 1))) (tupM (consM (conM (.str "open")) (consM (conM (.str "hidden")) nilM))))) (notT (boolT (callM 33 (consM (binM ixD (varM 1) (conM (.int 1))) (consM (conM (.int 0)) (consM (conM (.int 7)) nilM))))))) (seqS (retS (conM (.bl false))) skipS) skipS) skipS)))
      isCell (fun e => ∃ c, e = [some (.tup xs), c]) xs [some (.tup xs), none] (fun x hx env ⟨c, hc⟩ => by
        subst hc
        refine ⟨_, rfl, ?_⟩
        have hd := dts_mem h1 x hx
        cases x with
        | tup ys =>
          match ys, hd with
          | [], hd => simp [subT, isCell]
          | [a], hd => simp [subT, isCell]
          | a :: b :: c :: r, hd => simp [subT, isCell]
          | [a, b], hd =>
            have hm := dt_mem hd
            have q3 := fun n st => p34 (n := n) (st := st) (hm a (by simp))
            have hb := dt_pl (hm b (by simp))
            have q1 := fun n st => p33 (n := n) (st := st) (lo := 0) (hi := 7) hb
            have i1 : ∀ st, cNotIn st b (.tup [.str "open", .str "hidden"]) = some (.bl (!inS ["open", "hidden"] b)) := fun st => notin_tup ["open", "hidden"] hb
            have e1 : isWd b = (inS ["open", "hidden"] b || isW b 0 7) := by
              cases b <;> first | rfl | (cases hb; done) | (simp [isWd, inS, ohB, isW]; done)
            by_cases h1 : isNm a = true
            · by_cases h2 : inS ["open", "hidden"] b = true <;> by_cases h3 : isW b 0 7 = true <;> simp [subT, isCell, q3, h1, i1, h2, e1, q1, h3]
            · simp [subT, isCell, q3, h1]
        | _ => first | (simp [subT, isCell]; done) | (cases hd; done)) ⟨_, rfl⟩
    by_cases ha : xs.all isCell = true
    · obtain ⟨e, h3, h4⟩ := F.1 ha
      rw [h3]
      simp [ha]
    · rw [F.2 (by simpa using ha)]
      simp [ha]
  | _ => first | (simp [m39, arC, subT]; done) | (cases h; done)
/-! tables -/
def isTab (size : Int) : D → Bool
  | .tup [a, b] => isNm a && (match b with
    | .tup ys => decide ((ys.length : Int) = size) && ys.all fun y => isW y 0 (size - 1)
    | _ => false)
  | _ => false
def arT (size : Int) : D → Bool
  | .tup xs => decide ((xs.length : Int) ≤ 4) && xs.all (isTab size)
  | _ => false
theorem p20 {n : Nat} {d : D} {st : Store} {i : Int} (w1 : 1 ≤ i) (w3 : i ≤ 3) (h : dt d = true) : callN tab (n + 4) 20 [.int i, d] st = .ok (.bl (arT (2 ^ i.toNat) d)) st := by
  rw [call_tab t20]
  refine run_ret ?_
  have q4 := fun st => p4 (n := n) (st := st) w1 w3
  cases d with
  | tup xs =>
    obtain ⟨h1, h2⟩ := dt_tup h
    by_cases k1 : (4 : Int) < (xs.length : Int)
    · have k2 : ¬ ((xs.length : Int) ≤ 4) := by omega
      simp [m20, q4, subT, k1, k2, arT]
    have k2 : (xs.length : Int) ≤ 4 := by omega
    simp [m20, q4, subT, k1, k2, arT]
    rw [e_for (xs := xs) rfl]
    have F := forR_guard (tg := nameG 3) (cl := callN tab (n + 3)) (st := st) (r := .bl false)
      (body := (seqS (ifS (orT (notT (boolT (callM 2 (consM (varM 3) (consM (conM (.int 2)) nilM))))) (orT (notT (boolT (callM 3 (consM (binM ixD (varM 3) (conM (.int 0))) nilM)))) (notT (boolT (callM 2 (consM (binM ixD (varM 3) (conM (.int 1))) (consM (varM 2) nilM))))))) (seqS (retS (conM (.bl false))) skipS) skipS) (seqS (ifS (notT (boolT (callM 5 (consM (binM ixD (varM 3) (conM (.int 1))) (consM (conM (.int 0)) (consM (binM opSub (varM 2) (conM (.int 1))) nilM)))))) (seqS (retS (conM (.bl false))) skipS) skipS) skipS)))
      (isTab (2 ^ i.toNat)) (fun e => ∃ c, e = [some (.int i), some (.tup xs), some (.int (2 ^ i.toNat)), c]) xs [some (.int i), some (.tup xs), some (.int (2 ^ i.toNat)), none] (fun x hx env ⟨c, hc⟩ => by
        subst hc
        refine ⟨_, rfl, ?_⟩
        have hd := dts_mem h1 x hx
        have q2 := fun n st => p2 (n := n) (st := st) (k := 2) (dt_pl hd)
        cases x with
        | tup ys =>
          match ys, hd with
          | [], hd => simp [q2, isTupN, isTab]
          | [a], hd => simp [q2, isTupN, isTab]
          | a :: b :: c :: r, hd => simp [q2, isTupN, isTab]
          | [a, b], hd =>
            have hm := dt_mem hd
            have q3 := fun n st => p3 (n := n) (st := st) (hm a (by simp))
            have hb := hm b (by simp)
            have q2' := fun n st => p2 (n := n) (st := st) (k := 2 ^ i.toNat) (dt_pl hb)
            have q5 := fun n st => p5 (n := n) (st := st) (lo := 0) (hi := 2 ^ i.toNat - 1) hb
            by_cases h1 : isNm a = true
            · cases b with
              | tup zs => by_cases h2 : (zs.length : Int) = 2 ^ i.toNat <;> by_cases h3 : (zs.all fun y => isW y 0 (2 ^ i.toNat - 1)) = true <;> simp [q2, isTupN, isTab, q3, h1, q2', h2, q5, h3]
              | _ => first | (simp [q2, isTupN, isTab, q3, h1, q2']; done) | (cases hb; done)
            · simp [q2, isTupN, isTab, q3, h1]
        | _ => first | (simp [q2, isTupN, isTab]; done) | (cases hd; done)) ⟨_, rfl⟩
    by_cases ha : xs.all (isTab (2 ^ i.toNat)) = true
    · obtain ⟨e, h3, h4⟩ := F.1 ha
      rw [h3]
      simp [ha]
    · rw [F.2 (by simpa using ha)]
      simp [ha]
  | _ => first | (simp [m20, q4, arT, subT]; done) | (cases h; done)
theorem p40 {n : Nat} {d : D} {st : Store} {z : Int} (h : dt d = true) : callN tab (n + 2) 40 [.int z, d] st = .ok (.bl (arT z d)) st := by
  rw [call_tab t40]
  refine run_ret ?_
  cases d with
  | tup xs =>
    obtain ⟨h1, h2⟩ := dt_tup h
    by_cases k1 : (4 : Int) < (xs.length : Int)
    · have k2 : ¬ ((xs.length : Int) ≤ 4) := by omega
      simp [m40, subT, k1, k2, arT]
    have k2 : (xs.length : Int) ≤ 4 := by omega
    simp [m40, subT, k1, k2, arT]
    rw [e_for (xs := xs) rfl]
    have F := forR_guard (tg := nameG 2) (cl := callN tab (n + 1)) (st := st) (r := .bl false)
      (body := (seqS (ifS (orT (notT (boolT (bltM (keep bIsi) (consM (varM 2) (consM (conM (.ty "tuple")) nilM))))) (orT (boolT (binM cNe (bltM (keep bLen) (consM (varM 2) nilM)) (conM (.int 2)))) (notT (boolT (callM 34 (consM (binM ixD (varM 2) (conM (.int 0))) nilM)))))) (seqS (retS (conM (.bl false))) skipS) skipS) (seqS (ifS (orT (notT (boolT (bltM (keep bIsi) (consM (binM ixD (varM 2) (conM (.int 1))) (consM (conM (.ty "tuple")) nilM))))) (boolT (binM cNe (bltM (keep bLen) (consM (binM ixD (varM 2) (conM (.int 1))) nilM)) (varM 0)))) (seqS (retS (conM (.bl false))) skipS) skipS) (seqS (ifS (notT (boolT (bltM (keep bAll) (consM (lcM (compA [3] (seqI (binM ixD (varM 2) (conM (.int 1)))) (nameG 3) yesT (callM 33 (consM (varM 3) (consM (conM (.int 0)) (consM (binM opSub (varM 0) (conM (.int 1))) nilM)))))) nilM)))) (seqS (retS (conM (.bl false))) skipS) skipS) skipS))))
      (isTab z) (fun e => ∃ c, e = [some (.int z), some (.tup xs), c, none]) xs [some (.int z), some (.tup xs), none, none] (fun x hx env ⟨c, hc⟩ => by
        subst hc
        refine ⟨_, rfl, ?_⟩
        have hd := dts_mem h1 x hx
        cases x with
        | tup ys =>
          match ys, hd with
          | [], hd => simp [subT, isTab]
          | [a], hd => simp [subT, isTab]
          | a :: b :: c :: r, hd => simp [subT, isTab]
          | [a, b], hd =>
            have hm := dt_mem hd
            have q3 := fun n st => p34 (n := n) (st := st) (hm a (by simp))
            have hb := hm b (by simp)
            by_cases h1 : isNm a = true
            · cases b with
              | tup zs =>
                obtain ⟨g1, g2⟩ := dt_tup hb
                have hL : ∀ st, lcM (compA [3] (seqI (binM ixD (varM 2) (conM (.int 1)))) (nameG 3) yesT (callM 33 (consM (varM 3) (consM (conM (.int 0)) (consM (binM opSub (varM 0) (conM (.int 1))) nilM))))) (callN tab (n + 1)) [some (.int z), some (.tup xs), some (.tup [a, .tup zs]), none] st = .ok (.lst (zs.map fun y => .bl (isW y 0 (z - 1)))) st := fun st =>
                  lc_map (fun y => .bl (isW y 0 (z - 1))) (e_seqT (by simp)) (fun y hy => ⟨_, rfl, by simp [wipeE, p33 (dt_pl (dts_mem g1 y hy))]⟩) (le_line g2)
                by_cases h2 : (zs.length : Int) = z <;> by_cases h3 : (zs.all fun y => isW y 0 (z - 1)) = true <;> simp [subT, isTab, q3, h1, h2, hL, h3]
              | _ => first | (simp [subT, isTab, q3, h1]; done) | (cases hb; done)
            · simp [subT, isTab, q3, h1]
        | _ => first | (simp [subT, isTab]; done) | (cases hd; done)) ⟨_, rfl⟩
    by_cases ha : xs.all (isTab z) = true
    · obtain ⟨e, h3, h4⟩ := F.1 ha
      rw [h3]
      simp [ha]
    · rw [F.2 (by simpa using ha)]
      simp [ha]
  | _ => first | (simp [m40, arT, subT]; done) | (cases h; done)
end L11
end

section
set_option Elab.async false
set_option linter.all false
set_option maxRecDepth 100000
set_option maxHeartbeats 2000000
namespace L11
open PySem PySem.Spec PyProof.Rows L2 PyI
/-! is_flat -/
def it (p : D × Nat) : D := .tup [p.1, .int (p.2 : Int)]
def flatI (d : D) (l : Nat) (s0 : Store) (k : Nat) (env : PyI.Env) (s : Store) : Prop := ∃ (ps : List (D × Nat)) (a b : Option D), env = [some d, some (.ref l), a, b, none, none] ∧ Ext s0 s ∧ l = s0.nx ∧ l < s.nx ∧ listAt s l = some (ps.map it) ∧ k = szDs (ps.map (·.1)) ∧
  k ≤ 1000000 ∧ ∀ p ∈ ps, dt p.1 = true ∧ dpD p.1 + p.2 ≤ 30
theorem len_le (ps : List (D × Nat)) : ps.length ≤ szDs (ps.map (·.1)) := by
  have := szDs_len (ps.map (·.1))
  rwa [List.length_map] at this
theorem mem_sz {xs : List D} {c : Nat} : szDs ((xs.map fun x => (x, c)).map (·.1)) = szDs xs := by
  rw [List.map_map]
  have : (fun x : D => x) = ((·.1) ∘ fun x : D => (x, c)) := rfl
  rw [← this, List.map_id']
theorem big_line {n : Nat} (h : n ≤ 1000000) : n ≤ sizeLine := by rw [sizeLine_eq]; omega
def bd6 : SS := (seqS (asgS (mtM mPop (varM 1) nilM) (tupG [(nameG 2), (nameG 3)])) (seqS (ifS (boolT (binM cGt (varM 3) (conM c_MOST_DEEP))) (seqS (retS (conM (.bl false))) skipS) skipS) (seqS (ifS (boolT (isisM ["tuple", "list"] (varM 2))) (seqS (exprS (mtM mExtend (varM 1) (consM (lcM (compA [4] (seqI (varM 2)) (nameG 4) yesT (tupM (consM (varM 4) (consM (binM opAdd (varM 3) (conM (.int 1))) nilM))))) nilM))) skipS) (seqS (ifS (boolT (bltM (keep bIsi) (consM (varM 2) (consM (conM (.ty "dict")) nilM)))) (seqS (exprS (mtM mExtend (varM 1) (consM (lcM (compA [5] (seqI (varM 2)) (nameG 5) yesT (tupM (consM (binM ixD (varM 2) (varM 5)) (consM (binM opAdd (varM 3) (conM (.int 1))) nilM))))) nilM))) skipS) skipS) skipS)) skipS)))
theorem flat_step {cl : CL} {d : D} {l : Nat} {s0 : Store} (k : Nat) (env : PyI.Env) (st : Store) (hi : flatI d l s0 k env st) :
    ∃ s1, (boolT (binM cNe (varM 1) (lstM nilM)) cl env st = .ok false s1 ∧ flatI d l s0 0 env s1) ∨ (boolT (binM cNe (varM 1) (lstM nilM)) cl env st = .ok true s1 ∧ ∃ k' env' st', k' < k ∧ bd6 cl env s1 = .nx env' st' ∧ flatI d l s0 k' env' st') := by
  obtain ⟨ps, a, b, rfl, hx, rfl, hl, hs, rfl, hk, hp⟩ := hi
  have e0 := ne_nil hs
  rcases List.eq_nil_or_concat ps with rfl | ⟨r, p, rfl⟩
  · refine ⟨st, .inl ⟨?_, [], a, b, rfl, hx, rfl, hl, hs, rfl, Nat.zero_le _, fun p hp => by cases hp⟩⟩
    simp [e0]
  refine ⟨st, .inr ⟨?_, ?_⟩⟩
  · simp [e0]
  obtain ⟨x, c⟩ := p
  simp only [List.concat_eq_append] at hs hk hp ⊢
  rw [List.map_append, List.map_cons, List.map_nil] at hs
  have hpop : mPop st (.ref s0.nx) [] = some (.tup [x, .int (c : Int)], st.put s0.nx (.lst (r.map it))) := pop_ok hs
  have hiL := isL_ref hs
  obtain ⟨hd, hc⟩ := hp (x, c) (by simp)
  have hsz : szDs ((r ++ [(x, c)]).map (·.1)) = szDs (r.map (·.1)) + szD x := by
    rw [List.map_append, szDs_app]
    simp
  rw [hsz] at hk ⊢
  have hdeep : ¬ ((30 : Int) < (c : Int)) := by
    have : dpD x + c ≤ 30 := hc
    omega
  have hs1 : listAt (st.put s0.nx (.lst (r.map it))) s0.nx = some (r.map it) := list_put
  have hiL1 := isL_ref hs1
  have hx1 : Ext s0 (st.put s0.nx (.lst (r.map it))) := hx.put (Nat.le_refl _)
  have hpr : ∀ q ∈ r, dt q.1 = true ∧ dpD q.1 + q.2 ≤ 30 := fun q hq => hp q (by simp [hq])
  have leaf : szDs (r.map (·.1)) < szDs (r.map (·.1)) + szD x := by
    have := szD_pos x
    omega
  have kids : ∀ xs : List D, szD x = 1 + szDs xs → (∀ y ∈ xs, dt y = true ∧ dpD y + (c + 1) ≤ 30) → xs.length ≤ 1000 →
      flatI d s0.nx s0 (szDs (r.map (·.1)) + szDs xs) [some d, some (.ref s0.nx), some x, some (.int (c : Int)), none, none] ((st.put s0.nx (.lst (r.map it))).put s0.nx (.lst (r.map it ++ (xs.map fun y => (y, c + 1)).map it))) ∧ (r.map it).length + xs.length ≤ sizeLine := fun xs e1 e2 e3 => by
    have e4 := len_le r
    have e5 := szDs_len xs
    refine ⟨⟨r ++ xs.map fun y => (y, c + 1), _, _, rfl, hx1.put (Nat.le_refl _), rfl, hl, ?_, ?_, by omega, fun q hq => ?_⟩, ?_⟩
    · rw [list_put, List.map_append]
    · rw [List.map_append, szDs_app, mem_sz]
    · rcases List.mem_append.mp hq with hq | hq
      · exact hpr q hq
      · obtain ⟨y, hy, rfl⟩ := List.mem_map.mp hq
        exact e2 y hy
    · rw [List.length_map]
      exact big_line (by omega)
  have walk : ∀ xs : List D, (x = .tup xs ∨ x = .lst xs) → ∃ k' env' st', k' < szDs (r.map (·.1)) + szD x ∧ bd6 cl [some d, some (.ref s0.nx), a, b, none, none] st = .nx env' st' ∧ flatI d s0.nx s0 k' env' st' := fun xs hxs => by
    have e1 : szD x = 1 + szDs xs := by rcases hxs with rfl | rfl <;> simp
    have e2 : ∀ y ∈ xs, dt y = true ∧ dpD y + (c + 1) ≤ 30 := fun y hy => by
      have e6 : dpD x = 1 + dpDs xs := by rcases hxs with rfl | rfl <;> simp
      have e7 := dpDs_mem hy
      have e8 : dt y = true := by
        rcases hxs with rfl | rfl
        · exact dt_mem hd y hy
        · exact dts_mem (dt_tup (xs := xs) hd).1 y hy
      exact ⟨e8, by show dpD y + (c + 1) ≤ 30; have : dpD x + c ≤ 30 := hc; omega⟩
    have e3 : xs.length ≤ 1000 := by
      rcases hxs with rfl | rfl
      · exact (dt_tup hd).2
      · exact (dt_tup (xs := xs) hd).2
    obtain ⟨g1, g2⟩ := kids xs e1 e2 e3
    refine ⟨_, _, _, by omega, ?_, g1⟩
    have hL : ∀ s, lcM (compA [4] (seqI (varM 2)) (nameG 4) yesT (tupM (consM (varM 4) (consM (binM opAdd (varM 3) (conM (.int 1))) nilM)))) cl [some d, some (.ref s0.nx), some x, some (.int (c : Int)), none, none] s = .ok (.lst (xs.map fun y => it (y, c + 1))) s := fun s =>
      lc_map (fun y => it (y, c + 1)) (by rcases hxs with rfl | rfl <;> rfl) (fun y hy => ⟨_, rfl, by simp [wipeE, it]⟩) (le_line e3)
    have e9 : (xs.map fun y => (y, c + 1)).map it = xs.map fun y => it (y, c + 1) := by rw [List.map_map]; rfl
    rw [e9]
    have hext := ext_ok (y := .lst (xs.map fun y => it (y, c + 1))) hs1 rfl (by simpa using g2)
    have hty : ∀ s, isisM ["tuple", "list"] (varM 2) cl [some d, some (.ref s0.nx), some x, some (.int (c : Int)), none, none] s = .ok (.bl true) s := fun s => by rcases hxs with rfl | rfl <;> rfl
    simp [bd6, hiL, hpop, tupG, tupGs, hdeep, hty, hL, hiL1, hext]
  have lf : bd6 cl [some d, some (.ref s0.nx), a, b, none, none] st = .nx [some d, some (.ref s0.nx), some x, some (.int (c : Int)), none, none] (st.put s0.nx (.lst (r.map it))) →
      ∃ k' env' st', k' < szDs (r.map (·.1)) + szD x ∧ bd6 cl [some d, some (.ref s0.nx), a, b, none, none] st = .nx env' st' ∧ flatI d s0.nx s0 k' env' st' := fun h => ⟨_, _, _, leaf, h, r, some x, some (.int (c : Int)), rfl, hx1, rfl, hl, hs1, rfl, by omega, hpr⟩
  cases x with
  | tup xs => exact walk xs (.inl rfl)
  | lst xs => exact walk xs (.inr rfl)
  | dct ks xs =>
    have hd' : (ks.isEmpty && xs.isEmpty) = true := hd
    rw [Bool.and_eq_true] at hd'
    cases ks with
    | cons _ _ => cases hd'.1
    | nil =>
      have hL : ∀ s, lcM (compA [5] (seqI (varM 2)) (nameG 5) yesT (tupM (consM (binM ixD (varM 2) (varM 5)) (consM (binM opAdd (varM 3) (conM (.int 1))) nilM)))) cl [some d, some (.ref s0.nx), some (.dct [] xs), some (.int (c : Int)), none, none] s = .ok (.lst []) s := fun s =>
        lc_map (xs := []) (fun y => y) rfl (fun y hy => by cases hy) (Nat.zero_le _)
      have hext := ext_ok (y := .lst []) hs1 rfl (by
        have := len_le r
        simp
        exact big_line (by omega))
      rw [List.append_nil] at hext
      refine ⟨_, _, _, leaf, ?_, r, some (.dct [] xs), some (.int (c : Int)), rfl, hx1.put (Nat.le_refl _), rfl, hl, list_put, rfl, by omega, hpr⟩
      simp [bd6, hiL, hpop, tupG, tupGs, hdeep, isisM, tyD, subTs, subT, hL, hiL1, hext]
  | ref _ => cases hd
  | ty _ => cases hd
  | fn _ => cases hd
  | scr _ => cases hd
  | non => exact lf (by simp [bd6, hiL, hpop, tupG, tupGs, hdeep, isisM, tyD, subTs, subT])
  | bl _ => exact lf (by simp [bd6, hiL, hpop, tupG, tupGs, hdeep, isisM, tyD, subTs, subT])
  | int _ => exact lf (by simp [bd6, hiL, hpop, tupG, tupGs, hdeep, isisM, tyD, subTs, subT])
  | str _ => exact lf (by simp [bd6, hiL, hpop, tupG, tupGs, hdeep, isisM, tyD, subTs, subT])
theorem p6 {n : Nat} {d : D} {st : Store} (h : dt d = true) (hz : szD d ≤ 1000000) (hp : dpD d ≤ 30) : ∃ st', callN tab (n + 1) 6 [d] st = .ok (.bl true) st' ∧ Ext st st' := by
  rw [call_tab t6]
  have hi : flatI d st.nx st (szD d) [some d, some (.ref st.nx), none, none, none, none] (st.new (.lst [.tup [d, .int 0]])) :=
    ⟨[(d, 0)], none, none, rfl, Ext.new, rfl, Nat.lt_succ_self _, list_new, by simp, hz, fun p hp' => by
      rw [List.mem_singleton.mp hp']
      exact ⟨h, by simpa using hp⟩⟩
  obtain ⟨e, s, h1, ps, a, b, h2, h3, h4⟩ := whileL_inv (t := boolT (binM cNe (varM 1) (lstM nilM))) (body := bd6) (cl := callN tab n) (flatI d st.nx st) (fun k env st' hh => flat_step k env st' hh) turns (szD d) _ _ (by show szD d < 1000000000; omega) hi
  refine ⟨s, ?_, h3⟩
  refine run_ret ?_
  have hw : whileS (boolT (binM cNe (varM 1) (lstM nilM))) bd6 (callN tab n) [some d, some (.ref st.nx), none, none, none, none] (st.new (.lst [.tup [d, .int 0]])) = .nx e s := h1
  have hm : m6 = seqS (asgS (lstN (consM (tupM (consM (varM 0) (consM (conM (.int 0)) nilM))) nilM)) (nameG 1)) (seqS (whileS (boolT (binM cNe (varM 1) (lstM nilM))) bd6) (seqS (retS (conM (.bl true))) skipS)) := rfl
  rw [hm]
  simp [newL_ok, hw]
end L11
end

section
set_option Elab.async false
set_option linter.all false
set_option maxRecDepth 100000
set_option maxHeartbeats 2000000
namespace L11
open PySem PySem.Spec PyProof.Rows L2 PyI
theorem isS_cases {k : Nat} {x : D} (h : isS (k + 1) x = true) : (∃ a b c, x = .tup [.str "if", a, b, c] ∧ isE 6 a = true ∧ blkB (isS k) b = true ∧ blkB (isS k) c = true) ∨ (∃ a b, x = .tup [.str "while", a, b] ∧ isE 6 a = true ∧ blkB (isS k) b = true) ∨
    ∃ w a r, x = .tup (.str w :: a :: r) ∧ ¬ w = "if" ∧ ¬ w = "while" ∧ wd (k + 1) x = 1 := by
  unfold isS at h
  split at h
  · rename_i w a r
    by_cases w5 : w = "if"
    · subst w5
      simp only [show ¬ (("if" : Str) = "set") by decide, show ¬ (("if" : Str) = "tell") by decide, show ¬ (("if" : Str) = "pick") by decide, show ¬ (("if" : Str) = "rest") by decide, if_false, if_true] at h
      split at h
      · simp only [Bool.and_eq_true] at h
        exact .inl ⟨_, _, _, rfl, h.1, h.2.1, h.2.2⟩
      · cases h
    by_cases w6 : w = "while"
    · subst w6
      simp only [show ¬ (("while" : Str) = "set") by decide, show ¬ (("while" : Str) = "tell") by decide, show ¬ (("while" : Str) = "pick") by decide, show ¬ (("while" : Str) = "rest") by decide, w5, if_false, if_true] at h
      split at h
      · simp only [Bool.and_eq_true] at h
        exact .inr (.inl ⟨_, _, rfl, h.1, h.2⟩)
      · cases h
    refine .inr (.inr ⟨w, a, r, rfl, w5, w6, ?_⟩)
    unfold wd
    simp only [w5, w6, if_false] at h ⊢
    by_cases w1 : w = "set"
    · simp only [w1, if_true] at h ⊢
      split at h
      · rw [Bool.or_comm] at h
        simp [h]
      · cases h
    by_cases w2 : w = "tell"
    · subst w2
      simp only [show ¬ (("tell" : Str) = "set") by decide, show ¬ (("tell" : Str) = "rest") by decide, if_false, if_true] at h ⊢
      simp [h]
    by_cases w3 : w = "pick"
    · subst w3
      simp only [show ¬ (("pick" : Str) = "set") by decide, show ¬ (("pick" : Str) = "rest") by decide, show ¬ (("pick" : Str) = "tell") by decide, if_false, if_true] at h ⊢
      simp [h]
    by_cases w4 : w = "rest"
    · simp only [w4, show ¬ (("rest" : Str) = "set") by decide, show ¬ (("rest" : Str) = "tell") by decide, show ¬ (("rest" : Str) = "pick") by decide, if_false, if_true] at h ⊢
      split at h
      · simp [h]
      · cases h
    simp [w1, w2, w3, w4] at h
  · cases h
theorem sum_nonneg {f : D → Int} (hf : ∀ x, 0 ≤ f x) : ∀ xs : List D, 0 ≤ (xs.map f).sum
  | [] => Int.le_refl _
  | x :: r => by
    rw [List.map_cons, List.sum_cons]
    have := hf x
    have := sum_nonneg hf r
    omega
theorem wdB_nonneg {f : D → Int} (hf : ∀ x, 0 ≤ f x) (d : D) : 0 ≤ wdB f d := by
  cases d <;> first | exact sum_nonneg hf _ | (show (0 : Int) ≤ 100; decide)
theorem wd_pos : ∀ (k : Nat) (d : D), 1 ≤ wd k d
  | 0, d => by unfold wd; decide
  | k + 1, d => by
    have h0 : ∀ b, 0 ≤ wdB (wd k) b := wdB_nonneg fun x => by have := wd_pos k x; omega
    unfold wd
    split
    · rename_i w a r
      split
      · split
        · rename_i b c
          have := h0 b
          have := h0 c
          split <;> omega
        · decide
      · split
        · split
          · rename_i b
            have := h0 b
            split <;> omega
          · decide
        · split
          · split
            · split <;> decide
            · decide
          · split
            · split
              · split <;> decide
              · decide
            · split
              · split <;> decide
              · split
                · split <;> decide
                · decide
    · decide
theorem wd_nn (k : Nat) (d : D) : 0 ≤ wd k d := by have := wd_pos k d; omega
theorem wdB_bad {f : D → Int} {g : D → Bool} (hf : ∀ x, 0 ≤ f x) (h : ∀ x, g x = false → 100 ≤ f x) : ∀ d, blkB g d = false → 100 ≤ wdB f d := by
  intro d hd
  cases d with
  | tup xs =>
    show 100 ≤ (xs.map f).sum
    have hd' : xs.all g = false := hd
    clear hd
    induction xs with
    | nil => cases hd'
    | cons x r ih =>
      rw [List.map_cons, List.sum_cons]
      cases q : g x with
      | false =>
        have := h x q
        have := sum_nonneg hf r
        omega
      | true =>
        rw [List.all_cons, q, Bool.true_and] at hd'
        have := ih hd'
        have := hf x
        omega
  | _ => exact Int.le_refl _
theorem wd_bad : ∀ (k : Nat) (d : D), isS k d = false → 100 ≤ wd k d
  | 0, d, _ => by unfold wd; decide
  | k + 1, d, h => by
    have hB : ∀ b, blkB (isS k) b = false → 100 ≤ wdB (wd k) b := wdB_bad (wd_nn k) (wd_bad k)
    have h0 : ∀ b, 0 ≤ wdB (wd k) b := wdB_nonneg (wd_nn k)
    unfold isS at h
    unfold wd
    split at h
    · rename_i w a r
      by_cases w1 : w = "if"
      · subst w1
        simp only [show ¬ (("if" : Str) = "set") by decide, show ¬ (("if" : Str) = "tell") by decide, show ¬ (("if" : Str) = "pick") by decide, show ¬ (("if" : Str) = "rest") by decide, if_false, if_true] at h ⊢
        split at h
        · rename_i b c
          have b0 := h0 b
          have c0 := h0 c
          by_cases e : isE 6 a = true
          · rw [e, Bool.true_and] at h
            simp only [e, if_true]
            cases qb : blkB (isS k) b with
            | false => have := hB b qb; omega
            | true =>
              rw [qb, Bool.true_and] at h
              have := hB c h
              omega
          · simp [e]
        · rename_i hr
          first
          | decide
          | split
            · rename_i b c
              exact absurd rfl (hr b c)
            · decide
      by_cases w2 : w = "while"
      · subst w2
        simp only [show ¬ (("while" : Str) = "set") by decide, show ¬ (("while" : Str) = "tell") by decide, show ¬ (("while" : Str) = "pick") by decide, show ¬ (("while" : Str) = "rest") by decide, w1, if_false, if_true] at h ⊢
        split at h
        · rename_i b
          by_cases e : isE 6 a = true
          · rw [e, Bool.true_and] at h
            simp only [e, if_true]
            have := hB b h
            omega
          · simp [e]
        · rename_i hr
          first
          | decide
          | split
            · rename_i b
              exact absurd rfl (hr b)
            · decide
      simp only [w1, w2, if_false] at h ⊢
      by_cases w3 : w = "set"
      · simp only [w3, if_true] at h ⊢
        split at h
        · rw [Bool.or_comm] at h
          simp [h]
        · rename_i hr
          first
          | decide
          | split
            · rename_i b
              exact absurd rfl (hr b)
            · decide
      by_cases w4 : w = "tell"
      · subst w4
        simp only [show ¬ (("tell" : Str) = "set") by decide, show ¬ (("tell" : Str) = "rest") by decide, if_false, if_true] at h ⊢
        simp [h]
      by_cases w5 : w = "pick"
      · subst w5
        simp only [show ¬ (("pick" : Str) = "set") by decide, show ¬ (("pick" : Str) = "rest") by decide, show ¬ (("pick" : Str) = "tell") by decide, if_false, if_true] at h ⊢
        simp [h]
      by_cases w6 : w = "rest"
      · simp only [w6, show ¬ (("rest" : Str) = "set") by decide, show ¬ (("rest" : Str) = "tell") by decide, show ¬ (("rest" : Str) = "pick") by decide, if_false, if_true] at h ⊢
        split at h
        · simp [h]
        · rename_i hr
          first
          | decide
          | split
            · rename_i b
              exact absurd rfl (hr b)
            · decide
      simp [w3, w4, w5, w6]
    · rename_i hr
      first
      | decide
      | split
        · exact absurd rfl (hr _ _ _)
        · decide
end L11
end

section
set_option Elab.async false
set_option linter.all false
set_option maxRecDepth 100000
set_option maxHeartbeats 2000000
namespace L11
open PySem PySem.Spec PyProof.Rows L2 PyI
/-! the statements within -/
def inn : D → List D
  | .tup (.str w :: a :: r) => if w = "if" then (match r with
      | [b, c] => [b, c]
      | _ => [])
    else if w = "while" then (match r with
      | [b] => [b]
      | _ => [])
    else []
  | _ => []
theorem p12 {k n : Nat} {x : D} {st : Store} (h : isS (k + 1) x = true) : callN tab (n + 1) 12 [x] st = .ok (.lst (inn x)) st := by
  rw [call_tab t12]
  refine run_ret ?_
  rcases isS_cases h with ⟨a, b, c, rfl, _⟩ | ⟨a, b, rfl, _⟩ | ⟨w, a, r, rfl, w1, w2, _⟩
  · simp [m12, inn]
  · have e : ¬ (("while" : Str) = "if") := by decide
    simp [m12, inn, e]
  · simp [m12, inn, w1, w2]
/-- all of a block's statements -/
def Cnt (k : Nat) (N : Nat) : Prop := ∀ (xs : List D) (st : Store), dt (.tup xs) = true → xs.all (isS k) = true → (xs.map (wd k)).sum ≤ 1000000 →
  ∃ st' l zs, callN tab N 15 [.tup xs] st = .ok (.ref l) st' ∧ Ext st st' ∧ listAt st' l = some zs ∧ (zs.length : Int) = (xs.map (wd k)).sum
def fI (xs : List D) (e : PyI.Env) (f : D → Int) (s0 : Store) (T : Int) (r : List D) (env : PyI.Env) (s : Store) : Prop := ∃ (zs : List D) (a b : Option D), env = [some (.tup xs), some (.ref s0.nx), a, b] ∧ Ext s0 s ∧ s0.nx < s.nx ∧ listAt s s0.nx = some zs ∧ (zs.length : Int) + (r.map f).sum = T ∧ ∀ y ∈ r, y ∈ xs
theorem int_line {n : Nat} (h : (n : Int) ≤ 1000000) : n ≤ sizeLine := big_line (by omega)
def bd15 : SS := (seqS (exprS (mtM mAppend (varM 1) (consM (varM 2) nilM))) (seqS (forS (seqI (callM 12 (consM (varM 2) nilM))) (nameG 3) (seqS (exprS (mtM mExtend (varM 1) (consM (callM 15 (consM (varM 3) nilM)) nilM))) skipS)) skipS))
theorem p15 : ∀ (k n : Nat), Cnt k (n + k + 2)
  | 0, n => fun xs st hd ha hc => by
    cases xs with
    | cons x r =>
      rw [List.all_cons] at ha
      cases ha
    | nil =>
      refine ⟨st.new (.lst []), st.nx, [], ?_, Ext.new, list_new, rfl⟩
      rw [call_tab t15]
      refine run_ret ?_
      have hm : m15 = seqS (asgS (lstN nilM) (nameG 1)) (seqS (forS (seqI (varM 0)) (nameG 2) bd15) (seqS (retS (varM 1)) skipS)) := rfl
      rw [hm]
      simp [newL_ok]
      rw [e_for (xs := []) rfl]
      rfl
  | k + 1, n => fun xs st hd ha hc => by
    obtain ⟨h1, h2⟩ := dt_tup hd
    rw [call_tab t15]
    have key := forR_inv (tg := nameG 2) (cl := callN tab (n + (k + 1) + 1)) (body := bd15)
      (fI xs [] (wd (k + 1)) st (xs.map (wd (k + 1))).sum) xs [some (.tup xs), some (.ref st.nx), none, none] (st.new (.lst [])) (fun x r env s ⟨zs, a, b, he, hx, hl, hs, hT, hr⟩ => by
        subst he
        refine ⟨_, rfl, ?_⟩
        rw [List.map_cons, List.sum_cons] at hT
        have hxm := hr x List.mem_cons_self
        have hdx := dts_mem h1 x hxm
        have hSx : isS (k + 1) x = true := (List.all_eq_true.mp ha) x hxm
        have hrn := sum_nonneg (wd_nn (k + 1)) r
        have hwx := wd_pos (k + 1) x
        have hiL := isL_ref hs
        have happ := app_ok (y := x) hs (by have := int_line (n := zs.length + 1) (by omega); omega)
        have hs1 : listAt (s.put st.nx (.lst (zs ++ [x]))) st.nx = some (zs ++ [x]) := list_put
        have hx1 : Ext st (s.put st.nx (.lst (zs ++ [x]))) := hx.put (Nat.le_refl _)
        have q12 : ∀ s, seqI (callM 12 (consM (varM 2) nilM)) (callN tab (n + (k + 1) + 1)) [some (.tup xs), some (.ref st.nx), some x, b] s = .ok (.items (inn x)) s := fun s => e_seqL (by simp [p12 hSx])
        -- the inner walk
        have inner : ∀ (ys : List D), (∀ y ∈ ys, dt y = true ∧ blkB (isS k) y = true) → (zs.length : Int) + 1 + (ys.map (wdB (wd k))).sum + (r.map (wd (k + 1))).sum = (xs.map (wd (k + 1))).sum → ∃ env' s', forR (nameG 3) (seqS (exprS (mtM mExtend (varM 1) (consM (callM 15 (consM (varM 3) nilM)) nilM))) skipS) (callN tab (n + (k + 1) + 1)) ys [some (.tup xs), some (.ref st.nx), some x, b] (s.put st.nx (.lst (zs ++ [x]))) = .nx env' s' ∧
            ∃ (zs' : List D) (b' : Option D), env' = [some (.tup xs), some (.ref st.nx), some x, b'] ∧ Ext st s' ∧ st.nx < s'.nx ∧ listAt s' st.nx = some zs' ∧ (zs'.length : Int) + (r.map (wd (k + 1))).sum = (xs.map (wd (k + 1))).sum := fun ys hys hsum => by
          obtain ⟨e, s', g1, zs', b', g2, g3, g4, g5, g6, _⟩ := forR_inv (tg := nameG 3) (cl := callN tab (n + (k + 1) + 1)) (body := (seqS (exprS (mtM mExtend (varM 1) (consM (callM 15 (consM (varM 3) nilM)) nilM))) skipS))
            (fun q env s => ∃ (zs' : List D) (b' : Option D), env = [some (.tup xs), some (.ref st.nx), some x, b'] ∧ Ext st s ∧ st.nx < s.nx ∧ listAt s st.nx = some zs' ∧ (zs'.length : Int) + (q.map (wdB (wd k))).sum + (r.map (wd (k + 1))).sum = (xs.map (wd (k + 1))).sum ∧ ∀ y ∈ q, y ∈ ys) ys _ (s.put st.nx (.lst (zs ++ [x])))
            (fun y q env s ⟨zs', b', he, kx, kl, ks, kT, kq⟩ => by
              subst he
              refine ⟨_, rfl, ?_⟩
              obtain ⟨dy, by_⟩ := hys y (kq y List.mem_cons_self)
              cases y with
              | tup us =>
                rw [List.map_cons, List.sum_cons] at kT
                have hqn : 0 ≤ (q.map (wdB (wd k))).sum := sum_nonneg (wdB_nonneg (wd_nn k)) q
                have eU : wdB (wd k) (.tup us) = (us.map (wd k)).sum := rfl
                rw [eU] at kT
                obtain ⟨s2, l2, zs2, c1, c2, c3, c4⟩ := p15 k n us s dy by_ (by omega)
                have c1' : callN tab (n + (k + 1) + 1) 15 [.tup us] s = .ok (.ref l2) s2 := c1
                have ks2 := c2.list kl ks
                have hext := ext_ok (y := .ref l2) ks2 c3 (int_line (by rw [Int.natCast_add]; omega))
                refine ⟨_, _, ?_, zs' ++ zs2, some (.tup us), rfl, (kx.trans c2).put (Nat.le_refl _), Nat.lt_of_lt_of_le kl c2.nx, list_put, ?_, fun y hy => kq y (List.mem_cons_of_mem _ hy)⟩
                · simp [isL_ref ks, c1', hext]
                · rw [List.length_append, Int.natCast_add]
                  omega
              | _ => cases by_) ⟨zs ++ [x], b, rfl, hx1, hl, hs1, by rw [List.length_append, List.length_singleton, Int.natCast_add]; exact hsum, fun y hy => hy⟩
          exact ⟨e, s', g1, zs', b', g2, g3, g4, g5, by rw [List.map_nil, List.sum_nil] at g6; omega⟩
        have fin : ∀ ys, inn x = ys → (∀ y ∈ ys, dt y = true ∧ blkB (isS k) y = true) → wd (k + 1) x = 1 + (ys.map (wdB (wd k))).sum → ∃ env' st', bd15 (callN tab (n + (k + 1) + 1)) (putE [(2, x)] [some (.tup xs), some (.ref st.nx), a, b]) s = .nx env' st' ∧ fI xs [] (wd (k + 1)) st (xs.map (wd (k + 1))).sum r env' st' := fun ys e1 e2 e3 => by
          obtain ⟨env', s', g1, zs', b', g2, g3, g4, g5, g6⟩ := inner ys e2 (by omega)
          refine ⟨env', s', ?_, zs', some x, b', g2, g3, g4, g5, g6, fun y hy => hr y (List.mem_cons_of_mem _ hy)⟩
          rw [← e1] at g1
          have := e_for (tg := nameG 3) (body := (seqS (exprS (mtM mExtend (varM 1) (consM (callM 15 (consM (varM 3) nilM)) nilM))) skipS)) (q12 (s.put st.nx (.lst (zs ++ [x]))))
          simp [bd15, hiL, happ, this, g1]
        rcases isS_cases hSx with ⟨a', b', c', rfl, e1, e2, e3⟩ | ⟨a', b', rfl, e1, e2⟩ | ⟨w, a', r', rfl, w1, w2, e1⟩
        · have hm := dt_mem hdx
          refine fin [b', c'] (by simp [inn]) (fun y hy => ?_) (by simp [wd, e1])
          simp only [List.mem_cons, List.not_mem_nil, or_false] at hy
          rcases hy with rfl | rfl
          · exact ⟨hm _ (by simp), e2⟩
          · exact ⟨hm _ (by simp), e3⟩
        · have hm := dt_mem hdx
          have e : ¬ (("while" : Str) = "if") := by decide
          refine fin [b'] (by simp [inn, e]) (fun y hy => ?_) (by simp [wd, e, e1])
          rw [List.mem_singleton.mp hy]
          exact ⟨hm _ (by simp), e2⟩
        · exact fin [] (by simp [inn, w1, w2]) (fun y hy => by cases hy) (by rw [e1]; rfl))
      ⟨[], none, none, rfl, Ext.new, Nat.lt_succ_self _, list_new, by simp, fun y hy => hy⟩
    obtain ⟨e, s, g1, zs, a, b, g2, g3, g4, g5, g6, _⟩ := key
    refine ⟨s, st.nx, zs, run_ret ?_, g3, g5, by simpa using g6⟩
    subst g2
    have hm : m15 = seqS (asgS (lstN nilM) (nameG 1)) (seqS (forS (seqI (varM 0)) (nameG 2) bd15) (seqS (retS (varM 1)) skipS)) := rfl
    rw [hm]
    simp [newL_ok]
    rw [e_for (xs := xs) rfl, g1]
    rfl
end L11
end

section
set_option Elab.async false
set_option linter.all false
set_option maxRecDepth 100000
set_option maxHeartbeats 2000000
namespace L11
open PySem PySem.Spec PyProof.Rows L2 PyI
theorem sum_sz {f : D → Int} {g : D → Bool} (h : ∀ x, g x = true → f x ≤ (szD x : Int)) : ∀ xs : List D, xs.all g = true → (xs.map f).sum ≤ (szDs xs : Int)
  | [], _ => Int.le_refl _
  | x :: r, ha => by
    rw [List.all_cons, Bool.and_eq_true] at ha
    rw [List.map_cons, List.sum_cons, szDs_cons, Int.natCast_add]
    have := h x ha.1
    have := sum_sz h r ha.2
    omega
theorem wd_sz : ∀ (k : Nat) (d : D), isS k d = true → wd k d ≤ (szD d : Int)
  | 0, d, h => by cases h
  | k + 1, d, h => by
    have hB : ∀ b, blkB (isS k) b = true → wdB (wd k) b ≤ (szD b : Int) := fun b hb => by
      cases b with
      | tup us =>
        have := sum_sz (wd_sz k) us hb
        show (us.map (wd k)).sum ≤ _
        rw [szD_tup]
        omega
      | _ => cases hb
    rcases isS_cases h with ⟨a, b, c, rfl, e1, e2, e3⟩ | ⟨a, b, rfl, e1, e2⟩ | ⟨w, a, r, rfl, w1, w2, e1⟩
    · have := hB b e2
      have := hB c e3
      simp [wd, e1]
      omega
    · have := hB b e2
      have e : ¬ (("while" : Str) = "if") := by decide
      simp [wd, e, e1]
      omega
    · rw [e1]
      have := szD_pos (.tup (.str w :: a :: r))
      omega
/-- data that is not too much -/
structure Fit (d : D) : Prop where
  dt : dt d = true
  sz : szD d ≤ 900000
  dp : dpD d ≤ 30
theorem p16 {n : Nat} {d : D} {st : Store} (h : Fit d) : ∃ st', callN tab (n + 27) 16 [d] st = .ok (.bl (decide (wd 6 d ≤ 60))) st' ∧ Ext st st' := by
  rw [call_tab t16]
  obtain ⟨s1, f1, f2⟩ := p6 (n := n + 25) (st := st) h.dt (by have := h.sz; omega) h.dp
  have q13 : ∀ s, callN tab (n + 26) 13 [d, .int 6] s = .ok (.bl (isS 6 d)) s := fun s => p13 6 n d s h.dt
  cases q : isS 6 d with
  | false =>
    refine ⟨s1, run_ret ?_, f2⟩
    have := wd_bad 6 d q
    have e : ¬ (wd 6 d ≤ 60) := by omega
    simp [m16, f1, q13, q, e]
  | true =>
    have hd : PyI.dt (.tup [d]) = true := by simp [PyI.dt, dts, h.dt]
    have hw := wd_sz 6 d q
    have hz := h.sz
    obtain ⟨s2, l, zs, c1, c2, c3, c4⟩ := p15 6 (n + 18) [d] s1 hd (by simp [q]) (by simp; omega)
    have c1' : callN tab (n + 26) 15 [.tup [d]] s1 = .ok (.ref l) s2 := c1
    have c5 : bLen s2 [.ref l] = some (.int (zs.length : Int)) := by
      show (lenD s2 (.ref l)).map _ = _
      have : lenD s2 (.ref l) = (listAt s2 l).map (·.length) := rfl
      rw [this, c3]
      rfl
    refine ⟨s2, run_ret ?_, f2.trans c2⟩
    simp at c4
    simp [m16, f1, q13, q, c1', c5, c4]
theorem p17 {n : Nat} {d : D} {st : Store} (h : Fit d) : ∃ st', callN tab (n + 28) 17 [d] st = .ok (.bl (decide (wdB (wd 6) d ≤ 60))) st' ∧ Ext st st' := by
  rw [call_tab t17]
  obtain ⟨s1, f1, f2⟩ := p6 (n := n + 26) (st := st) h.dt (by have := h.sz; omega) h.dp
  have q14 : ∀ s, callN tab (n + 27) 14 [d, .int 6] s = .ok (.bl (blkB (isS 6) d)) s := fun s => p14 (n := n + 26) (f := isS 6) (k := 6) (fun x st hx => p13 6 n x st hx) h.dt
  cases q : blkB (isS 6) d with
  | false =>
    refine ⟨s1, run_ret ?_, f2⟩
    have := wdB_bad (wd_nn 6) (wd_bad 6) d q
    have e : ¬ (wdB (wd 6) d ≤ 60) := by omega
    simp [m17, f1, q14, q, e]
  | true =>
    cases d with
    | tup xs =>
      have hw := sum_sz (wd_sz 6) xs q
      have hz := h.sz
      rw [szD_tup] at hz
      obtain ⟨s2, l, zs, c1, c2, c3, c4⟩ := p15 6 (n + 19) xs s1 h.dt q (by omega)
      have c1' : callN tab (n + 27) 15 [.tup xs] s1 = .ok (.ref l) s2 := c1
      have c5 : bLen s2 [.ref l] = some (.int (zs.length : Int)) := by
        show (lenD s2 (.ref l)).map _ = _
        have : lenD s2 (.ref l) = (listAt s2 l).map (·.length) := rfl
        rw [this, c3]
        rfl
      refine ⟨s2, run_ret ?_, f2.trans c2⟩
      simp [m17, f1, q14, q, c1', c5, c4, wdB]
      rfl
    | _ => cases q
theorem p37' {n : Nat} {d : D} {st : Store} (h : dt d = true) : callN tab (n + 26) 37 [d, .int 6] st = .ok (.int (wd 6 d)) st := p37 6 n d st h
theorem p38' {n : Nat} {d : D} {st : Store} (h : dt d = true) : callN tab (n + 27) 38 [d, .int 6] st = .ok (.int (wdB (wd 6) d)) st := p38 (n := n + 26) (fun x st hx => p37' hx) h
/-! powers -/
theorem log2_le {a : Int} (h0 : 0 ≤ a) (h : a ≤ 1152921504606846976) : a.natAbs.log2 ≤ 60 := by
  by_cases h1 : a.natAbs = 0
  · rw [h1]
    decide
  · have : a.natAbs.log2 < 61 := (Nat.log2_lt h1).mpr (by omega)
    omega
theorem mul_ok {st : Store} {a b : Int} (h0 : 0 ≤ a) (h : a ≤ 1152921504606846976) (k0 : 0 ≤ b) (k : b ≤ 1152921504606846976) : opMul st (.int a) (.int b) = some (.int (a * b)) := by
  have := log2_le h0 h
  have := log2_le k0 k
  have e : opMul st (.int a) (.int b) = if a.natAbs.log2 + b.natAbs.log2 < 1000000 then some (.int (a * b)) else none := rfl
  rw [e, if_pos (by omega)]
theorem one_le8 : ∀ n : Nat, (1 : Int) ≤ 8 ^ n
  | 0 => by decide
  | n + 1 => by
    rw [Int.pow_succ]
    have := one_le8 n
    omega
theorem pow8_ok {m : Nat} (h : m ≤ 6) : (8 : Int) ^ m ≤ 1152921504606846976 := by
  have h2 : (8 : Int) ^ m ≤ 8 ^ 6 := by
    have : (8 : Nat) ^ m ≤ 8 ^ 6 := Nat.pow_le_pow_right (by decide) h
    exact_mod_cast this
  have h3 : (8 : Int) ^ 6 = 262144 := by decide
  omega
theorem pow_walk {cl : CL} {st : Store} {s m : Int} (s0 : 0 ≤ s) (s8 : s ≤ 8) : ∀ (ys : List D) (acc : Int) (a : Option D), 0 ≤ acc → acc * 8 ^ ys.length ≤ 1152921504606846976 →
    ∃ b, forR (nameG 3) (seqS (asgS (binM opMul (varM 2) (varM 0)) (nameG 2)) skipS) cl ys [some (.int s), some (.int m), some (.int acc), a] st = .nx [some (.int s), some (.int m), some (.int (acc * s ^ ys.length)), b] st
  | [], acc, a, _, _ => ⟨a, by simp [forR]⟩
  | y :: r, acc, a, h0, h => by
    have h1 : acc ≤ 1152921504606846976 := by
      have : acc * 1 ≤ acc * 8 ^ (y :: r).length := Int.mul_le_mul_of_nonneg_left (one_le8 _) h0
      omega
    have hm := mul_ok (st := st) h0 h1 s0 (by omega)
    obtain ⟨b, hb⟩ := pow_walk (cl := cl) (st := st) (m := m) s0 s8 r (acc * s) (some y) (Int.mul_nonneg h0 s0) (by
      refine Int.le_trans ?_ h
      rw [List.length_cons, Int.pow_succ, Int.mul_assoc, Int.mul_comm (8 ^ r.length) 8]
      exact Int.mul_le_mul_of_nonneg_left (Int.mul_le_mul_of_nonneg_right s8 (Int.pow_nonneg (by decide))) h0)
    refine ⟨b, ?_⟩
    unfold forR
    have e : acc * s * s ^ r.length = acc * s ^ (y :: r).length := by rw [List.length_cons, Int.pow_succ, Int.mul_assoc, Int.mul_comm s]
    rw [← e]
    simp [hm, hb]
theorem p21 {n m : Nat} {s : Int} {st : Store} (s0 : 0 ≤ s) (s8 : s ≤ 8) (hm : m ≤ 6) : callN tab (n + 1) 21 [.int s, .int (m : Int)] st = .ok (.int (s ^ m)) st := by
  rw [call_tab t21]
  refine run_ret ?_
  have hi : ∀ (e : PyI.Env), argM rng1 (consM (varM 1) nilM) (callN tab n) [some (.int s), some (.int (m : Int)), some (.int 1), none] st = .ok (.items ((List.range m).map fun (i : Nat) => D.int (i : Int))) st := fun _ => e_rng1 (by simp) (by omega)
  obtain ⟨b, hb⟩ := pow_walk (cl := callN tab n) (st := st) (m := m) s0 s8 ((List.range m).map fun (i : Nat) => D.int (i : Int)) 1 none (by decide) (by
    rw [List.length_map, List.length_range, Int.one_mul]
    exact pow8_ok hm)
  rw [List.length_map, List.length_range, Int.one_mul] at hb
  simp [m21]
  rw [e_for (hi []), hb]
  simp
end L11
end

section
set_option Elab.async false
set_option linter.all false
set_option maxRecDepth 100000
set_option maxHeartbeats 2000000
namespace L11
open PySem PySem.Spec PyProof.Rows L2 PyI
def cw : D → D
  | .tup [_, b] => b
  | _ => .non
def okW (size : Int) (x : D) : Bool := match cw x with
  | .str _ => true
  | .int i => decide (i < size)
  | _ => false
def hidB (x : D) : Bool := match cw x with
  | .str z => z == "hidden"
  | _ => false
def stB (x : D) : Bool := match cw x with
  | .str _ => true
  | _ => false
def shB (size : Int) (cs : List D) (ts b : D) : Bool := arT size ts && (decide (wdB (wd 6) b ≤ 60) && (cs.all (okW size) && (decide (size ^ (cs.filter hidB).length ≤ 64) && (decide (size ^ (cs.filter stB).length ≤ 512) && decide (size ^ cs.length ≤ 4096)))))
def shV (w cs ts b : D) : Bool := match w, cs with
  | .int i, .tup us => shB (2 ^ i.toNat) us ts b
  | _, _ => false
def isSh : D → Bool
  | .tup [w, cs, ts, b] => isW w 1 3 && (arC cs && shV w cs ts b)
  | _ => false
theorem cell_cases {x : D} (h : isCell x = true) : (∃ a z, x = .tup [a, .str z] ∧ isNm a = true ∧ ohB z = true) ∨ ∃ a i, x = .tup [a, .int i] ∧ isNm a = true ∧ isW (.int i) 0 7 = true := by
  unfold isCell at h
  split at h
  · rename_i a b
    rw [Bool.and_eq_true] at h
    cases b with
    | str z => exact .inl ⟨a, z, rfl, h.1, h.2⟩
    | int i => exact .inr ⟨a, i, rfl, h.1, h.2⟩
    | _ => cases h.2
  · cases h
theorem arC_mem {cs : List D} (h : arC (.tup cs) = true) : cs.length ≤ 6 ∧ 1 ≤ cs.length ∧ ∀ x ∈ cs, isCell x = true := by
  have h' : (decide ((1 : Int) ≤ (cs.length : Int)) && (decide ((cs.length : Int) ≤ 6) && cs.all isCell)) = true := h
  rw [Bool.and_eq_true, Bool.and_eq_true] at h'
  have h1 := of_decide_eq_true h'.1
  have h2 := of_decide_eq_true h'.2.1
  exact ⟨by omega, by omega, List.all_eq_true.mp h'.2.2⟩
theorem fit_mem {xs : List D} (h : Fit (.tup xs)) {x : D} (hx : x ∈ xs) : Fit x := by
  have h1 := h.sz
  have h2 := h.dp
  rw [szD_tup] at h1
  rw [dpD_tup] at h2
  have := szDs_mem hx
  have := dpDs_mem hx
  exact ⟨dt_mem h.dt x hx, by omega, by omega⟩
theorem pow_le8 {w : Int} (h1 : 1 ≤ w) (h3 : w ≤ 3) : (0 : Int) ≤ 2 ^ w.toNat ∧ (2 : Int) ^ w.toNat ≤ 8 := by
  have h : w = 1 ∨ w = 2 ∨ w = 3 := by omega
  rcases h with rfl | rfl | rfl <;> decide
theorem p22 {n : Nat} {d : D} {st : Store} (h : Fit d) : ∃ st', callN tab (n + 29) 22 [d] st = .ok (.bl (isSh d)) st' ∧ Ext st st' := by
  rw [call_tab t22]
  have q2 := fun n st => p2 (n := n) (st := st) (k := 4) (dt_pl h.dt)
  have triv : isSh d = false → m22 (callN tab (n + 28)) ([d].map some ++ List.replicate (10 - [d].length) none) st = .ret (.bl false) st → ∃ st', runF 10 m22 (callN tab (n + 28)) [d] st = .ok (.bl (isSh d)) st' ∧ Ext st st' := fun e h => ⟨st, by rw [e]; exact run_ret h, .refl st⟩
  cases d with
  | tup xs =>
    match xs, h with
    | [], h => exact triv rfl (by simp [m22, q2, isTupN])
    | [a], h => exact triv rfl (by simp [m22, q2, isTupN])
    | [a, b], h => exact triv rfl (by simp [m22, q2, isTupN])
    | [a, b, c], h => exact triv rfl (by simp [m22, q2, isTupN])
    | a :: b :: c :: e :: f :: r, h => exact triv rfl (by simp [m22, q2, isTupN])
    | [w, cs, ts, b], h =>
      have fw := fit_mem h (x := w) (by simp)
      have fc := fit_mem h (x := cs) (by simp)
      have ft := fit_mem h (x := ts) (by simp)
      have fb := fit_mem h (x := b) (by simp)
      have q1 := fun n st => p1 (n := n) (st := st) (lo := 1) (hi := 3) (dt_pl fw.dt)
      have q19 := fun n st => p19 (n := n) (st := st) fc.dt
      by_cases hw : isW w 1 3 = true
      · cases w with
        | int i =>
          cases hc : arC cs with
          | true =>
            cases cs with
            | tup us =>
              have hw' : 1 ≤ i ∧ i ≤ 3 := by simpa [isW] using hw
              obtain ⟨p0', p8'⟩ := pow_le8 hw'.1 hw'.2
              obtain ⟨c1, c2, c3⟩ := arC_mem hc
              have q4 := fun n st => p4 (n := n) (st := st) hw'.1 hw'.2
              have q20 := fun n st => p20 (n := n) (st := st) hw'.1 hw'.2 ft.dt
              have e1 : isSh (.tup [.int i, .tup us, ts, b]) = shB (2 ^ i.toNat) us ts b := by
                show (isW (.int i) 1 3 && (arC (.tup us) && shV (.int i) (.tup us) ts b)) = _
                rw [hw, hc]
                rfl
              rw [e1]
              by_cases ht : arT (2 ^ i.toNat) ts = true
              · obtain ⟨s1, b1, b2⟩ := p17 (n := n) (st := st) fb
                refine ⟨s1, run_ret ?_, b2⟩
                by_cases hb : wdB (wd 6) b ≤ 60
                · have env1 : PyI.Env := []
                  have hL : ∀ (x8 x9 : Option D) (x7 x6 : Option D), lcM (compA [6, 7] (seqI (varM 2)) (tupG [(nameG 6), (nameG 7)]) yesT (orM (bltM (keep bIsi) (consM (varM 7) (consM (conM (.ty "str")) nilM))) (binM cLt (varM 7) (varM 5)))) (callN tab (n + 28))
                      [some (.tup [.int i, .tup us, ts, b]), some (.int i), some (.tup us), some ts, some b, some (.int (2 ^ i.toNat)), x6, x7, x8, x9] s1 = .ok (.lst (us.map fun x => .bl (okW (2 ^ i.toNat) x))) s1 := fun x8 x9 x7 x6 =>
                    lc_map (fun x => .bl (okW (2 ^ i.toNat) x)) (e_seqT (by simp)) (fun x hx => by
                      rcases cell_cases (c3 x hx) with ⟨a, z, rfl, _⟩ | ⟨a, j, rfl, _⟩
                      · exact ⟨_, rfl, by simp [wipeE, subT, okW, cw]⟩
                      · exact ⟨_, rfl, by simp [wipeE, subT, okW, cw]⟩) (le_line (by omega))
                  have hH : ∀ (x8 x9 : Option D) (x7 x6 : Option D), lcM (compA [6, 7] (seqI (varM 2)) (tupG [(nameG 6), (nameG 7)]) (boolT (binM cEq (varM 7) (conM c_HIDDEN))) (conM (.int 1))) (callN tab (n + 28))
                      [some (.tup [.int i, .tup us, ts, b]), some (.int i), some (.tup us), some ts, some b, some (.int (2 ^ i.toNat)), x6, x7, x8, x9] s1 = .ok (.lst ((us.filter hidB).map fun x => .int 1)) s1 := fun x8 x9 x7 x6 =>
                    lc_filter hidB (fun x => .int 1) (e_seqT (by simp)) (fun x hx => by
                      rcases cell_cases (c3 x hx) with ⟨a, z, rfl, _⟩ | ⟨a, j, rfl, _⟩
                      · exact ⟨_, rfl, by simp [wipeE, hidB, cw], rfl⟩
                      · exact ⟨_, rfl, rfl, rfl⟩) (le_line (by omega))
                  have hS : ∀ (x8 x9 : Option D) (x7 x6 : Option D), lcM (compA [6, 7] (seqI (varM 2)) (tupG [(nameG 6), (nameG 7)]) (boolT (bltM (keep bIsi) (consM (varM 7) (consM (conM (.ty "str")) nilM)))) (conM (.int 1))) (callN tab (n + 28))
                      [some (.tup [.int i, .tup us, ts, b]), some (.int i), some (.tup us), some ts, some b, some (.int (2 ^ i.toNat)), x6, x7, x8, x9] s1 = .ok (.lst ((us.filter stB).map fun x => .int 1)) s1 := fun x8 x9 x7 x6 =>
                    lc_filter stB (fun x => .int 1) (e_seqT (by simp)) (fun x hx => by
                      rcases cell_cases (c3 x hx) with ⟨a, z, rfl, _⟩ | ⟨a, j, rfl, _⟩
                      · exact ⟨_, rfl, rfl, rfl⟩
                      · exact ⟨_, rfl, rfl, rfl⟩) (le_line (by omega))
                  have f1 : (us.filter hidB).length ≤ 6 := Nat.le_trans (List.length_filter_le _ _) c1
                  have f2 : (us.filter stB).length ≤ 6 := Nat.le_trans (List.length_filter_le _ _) c1
                  have q21a := fun n st => p21 (n := n) (st := st) p0' p8' f1
                  have q21b := fun n st => p21 (n := n) (st := st) p0' p8' f2
                  have q21c := fun n st => p21 (n := n) (st := st) p0' p8' c1
                  by_cases ha : us.all (okW (2 ^ i.toNat)) = true
                  · by_cases g1 : (2 ^ i.toNat : Int) ^ (us.filter hidB).length ≤ 64
                    · have g1' : ¬ 64 < (2 ^ i.toNat : Int) ^ (us.filter hidB).length := by omega
                      by_cases g2 : (2 ^ i.toNat : Int) ^ (us.filter stB).length ≤ 512
                      · have g2' : ¬ 512 < (2 ^ i.toNat : Int) ^ (us.filter stB).length := by omega
                        simp [m22, q2, isTupN, q1, hw, q19, hc, q4, q20, ht, b1, hb, tupG, tupGs, shB, hL, ha, hH, hS, q21a, q21b, q21c, g1, g2, g1', g2', -List.all_eq_true]
                      · have g2' : 512 < (2 ^ i.toNat : Int) ^ (us.filter stB).length := by omega
                        simp [m22, q2, isTupN, q1, hw, q19, hc, q4, q20, ht, b1, hb, tupG, tupGs, shB, hL, ha, hH, hS, q21a, q21b, q21c, g1, g2, g1', g2', -List.all_eq_true]
                    · have g1' : 64 < (2 ^ i.toNat : Int) ^ (us.filter hidB).length := by omega
                      simp [m22, q2, isTupN, q1, hw, q19, hc, q4, q20, ht, b1, hb, tupG, tupGs, shB, hL, ha, hH, hS, q21a, q21b, q21c, g1, g1', -List.all_eq_true]
                  · have ha' : us.all (okW (2 ^ i.toNat)) = false := by simpa using ha
                    simp [m22, q2, isTupN, q1, hw, q19, hc, q4, q20, ht, b1, hb, tupG, tupGs, shB, hL, ha', -List.all_eq_true, -List.all_eq_false]
                · simp [m22, q2, isTupN, q1, hw, q19, hc, q4, q20, ht, b1, hb, tupG, tupGs, shB]
              · have ht' : arT (2 ^ i.toNat) ts = false := by simpa using ht
                refine ⟨st, run_ret ?_, .refl st⟩
                simp [m22, q2, isTupN, q1, hw, q19, hc, q4, q20, ht', tupG, tupGs, shB]
            | _ => cases hc
          | false => exact triv (by show (isW (.int i) 1 3 && (arC cs && _)) = false; rw [hc, Bool.false_and, Bool.and_false]) (by simp [m22, q2, isTupN, q1, hw, q19, hc])
        | _ => cases hw
      · have hw' : isW w 1 3 = false := by simpa using hw
        exact triv (by show (isW w 1 3 && _) = false; rw [hw', Bool.false_and]) (by simp [m22, q2, isTupN, q1, hw'])
  | _ => first | exact triv rfl (by simp [m22, q2, isTupN]) | (cases h.dt; done)
/-! the law's judge of shapes -/
def bd41 : SS := (seqS (asgS (binM opMul (varM 2) (varM 1)) (nameG 2)) (seqS (asgS (binM opMul (varM 3) (ifM (boolT (binM cEq (varM 6) (conM (.str "hidden")))) (varM 1) (conM (.int 1)))) (nameG 3)) (seqS (asgS (binM opMul (varM 4) (ifM (boolT (binM cIn (varM 6) (tupM (consM (conM (.str "hidden")) (consM (conM (.str "open")) nilM))))) (varM 1) (conM (.int 1)))) (nameG 4)) (seqS (ifS (andT (boolT (bltM (keep bIsi) (consM (varM 6) (consM (conM (.ty "int")) nilM)))) (boolT (binM cGe (varM 6) (varM 1)))) (seqS (retS (conM (.bl false))) skipS) skipS) skipS))))
theorem pow_bd {s : Int} (s0 : 0 ≤ s) (s8 : s ≤ 8) : ∀ x : Nat, 0 ≤ s ^ x ∧ s ^ x ≤ 8 ^ x
  | 0 => by simp
  | x + 1 => by
    obtain ⟨h1, h2⟩ := pow_bd s0 s8 x
    rw [Int.pow_succ, Int.pow_succ]
    exact ⟨Int.mul_nonneg h1 s0, Int.mul_le_mul h2 s8 s0 (Int.le_trans h1 h2)⟩
theorem pow_mul {st : Store} {s : Int} {x : Nat} (s0 : 0 ≤ s) (s8 : s ≤ 8) (h : x ≤ 6) : opMul st (.int (s ^ x)) (.int s) = some (.int (s ^ (x + 1))) := by
  obtain ⟨h1, h2⟩ := pow_bd s0 s8 x
  have := pow8_ok h
  rw [mul_ok h1 (by omega) s0 (by omega), Int.pow_succ]
theorem pow_mul1 {st : Store} {s : Int} {x : Nat} (s0 : 0 ≤ s) (s8 : s ≤ 8) (h : x ≤ 6) : opMul st (.int (s ^ x)) (.int 1) = some (.int (s ^ x)) := by
  obtain ⟨h1, h2⟩ := pow_bd s0 s8 x
  have := pow8_ok h
  rw [mul_ok h1 (by omega) (by decide) (by omega), Int.mul_one]
theorem ho_in {st : Store} {z : Str} : cIn st (.str z) (.tup [.str "hidden", .str "open"]) = some (.bl (ohB z)) := by
  rw [show (D.tup [.str "hidden", .str "open"]) = D.tup ((["hidden", "open"] : List Str).map D.str) from rfl, in_tup _ rfl]
  simp only [ohB, inS, List.map_cons, List.map_nil, List.any_cons, List.any_nil, Bool.or_false]
  rw [Bool.or_comm]
theorem ho_int {st : Store} {j : Int} : cIn st (.int j) (.tup [.str "hidden", .str "open"]) = some (.bl false) := rfl
theorem sh_walk {cl : CL} {st : Store} {t : D} {s : Int} (s0 : 0 ≤ s) (s8 : s ≤ 8) : ∀ (us : List D) (x y z : Nat) (a b : Option D), (∀ u ∈ us, isCell u = true) → x + us.length ≤ 6 → y + us.length ≤ 6 → z + us.length ≤ 6 →
    (us.all (okW s) = true → ∃ a' b', forR (tupG [(nameG 5), (nameG 6)]) bd41 cl us [some t, some (.int s), some (.int (s ^ x)), some (.int (s ^ y)), some (.int (s ^ z)), a, b] st =
      .nx [some t, some (.int s), some (.int (s ^ (x + us.length))), some (.int (s ^ (y + (us.filter hidB).length))), some (.int (s ^ (z + (us.filter stB).length))), a', b'] st) ∧
    (us.all (okW s) = false → forR (tupG [(nameG 5), (nameG 6)]) bd41 cl us [some t, some (.int s), some (.int (s ^ x)), some (.int (s ^ y)), some (.int (s ^ z)), a, b] st = .ret (.bl false) st)
  | [], x, y, z, a, b, _, _, _, _ => ⟨fun _ => ⟨a, b, by simp [forR]⟩, fun h => by cases h⟩
  | u :: us, x, y, z, a, b, hu, hx, hy, hz => by
    rw [List.length_cons] at hx hy hz
    have hu' : ∀ v ∈ us, isCell v = true := fun v hv => hu v (List.mem_cons_of_mem _ hv)
    have ex := pow_mul (st := st) (x := x) s0 s8 (by omega)
    have ey := pow_mul (st := st) (x := y) s0 s8 (by omega)
    have ez := pow_mul (st := st) (x := z) s0 s8 (by omega)
    have ey1 := pow_mul1 (st := st) (x := y) s0 s8 (by omega)
    have ez1 := pow_mul1 (st := st) (x := z) s0 s8 (by omega)
    rcases cell_cases (hu u List.mem_cons_self) with ⟨c, w, rfl, _, ho⟩ | ⟨c, j, rfl, _, _⟩
    · have hok : okW s (.tup [c, .str w]) = true := rfl
      have hst : stB (.tup [c, .str w]) = true := rfl
      by_cases hh : (w == "hidden") = true
      · have hhid : hidB (.tup [c, .str w]) = true := hh
        have step : bd41 cl (putE [(5, c), (6, .str w)] [some t, some (.int s), some (.int (s ^ x)), some (.int (s ^ y)), some (.int (s ^ z)), a, b]) st = .nx [some t, some (.int s), some (.int (s ^ (x + 1))), some (.int (s ^ (y + 1))), some (.int (s ^ (z + 1))), some c, some (.str w)] st := by
          simp [bd41, ex, ey, ez, hh, ho_in, ho, subT]
        obtain ⟨r1, r2⟩ := sh_walk (cl := cl) (st := st) (t := t) s0 s8 us (x + 1) (y + 1) (z + 1) (some c) (some (.str w)) hu' (by omega) (by omega) (by omega)
        have e : forR (tupG [(nameG 5), (nameG 6)]) bd41 cl (.tup [c, .str w] :: us) [some t, some (.int s), some (.int (s ^ x)), some (.int (s ^ y)), some (.int (s ^ z)), a, b] st = forR (tupG [(nameG 5), (nameG 6)]) bd41 cl us [some t, some (.int s), some (.int (s ^ (x + 1))), some (.int (s ^ (y + 1))), some (.int (s ^ (z + 1))), some c, some (.str w)] st := by
          conv => lhs; unfold forR
          show (match bd41 cl (putE [(5, c), (6, .str w)] [some t, some (.int s), some (.int (s ^ x)), some (.int (s ^ y)), some (.int (s ^ z)), a, b]) st with
            | .nx e s => forR _ bd41 cl us e s
            | .ct e s => forR _ bd41 cl us e s
            | .bk e s => .nx e s
            | .ret d s => .ret d s
            | .exc x e s => .exc x e s
            | .stuck => .stuck) = _
          rw [step]
        rw [List.all_cons, hok, Bool.true_and, e, List.filter_cons_of_pos hhid, List.filter_cons_of_pos hst, List.length_cons, List.length_cons, List.length_cons]
        have z1 : ∀ p q : Nat, p + (q + 1) = p + 1 + q := fun p q => by omega
        rw [z1 x us.length, z1 y (us.filter hidB).length, z1 z (us.filter stB).length]
        exact ⟨r1, r2⟩
      · have hhid : ¬ hidB (.tup [c, .str w]) = true := hh
        have hh' : (w == "hidden") = false := by simpa using hh
        have step : bd41 cl (putE [(5, c), (6, .str w)] [some t, some (.int s), some (.int (s ^ x)), some (.int (s ^ y)), some (.int (s ^ z)), a, b]) st = .nx [some t, some (.int s), some (.int (s ^ (x + 1))), some (.int (s ^ y)), some (.int (s ^ (z + 1))), some c, some (.str w)] st := by
          simp [bd41, ex, ey1, ez, hh', ho_in, ho, subT]
        obtain ⟨r1, r2⟩ := sh_walk (cl := cl) (st := st) (t := t) s0 s8 us (x + 1) y (z + 1) (some c) (some (.str w)) hu' (by omega) (by omega) (by omega)
        have e : forR (tupG [(nameG 5), (nameG 6)]) bd41 cl (.tup [c, .str w] :: us) [some t, some (.int s), some (.int (s ^ x)), some (.int (s ^ y)), some (.int (s ^ z)), a, b] st = forR (tupG [(nameG 5), (nameG 6)]) bd41 cl us [some t, some (.int s), some (.int (s ^ (x + 1))), some (.int (s ^ y)), some (.int (s ^ (z + 1))), some c, some (.str w)] st := by
          conv => lhs; unfold forR
          show (match bd41 cl (putE [(5, c), (6, .str w)] [some t, some (.int s), some (.int (s ^ x)), some (.int (s ^ y)), some (.int (s ^ z)), a, b]) st with
            | .nx e s => forR _ bd41 cl us e s
            | .ct e s => forR _ bd41 cl us e s
            | .bk e s => .nx e s
            | .ret d s => .ret d s
            | .exc x e s => .exc x e s
            | .stuck => .stuck) = _
          rw [step]
        rw [List.all_cons, hok, Bool.true_and, e, List.filter_cons_of_neg hhid, List.filter_cons_of_pos hst, List.length_cons, List.length_cons]
        have z1 : ∀ p q : Nat, p + (q + 1) = p + 1 + q := fun p q => by omega
        rw [z1 x us.length, z1 z (us.filter stB).length]
        exact ⟨r1, r2⟩
    · have hst : ¬ stB (.tup [c, .int j]) = true := Bool.false_ne_true
      have hhid : ¬ hidB (.tup [c, .int j]) = true := Bool.false_ne_true
      by_cases hj : j < s
      · have hok : okW s (.tup [c, .int j]) = true := decide_eq_true hj
        have hj' : ¬ s ≤ j := by omega
        have step : bd41 cl (putE [(5, c), (6, .int j)] [some t, some (.int s), some (.int (s ^ x)), some (.int (s ^ y)), some (.int (s ^ z)), a, b]) st = .nx [some t, some (.int s), some (.int (s ^ (x + 1))), some (.int (s ^ y)), some (.int (s ^ z)), some c, some (.int j)] st := by
          have e0 : ∀ st, cEq st (.int j) (.str "hidden") = some (.bl false) := fun st => rfl
          simp [bd41, ex, ey1, ez1, e0, ho_int, subT, hj']
        obtain ⟨r1, r2⟩ := sh_walk (cl := cl) (st := st) (t := t) s0 s8 us (x + 1) y z (some c) (some (.int j)) hu' (by omega) (by omega) (by omega)
        have e : forR (tupG [(nameG 5), (nameG 6)]) bd41 cl (.tup [c, .int j] :: us) [some t, some (.int s), some (.int (s ^ x)), some (.int (s ^ y)), some (.int (s ^ z)), a, b] st = forR (tupG [(nameG 5), (nameG 6)]) bd41 cl us [some t, some (.int s), some (.int (s ^ (x + 1))), some (.int (s ^ y)), some (.int (s ^ z)), some c, some (.int j)] st := by
          conv => lhs; unfold forR
          show (match bd41 cl (putE [(5, c), (6, .int j)] [some t, some (.int s), some (.int (s ^ x)), some (.int (s ^ y)), some (.int (s ^ z)), a, b]) st with
            | .nx e s => forR _ bd41 cl us e s
            | .ct e s => forR _ bd41 cl us e s
            | .bk e s => .nx e s
            | .ret d s => .ret d s
            | .exc x e s => .exc x e s
            | .stuck => .stuck) = _
          rw [step]
        rw [List.all_cons, hok, Bool.true_and, e, List.filter_cons_of_neg hhid, List.filter_cons_of_neg hst, List.length_cons]
        have z1 : ∀ p q : Nat, p + (q + 1) = p + 1 + q := fun p q => by omega
        rw [z1 x us.length]
        exact ⟨r1, r2⟩
      · have hok : okW s (.tup [c, .int j]) = false := decide_eq_false hj
        have hj' : s ≤ j := by omega
        have step : bd41 cl (putE [(5, c), (6, .int j)] [some t, some (.int s), some (.int (s ^ x)), some (.int (s ^ y)), some (.int (s ^ z)), a, b]) st = .ret (.bl false) st := by
          have e0 : ∀ st, cEq st (.int j) (.str "hidden") = some (.bl false) := fun st => rfl
          simp [bd41, ex, ey1, ez1, e0, ho_int, subT, hj']
        refine ⟨fun h => (by rw [List.all_cons, hok] at h; cases h), fun _ => ?_⟩
        conv => lhs; unfold forR
        show (match bd41 cl (putE [(5, c), (6, .int j)] [some t, some (.int s), some (.int (s ^ x)), some (.int (s ^ y)), some (.int (s ^ z)), a, b]) st with
          | .nx e s => forR _ bd41 cl us e s
          | .ct e s => forR _ bd41 cl us e s
          | .bk e s => .nx e s
          | .ret d s => .ret d s
          | .exc x e s => .exc x e s
          | .stuck => .stuck) = _
        rw [step]
theorem p41 {n : Nat} {d : D} {st : Store} (h : dt d = true) : callN tab (n + 28) 41 [d] st = .ok (.bl (isSh d)) st := by
  rw [call_tab t41]
  refine run_ret ?_
  cases d with
  | tup xs =>
    match xs, h with
    | [], h => simp [m41, subT, isSh]
    | [a], h => simp [m41, subT, isSh]
    | [a, b], h => simp [m41, subT, isSh]
    | [a, b, c], h => simp [m41, subT, isSh]
    | a :: b :: c :: e :: f :: r, h => simp [m41, subT, isSh]
    | [w, cs, ts, b], h =>
      have hm := dt_mem h
      have dw := hm w (by simp)
      have dc := hm cs (by simp)
      have dts' := hm ts (by simp)
      have db := hm b (by simp)
      have q1 := fun n st => p33 (n := n) (st := st) (lo := 1) (hi := 3) (dt_pl dw)
      have q39 := fun n st => p39 (n := n) (st := st) dc
      have q40 := fun n st z => p40 (n := n) (st := st) (z := z) dts'
      have q38 := fun st => p38' (n := n) (st := st) db
      by_cases hw : isW w 1 3 = true
      · cases w with
        | int i =>
          have hw' : 1 ≤ i ∧ i ≤ 3 := by simpa [isW] using hw
          obtain ⟨p0', p8'⟩ := pow_le8 hw'.1 hw'.2
          have e2 : ∀ st, (if i = 3 then (Res.ok (D.int 8) st) else liftO (opMul st (.int 2) (.int i)) st) = .ok (.int (2 ^ i.toNat)) st := fun st => by
            have hi : i = 1 ∨ i = 2 ∨ i = 3 := by omega
            rcases hi with rfl | rfl | rfl <;> rfl
          cases hc : arC cs with
          | true =>
            cases cs with
            | tup us =>
              obtain ⟨c1, c2, c3⟩ := arC_mem hc
              have e1 : isSh (.tup [.int i, .tup us, ts, b]) = shB (2 ^ i.toNat) us ts b := by
                show (isW (.int i) 1 3 && (arC (.tup us) && shV (.int i) (.tup us) ts b)) = _
                rw [hw, hc]
                rfl
              rw [e1]
              cases ht : arT (2 ^ i.toNat) ts with
              | false => simp [m41, subT, q1, hw, e2, q39, hc, q40, ht, shB]
              | true =>
                by_cases hb : wdB (wd 6) b ≤ 60
                · have hb' : ¬ 60 < wdB (wd 6) b := by omega
                  obtain ⟨r1, r2⟩ := sh_walk (cl := callN tab (n + 27)) (st := st) (t := .tup [.int i, .tup us, ts, b]) p0' p8' us 0 0 0 none none c3 (by omega) (by omega) (by omega)
                  have hf := e_for (tg := tupG [(nameG 5), (nameG 6)]) (body := bd41) (cl := callN tab (n + 27)) (env := [some (.tup [.int i, .tup us, ts, b]), some (.int (2 ^ i.toNat)), some (.int 1), some (.int 1), some (.int 1), none, none]) (e_seqT (m := binM ixD (varM 0) (conM (.int 1))) (st := st) (s := st) (xs := us) (by simp))
                  have hm41 : m41 = (seqS (ifS (orT (notT (boolT (bltM (keep bIsi) (consM (varM 0) (consM (conM (.ty "tuple")) nilM))))) (orT (boolT (binM cNe (bltM (keep bLen) (consM (varM 0) nilM)) (conM (.int 4)))) (notT (boolT (callM 33 (consM (binM ixD (varM 0) (conM (.int 0))) (consM (conM (.int 1)) (consM (conM (.int 3)) nilM)))))))) (seqS (retS (conM (.bl false))) skipS) skipS) (seqS (asgS (ifM (boolT (binM cEq (binM ixD (varM 0) (conM (.int 0))) (conM (.int 3)))) (conM (.int 8)) (binM opMul (conM (.int 2)) (binM ixD (varM 0) (conM (.int 0))))) (nameG 1)) (seqS (ifS (orT (notT (boolT (callM 39 (consM (binM ixD (varM 0) (conM (.int 1))) nilM)))) (orT (notT (boolT (callM 40 (consM (varM 1) (consM (binM ixD (varM 0) (conM (.int 2))) nilM))))) (boolT (binM cGt (callM 38 (consM (binM ixD (varM 0) (conM (.int 3))) (consM (conM (.int 6)) nilM))) (conM (.int 60)))))) (seqS (retS (conM (.bl false))) skipS) skipS) (seqS (asgS (tupM (consM (conM (.int 1)) (consM (conM (.int 1)) (consM (conM (.int 1)) nilM)))) (tupG [(nameG 2), (nameG 3), (nameG 4)])) (seqS (forS (seqI (binM ixD (varM 0) (conM (.int 1)))) (tupG [(nameG 5), (nameG 6)]) bd41) (seqS (retS (andM (binM cLe (varM 2) (conM (.int 4096))) (andM (binM cLe (varM 3) (conM (.int 64))) (binM cLe (varM 4) (conM (.int 512)))))) skipS)))))) := rfl
                  rw [hm41]
                  simp only [Int.pow_zero, Nat.zero_add] at r1 r2
                  cases ha : us.all (okW (2 ^ i.toNat)) with
                  | true =>
                    obtain ⟨a', b', r3⟩ := r1 ha
                    simp [subT, q1, hw, e2, q39, hc, q40, ht, shB, q38, hb, hb', tupG, tupGs, -List.all_eq_true]
                    have hf' := hf.trans r3
                    rw [hf', ha]
                    by_cases g1 : (2 ^ i.toNat : Int) ^ us.length ≤ 4096 <;> by_cases g2 : (2 ^ i.toNat : Int) ^ (us.filter hidB).length ≤ 64 <;> by_cases g3 : (2 ^ i.toNat : Int) ^ (us.filter stB).length ≤ 512 <;> simp [g1, g2, g3]
                  | false =>
                    simp [subT, q1, hw, e2, q39, hc, q40, ht, shB, q38, hb, hb', ha, -List.all_eq_true, -List.all_eq_false, tupG, tupGs]
                    have hf' := hf.trans (r2 ha)
                    rw [show (tupG [nameG 5, nameG 6] : GG) = tupG [(nameG 5), (nameG 6)] from rfl, hf']
                    simp
                · have hb' : 60 < wdB (wd 6) b := by omega
                  simp [m41, subT, q1, hw, e2, q39, hc, q40, ht, shB, q38, hb, hb']
            | _ => cases hc
          | false =>
            have e1 : isSh (.tup [.int i, cs, ts, b]) = false := by
              show (isW (.int i) 1 3 && (arC cs && _)) = false
              rw [hc, Bool.false_and, Bool.and_false]
            rw [e1]
            simp [m41, subT, q1, hw, e2, q39, hc]
        | _ => cases hw
      · have hw' : isW w 1 3 = false := by simpa using hw
        simp [m41, subT, isSh, q1, hw']
  | _ => first | (simp [m41, subT, isSh]; done) | (cases h; done)
end L11
end

section
set_option Elab.async false
set_option linter.all false
set_option maxRecDepth 100000
set_option maxHeartbeats 2000000
namespace L11
open PySem PySem.Spec PyProof.Rows L2 PyI
/-! the hand -/
def hd5 (cs : List Int) (i a b k : Int) : List D := [.lst (cs.map D.int), .int i, .int a, .int b, .int k]
/-- the hand stands at l; c: no more was drawn off it -/
structure Hand (st : Store) (l : Nat) (c : Nat) : Prop where
  lt : l < st.nx
  at_ : ∃ cs i a b k, listAt st l = some (hd5 cs i a b k) ∧ (∀ x ∈ cs, 0 ≤ x ∧ Lo 120 x) ∧ 0 ≤ i ∧ 0 ≤ a ∧ 0 ≤ b ∧ Lo 40 b ∧ 0 ≤ k ∧ k ≤ (c : Int)
theorem Hand.ext {st s : Store} {l c : Nat} (h : Hand st l c) (e : Ext st s) : Hand s l c := by
  obtain ⟨cs, i, a, b, k, h1, h2⟩ := h.at_
  exact ⟨Nat.lt_of_lt_of_le h.lt e.nx, cs, i, a, b, k, e.list h.lt h1, h2⟩
theorem Hand.mono {st : Store} {l c d : Nat} (h : Hand st l c) (hc : c ≤ d) : Hand st l d := by
  obtain ⟨cs, i, a, b, k, h1, h2, h3, h4, h5, h6, h7, h8⟩ := h.at_
  exact ⟨h.lt, cs, i, a, b, k, h1, h2, h3, h4, h5, h6, h7, by omega⟩
/-- what draws gives a thing, the hand a little less -/
def Dr (l c e : Nat) (st : Store) (r : Res D) (P : D → Prop) : Prop := ∃ d st', r = .ok d st' ∧ P d ∧ Hand st' l (c + e) ∧ But l st st'
theorem lo_emod {a b : Int} {k : Nat} (hb : 0 < b) (h : Lo k b) : Lo k (a % b) := by
  unfold Lo at *
  have h1 := Int.emod_nonneg a (show b ≠ 0 by omega)
  have h2 := Int.emod_lt_of_pos a hb
  omega
theorem mod_rng {a m : Int} (h : 0 < m) : 0 ≤ a % m ∧ a % m < m := ⟨Int.emod_nonneg a (by omega), Int.emod_lt_of_pos a h⟩
theorem lo_k {k : Int} {c : Nat} (h0 : 0 ≤ k) (h : k ≤ (c : Int)) (hc : c ≤ 1000000000000) : Lo 40 (k + 1) := by
  show (k + 1).natAbs < 2 ^ 40
  omega
def tl24 : SS := (seqS (setS (binM opAdd (binM ixD (varM 0) (conM (.int 4))) (conM (.int 1))) (varM 0) (conM (.int 4))) (seqS (asgS (binM opMod (bltM (keep bInt) (consM (binM opMul (bltM (keep bInt) (consM (binM opAdd (binM ixD (varM 0) (conM (.int 3))) (binM opMul (conM (.int 7919)) (binM ixD (varM 0) (conM (.int 4))))) nilM)) (conM (.int 40692))) nilM)) (conM (.int 2147483647))) (nameG 4)) (seqS (asgS (binM opMod (bltM (keep bInt) (consM (binM opMul (varM 4) (binM opAdd (binM opDiv (varM 4) (conM (.int 1009))) (conM (.int 69621)))) nilM)) (conM (.int 2147483647))) (nameG 4)) (seqS (asgS (binM opMod (bltM (keep bInt) (consM (binM opMul (varM 4) (binM opAdd (binM opDiv (varM 4) (conM (.int 2003))) (conM (.int 40014)))) nilM)) (conM (.int 2147483563))) (nameG 4)) (seqS (retS (binM opMod (bltM (keep bInt) (consM (binM opDiv (varM 4) (conM (.int 16))) nilM)) (varM 1))) skipS)))))
@[simp] theorem bInt_int {st : Store} {i : Int} : bInt st [.int i] = some (.int i) := rfl
theorem hix {st : Store} {l : Nat} {cs : List Int} {i a b k : Int} (h : listAt st l = some (hd5 cs i a b k)) : ixD st (.ref l) (.int 0) = some (.lst (cs.map D.int)) ∧ ixD st (.ref l) (.int 1) = some (.int i) ∧ ixD st (.ref l) (.int 2) = some (.int a) ∧ ixD st (.ref l) (.int 3) = some (.int b) ∧ ixD st (.ref l) (.int 4) = some (.int k) := by
  refine ⟨?_, ?_, ?_, ?_, ?_⟩ <;> (rw [ix_ref h]; rfl)
theorem hset {st : Store} {l : Nat} {cs : List Int} {i a b k : Int} (h : listAt st l = some (hd5 cs i a b k)) (v : Int) : setItem st (.ref l) (.int 1) (.int v) = some (st.put l (.lst (hd5 cs v a b k))) ∧ setItem st (.ref l) (.int 2) (.int v) = some (st.put l (.lst (hd5 cs i v b k))) ∧
    setItem st (.ref l) (.int 3) (.int v) = some (st.put l (.lst (hd5 cs i a v k))) ∧ setItem st (.ref l) (.int 4) (.int v) = some (st.put l (.lst (hd5 cs i a b v))) := by
  refine ⟨?_, ?_, ?_, ?_⟩ <;> (rw [set_ref h rfl]; rfl)
theorem div_lo {a b : Int} {k : Nat} (h0 : 0 ≤ a) (hb : 0 < b) (h : Lo k a) : Lo k (a / b) ∧ 0 ≤ a / b := by
  have h1 := Int.ediv_le_self b h0
  have h2 := Int.ediv_nonneg h0 (Int.le_of_lt hb)
  unfold Lo at *
  exact ⟨by omega, h2⟩
theorem tail_ok {cl : CL} {st : Store} {l c : Nat} {m : Int} {x y z : Option D} (hm : 0 < m) (hc : c ≤ 1000000000000) {cs : List Int} {i a b k : Int} (h : listAt st l = some (hd5 cs i a b k)) (b0 : 0 ≤ b) (b1 : Lo 40 b) (k0 : 0 ≤ k) (k1 : k ≤ (c : Int)) :
    ∃ r, tl24 cl [some (.ref l), some (.int m), x, y, z] st = .ret (.int r) (st.put l (.lst (hd5 cs i a b (k + 1)))) ∧ 0 ≤ r ∧ r < m := by
  obtain ⟨i0, i1, i2, i3, i4⟩ := hix h
  have hs := (hset h (k + 1)).2.2.2
  have h' : listAt (st.put l (.lst (hd5 cs i a b (k + 1)))) l = some (hd5 cs i a b (k + 1)) := list_put
  obtain ⟨j0, j1, j2, j3, j4⟩ := hix h'
  have lk := lo_k k0 k1 hc
  have c1 : Lo 40 (7919 : Int) := by unfold Lo; decide
  have c2 : Lo 40 (40692 : Int) := by unfold Lo; decide
  have c3 : Lo 40 (69621 : Int) := by unfold Lo; decide
  have c4 : Lo 40 (40014 : Int) := by unfold Lo; decide
  have c5 : Lo 40 (2147483647 : Int) := by unfold Lo; decide
  have c6 : Lo 40 (2147483563 : Int) := by unfold Lo; decide
  have s := st.put l (.lst (hd5 cs i a b (k + 1)))
  have e1 := fun s => mul_lo (st := s) c1 lk (by decide)
  have l1 : Lo 81 (b + 7919 * (k + 1)) := (b1.mono (by decide)).add (c1.mul lk)
  have e2 := fun s => mul_lo (st := s) l1 c2 (by decide)
  generalize hn1 : (b + 7919 * (k + 1)) * 40692 % 2147483647 = n1
  have n1r := mod_rng (a := (b + 7919 * (k + 1)) * 40692) (m := 2147483647) (by decide)
  have n1l := lo_emod (a := (b + 7919 * (k + 1)) * 40692) (b := 2147483647) (by decide) c5
  rw [hn1] at n1r n1l
  obtain ⟨d1, _⟩ := div_lo (b := 1009) n1r.1 (by decide) n1l
  have e3 := fun s => mul_lo (st := s) n1l (d1.add c3) (by decide)
  generalize hn2 : n1 * (n1 / 1009 + 69621) % 2147483647 = n2
  have n2r := mod_rng (a := n1 * (n1 / 1009 + 69621)) (m := 2147483647) (by decide)
  have n2l := lo_emod (a := n1 * (n1 / 1009 + 69621)) (b := 2147483647) (by decide) c5
  rw [hn2] at n2r n2l
  obtain ⟨d2, _⟩ := div_lo (b := 2003) n2r.1 (by decide) n2l
  have e4 := fun s => mul_lo (st := s) n2l (d2.add c4) (by decide)
  generalize hn3 : n2 * (n2 / 2003 + 40014) % 2147483563 = n3
  have g1 : ∀ s (a : Int), opMod s (.int a) (.int 2147483647) = some (.int (a % 2147483647)) := fun s a => mod_ok (by decide)
  have g2 : ∀ s (a : Int), opMod s (.int a) (.int 2147483563) = some (.int (a % 2147483563)) := fun s a => mod_ok (by decide)
  have g3 : ∀ s (a : Int), opMod s (.int a) (.int m) = some (.int (a % m)) := fun s a => mod_ok hm
  have f1 : ∀ s (a : Int), opDiv s (.int a) (.int 1009) = some (.int (a / 1009)) := fun s a => div_ok (by decide) (by decide)
  have f2 : ∀ s (a : Int), opDiv s (.int a) (.int 2003) = some (.int (a / 2003)) := fun s a => div_ok (by decide) (by decide)
  have f3 : ∀ s (a : Int), opDiv s (.int a) (.int 16) = some (.int (a / 16)) := fun s a => div_ok (by decide) (by decide)
  refine ⟨(n3 / 16) % m, ?_, mod_rng hm⟩
  simp [tl24, i4, hs, j3, j4, e1, e2, g1, hn1, f1, e3, hn2, f2, e4, g2, hn3, f3, g3]
theorem pow18 {st : Store} : opPow st (.int 10) (.int 18) = some (.int 1000000000000000000) := rfl
def hd24 : SS := (ifS (andT (boolT (binM cEq (binM ixD (varM 0) (conM (.int 2))) (conM (.int 0)))) (boolT (binM cLt (binM ixD (varM 0) (conM (.int 1))) (bltM (keep bLen) (consM (binM ixD (varM 0) (conM (.int 0))) nilM))))) (seqS (asgS (binM ixD (binM ixD (varM 0) (conM (.int 0))) (binM ixD (varM 0) (conM (.int 1)))) (nameG 2)) (seqS (setS (binM opAdd (binM ixD (varM 0) (conM (.int 1))) (conM (.int 1))) (varM 0) (conM (.int 1))) (seqS (setS (binM opMod (bltM (keep bInt) (consM (binM opAdd (binM opAdd (binM opMul (binM ixD (varM 0) (conM (.int 3))) (conM (.int 69621))) (binM opMul (varM 2) (conM (.int 48271)))) (conM (.int 41))) nilM)) (conM (.int 2147483629))) (varM 0) (conM (.int 3))) (seqS (ifS (boolT (binM cGe (varM 2) (binM opPow (conM (.int 10)) (conM (.int 18))))) (seqS (setS (varM 2) (varM 0) (conM (.int 2))) skipS) skipS) skipS)))) skipS)
def md24 : SS := (ifS (boolT (binM cGt (binM ixD (varM 0) (conM (.int 2))) (conM (.int 0)))) (seqS (asgS (binM opMod (bltM (keep bInt) (consM (binM ixD (varM 0) (conM (.int 2))) nilM)) (varM 1)) (nameG 3)) (seqS (setS (binM opDiv (binM ixD (varM 0) (conM (.int 2))) (varM 1)) (varM 0) (conM (.int 2))) (seqS (retS (varM 3)) skipS))) skipS)
theorem m24_eq : m24 = seqS hd24 (seqS md24 tl24) := rfl
/-- behind the first part -/
theorem back_ok {cl : CL} {st : Store} {l c : Nat} {m : Int} {x : Option D} (hm : 0 < m) (hm2 : m ≤ 1000000) (hc : c ≤ 1000000000000) {cs : List Int} {i a b k : Int} (hlt : l < st.nx) (h : listAt st l = some (hd5 cs i a b k)) (hcs : ∀ x ∈ cs, 0 ≤ x ∧ Lo 120 x) (i0 : 0 ≤ i) (a0 : 0 ≤ a) (b0 : 0 ≤ b) (b1 : Lo 40 b) (k0 : 0 ≤ k) (k1 : k ≤ (c : Int)) :
    ∃ r st', seqS md24 tl24 cl [some (.ref l), some (.int m), x, none, none] st = .ret (.int r) st' ∧ 0 ≤ r ∧ r < m ∧ Hand st' l (c + 1) ∧ But l st st' := by
  obtain ⟨j0, j1, j2, j3, j4⟩ := hix h
  by_cases ha : 0 < a
  · have hs := (hset h (a / m)).2.1
    have g3 : ∀ s (a : Int), opMod s (.int a) (.int m) = some (.int (a % m)) := fun s a => mod_ok hm
    have f3 : ∀ s (a : Int), opDiv s (.int a) (.int m) = some (.int (a / m)) := fun s a => div_ok hm (by
      have hl : Lo 20 m := by
        show m.natAbs < 2 ^ 20
        omega
      have := hl.log
      omega)
    refine ⟨a % m, st.put l (.lst (hd5 cs i (a / m) b k)), ?_, (mod_rng hm).1, (mod_rng hm).2, ⟨hlt, cs, i, a / m, b, k, list_put, hcs, i0, Int.ediv_nonneg a0 (Int.le_of_lt hm), b0, b1, k0, by omega⟩, (But.refl l st).put⟩
    simp [md24, j2, ha, g3, f3, hs]
  · have ha' : a = 0 := by omega
    subst ha'
    obtain ⟨r, h1, h2, h3⟩ := tail_ok (cl := cl) (x := x) (y := none) (z := none) hm hc h b0 b1 k0 k1
    refine ⟨r, st.put l (.lst (hd5 cs i 0 b (k + 1))), ?_, h2, h3, ⟨hlt, cs, i, 0, b, k + 1, list_put, hcs, i0, by decide, b0, b1, by omega, by omega⟩, (But.refl l st).put⟩
    have e : md24 cl [some (.ref l), some (.int m), x, none, none] st = .nx [some (.ref l), some (.int m), x, none, none] st := by
      simp [md24, j2]
    rw [e_seqS, e, seq_nx, h1]
theorem p24 {n c l : Nat} {m : Int} {st : Store} (hm : 0 < m) (hm2 : m ≤ 1000000) (hc : c ≤ 1000000000000) (h : Hand st l c) : Dr l c 1 st (callN tab (n + 1) 24 [.ref l, .int m] st) (fun d => ∃ r : Int, d = .int r ∧ 0 ≤ r ∧ r < m) := by
  obtain ⟨cs, i, a, b, k, h1, h2, i0, a0, b0, b1, k0, k1⟩ := h.at_
  obtain ⟨j0, j1, j2, j3, j4⟩ := hix h1
  rw [call_tab t24, m24_eq]
  have wrap : ∀ (r : Int) (st' : Store), (seqS hd24 (seqS md24 tl24)) (callN tab n) [some (.ref l), some (.int m), none, none, none] st = .ret (.int r) st' → 0 ≤ r → r < m → Hand st' l (c + 1) → But l st st' → Dr l c 1 st (runF 5 (seqS hd24 (seqS md24 tl24)) (callN tab n) [.ref l, .int m] st) (fun d => ∃ r : Int, d = .int r ∧ 0 ≤ r ∧ r < m) :=
    fun r st' e1 e2 e3 e4 e5 => ⟨.int r, st', run_ret e1, ⟨r, rfl, e2, e3⟩, e4, e5⟩
  have skip : (¬ (a = 0 ∧ i < (cs.length : Int))) → Dr l c 1 st (runF 5 (seqS hd24 (seqS md24 tl24)) (callN tab n) [.ref l, .int m] st) (fun d => ∃ r : Int, d = .int r ∧ 0 ≤ r ∧ r < m) := fun hno => by
    obtain ⟨r, st', e1, e2, e3, e4, e5⟩ := back_ok (cl := callN tab n) (x := none) hm hm2 hc h.lt h1 h2 i0 a0 b0 b1 k0 k1
    refine wrap r st' ?_ e2 e3 e4 e5
    have e : hd24 (callN tab n) [some (.ref l), some (.int m), none, none, none] st = .nx [some (.ref l), some (.int m), none, none, none] st := by
      by_cases ha : a = 0
      · have hi : ¬ (i < (cs.length : Int)) := fun z => hno ⟨ha, z⟩
        simp [hd24, j0, j1, j2, ha, hi]
      · simp [hd24, j2, ha]
    rw [e_seqS, e, seq_nx, e1]
  by_cases hyes : a = 0 ∧ i < (cs.length : Int)
  · obtain ⟨ha, hi⟩ := hyes
    subst ha
    obtain ⟨x, hx⟩ : ∃ x, cs[i.toNat]? = some x := ⟨_, List.getElem?_eq_getElem (by omega)⟩
    have hxm := List.mem_of_getElem? hx
    obtain ⟨x0, x1⟩ := h2 x hxm
    have hcell : ∀ s, ixD s (.lst (cs.map D.int)) (.int i) = some (.int x) := fun s => by
      show L2.atI (cs.map D.int) i = _
      unfold L2.atI ixN
      rw [List.length_map, if_pos i0, if_pos hi]
      show (cs.map D.int)[i.toNat]? = _
      rw [List.getElem?_map, hx]
      rfl
    have c1 : Lo 40 (69621 : Int) := by unfold Lo; decide
    have c2 : Lo 40 (48271 : Int) := by unfold Lo; decide
    have c3 : Lo 40 (2147483629 : Int) := by unfold Lo; decide
    have e1 := fun s => mul_lo (st := s) b1 c1 (by decide)
    have e2 := fun s => mul_lo (st := s) x1 c2 (by decide)
    generalize hnb : (b * 69621 + x * 48271 + 41) % 2147483629 = nb
    have nb0 := mod_rng (a := b * 69621 + x * 48271 + 41) (m := 2147483629) (by decide)
    have nb1 := lo_emod (a := b * 69621 + x * 48271 + 41) (b := 2147483629) (by decide) c3
    rw [hnb] at nb0 nb1
    have g2 : ∀ s (a : Int), opMod s (.int a) (.int 2147483629) = some (.int (a % 2147483629)) := fun s a => mod_ok (by decide)
    have s1 := (hset h1 (i + 1)).1
    have h3 : listAt (st.put l (.lst (hd5 cs (i + 1) 0 b k))) l = some (hd5 cs (i + 1) 0 b k) := list_put
    obtain ⟨k0', k1', k2', k3', k4'⟩ := hix h3
    have s2 := (hset h3 nb).2.2.1
    have h4 : listAt ((st.put l (.lst (hd5 cs (i + 1) 0 b k))).put l (.lst (hd5 cs (i + 1) 0 nb k))) l = some (hd5 cs (i + 1) 0 nb k) := list_put
    have s3 := (hset h4 x).2.1
    by_cases hbig : 1000000000000000000 ≤ x
    · have h5 : listAt (((st.put l (.lst (hd5 cs (i + 1) 0 b k))).put l (.lst (hd5 cs (i + 1) 0 nb k))).put l (.lst (hd5 cs (i + 1) x nb k))) l = some (hd5 cs (i + 1) x nb k) := list_put
      obtain ⟨r, st', f1, f2, f3, f4, f5⟩ := back_ok (st := (((st.put l (.lst (hd5 cs (i + 1) 0 b k))).put l (.lst (hd5 cs (i + 1) 0 nb k))).put l (.lst (hd5 cs (i + 1) x nb k)))) (cl := callN tab n) (x := some (.int x)) hm hm2 hc h.lt h5 h2 (by omega) x0 nb0.1 nb1 k0 k1
      refine wrap r st' ?_ f2 f3 f4 ((((But.refl l st).put).put).put.trans f5)
      have e : hd24 (callN tab n) [some (.ref l), some (.int m), none, none, none] st = .nx [some (.ref l), some (.int m), some (.int x), none, none] (((st.put l (.lst (hd5 cs (i + 1) 0 b k))).put l (.lst (hd5 cs (i + 1) 0 nb k))).put l (.lst (hd5 cs (i + 1) x nb k))) := by
        simp [hd24, j0, j1, j2, hi, hcell, s1, k3', e1, e2, g2, hnb, s2, pow18, hbig, s3]
      rw [e_seqS, e, seq_nx, f1]
    · obtain ⟨r, st', f1, f2, f3, f4, f5⟩ := back_ok (st := ((st.put l (.lst (hd5 cs (i + 1) 0 b k))).put l (.lst (hd5 cs (i + 1) 0 nb k)))) (cl := callN tab n) (x := some (.int x)) hm hm2 hc h.lt h4 h2 (by omega) (by decide) nb0.1 nb1 k0 k1
      refine wrap r st' ?_ f2 f3 f4 (((But.refl l st).put).put.trans f5)
      have e : hd24 (callN tab n) [some (.ref l), some (.int m), none, none, none] st = .nx [some (.ref l), some (.int m), some (.int x), none, none] ((st.put l (.lst (hd5 cs (i + 1) 0 b k))).put l (.lst (hd5 cs (i + 1) 0 nb k))) := by
        simp [hd24, j0, j1, j2, hi, hcell, s1, k3', e1, e2, g2, hnb, s2, pow18, hbig]
      rw [e_seqS, e, seq_nx, f1]
  · exact skip hyes
end L11
end

section
set_option Elab.async false
set_option linter.all false
set_option maxRecDepth 100000
set_option maxHeartbeats 2000000
namespace L11
open PySem PySem.Spec PyProof.Rows L2 PyI
theorem pow36 {st : Store} : opPow st (.int 10) (.int 36) = some (.int 1000000000000000000000000000000000000) := rfl
theorem p23 {n : Nat} {ns : List Int} {st : Store} (h : ns.length ≤ 63) : ∃ st' l, callN tab (n + 1) 23 [.scr (ns.map D.int)] st = .ok (.ref l) st' ∧ Hand st' l 0 ∧ Ext st st' := by
  rw [call_tab t23]
  have c3 : Lo 120 (1000000000000000000000000000000000000 : Int) := by unfold Lo; decide
  let f : D → D := fun x => match x with
    | .int i => .int ((if i < 0 then -i else i) % 1000000000000000000000000000000000000)
    | x => x
  have hcut : cutL (ns.map D.int) none (some 63) = ns.map D.int := by
    unfold cutL
    have : HT.sIx (ns.map D.int).length 0 none = 0 := rfl
    rw [this, List.drop_zero, Nat.sub_zero]
    refine List.take_of_length_le ?_
    have e : HT.sIx (ns.map D.int).length (ns.map D.int).length (some 63) = min 63 (ns.map D.int).length := HT.sIx_nat _ _ 63
    rw [e, List.length_map]
    omega
  have hL : lcM (compA [2] (seqI (slM (varM 0) noO (someO (conM (.int 63))))) (nameG 2) yesT (binM opMod (bltM (keep bInt) (consM (bltM (keep bAbs) (consM (bltM (keep bInt) (consM (varM 2) nilM)) nilM)) nilM)) (binM opPow (conM (.int 10)) (conM (.int 36))))) (callN tab n) [some (.scr (ns.map D.int)), none, none] st = .ok (.lst ((ns.map D.int).map f)) st := by
    refine lc_map f (e_seqL (m := slM (varM 0) noO (someO (conM (.int 63)))) ?_) (fun x hx => ?_) (le_line (by rw [List.length_map]; omega))
    · have e : cutD st (.scr (ns.map D.int)) none (some 63) = some (.lst (ns.map D.int)) := by
        show some (D.lst (cutL (ns.map D.int) none (some 63))) = _
        rw [hcut]
      simp [e]
    · obtain ⟨i, _, rfl⟩ := List.mem_map.mp hx
      have e : ∀ st, bAbs st [.int i] = some (.int (if i < 0 then -i else i)) := fun st => rfl
      refine ⟨_, rfl, ?_⟩
      have g : ∀ s (a : Int), opMod s (.int a) (.int 1000000000000000000000000000000000000) = some (.int (a % 1000000000000000000000000000000000000)) := fun s a => mod_ok (by decide)
      simp [wipeE, e, pow36, g, f]
  have hm : (ns.map D.int).map f = (ns.map fun i => (if i < 0 then -i else i) % 1000000000000000000000000000000000000).map D.int := by
    rw [List.map_map, List.map_map]
    rfl
  generalize hcs : (ns.map fun i => (if i < 0 then -i else i) % 1000000000000000000000000000000000000) = cs at hm
  have hcl : cs.length = ns.length := by rw [← hcs, List.length_map]
  have hc : ∀ x ∈ cs, 0 ≤ x ∧ Lo 120 x := fun x hx => by
    rw [← hcs] at hx
    obtain ⟨i, _, rfl⟩ := List.mem_map.mp hx
    exact ⟨(mod_rng (by decide)).1, lo_emod (by decide) c3⟩
  rw [hm] at hL
  have l7 : Lo 40 ((cs.length : Int)) := by
    show (cs.length : Int).natAbs < 2 ^ 40
    omega
  have c7 : Lo 40 (7 : Int) := by unfold Lo; decide
  have e7 := mul_lo (st := st) c7 l7 (by decide)
  refine ⟨st.new (.lst (hd5 cs 0 0 (3889 + 7 * (cs.length : Int)) 0)), st.nx, run_ret ?_, ⟨Nat.lt_succ_self _, cs, 0, 0, 3889 + 7 * (cs.length : Int), 0, list_new, hc, by decide, by decide, by omega, ?_, by decide, by decide⟩, Ext.new⟩
  · simp [m23, hL, e7, newL_ok, hd5]
  · show (3889 + 7 * (cs.length : Int)).natAbs < 2 ^ 40
    omega
theorem p25 {n c l : Nat} {xs : List D} {th : D} {st : Store} (hth : th = .lst xs ∨ th = .tup xs) (h0 : 1 ≤ xs.length) (h1 : xs.length ≤ 1000) (hc : c ≤ 1000000000000) (h : Hand st l c) : Dr l c 1 st (callN tab (n + 2) 25 [.ref l, th] st) (fun d => d ∈ xs) := by
  rw [call_tab t25]
  have hlen : ∀ s, bLen s [th] = some (.int (xs.length : Int)) := fun s => by rcases hth with rfl | rfl <;> rfl
  obtain ⟨d, st', e1, ⟨r, rfl, r0, r1⟩, e3, e4⟩ := p24 (n := n) (m := (xs.length : Int)) (by omega) (by omega) hc h
  obtain ⟨y, hx⟩ : ∃ y, xs[r.toNat]? = some y := ⟨_, List.getElem?_eq_getElem (by omega)⟩
  have hix : ixD st' th (.int r) = some y := by
    have : ixD st' th (.int r) = L2.atI xs r := by rcases hth with rfl | rfl <;> rfl
    rw [this]
    unfold L2.atI ixN
    rw [if_pos r0, if_pos r1]
    exact hx
  refine ⟨y, st', run_ret ?_, List.mem_of_getElem? hx, e3, e4⟩
  simp [m25, hlen, e1, hix]
/-! drawn expressions -/
def dn : Nat → Nat
  | 0 => 3
  | k + 1 => 2 + 2 * dn k
structure EG (k : Nat) (d : D) : Prop where
  dt : dt d = true
  ok : isE k d = true
  sz : szD d ≤ dn k
  dp : dpD d ≤ k
theorem isE_mono : ∀ (k : Nat) (d : D), isE k d = true → isE (k + 1) d = true
  | 0, d, h => by cases h
  | k + 1, d, h => by
    unfold isE at h ⊢
    split at h
    · rename_i w a r
      split at h
      · rename_i w1
        rw [if_pos w1]
        exact h
      · rename_i w1
        rw [if_neg w1]
        split at h
        · rename_i w2
          rw [if_pos w2]
          exact h
        · rename_i w2
          rw [if_neg w2]
          split at h
          · rename_i w3
            rw [if_pos w3]
            rw [Bool.and_eq_true] at h ⊢
            exact ⟨h.1, isE_mono k a h.2⟩
          · rename_i w3
            rw [if_neg w3]
            split at h
            · rename_i b
              rw [Bool.and_eq_true, Bool.and_eq_true] at h
              show (deedB w && (isE (k + 1) a && isE (k + 1) b)) = true
              rw [h.1, isE_mono k a h.2.1, isE_mono k b h.2.2]
              rfl
            · cases h
    · cases h
theorem dn_mono : ∀ k, dn k ≤ dn (k + 1) := fun k => by
  show dn k ≤ 2 + 2 * dn k
  omega
theorem EG.up {k : Nat} {d : D} (h : EG k d) : EG (k + 1) d := ⟨h.dt, isE_mono k d h.ok, Nat.le_trans h.sz (dn_mono k), by have := h.dp; omega⟩
theorem EG.le {k m : Nat} {d : D} (h : EG k d) (hm : k ≤ m) : EG m d := by
  obtain ⟨j, rfl⟩ := Nat.exists_eq_add_of_le hm
  clear hm
  induction j with
  | zero => exact h
  | succ j ih => exact ih.up
def nmL : List D := [.str "a", .str "b", .str "c"]
theorem nm_ok : ∀ x ∈ nmL, isNm x = true ∧ dt x = true ∧ szD x = 1 ∧ dpD x = 0 := by decide +kernel
theorem deed_ok : ∀ x ∈ deedL, (∃ z, x = .str z ∧ deedB z = true ∧ ¬ z = "word" ∧ ¬ z = "cell" ∧ ¬ z = "not") ∧ dt x = true ∧ szD x = 1 ∧ dpD x = 0 := by
  intro x hx
  simp only [deedL, List.mem_cons, List.not_mem_nil, or_false] at hx
  rcases hx with rfl | rfl | rfl | rfl | rfl | rfl <;> exact ⟨⟨_, rfl, by decide +kernel, by decide, by decide, by decide⟩, by decide +kernel, rfl, rfl⟩
theorem EG.leafW {r : Int} (h0 : 0 ≤ r) (h1 : r < 4) : EG 1 (.tup [.str "word", .int r]) := by
  have hw : isW (.int r) 0 7 = true := by
    show (decide (0 ≤ r) && decide (r ≤ 7)) = true
    rw [decide_eq_true h0, decide_eq_true (by omega : r ≤ 7)]
    rfl
  refine ⟨?_, ?_, by simp [dn, szD], by simp [dpD]⟩
  · show (dts [.str "word", .int r] && _) = true
    simp [dts, dt]
    exact ⟨by decide +kernel, rfl⟩
  show (([] : List D).isEmpty && isW (.int r) 0 7) = true
  rw [hw]
  rfl
theorem EG.leafC {x : D} (h : x ∈ nmL) : EG 1 (.tup [.str "cell", x]) := by
  obtain ⟨h1, h2, h3, h4⟩ := nm_ok x h
  refine ⟨?_, ?_, ?_, ?_⟩
  · show (dts [.str "cell", x] && _) = true
    simp [dts, h2, dt]
    decide
  · show (([] : List D).isEmpty && isNm x) = true
    rw [h1]
    rfl
  · simp [h3, dn, szD]
  · simp [h4, dpD]
theorem EG.not {k : Nat} {d : D} (h : EG k d) : EG (k + 1) (.tup [.str "not", d]) := by
  refine ⟨?_, ?_, ?_, ?_⟩
  · show (dts [.str "not", d] && _) = true
    simp [dts, h.dt, dt]
    decide
  · show (([] : List D).isEmpty && isE k d) = true
    rw [h.ok]
    rfl
  · have := h.sz
    simp [dn, szD]
    omega
  · have := h.dp
    simp [dpD]
    omega
theorem EG.deed {k : Nat} {x d e : D} (hx : x ∈ deedL) (h : EG k d) (h' : EG k e) : EG (k + 1) (.tup [x, d, e]) := by
  obtain ⟨⟨z, rfl, hz, z1, z2, z3⟩, h2, h3, h4⟩ := deed_ok x hx
  refine ⟨?_, ?_, ?_, ?_⟩
  · show (dts [.str z, d, e] && _) = true
    simp [dts, h.dt, h'.dt, h2]
  · simp [isE, z1, z2, z3, hz, h.ok, h'.ok]
  · have := h.sz
    have := h'.sz
    simp [dn, szD]
    omega
  · have := h.dp
    have := h'.dp
    simp [dpD]
    omega
theorem dn_ge : ∀ k, 3 ≤ dn k
  | 0 => by decide
  | k + 1 => Nat.le_trans (dn_ge k) (dn_mono k)
def lf28 : EE := ifM (boolT (binM cEq (callM 24 (consM (varM 0) (consM (conM (.int 3)) nilM))) (conM (.int 0)))) (tupM (consM (conM (.str "word")) (consM (callM 24 (consM (varM 0) (consM (conM (.int 4)) nilM))) nilM))) (tupM (consM (conM (.str "cell")) (consM (callM 25 (consM (varM 0) (consM (varM 1) nilM))) nilM)))
def rs28 : SS := (seqS (ifS (boolT (binM cEq (varM 3) (conM (.int 1)))) (seqS (retS (tupM (consM (conM (.str "not")) (consM (callM 28 (consM (varM 0) (consM (varM 1) (consM (binM opSub (varM 2) (conM (.int 1))) nilM)))) nilM)))) skipS) skipS) (seqS (asgS (callM 25 (consM (varM 0) (consM (lstM (consM (conM (.str "sum")) (consM (conM (.str "less")) (consM (conM (.str "and")) (consM (conM (.str "or")) (consM (conM (.str "same")) (consM (conM (.str "below")) nilM))))))) nilM))) (nameG 4)) (seqS (retS (tupM (consM (varM 4) (consM (callM 28 (consM (varM 0) (consM (varM 1) (consM (binM opSub (varM 2) (conM (.int 1))) nilM)))) (consM (callM 28 (consM (varM 0) (consM (varM 1) (consM (binM opSub (varM 2) (conM (.int 1))) nilM)))) nilM))))) skipS)))
theorem m28_eq : m28 = (seqS (asgS (callM 24 (consM (varM 0) (consM (conM (.int 5)) nilM))) (nameG 3)) (seqS (ifS (orT (boolT (binM cLt (varM 2) (conM (.int 2)))) (boolT (binM cEq (varM 3) (conM (.int 0))))) (seqS (retS lf28) skipS) skipS) rs28)) := rfl
theorem p28 {nms : List D} (hn0 : 1 ≤ nms.length) (hn1 : nms.length ≤ 3) (hnm : ∀ x ∈ nms, x ∈ nmL) : ∀ (k n c l : Nat) (st : Store), 1 ≤ k → c + dn k ≤ 1000000000000 → Hand st l c → Dr l c (dn k) st (callN tab (n + k + 2) 28 [.ref l, .lst nms, .int (k : Int)] st) (EG k)
  | 0, _, _, _, _, h, _, _ => absurd h (by omega)
  | k + 1, n, c, l, st, _, hc, h => by
    rw [call_tab t28]
    have hdn := dn_ge k
    have hdk : dn (k + 1) = 2 + 2 * dn k := rfl
    obtain ⟨_, s1, e1, ⟨kd, rfl, kd0, kd1⟩, h1, b1⟩ := p24 (n := n + k + 1) (m := 5) (by decide) (by decide) (by omega) h
    -- a leaf
    have leaf : ∃ d s', lf28
        (callN tab (n + (k + 1) + 1)) [some (.ref l), some (.lst nms), some (.int ((k : Int) + 1)), some (.int kd), none] s1 = .ok d s' ∧ EG (k + 1) d ∧ Hand s' l (c + dn (k + 1)) ∧ But l st s' := by
      obtain ⟨_, s2, e2, ⟨q, rfl, q0, q1⟩, h2, b2⟩ := p24 (n := n + k + 1) (m := 3) (by decide) (by decide) (by omega) h1
      by_cases hq : q = 0
      · obtain ⟨_, s3, e3, ⟨r, rfl, r0, r1⟩, h3, b3⟩ := p24 (n := n + k + 1) (m := 4) (by decide) (by decide) (by omega) h2
        refine ⟨.tup [.str "word", .int r], s3, ?_, (EG.leafW r0 r1).le (by omega), h3.mono (by omega), (b1.trans b2).trans b3⟩
        have e2' : callN tab (n + (k + 1) + 1) 24 [.ref l, .int 3] s1 = .ok (.int q) s2 := e2
        have e3' : callN tab (n + (k + 1) + 1) 24 [.ref l, .int 4] s2 = .ok (.int r) s3 := e3
        simp [lf28, e2', e3', hq]
      · obtain ⟨x, s3, e3, hx, h3, b3⟩ := p25 (n := n + k) (xs := nms) (th := .lst nms) (.inl rfl) hn0 (by omega) (by omega) h2
        refine ⟨.tup [.str "cell", x], s3, ?_, (EG.leafC (hnm x hx)).le (by omega), h3.mono (by omega), (b1.trans b2).trans b3⟩
        have e2' : callN tab (n + (k + 1) + 1) 24 [.ref l, .int 3] s1 = .ok (.int q) s2 := e2
        have e3' : callN tab (n + (k + 1) + 1) 25 [.ref l, .lst nms] s2 = .ok x s3 := e3
        simp [lf28, e2', e3', hq]
    have e1' : callN tab (n + (k + 1) + 1) 24 [.ref l, .int 5] st = .ok (.int kd) s1 := e1
    by_cases hk : k = 0 ∨ kd = 0
    · obtain ⟨d, s', g1, g2, g3, g4⟩ := leaf
      refine ⟨d, s', run_ret ?_, g2, g3, g4⟩
      rw [m28_eq]
      have hc : (decide ((k : Int) + 1 < 2) = true ∨ kd = 0) := by
        rcases hk with rfl | h
        · exact .inl (by decide)
        · exact .inr h
      by_cases h2 : (k : Int) + 1 < 2
      · simp [e1', h2, g1]
      · have h3 : kd = 0 := by
          rcases hc with h | h
          · exact absurd (of_decide_eq_true h) h2
          · exact h
        subst h3
        simp [e1', h2, g1]
    · have hk0 : ¬ k = 0 := fun z => hk (.inl z)
      have hkd : ¬ kd = 0 := fun z => hk (.inr z)
      have h2 : ¬ ((k : Int) + 1 < 2) := by omega
      have hd : ((k : Int) + 1 - 1) = (k : Int) := by omega
      obtain ⟨a, s2, e2, ga, h2', b2⟩ := p28 hn0 hn1 hnm k n (c + 1) l s1 (by omega) (by omega) h1
      have e2' : callN tab (n + (k + 1) + 1) 28 [.ref l, .lst nms, .int (k : Int)] s1 = .ok a s2 := e2
      by_cases hk1 : kd = 1
      · refine ⟨.tup [.str "not", a], s2, run_ret ?_, ga.not, h2'.mono (by omega), b1.trans b2⟩
        rw [m28_eq]
        subst hk1
        simp [e1', h2, rs28, hd, e2']
      · obtain ⟨x, s3, e3, hx, h3, b3⟩ := p25 (n := n + k) (xs := deedL) (th := .lst deedL) (.inl rfl) (by decide) (by decide) (by omega) h1
        have e3' : callN tab (n + (k + 1) + 1) 25 [.ref l, .lst [.str "sum", .str "less", .str "and", .str "or", .str "same", .str "below"]] s1 = .ok x s3 := e3
        obtain ⟨a, s4, e4, ga, h4, b4⟩ := p28 hn0 hn1 hnm k n (c + 1 + 1) l s3 (by omega) (by omega) h3
        have e4' : callN tab (n + (k + 1) + 1) 28 [.ref l, .lst nms, .int (k : Int)] s3 = .ok a s4 := e4
        obtain ⟨b, s5, e5, gb, h5, b5⟩ := p28 hn0 hn1 hnm k n (c + 1 + 1 + dn k) l s4 (by omega) (by omega) h4
        have e5' : callN tab (n + (k + 1) + 1) 28 [.ref l, .lst nms, .int (k : Int)] s4 = .ok b s5 := e5
        refine ⟨.tup [x, a, b], s5, run_ret ?_, EG.deed hx ga gb, h5.mono (by omega), (b1.trans b3).trans (b4.trans b5)⟩
        rw [m28_eq]
        simp [e1', h2, hkd, rs28, hk1, hd, e3', e4', e5']
end L11
end

section
set_option Elab.async false
set_option linter.all false
set_option maxRecDepth 100000
set_option maxHeartbeats 2000000
namespace L11
open PySem PySem.Spec PyProof.Rows L2 PyI
/-! how many statements a drawn block has -/
theorem p31 {k n : Nat} {x : D} {st : Store} (h : isS (k + 1) x = true) : callN tab (n + 1) 31 [x] st = .ok (.tup (inn x)) st := by
  rw [call_tab t31]
  refine run_ret ?_
  rcases isS_cases h with ⟨a, b, c, rfl, _⟩ | ⟨a, b, rfl, _⟩ | ⟨w, a, r, rfl, w1, w2, _⟩
  · have i1 : cIn st (.str "if") (.tup [.str "if", .str "while"]) = some (.bl true) := in_tup ["if", "while"] rfl
    simp [m31, inn, i1]
  · have e : ¬ (("while" : Str) = "if") := by decide
    have i1 : cIn st (.str "while") (.tup [.str "if", .str "while"]) = some (.bl true) := in_tup ["if", "while"] rfl
    simp [m31, inn, e, i1]
  · have i1 : cIn st (.str w) (.tup [.str "if", .str "while"]) = some (.bl (inS ["if", "while"] (.str w))) := in_tup ["if", "while"] rfl
    have e1 : inS ["if", "while"] (.str w) = false := by simp [inS, eqF, str_ne w1, str_ne w2]
    simp [m31, inn, w1, w2, i1, e1]
def bd30 : SS := (seqS (asgS (binM opAdd (binM opAdd (varM 1) (conM (.int 1))) (bltM (keep bSum) (consM (lcM (compA [3] (seqI (callM 31 (consM (varM 2) nilM))) (nameG 3) yesT (callM 30 (consM (varM 3) nilM)))) nilM))) (nameG 1)) skipS)
theorem m30_eq : m30 = seqS (asgS (conM (.int 0)) (nameG 1)) (seqS (forS (seqI (varM 0)) (nameG 2) bd30) (seqS (retS (varM 1)) skipS)) := rfl
def f30 (xs : List D) (f : D → Int) (s0 : Store) (T : Int) (r : List D) (env : PyI.Env) (s : Store) : Prop := s = s0 ∧ ∃ (z : Int) (a b : Option D), env = [some (.tup xs), some (.int z), a, b] ∧ z + (r.map f).sum = T ∧ ∀ y ∈ r, y ∈ xs
/-- the blocks within are good -/
theorem inn_ok {k : Nat} {x : D} (hd : dt x = true) (h : isS (k + 1) x = true) : ∀ y ∈ inn x, ∃ ys, y = .tup ys ∧ dt (.tup ys) = true ∧ ys.all (isS k) = true := by
  rcases isS_cases h with ⟨a, b, c, rfl, ha, hb, hc⟩ | ⟨a, b, rfl, ha, hb⟩ | ⟨w, a, r, rfl, w1, w2, _⟩
  · intro y hy
    have hm := dt_mem hd
    have hy' : y = b ∨ y = c := by simpa [inn] using hy
    rcases hy' with rfl | rfl
    · cases y with
      | tup ys => exact ⟨ys, rfl, hm _ (by simp), hb⟩
      | _ => cases hb
    · cases y with
      | tup ys => exact ⟨ys, rfl, hm _ (by simp), hc⟩
      | _ => cases hc
  · intro y hy
    have hm := dt_mem hd
    have e : ¬ (("while" : Str) = "if") := by decide
    have hy' : y = b := by simpa [inn, e] using hy
    subst hy'
    cases y with
    | tup ys => exact ⟨ys, rfl, hm _ (by simp), hb⟩
    | _ => cases hb
  · intro y hy
    simp [inn, w1, w2] at hy
theorem wd_inn {k : Nat} {x : D} (h : isS (k + 1) x = true) : wd (k + 1) x = 1 + ((inn x).map (wdB (wd k))).sum := by
  rcases isS_cases h with ⟨a, b, c, rfl, ha, hb, hc⟩ | ⟨a, b, rfl, ha, hb⟩ | ⟨w, a, r, rfl, w1, w2, e⟩
  · simp [wd, inn, ha]
  · have e : ¬ (("while" : Str) = "if") := by decide
    simp [wd, inn, e, ha]
  · rw [e]
    simp [inn, w1, w2]
theorem p30 : ∀ (k n : Nat) (xs : List D) (st : Store), dt (.tup xs) = true → xs.all (isS k) = true → callN tab (n + k + 2) 30 [.tup xs] st = .ok (.int (xs.map (wd k)).sum) st
  | k, n, xs, st, hd, ha => by
    obtain ⟨h1, h2⟩ := dt_tup hd
    rw [call_tab t30, m30_eq]
    have key := forR_inv (tg := nameG 2) (cl := callN tab (n + k + 1)) (body := bd30)
      (f30 xs (wd k) st (xs.map (wd k)).sum) xs [some (.tup xs), some (.int 0), none, none] st (fun x r env s ⟨hs, z, a, b, he, hT, hr⟩ => by
        subst hs
        subst he
        refine ⟨_, rfl, ?_⟩
        rw [List.map_cons, List.sum_cons] at hT
        have hxm := hr x List.mem_cons_self
        have hdx := dts_mem h1 x hxm
        have hSx : isS k x = true := (List.all_eq_true.mp ha) x hxm
        cases k with
        | zero => cases hSx
        | succ k =>
          have e31 : callN tab (n + (k + 1) + 1) 31 [x] s = .ok (.tup (inn x)) s := p31 (n := n + (k + 1)) hSx
          have hlen : (inn x).length ≤ 2 := by
            rcases isS_cases hSx with ⟨a, b, c, rfl, _⟩ | ⟨a, b, rfl, _⟩ | ⟨w, a, r, rfl, w1, w2, _⟩
            · simp [inn]
            · have e : ¬ (("while" : Str) = "if") := by decide
              simp [inn, e]
            · simp [inn, w1, w2]
          have hL : lcM (compA [3] (seqI (callM 31 (consM (varM 2) nilM))) (nameG 3) yesT (callM 30 (consM (varM 3) nilM))) (callN tab (n + (k + 1) + 1)) [some (.tup xs), some (.int z), some x, b] s = .ok (.lst ((inn x).map fun y => .int (wdB (wd k) y))) s :=
            lc_map (fun y => .int (wdB (wd k) y)) (e_seqT (by simp [e31])) (fun y hy => by
              obtain ⟨ys, rfl, g1, g2⟩ := inn_ok hdx hSx y hy
              have e : callN tab (n + (k + 1) + 1) 30 [.tup ys] s = .ok (.int (ys.map (wd k)).sum) s := p30 k n ys s g1 g2
              exact ⟨_, rfl, by simp [wipeE, e, wdB]⟩) (le_line (by omega))
          refine ⟨[some (.tup xs), some (.int (z + 1 + ((inn x).map (wdB (wd k))).sum)), some x, b], s, ?_, rfl, _, _, _, rfl, ?_, fun y hy => hr y (List.mem_cons_of_mem _ hy)⟩
          · simp [bd30, hL]
          · rw [wd_inn hSx] at hT
            omega) ⟨rfl, 0, none, none, rfl, by omega, fun y hy => hy⟩
    obtain ⟨env', st', k1, hs, z, a, b, rfl, hT, _⟩ := key
    subst hs
    refine run_ret ?_
    have hf : forS (seqI (varM 0)) (nameG 2) bd30 (callN tab (n + k + 1)) [some (.tup xs), some (.int 0), none, none] st' = .nx [some (.tup xs), some (.int z), a, b] st' := by
      rw [e_for (xs := xs) (s := st') (e_seqT (by simp))]
      exact k1
    rw [List.map_nil, List.sum_nil, Int.add_zero] at hT
    subst hT
    simp [hf]
end L11
end

section
set_option Elab.async false
set_option linter.all false
set_option maxRecDepth 100000
set_option maxHeartbeats 2000000
namespace L11
open PySem PySem.Spec PyProof.Rows L2 PyI
/-! drawn statements and blocks -/
structure SG (j : Nat) (x : D) : Prop where
  dt : dt x = true
  ok : isS (j + 3) x = true
  sz : (szD x : Int) ≤ 44 * wd (j + 3) x
  dp : dpD x ≤ 5 + 2 * j
def BG (j M : Nat) (d : D) : Prop := ∃ xs, d = .tup xs ∧ (∀ x ∈ xs, SG j x) ∧ (xs.map (wd (j + 3))).sum ≤ (M : Int)
theorem len_sum {k : Nat} : ∀ xs : List D, (xs.length : Int) ≤ (xs.map (wd k)).sum
  | [] => Int.le_refl 0
  | x :: r => by
    rw [List.map_cons, List.sum_cons, List.length_cons]
    have := wd_pos k x
    have := len_sum (k := k) r
    omega
theorem SG.dts {j : Nat} : ∀ xs : List D, (∀ x ∈ xs, SG j x) → PyI.dts xs = true ∧ (szDs xs : Int) ≤ 44 * (xs.map (wd (j + 3))).sum ∧ dpDs xs ≤ 5 + 2 * j ∧ xs.all (isS (j + 3)) = true
  | [], _ => ⟨rfl, Int.le_refl 0, Nat.zero_le _, rfl⟩
  | x :: r, h => by
    obtain ⟨h1, h2, h3, h4⟩ := SG.dts r fun y hy => h y (List.mem_cons_of_mem _ hy)
    obtain ⟨g1, g2, g3, g4⟩ := h x List.mem_cons_self
    refine ⟨?_, ?_, ?_, ?_⟩
    · show (PyI.dt x && PyI.dts r) = true
      rw [g1, h1]
      rfl
    · rw [List.map_cons, List.sum_cons, szDs_cons]
      omega
    · rw [dpDs_cons]
      omega
    · rw [List.all_cons, g2, h4]
      rfl
theorem BG.get {j M : Nat} {d : D} (hM : M ≤ 9) (h : BG j M d) : ∃ xs, d = .tup xs ∧ dt (.tup xs) = true ∧ xs.all (isS (j + 3)) = true ∧ (szDs xs : Int) ≤ 44 * (xs.map (wd (j + 3))).sum ∧ dpDs xs ≤ 5 + 2 * j ∧ 0 ≤ (xs.map (wd (j + 3))).sum ∧ (xs.map (wd (j + 3))).sum ≤ (M : Int) := by
  obtain ⟨xs, rfl, h1, h2⟩ := h
  obtain ⟨g1, g2, g3, g4⟩ := SG.dts xs h1
  have := len_sum (k := j + 3) xs
  refine ⟨xs, rfl, ?_, g4, g2, g3, by omega, h2⟩
  show (PyI.dts xs && decide (xs.length ≤ 1000)) = true
  rw [g1, decide_eq_true (by omega : xs.length ≤ 1000)]
  rfl
theorem dt3 {a b : D} {z : Str} (hz : z.length ≤ 100) (ha : dt a = true) (hb : dt b = true) : dt (.tup [.str z, a, b]) = true := by
  show (PyI.dts [.str z, a, b] && _) = true
  simp [PyI.dts, PyI.dt, ha, hb]
  omega
theorem dt2 {a : D} {z : Str} (hz : z.length ≤ 100) (ha : dt a = true) : dt (.tup [.str z, a]) = true := by
  show (PyI.dts [.str z, a] && _) = true
  simp [PyI.dts, PyI.dt, ha]
  omega
theorem dt4 {a b c : D} {z : Str} (hz : z.length ≤ 100) (ha : dt a = true) (hb : dt b = true) (hc : dt c = true) : dt (.tup [.str z, a, b, c]) = true := by
  show (PyI.dts [.str z, a, b, c] && _) = true
  simp [PyI.dts, PyI.dt, ha, hb, hc]
  omega
theorem EG.six {d : D} (h : EG 3 d) : isE 6 d = true := (h.le (m := 6) (by decide)).ok
theorem dn3 : dn 3 = 38 := rfl
theorem SG.set {j : Nat} {x e v : D} (hx : x ∈ nmL) (he : EG 3 e) (hv : v = e ∨ ∃ z, isNm (.str z) = true ∧ z.length ≤ 100 ∧ v = .tup [.str "look", .str z, e]) : SG j (.tup [.str "set", x, v]) := by
  obtain ⟨h1, h2, h3, h4⟩ := nm_ok x hx
  have e1 := he.sz
  have e2 := he.dp
  rw [dn3] at e1
  have hv' : PyI.dt v = true ∧ (isLook v || isE 6 v) = true ∧ szD v ≤ 41 ∧ dpD v ≤ 4 := by
    rcases hv with rfl | ⟨z, z1, z2, rfl⟩
    · exact ⟨he.dt, by rw [he.six, Bool.or_true], by omega, by omega⟩
    · refine ⟨dt3 (z := "look") (by decide) (by show PyI.dt (.str z) = true; exact decide_eq_true z2) he.dt, ?_, ?_, ?_⟩
      · have : isLook (.tup [.str "look", .str z, e]) = true := by simp [isLook, z1, he.six]
        rw [this]
        rfl
      · simp [szD]
        omega
      · simp [dpD]
        omega
  obtain ⟨v1, v2, v3, v4⟩ := hv'
  have hw : wd (j + 3) (.tup [.str "set", x, v]) = 1 := by
    have w1 : ¬ (("set" : Str) = "if") := by decide
    have w2 : ¬ (("set" : Str) = "while") := by decide
    rw [Bool.or_comm] at v2
    simp only [Bool.or_eq_true] at v2
    simp [wd, w1, w2, h1, v2]
  refine ⟨dt3 (by decide) h2 v1, ?_, ?_, ?_⟩
  · simp only [Bool.or_eq_true] at v2
    simp [isS, h1, v2]
  · rw [hw]
    simp [h3]
    have : szD (.str "set") = 1 := rfl
    omega
  · have : dpD (.str "set") = 0 := rfl
    simp [h4]
    omega
theorem SG.tell {j : Nat} {e : D} (he : EG 3 e) : SG j (.tup [.str "tell", e]) := by
  have e1 := he.sz
  have e2 := he.dp
  rw [dn3] at e1
  have w0 : ¬ (("tell" : Str) = "set") := by decide
  have w1 : ¬ (("tell" : Str) = "if") := by decide
  have w2 : ¬ (("tell" : Str) = "while") := by decide
  have w3 : ¬ (("tell" : Str) = "rest") := by decide
  have hw : wd (j + 3) (.tup [.str "tell", e]) = 1 := by simp [wd, w0, w1, w2, w3, he.six]
  refine ⟨dt2 (by decide) he.dt, by simp [isS, w0, he.six], ?_, ?_⟩
  · rw [hw]
    have : szD (.str "tell") = 1 := rfl
    simp
    omega
  · have : dpD (.str "tell") = 0 := rfl
    simp
    omega
theorem SG.pick {j : Nat} {x : D} (hx : x ∈ nmL) : SG j (.tup [.str "pick", x]) := by
  obtain ⟨h1, h2, h3, h4⟩ := nm_ok x hx
  have w0 : ¬ (("pick" : Str) = "set") := by decide
  have w1 : ¬ (("pick" : Str) = "if") := by decide
  have w2 : ¬ (("pick" : Str) = "while") := by decide
  have w3 : ¬ (("pick" : Str) = "rest") := by decide
  have w4 : ¬ (("pick" : Str) = "tell") := by decide
  have hw : wd (j + 3) (.tup [.str "pick", x]) = 1 := by simp [wd, w0, w1, w2, w3, w4, h1]
  refine ⟨dt2 (by decide) h2, by simp [isS, w0, w4, h1], ?_, ?_⟩
  · rw [hw]
    have : szD (.str "pick") = 1 := rfl
    simp [h3]
    omega
  · have : dpD (.str "pick") = 0 := rfl
    simp [h4]
    omega
theorem kd_ok : ∀ x ∈ kindL, isKd x = true ∧ dt x = true ∧ szD x = 1 ∧ dpD x = 0 := by decide +kernel
theorem SG.rest {j : Nat} {x : D} {r : Int} (hx : x ∈ kindL) (r0 : 0 ≤ r) (r1 : r < 3) : SG j (.tup [.str "rest", x, .int (1 + r)]) := by
  obtain ⟨h1, h2, h3, h4⟩ := kd_ok x hx
  have w0 : ¬ (("rest" : Str) = "set") := by decide
  have w1 : ¬ (("rest" : Str) = "if") := by decide
  have w2 : ¬ (("rest" : Str) = "while") := by decide
  have w3 : ¬ (("rest" : Str) = "tell") := by decide
  have w4 : ¬ (("rest" : Str) = "pick") := by decide
  have hi : isW (.int (1 + r)) 1 99 = true := by
    show (decide (1 ≤ 1 + r) && decide (1 + r ≤ 99)) = true
    rw [decide_eq_true (by omega : 1 ≤ 1 + r), decide_eq_true (by omega : 1 + r ≤ 99)]
    rfl
  have hw : wd (j + 3) (.tup [.str "rest", x, .int (1 + r)]) = 1 := by simp [wd, w0, w1, w2, h1, hi]
  refine ⟨dt3 (by decide) h2 rfl, by simp [isS, w0, w3, w4, h1, hi], ?_, ?_⟩
  · rw [hw]
    have : szD (.str "rest") = 1 := rfl
    have : szD (.int (1 + r)) = 1 := rfl
    simp [h3]
    omega
  · have : dpD (.str "rest") = 0 := rfl
    have : dpD (.int (1 + r)) = 0 := rfl
    simp [h4]
    omega
theorem SG.while {j M : Nat} {e : D} {ys : List D} (he : EG 3 e) (hd : PyI.dt (.tup ys) = true) (hs : ys.all (isS (j + 3)) = true) (hz : (szDs ys : Int) ≤ 44 * (ys.map (wd (j + 3))).sum) (hp : dpDs ys ≤ 5 + 2 * j) : SG (j + 1) (.tup [.str "while", e, .tup ys]) ∧ wd (j + 1 + 3) (.tup [.str "while", e, .tup ys]) = 1 + (ys.map (wd (j + 3))).sum := by
  have e1 := he.sz
  have e2 := he.dp
  rw [dn3] at e1
  have w0 : ¬ (("while" : Str) = "if") := by decide
  have w1 : ¬ (("while" : Str) = "set") := by decide
  have w2 : ¬ (("while" : Str) = "tell") := by decide
  have w3 : ¬ (("while" : Str) = "pick") := by decide
  have w4 : ¬ (("while" : Str) = "rest") := by decide
  have hw : wd (j + 1 + 3) (.tup [.str "while", e, .tup ys]) = 1 + (ys.map (wd (j + 3))).sum := by
    rw [show j + 1 + 3 = (j + 3) + 1 from by omega]
    simp [wd, w0, he.six, wdB]
  refine ⟨⟨dt3 (by decide) he.dt hd, ?_, ?_, ?_⟩, hw⟩
  · rw [show j + 1 + 3 = (j + 3) + 1 from by omega]
    unfold isS
    simp only [w0, w1, w2, w3, w4, if_false, if_true, he.six, blkB, hs]
    rfl
  · rw [hw]
    have : szD (.str "while") = 1 := rfl
    simp
    omega
  · have : dpD (.str "while") = 0 := rfl
    simp
    omega
theorem SG.ifs {j : Nat} {e : D} {ys zs : List D} (he : EG 3 e) (hd : PyI.dt (.tup ys) = true) (hs : ys.all (isS (j + 3)) = true) (hz : (szDs ys : Int) ≤ 44 * (ys.map (wd (j + 3))).sum) (hp : dpDs ys ≤ 5 + 2 * j)
    (hd' : PyI.dt (.tup zs) = true) (hs' : zs.all (isS (j + 3)) = true) (hz' : (szDs zs : Int) ≤ 44 * (zs.map (wd (j + 3))).sum) (hp' : dpDs zs ≤ 5 + 2 * j) : SG (j + 1) (.tup [.str "if", e, .tup ys, .tup zs]) ∧ wd (j + 1 + 3) (.tup [.str "if", e, .tup ys, .tup zs]) = 1 + ((ys.map (wd (j + 3))).sum + (zs.map (wd (j + 3))).sum) := by
  have e1 := he.sz
  have e2 := he.dp
  rw [dn3] at e1
  have w1 : ¬ (("if" : Str) = "set") := by decide
  have w2 : ¬ (("if" : Str) = "tell") := by decide
  have w3 : ¬ (("if" : Str) = "pick") := by decide
  have w4 : ¬ (("if" : Str) = "rest") := by decide
  have hw : wd (j + 1 + 3) (.tup [.str "if", e, .tup ys, .tup zs]) = 1 + ((ys.map (wd (j + 3))).sum + (zs.map (wd (j + 3))).sum) := by
    rw [show j + 1 + 3 = (j + 3) + 1 from by omega]
    simp [wd, he.six, wdB]
  refine ⟨⟨dt4 (by decide) he.dt hd hd', ?_, ?_, ?_⟩, hw⟩
  · rw [show j + 1 + 3 = (j + 3) + 1 from by omega]
    unfold isS
    simp only [w1, w2, w3, w4, if_false, if_true, he.six, blkB, hs, hs']
    rfl
  · rw [hw]
    have : szD (.str "if") = 1 := rfl
    simp
    omega
  · have : dpD (.str "if") = 0 := rfl
    simp
    omega
/-! the list under way -/
theorem Hand.put {s : Store} {l q e : Nat} {o : List D} (h : Hand s l e) (hq : q ≠ l) : Hand (s.put q (.lst o)) l e := by
  obtain ⟨cs, i, a, b, k, h1, h2⟩ := h.at_
  exact ⟨h.lt, cs, i, a, b, k, by rw [list_put_ne (Ne.symm hq)]; exact h1, h2⟩
theorem But.put' {l q : Nat} {st s : Store} {o : SO} (h : But l st s) (hq : st.nx ≤ q) : But l st (s.put q o) := ⟨h.nx, fun k hk hn => (if_neg (by omega)).trans (h.old k hk hn)⟩
structure In29 (l q j M : Nat) (st : Store) (m e : Nat) (xs : List D) (s : Store) : Prop where
  hand : Hand s l e
  but : But l st s
  lt : q < s.nx
  lo : st.nx ≤ q
  ne : q ≠ l
  at_ : listAt s q = some xs
  ok : ∀ x ∈ xs, SG j x
  sum : (xs.map (wd (j + 3))).sum + (m : Int) ≤ (M : Int)
theorem In29.move {l q j M : Nat} {st s s' : Store} {m e e' : Nat} {xs : List D} (h : In29 l q j M st m e xs s) (hh : Hand s' l e') (hb : But l s s') : In29 l q j M st m e' xs s' :=
  ⟨hh, h.but.trans hb, Nat.lt_of_lt_of_le h.lt hb.nx, h.lo, h.ne, hb.list h.lt h.ne h.at_, h.ok, h.sum⟩
theorem In29.less {l q j M : Nat} {st s : Store} {m m' e : Nat} {xs : List D} (h : In29 l q j M st m e xs s) (hm : m' ≤ m) : In29 l q j M st m' e xs s :=
  ⟨h.hand, h.but, h.lt, h.lo, h.ne, h.at_, h.ok, by have := h.sum; omega⟩
theorem In29.len {l q j M : Nat} {st s : Store} {m e : Nat} {xs : List D} (h : In29 l q j M st m e xs s) : xs.length ≤ M := by
  have := h.sum
  have := len_sum (k := j + 3) xs
  omega
theorem In29.push {l q j M : Nat} {st s : Store} {m m' e : Nat} {xs : List D} {x : D} (h : In29 l q j M st m e xs s) (hx : SG j x) (hw : wd (j + 3) x + (m' : Int) ≤ (m : Int)) : In29 l q j M st m' e (xs ++ [x]) (s.put q (.lst (xs ++ [x]))) := by
  refine ⟨h.hand.put h.ne, But.put' h.but h.lo, h.lt, h.lo, h.ne, list_put, fun y hy => ?_, ?_⟩
  · rcases List.mem_append.mp hy with hy | hy
    · exact h.ok y hy
    · rw [List.mem_singleton.mp hy]
      exact hx
  · have := h.sum
    rw [List.map_append, List.sum_append, List.map_cons, List.sum_cons, List.map_nil, List.sum_nil]
    omega
end L11
end

section
set_option Elab.async false
set_option linter.all false
set_option maxRecDepth 100000
set_option maxHeartbeats 2000000
namespace L11
open PySem PySem.Spec PyProof.Rows L2 PyI
def C29 : TT' := (andT (boolT (binM cGt (varM 3) (conM (.int 0)))) (boolT (binM cGt (callM 24 (consM (varM 0) (consM (conM (.int 6)) nilM))) (conM (.int 0)))))
def S29a : SS := (seqS (asgS (ifM (boolT (binM cGt (bltM (keep bLen) (consM (varM 2) nilM)) (conM (.int 0)))) (tupM (consM (conM (.str "look")) (consM (binM ixD (callM 25 (consM (varM 0) (consM (varM 2) nilM))) (conM (.int 0))) (consM (varM 7) nilM)))) (varM 7)) (nameG 8)) (seqS (exprS (mtM mAppend (varM 5) (consM (tupM (consM (conM (.str "set")) (consM (callM 25 (consM (varM 0) (consM (varM 1) nilM))) (consM (callM 25 (consM (varM 0) (consM (lstM (consM (varM 7) (consM (varM 8) nilM))) nilM))) nilM)))) nilM))) skipS))
def S29b : SS := (seqS (exprS (mtM mAppend (varM 5) (consM (tupM (consM (conM (.str "tell")) (consM (varM 7) nilM))) nilM))) skipS)
def S29c : SS := (seqS (exprS (mtM mAppend (varM 5) (consM (tupM (consM (conM (.str "pick")) (consM (callM 25 (consM (varM 0) (consM (varM 1) nilM))) nilM))) nilM))) skipS)
def S29d : SS := (seqS (exprS (mtM mAppend (varM 5) (consM (tupM (consM (conM (.str "rest")) (consM (callM 25 (consM (varM 0) (consM (call0M 27) nilM))) (consM (binM opAdd (conM (.int 1)) (callM 24 (consM (varM 0) (consM (conM (.int 3)) nilM)))) nilM)))) nilM))) skipS)
def S29e : SS := (seqS (asgS (callM 29 (consM (varM 0) (consM (varM 1) (consM (varM 2) (consM (varM 3) (consM (binM opSub (varM 4) (conM (.int 1))) nilM)))))) (nameG 9)) (seqS (asgS (binM opSub (varM 3) (callM 30 (consM (varM 9) nilM))) (nameG 3)) (seqS (ifS (boolT (binM cEq (varM 6) (conM (.int 6)))) (seqS (exprS (mtM mAppend (varM 5) (consM (tupM (consM (conM (.str "while")) (consM (varM 7) (consM (varM 9) nilM)))) nilM))) skipS) (seqS (asgS (callM 29 (consM (varM 0) (consM (varM 1) (consM (varM 2) (consM (varM 3) (consM (binM opSub (varM 4) (conM (.int 1))) nilM)))))) (nameG 10)) (seqS (asgS (binM opSub (varM 3) (callM 30 (consM (varM 10) nilM))) (nameG 3)) (seqS (exprS (mtM mAppend (varM 5) (consM (tupM (consM (conM (.str "if")) (consM (varM 7) (consM (varM 9) (consM (varM 10) nilM))))) nilM))) skipS)))) skipS)))
def T29 : SS := (seqS (ifS (boolT (binM cLt (varM 6) (conM (.int 2)))) S29a (seqS (ifS (boolT (binM cLt (varM 6) (conM (.int 4)))) S29b (seqS (ifS (boolT (binM cEq (varM 6) (conM (.int 4)))) S29c (seqS (ifS (boolT (binM cEq (varM 6) (conM (.int 5)))) S29d (seqS (ifS (andT (boolT (binM cGt (varM 4) (conM (.int 1)))) (boolT (binM cGt (varM 3) (conM (.int 0))))) S29e skipS) skipS)) skipS)) skipS)) skipS)) skipS)
def B29 : SS := seqS (parS [6, 7] (consM (callM 24 (consM (varM 0) (consM (conM (.int 9)) nilM))) (consM (callM 28 (consM (varM 0) (consM (varM 1) (consM (conM (.int 3)) nilM)))) nilM))) (seqS (asgS (binM opSub (varM 3) (conM (.int 1))) (nameG 3)) T29)
theorem m29_eq : m29 = seqS (asgS (lstN nilM) (nameG 5)) (seqS (whileS C29 B29) (seqS (retS (bltM (keep bTup) (consM (varM 5) nilM))) skipS)) := rfl
abbrev Ev29 (l : Nat) (nms ts : List D) (m j q : Nat) (x6 x7 x8 x9 x10 : Option D) : PyI.Env := [some (.ref l), some (.lst nms), some (.tup ts), some (.int (m : Int)), some (.int (j : Int)), some (.ref q), x6, x7, x8, x9, x10]
def Tb (ts : List D) : Prop := ts = [] ∨ ∃ w, ts = [.tup [.str "t", w]]
def Aft (l : Nat) (nms ts : List D) (j q M : Nat) (st : Store) (m e W : Nat) (r : SR) : Prop := ∃ m' e' xs s x6 x7 x8 x9 x10, r = .nx (Ev29 l nms ts m' j q x6 x7 x8 x9 x10) s ∧ In29 l q j M st m' e' xs s ∧ m' ≤ m ∧ e' ≤ e + W
structure Nm (nms : List D) : Prop where
  lo : 1 ≤ nms.length
  hi : nms.length ≤ 3
  mem : ∀ x ∈ nms, x ∈ nmL
theorem In29.app {l q j M : Nat} {st s : Store} {m e : Nat} {xs : List D} (h : In29 l q j M st m e xs s) (hM : M ≤ 9) (y : D) : mAppend s (.ref q) [y] = some (.non, s.put q (.lst (xs ++ [y]))) := by
  have := h.len
  exact app_ok h.at_ (le_line (n := xs.length + 1) (by omega))
section
variable {n l q j M m e : Nat} {nms ts xs : List D} {st s : Store} {k : Int} {v : D} {x8 x9 x10 : Option D}
theorem s29b (hM : M ≤ 9) (hv : EG 3 v) (h : In29 l q j M st (m + 1) e xs s) : Aft l nms ts j q M st m e 4 (S29b (callN tab (n + 9)) (Ev29 l nms ts m j q (some (.int k)) (some v) x8 x9 x10) s) := by
  have hx : SG j (.tup [.str "tell", v]) := SG.tell hv
  have hw : wd (j + 3) (.tup [.str "tell", v]) = 1 := by
    have w0 : ¬ (("tell" : Str) = "set") := by decide
    have w1 : ¬ (("tell" : Str) = "if") := by decide
    have w2 : ¬ (("tell" : Str) = "while") := by decide
    have w3 : ¬ (("tell" : Str) = "rest") := by decide
    simp [wd, w0, w1, w2, w3, hv.six]
  refine ⟨m, e, _, _, some (.int k), some v, x8, x9, x10, ?_, h.push hx (by rw [hw]; omega), Nat.le_refl _, by omega⟩
  simp [S29b, isL_ref h.at_, h.app hM]
theorem s29c (hM : M ≤ 9) (hn : Nm nms) (hc : e + 100 ≤ 1000000000000) (h : In29 l q j M st (m + 1) e xs s) : Aft l nms ts j q M st m e 4 (S29c (callN tab (n + 9)) (Ev29 l nms ts m j q (some (.int k)) (some v) x8 x9 x10) s) := by
  have := hn.lo
  have := hn.hi
  obtain ⟨x, s1, e1, hx, h1, b1⟩ := p25 (n := n + 7) (xs := nms) (th := .lst nms) (.inl rfl) hn.lo (by omega) (by omega) h.hand
  have e1' : callN tab (n + 9) 25 [.ref l, .lst nms] s = .ok x s1 := e1
  have g := h.move h1 b1
  have hX : SG j (.tup [.str "pick", x]) := SG.pick (hn.mem x hx)
  have hw : wd (j + 3) (.tup [.str "pick", x]) = 1 := by
    have w0 : ¬ (("pick" : Str) = "set") := by decide
    have w1 : ¬ (("pick" : Str) = "if") := by decide
    have w2 : ¬ (("pick" : Str) = "while") := by decide
    have w3 : ¬ (("pick" : Str) = "rest") := by decide
    have w4 : ¬ (("pick" : Str) = "tell") := by decide
    simp [wd, w0, w1, w2, w3, w4, (nm_ok x (hn.mem x hx)).1]
  refine ⟨m, _, _, _, some (.int k), some v, x8, x9, x10, ?_, g.push hX (by rw [hw]; omega), Nat.le_refl _, by omega⟩
  simp [S29c, isL_ref h.at_, e1', g.app hM]
theorem s29d (hM : M ≤ 9) (hc : e + 100 ≤ 1000000000000) (h : In29 l q j M st (m + 1) e xs s) : Aft l nms ts j q M st m e 4 (S29d (callN tab (n + 9)) (Ev29 l nms ts m j q (some (.int k)) (some v) x8 x9 x10) s) := by
  obtain ⟨x, s1, e1, hx, h1, b1⟩ := p25 (n := n + 7) (xs := kindL) (th := .lst kindL) (.inl rfl) (by decide) (by decide) (by omega) h.hand
  have e1' : callN tab (n + 9) 25 [.ref l, .lst kindL] s = .ok x s1 := e1
  have e0 : callN tab (n + 9) 27 [] s = .ok (.lst kindL) s := p27 (n := n + 8)
  have g := h.move h1 b1
  obtain ⟨_, s2, e2, ⟨r, rfl, r0, r1⟩, h2, b2⟩ := p24 (n := n + 8) (m := 3) (by decide) (by decide) (by omega) g.hand
  have e2' : callN tab (n + 9) 24 [.ref l, .int 3] s1 = .ok (.int r) s2 := e2
  have g2 := g.move h2 b2
  have hX : SG j (.tup [.str "rest", x, .int (1 + r)]) := SG.rest hx r0 r1
  have hw : wd (j + 3) (.tup [.str "rest", x, .int (1 + r)]) = 1 := by
    have w1 : ¬ (("rest" : Str) = "if") := by decide
    have w2 : ¬ (("rest" : Str) = "while") := by decide
    have w0 : ¬ (("rest" : Str) = "set") := by decide
    have hi : isW (.int (1 + r)) 1 99 = true := by
      show (decide (1 ≤ 1 + r) && decide (1 + r ≤ 99)) = true
      rw [decide_eq_true (by omega : 1 ≤ 1 + r), decide_eq_true (by omega : 1 + r ≤ 99)]
      rfl
    simp [wd, w0, w1, w2, (kd_ok x hx).1, hi]
  refine ⟨m, _, _, _, some (.int k), some v, x8, x9, x10, ?_, g2.push hX (by rw [hw]; omega), Nat.le_refl _, by omega⟩
  simp [S29d, isL_ref h.at_, e0, e1', e2', g2.app hM]
theorem s29a (hM : M ≤ 9) (hn : Nm nms) (ht : Tb ts) (hv : EG 3 v) (hc : e + 100 ≤ 1000000000000) (h : In29 l q j M st (m + 1) e xs s) : Aft l nms ts j q M st m e 4 (S29a (callN tab (n + 9)) (Ev29 l nms ts m j q (some (.int k)) (some v) x8 x9 x10) s) := by
  have := hn.lo
  have := hn.hi
  have key : ∃ u s0, (ifM (boolT (binM cGt (bltM (keep bLen) (consM (varM 2) nilM)) (conM (.int 0)))) (tupM (consM (conM (.str "look")) (consM (binM ixD (callM 25 (consM (varM 0) (consM (varM 2) nilM))) (conM (.int 0))) (consM (varM 7) nilM)))) (varM 7)) (callN tab (n + 9)) (Ev29 l nms ts m j q (some (.int k)) (some v) x8 x9 x10) s = .ok u s0 ∧
      (u = v ∨ ∃ z, isNm (.str z) = true ∧ z.length ≤ 100 ∧ u = .tup [.str "look", .str z, v]) ∧ In29 l q j M st (m + 1) (e + 1) xs s0 := by
    rcases ht with rfl | ⟨w, rfl⟩
    · exact ⟨v, s, by simp, .inl rfl, h.move (h.hand.mono (by omega)) (.refl _ _)⟩
    · obtain ⟨x, s1, e1, hx, h1, b1⟩ := p25 (n := n + 7) (xs := [.tup [.str "t", w]]) (th := .tup [.tup [.str "t", w]]) (.inr rfl) (by show (1 : Nat) ≤ 1; decide) (by show (1 : Nat) ≤ 1000; decide) (by omega) h.hand
      rw [List.mem_singleton.mp hx] at e1
      have e1' : callN tab (n + 9) 25 [.ref l, .tup [.tup [.str "t", w]]] s = .ok (.tup [.str "t", w]) s1 := e1
      exact ⟨.tup [.str "look", .str "t", v], s1, by simp [e1'], .inr ⟨"t", by decide +kernel, by decide, rfl⟩, h.move h1 b1⟩
  obtain ⟨u, s0, e0, hu, g0⟩ := key
  obtain ⟨x, s1, e1, hx, h1, b1⟩ := p25 (n := n + 7) (xs := nms) (th := .lst nms) (.inl rfl) hn.lo (by omega) (by omega) g0.hand
  have e1' : callN tab (n + 9) 25 [.ref l, .lst nms] s0 = .ok x s1 := e1
  have g := g0.move h1 b1
  obtain ⟨y, s2, e2, hy, h2, b2⟩ := p25 (n := n + 7) (xs := [v, u]) (th := .lst [v, u]) (.inl rfl) (by show (1 : Nat) ≤ 2; decide) (by show (2 : Nat) ≤ 1000; decide) (by omega) g.hand
  have e2' : callN tab (n + 9) 25 [.ref l, .lst [v, u]] s1 = .ok y s2 := e2
  have g2 := g.move h2 b2
  have hyv : y = v ∨ ∃ z, isNm (.str z) = true ∧ z.length ≤ 100 ∧ y = .tup [.str "look", .str z, v] := by
    rcases List.mem_cons.mp hy with rfl | hy
    · exact .inl rfl
    · rw [List.mem_singleton.mp hy]
      exact hu
  have hX : SG j (.tup [.str "set", x, y]) := SG.set (hn.mem x hx) hv hyv
  have hw : wd (j + 3) (.tup [.str "set", x, y]) = 1 := by
    have w1 : ¬ (("set" : Str) = "if") := by decide
    have w2 : ¬ (("set" : Str) = "while") := by decide
    have hb : isE 6 y = true ∨ isLook y = true := by
      rcases hyv with rfl | ⟨z, z1, z2, rfl⟩
      · exact .inl hv.six
      · exact .inr (by simp [isLook, z1, hv.six])
    simp [wd, w1, w2, (nm_ok x (hn.mem x hx)).1, hb]
  refine ⟨m, _, _, _, some (.int k), some v, some u, x9, x10, ?_, g2.push hX (by rw [hw]; omega), Nat.le_refl _, by omega⟩
  unfold S29a
  rw [e_seqS, e_asg, e0]
  simp [isL_ref g0.at_, e1', e2', g2.app hM]
end
end L11
end

section
set_option Elab.async false
set_option linter.all false
set_option maxRecDepth 100000
set_option maxHeartbeats 2000000
namespace L11
open PySem PySem.Spec PyProof.Rows L2 PyI
def bk : Nat → Nat
  | 0 => 0
  | j + 1 => 1 + 9 * (50 + 2 * bk j)
def IH29 (N l j : Nat) (nms ts : List D) : Prop := ∀ (M c : Nat) (st : Store), M ≤ 9 → c + bk j + 200 ≤ 1000000000000 → Hand st l c → Dr l c (bk j) st (callN tab N 29 [.ref l, .lst nms, .tup ts, .int (M : Int), .int (j : Int)] st) (BG j M)
theorem s29e {n l q j M m e : Nat} {nms ts xs : List D} {st s : Store} {k : Int} {v : D} {x8 x9 x10 : Option D} (hM : M ≤ 9) (hI : IH29 (n + j + 10) l j nms ts) (hv : EG 3 v) (hc : e + 2 * bk j + 200 ≤ 1000000000000) (h : In29 l q (j + 1) M st (m + 1) e xs s) :
    Aft l nms ts (j + 1) q M st m e (2 * bk j) (S29e (callN tab (n + j + 10)) (Ev29 l nms ts m (j + 1) q (some (.int k)) (some v) x8 x9 x10) s) := by
  have hs := h.sum
  have hl := len_sum (k := j + 1 + 3) xs
  obtain ⟨_, s1, e1, g1, h1, b1⟩ := hI m e s (by omega) (by omega) h.hand
  obtain ⟨ys, rfl, y1, y2, y3, y4, y5, y6⟩ := g1.get (by omega)
  have f1 : ∀ s, callN tab (n + j + 10) 30 [.tup ys] s = .ok (.int (ys.map (wd (j + 3))).sum) s := fun s => by
    have := p30 (j + 3) (n + 5) ys s y1 y2
    rw [show n + 5 + (j + 3) + 2 = n + j + 10 from by omega] at this
    exact this
  have hj : ((j : Int) + 1 - 1) = (j : Int) := by omega
  generalize hS1 : (ys.map (wd (j + 3))).sum = S1 at *
  obtain ⟨m1, hm1⟩ : ∃ m1 : Nat, (m : Int) - S1 = (m1 : Int) := ⟨((m : Int) - S1).toNat, by omega⟩
  have i1 := h.move h1 b1
  by_cases hk : k = 6
  · obtain ⟨hX, hw⟩ := SG.while (j := j) (M := m) hv y1 y2 (by rw [hS1]; exact y3) y4
    rw [hS1] at hw
    refine ⟨m1, _, _, _, some (.int k), some v, x8, some (.tup ys), x10, ?_, i1.push hX (by rw [hw]; omega), by omega, by omega⟩
    subst hk
    simp [S29e, hj, e1, f1, hm1, isL_ref i1.at_, i1.app hM]
  · obtain ⟨_, s2, e2, g2, h2, b2⟩ := hI m1 (e + bk j) s1 (by omega) (by omega) h1
    obtain ⟨zs, rfl, z1, z2, z3, z4, z5, z6⟩ := g2.get (by omega)
    have f2 : ∀ s, callN tab (n + j + 10) 30 [.tup zs] s = .ok (.int (zs.map (wd (j + 3))).sum) s := fun s => by
      have := p30 (j + 3) (n + 5) zs s z1 z2
      rw [show n + 5 + (j + 3) + 2 = n + j + 10 from by omega] at this
      exact this
    obtain ⟨hX, hw⟩ := SG.ifs (j := j) hv y1 y2 (by rw [hS1]; exact y3) y4 z1 z2 z3 z4
    rw [hS1] at hw
    generalize hS2 : (zs.map (wd (j + 3))).sum = S2 at *
    obtain ⟨m2, hm2⟩ : ∃ m2 : Nat, (m1 : Int) - S2 = (m2 : Int) := ⟨((m1 : Int) - S2).toNat, by omega⟩
    have i2 := i1.move h2 b2
    refine ⟨m2, _, _, _, some (.int k), some v, x8, some (.tup ys), some (.tup zs), ?_, i2.push hX (by rw [hw]; omega), by omega, by omega⟩
    simp [S29e, hj, e1, f1, hm1, hk, e2, f2, hm2, isL_ref i2.at_, i2.app hM]
theorem T29_ok {n l q j M m e W : Nat} {nms ts xs : List D} {st s : Store} {k : Int} {v : D} {x8 x9 x10 : Option D} (hM : M ≤ 9) (hn : Nm nms) (ht : Tb ts) (hv : EG 3 v) (hc : e + 100 ≤ 1000000000000) (hW : 4 ≤ W) (h : In29 l q j M st (m + 1) e xs s)
    (hE : 1 < j → Aft l nms ts j q M st m e W (S29e (callN tab (n + 9)) (Ev29 l nms ts m j q (some (.int k)) (some v) x8 x9 x10) s)) :
    Aft l nms ts j q M st m e W (T29 (callN tab (n + 9)) (Ev29 l nms ts m j q (some (.int k)) (some v) x8 x9 x10) s) := by
  by_cases k0 : k < 2
  · obtain ⟨m', e', xs', s', y6, y7, y8, y9, y10, g1, g2, g3, g4⟩ := s29a (n := n) (nms := nms) (ts := ts) (k := k) (x8 := x8) (x9 := x9) (x10 := x10) hM hn ht hv hc h
    refine ⟨m', e', xs', s', y6, y7, y8, y9, y10, ?_, g2, g3, by omega⟩
    simp [T29, k0, g1]
  by_cases k1 : k < 4
  · obtain ⟨m', e', xs', s', y6, y7, y8, y9, y10, g1, g2, g3, g4⟩ := s29b (n := n) (nms := nms) (ts := ts) (k := k) (x8 := x8) (x9 := x9) (x10 := x10) hM hv h
    refine ⟨m', e', xs', s', y6, y7, y8, y9, y10, ?_, g2, g3, by omega⟩
    simp [T29, k0, k1, g1]
  by_cases k2 : k = 4
  · obtain ⟨m', e', xs', s', y6, y7, y8, y9, y10, g1, g2, g3, g4⟩ := s29c (n := n) (nms := nms) (ts := ts) (k := k) (v := v) (x8 := x8) (x9 := x9) (x10 := x10) hM hn hc h
    refine ⟨m', e', xs', s', y6, y7, y8, y9, y10, ?_, g2, g3, by omega⟩
    subst k2
    simp [T29, g1]
  by_cases k3 : k = 5
  · obtain ⟨m', e', xs', s', y6, y7, y8, y9, y10, g1, g2, g3, g4⟩ := s29d (n := n) (nms := nms) (ts := ts) (k := k) (v := v) (x8 := x8) (x9 := x9) (x10 := x10) hM hc h
    refine ⟨m', e', xs', s', y6, y7, y8, y9, y10, ?_, g2, g3, by omega⟩
    subst k3
    simp [T29, g1]
  by_cases k4 : 1 < j ∧ 0 < m
  · obtain ⟨m', e', xs', s', y6, y7, y8, y9, y10, g1, g2, g3, g4⟩ := hE k4.1
    refine ⟨m', e', xs', s', y6, y7, y8, y9, y10, ?_, g2, g3, by omega⟩
    have a1 : (1 : Int) < (j : Int) := by omega
    have a2 : (0 : Int) < (m : Int) := by omega
    simp [T29, k0, k1, k2, k3, a1, a2, k4.1, k4.2, g1]
  · refine ⟨m, e, xs, s, some (.int k), some v, x8, x9, x10, ?_, h.less (by omega), Nat.le_refl _, by omega⟩
    by_cases k5 : 1 < j
    · have a1 : (1 : Int) < (j : Int) := by omega
      have a3 : m = 0 := by omega
      subst a3
      simp [T29, k0, k1, k2, k3, a1, k5]
    · have a1 : ¬ (1 : Int) < (j : Int) := by omega
      simp [T29, k0, k1, k2, k3, a1, k5]
theorem whileL_to {t : TT'} {body : SS} {cl : CL} (Iv : Nat → PyI.Env → Store → Prop) (Q : PyI.Env → Store → Prop) (step : ∀ k env st, Iv k env st → (∃ s1, t cl env st = .ok false s1 ∧ Q env s1) ∨ (∃ s1, t cl env st = .ok true s1 ∧ ∃ k' env' st', k' < k ∧ body cl env s1 = .nx env' st' ∧ Iv k' env' st')) :
    ∀ (f k : Nat) (env : PyI.Env) (st : Store), k < f → Iv k env st → ∃ env' st' , whileL t body cl f env st = .nx env' st' ∧ Q env' st'
  | 0, _, _, _, h, _ => absurd h (Nat.not_lt_zero _)
  | f + 1, k, env, st, h, hi => by
    obtain ⟨s1, h1, h2⟩ | ⟨s1, h1, k', env', st', hk, h2, h3⟩ := step k env st hi
    · refine ⟨env, s1, ?_, h2⟩
      unfold whileL
      rw [h1]
      rfl
    · obtain ⟨e2, s2, h4, h5⟩ := whileL_to Iv Q step f k' env' st' (by omega) h3
      refine ⟨e2, s2, ?_, h5⟩
      unfold whileL
      rw [h1]
      show (match body cl env s1 with
        | .nx e s => whileL t body cl f e s
        | .ct e s => whileL t body cl f e s
        | .bk e s => .nx e s
        | .ret d s => .ret d s
        | .exc x e s => .exc x e s
        | .stuck => .stuck) = _
      rw [h2]
      exact h4
theorem B29_ok {n l q j M m e W : Nat} {nms ts xs : List D} {st s : Store} {x6 x7 x8 x9 x10 : Option D} (hM : M ≤ 9) (hn : Nm nms) (ht : Tb ts) (hc : e + 150 ≤ 1000000000000) (hW : 4 ≤ W) (h : In29 l q j M st (m + 1) e xs s)
    (hE : 1 < j → ∀ k v s, EG 3 v → In29 l q j M st (m + 1) (e + 39) xs s → Aft l nms ts j q M st m (e + 39) W (S29e (callN tab (n + 9)) (Ev29 l nms ts m j q (some (.int k)) (some v) x8 x9 x10) s)) :
    Aft l nms ts j q M st m e (39 + W) (B29 (callN tab (n + 9)) (Ev29 l nms ts (m + 1) j q x6 x7 x8 x9 x10) s) := by
  obtain ⟨_, s1, e1, ⟨k, rfl, k0, k1⟩, h1, b1⟩ := p24 (n := n + 8) (m := 9) (by decide) (by decide) (by omega) h.hand
  have e1' : callN tab (n + 9) 24 [.ref l, .int 9] s = .ok (.int k) s1 := e1
  obtain ⟨v, s2, e2, hv, h2, b2⟩ := p28 hn.lo hn.hi hn.mem 3 (n + 4) (e + 1) l s1 (by decide) (by rw [dn3]; omega) h1
  rw [dn3] at h2
  have e2' : callN tab (n + 9) 28 [.ref l, .lst nms, .int 3] s1 = .ok v s2 := e2
  have i2 : In29 l q j M st (m + 1) (e + 39) xs s2 := (h.move h1 b1).move (h2.mono (by omega)) b2
  obtain ⟨m', e', xs', s', y6, y7, y8, y9, y10, g1, g2, g3, g4⟩ := T29_ok (n := n) (k := k) (x8 := x8) (x9 := x9) (x10 := x10) hM hn ht hv (by omega) hW i2 (fun hj => hE hj k v s2 hv i2)
  refine ⟨m', e', xs', s', y6, y7, y8, y9, y10, ?_, g2, g3, by omega⟩
  simp [B29, e1', e2', g1]
theorem p29 {l : Nat} {nms ts : List D} (hn : Nm nms) (ht : Tb ts) : ∀ (j n : Nat), 1 ≤ j → j ≤ 3 → IH29 (n + j + 10) l j nms ts
  | 0, _, h, _ => absurd h (by omega)
  | j + 1, n, _, hj => fun M c st hM hc h => by
    rw [show n + (j + 1) + 10 = (n + j + 10) + 1 from by omega, call_tab t29, m29_eq]
    have hb : bk (j + 1) = 1 + 9 * (50 + 2 * bk j) := rfl
    generalize hW : 50 + 2 * bk j = W at hb
    have start : In29 l st.nx (j + 1) M st M c [] (st.new (.lst [])) :=
      ⟨h.ext Ext.new, Ext.new.but, Nat.lt_succ_self _, Nat.le_refl _, by have := h.lt; omega, list_new, fun x hx => (by cases hx), by show (0 : Int) + (M : Int) ≤ (M : Int); omega⟩
    obtain ⟨env', s', w1, m, e, xs, y6, y7, y8, y9, y10, rfl, w2, w3⟩ := whileL_to (t := C29) (body := B29) (cl := callN tab (n + j + 10))
      (fun k env s => ∃ (e : Nat) (xs : List D) (x6 x7 x8 x9 x10 : Option D), env = Ev29 l nms ts k (j + 1) st.nx x6 x7 x8 x9 x10 ∧ In29 l st.nx (j + 1) M st k e xs s ∧ e + k * W ≤ c + 9 * W)
      (fun env s => ∃ (m e : Nat) (xs : List D) (x6 x7 x8 x9 x10 : Option D), env = Ev29 l nms ts m (j + 1) st.nx x6 x7 x8 x9 x10 ∧ In29 l st.nx (j + 1) M st m e xs s ∧ e ≤ c + 9 * W + 1)
      (fun k env s ⟨e, xs, x6, x7, x8, x9, x10, he, hi, hw⟩ => by
        subst he
        cases k with
        | zero => exact .inl ⟨s, by simp [C29], 0, e, xs, x6, x7, x8, x9, x10, rfl, hi, by omega⟩
        | succ k =>
          have hsm : (k + 1) * W = k * W + W := Nat.succ_mul k W
          have hpos : (0 : Int) < (k : Int) + 1 := by omega
          obtain ⟨_, s1, e1, ⟨r, rfl, r0, r1⟩, h1, b1⟩ := p24 (n := n + j + 9) (m := 6) (by decide) (by decide) (by omega) hi.hand
          have e1' : callN tab (n + j + 10) 24 [.ref l, .int 6] s = .ok (.int r) s1 := e1
          by_cases hr : 0 < r
          · refine .inr ⟨s1, by simp [C29, hpos, e1', hr], ?_⟩
            obtain ⟨m', e', xs', s', y6, y7, y8, y9, y10, g1, g2, g3, g4⟩ := B29_ok (n := n + j + 1) (q := st.nx) (j := j + 1) (M := M) (m := k) (W := 4 + 2 * bk j) (x6 := x6) (x7 := x7) (x8 := x8) (x9 := x9) (x10 := x10) hM hn ht (by omega) (by omega) (hi.move h1 b1)
              (fun hj1 kk v s2 hv i2 => by
                have hI := p29 (l := l) hn ht j n (by omega) (by omega)
                obtain ⟨m', e', xs', s', y6, y7, y8, y9, y10, g1, g2, g3, g4⟩ := s29e (n := n) (j := j) (k := kk) (x8 := x8) (x9 := x9) (x10 := x10) hM hI hv (by omega) i2
                exact ⟨m', e', xs', s', y6, y7, y8, y9, y10, g1, g2, g3, by omega⟩)
            have hmm : m' * W ≤ k * W := Nat.mul_le_mul_right W g3
            exact ⟨m', _, s', by omega, g1, e', xs', y6, y7, y8, y9, y10, rfl, g2, by omega⟩
          · exact .inl ⟨s1, by simp [C29, hpos, e1', hr], k + 1, e + 1, xs, x6, x7, x8, x9, x10, rfl, hi.move h1 b1, by omega⟩)
      turns M (Ev29 l nms ts M (j + 1) st.nx none none none none none) (st.new (.lst [])) (by show M < 1000000000; omega) ⟨c, [], none, none, none, none, none, rfl, start, by
        have := Nat.mul_le_mul_right W hM
        omega⟩
    have hsum := w2.sum
    refine ⟨.tup xs, s', run_ret ?_, ⟨xs, rfl, w2.ok, by omega⟩, w2.hand.mono (by omega), w2.but⟩
    have hw : whileS C29 B29 (callN tab (n + j + 10)) [some (.ref l), some (.lst nms), some (.tup ts), some (.int (M : Int)), some (.int ((j : Int) + 1)), some (.ref st.nx), none, none, none, none, none] (st.new (.lst [])) =
      .nx [some (.ref l), some (.lst nms), some (.tup ts), some (.int (m : Int)), some (.int ((j : Int) + 1)), some (.ref st.nx), y6, y7, y8, y9, y10] s' := w1
    have ht : bTup s' [.ref st.nx] = some (.tup xs) := by
      show (lOf s' (.ref st.nx)).map D.tup = _
      have : lOf s' (.ref st.nx) = some xs := w2.at_
      rw [this]
      rfl
    simp [newL_ok, hw, ht]
end L11
end

section
set_option Elab.async false
set_option linter.all false
set_option maxRecDepth 100000
set_option maxHeartbeats 2000000
namespace L11
open PySem PySem.Spec PyProof.Rows L2 PyI
theorem compR_inv {tg : GG} {el : EE} {cl : CL} {env : PyI.Env} (Iv : Nat → Store → Prop) (P : D → Prop) : ∀ {xs acc : List D} {st : Store}, (∀ x ∈ xs, ∀ k st, Iv (k + 1) st → ∃ l, tg x = some l ∧ ∃ y s', el cl (putE l env) st = .ok y s' ∧ P y ∧ Iv k s') → acc.length + xs.length ≤ sizeLine → Iv xs.length st →
    ∃ ys s', compR tg yesT el cl env xs acc st = .ok (acc ++ ys) s' ∧ ys.length = xs.length ∧ (∀ y ∈ ys, P y) ∧ Iv 0 s'
  | [], acc, st, _, _, hi => ⟨[], st, by rw [List.append_nil]; rfl, rfl, fun y hy => (by cases hy), hi⟩
  | x :: r, acc, st, h, hl, hi => by
    rw [List.length_cons] at hl hi
    obtain ⟨l, h1, y, s', h2, h3, h4⟩ := h x List.mem_cons_self r.length st hi
    obtain ⟨ys, s2, g1, g2, g3, g4⟩ := compR_inv Iv P (xs := r) (acc := acc ++ [y]) (st := s') (fun z hz => h z (List.mem_cons_of_mem _ hz)) (by rw [List.length_append, List.length_singleton]; omega) h4
    refine ⟨y :: ys, s2, ?_, by rw [List.length_cons, List.length_cons, g2], fun z hz => ?_, g4⟩
    · unfold compR
      rw [h1]
      show (el cl (putE l env) st).bindN (fun y s2 => if acc.length < sizeLine then compR tg yesT el cl env r (acc ++ [y]) s2 else .stuck) = _
      rw [h2, bindN_ok, if_pos (by omega), g1, List.append_assoc]
      rfl
    · rcases List.mem_cons.mp hz with rfl | hz
      · exact h3
      · exact g3 z hz
theorem lc_inv {own : List Nat} {iter : II} {tg : GG} {el : EE} {cl : CL} {env : PyI.Env} {st0 st : Store} {xs : List D} (Iv : Nat → Store → Prop) (P : D → Prop) (hit : iter cl env st0 = .ok (.items xs) st) (h : ∀ x ∈ xs, ∀ k st, Iv (k + 1) st → ∃ l, tg x = some l ∧ ∃ y s', el cl (putE l (wipeE own env)) st = .ok y s' ∧ P y ∧ Iv k s') (hl : xs.length ≤ sizeLine) (hi : Iv xs.length st) :
    ∃ ys s', lcM (compA own iter tg yesT el) cl env st0 = .ok (.lst ys) s' ∧ ys.length = xs.length ∧ (∀ y ∈ ys, P y) ∧ Iv 0 s' := by
  obtain ⟨ys, s', g1, g2, g3, g4⟩ := compR_inv (tg := tg) (el := el) (cl := cl) (env := wipeE own env) Iv P (xs := xs) (acc := []) h (by rw [List.length_nil]; omega) hi
  refine ⟨ys, s', ?_, g2, g3, g4⟩
  unfold lcM
  rw [e_comp hit, g1]
  rfl
@[simp] theorem e_revV {a : EE} {cl : CL} {env : PyI.Env} {st : Store} : revM a cl env st = (a cl env st).bind fun x s1 => match x with
  | .tup xs => .ok (.tup xs.reverse) s1
  | _ => .stuck := rfl
@[simp] theorem bTup_lst {st : Store} {xs : List D} : bTup st [.lst xs] = some (.tup xs) := rfl
@[simp] theorem bTup_tup {st : Store} {xs : List D} : bTup st [.tup xs] = some (.tup xs) := rfl
/-! drawn programs -/
def CG (size : Int) (x : D) : Prop := ∃ nm v, x = .tup [nm, v] ∧ nm ∈ nmL ∧ (v = .str "hidden" ∨ v = .str "open" ∨ ∃ r, v = .int r ∧ 0 ≤ r ∧ r < size)
def WG (size : Int) (y : D) : Prop := ∃ r, y = .int r ∧ 0 ≤ r ∧ r < size
structure PGs (w : Int) (sn : Nat) (cs ts ys : List D) : Prop where
  w : (w = 1 ∧ sn = 2) ∨ (w = 2 ∧ sn = 4)
  c0 : 2 ≤ cs.length
  c1 : cs.length ≤ 3
  c : ∀ x ∈ cs, CG (sn : Int) x
  t : ts = [] ∨ ∃ ws, ts = [.tup [.str "t", .tup ws]] ∧ ws.length = sn ∧ ∀ y ∈ ws, WG (sn : Int) y
  b : BG 3 9 (.tup ys)
def PG (d : D) : Prop := ∃ w sn cs ts ys, d = .tup [.int w, .tup cs, .tup ts, .tup ys] ∧ PGs w sn cs ts ys
def fs : D → D
  | .tup (a :: _) => a
  | _ => .non
theorem p32 {n l c : Nat} {st : Store} (hc : c + 200000 ≤ 1000000000000) (h : Hand st l c) : Dr l c 200000 st (callN tab (n + 14) 32 [.ref l] st) PG := by
  rw [call_tab t32]
  obtain ⟨_, s1, e1, ⟨r1, rfl, a1, b1⟩, h1, m1⟩ := p24 (n := n + 12) (m := 2) (by decide) (by decide) (by omega) h
  obtain ⟨w, hw⟩ : ∃ w : Int, 1 + r1 = w := ⟨_, rfl⟩
  obtain ⟨sn, hsn⟩ : ∃ sn : Nat, (w = 1 ∧ sn = 2) ∨ (w = 2 ∧ sn = 4) := by
    by_cases hr : r1 = 0
    · exact ⟨2, .inl ⟨by omega, rfl⟩⟩
    · exact ⟨4, .inr ⟨by omega, rfl⟩⟩
  have hm : ∀ s, opMul s (.int 2) (.int w) = some (.int (sn : Int)) := fun s => by rcases hsn with ⟨rfl, rfl⟩ | ⟨rfl, rfl⟩ <;> rfl
  have hs0 : 0 < (sn : Int) := by omega
  have hs1 : (sn : Int) ≤ 1000000 := by omega
  obtain ⟨_, s2, e2, ⟨r2, rfl, a2, b2⟩, h2, m2⟩ := p24 (n := n + 12) (m := (sn : Int)) hs0 hs1 (by omega) h1
  obtain ⟨sec, s3, e3, hsec, h3, m3⟩ := p25 (n := n + 11) (xs := [.str "open", .str "hidden", .int r2]) (th := .lst [.str "open", .str "hidden", .int r2]) (.inl rfl) (by show (1 : Nat) ≤ 3; decide) (by show (3 : Nat) ≤ 1000; decide) (by omega) h2
  obtain ⟨_, s4, e4, ⟨r4, rfl, a4, b4⟩, h4, m4⟩ := p24 (n := n + 12) (m := (sn : Int)) hs0 hs1 (by omega) h3
  obtain ⟨_, s5, e5, ⟨r5, rfl, a5, b5⟩, h5, m5⟩ := p24 (n := n + 12) (m := 2) (by decide) (by decide) (by omega) h4
  obtain ⟨cs, hcut, hcl0, hcl1, hcm⟩ : ∃ cs, (∀ s, cutD s (.tup [.tup [.str "a", .str "hidden"], .tup [.str "b", sec], .tup [.str "c", .int r4]]) none (some (2 + r5)) = some (.tup cs)) ∧ 2 ≤ cs.length ∧ cs.length ≤ 3 ∧ ∀ x ∈ cs, CG (sn : Int) x := by
    have g1 : CG (sn : Int) (.tup [.str "a", .str "hidden"]) := ⟨_, _, rfl, by simp [nmL], .inl rfl⟩
    have g2 : CG (sn : Int) (.tup [.str "b", sec]) := ⟨_, _, rfl, by simp [nmL], by
      simp only [List.mem_cons, List.not_mem_nil, or_false] at hsec
      rcases hsec with rfl | rfl | rfl
      · exact .inr (.inl rfl)
      · exact .inl rfl
      · exact .inr (.inr ⟨r2, rfl, a2, b2⟩)⟩
    have g3 : CG (sn : Int) (.tup [.str "c", .int r4]) := ⟨_, _, rfl, by simp [nmL], .inr (.inr ⟨r4, rfl, a4, b4⟩)⟩
    by_cases hr : r5 = 0
    · subst hr
      refine ⟨[.tup [.str "a", .str "hidden"], .tup [.str "b", sec]], fun s => rfl, Nat.le_refl _, by show (2 : Nat) ≤ 3; decide, fun x hx => ?_⟩
      simp only [List.mem_cons, List.not_mem_nil, or_false] at hx
      rcases hx with rfl | rfl
      · exact g1
      · exact g2
    · have : r5 = 1 := by omega
      subst this
      refine ⟨[.tup [.str "a", .str "hidden"], .tup [.str "b", sec], .tup [.str "c", .int r4]], fun s => rfl, by show (2 : Nat) ≤ 3; decide, Nat.le_refl _, fun x hx => ?_⟩
      simp only [List.mem_cons, List.not_mem_nil, or_false] at hx
      rcases hx with rfl | rfl | rfl
      · exact g1
      · exact g2
      · exact g3
  obtain ⟨_, s6, e6, ⟨r6, rfl, a6, b6⟩, h6, m6⟩ := p24 (n := n + 12) (m := 3) (by decide) (by decide) (by omega) h5
  obtain ⟨ds, hds, hdl0, hdl1, hdm⟩ : ∃ ds, (if r6 = 0 then D.tup cs.reverse else .tup cs) = .tup ds ∧ 2 ≤ ds.length ∧ ds.length ≤ 3 ∧ ∀ x ∈ ds, CG (sn : Int) x := by
    by_cases hr : r6 = 0
    · exact ⟨cs.reverse, if_pos hr, by rw [List.length_reverse]; exact hcl0, by rw [List.length_reverse]; exact hcl1, fun x hx => hcm x (List.mem_reverse.mp hx)⟩
    · exact ⟨cs, if_neg hr, hcl0, hcl1, hcm⟩
  have hrg : ∀ x6 x7 x8 x9, argM rng1 (consM (varM 2) nilM) (callN tab (n + 13)) [some (.ref l), some (.int w), some (.int (sn : Int)), some sec, some (.tup ds), none, x6, x7, x8, x9] s6 = .ok (.items ((List.range sn).map fun (i : Nat) => D.int (i : Int))) s6 := fun x6 x7 x8 x9 => e_rng1 (by simp) (by omega)
  obtain ⟨ws, s7, e7, hwl, hwm, _, h7, m7⟩ := lc_inv (own := [6]) (iter := argM rng1 (consM (varM 2) nilM)) (tg := nameG 6) (el := callM 24 (consM (varM 0) (consM (varM 2) nilM))) (cl := callN tab (n + 13)) (env := [some (.ref l), some (.int w), some (.int (sn : Int)), some sec, some (.tup ds), none, none, none, none, none]) (st := s6)
    (fun k s => k ≤ 4 ∧ Hand s l (c + 6 + (4 - k)) ∧ But l s6 s) (WG (sn : Int)) (hrg none none none none) (fun x hx k s ⟨hk, hh, hb⟩ => by
      refine ⟨_, rfl, ?_⟩
      obtain ⟨_, s', e', ⟨r, rfl, p, q⟩, h', m'⟩ := p24 (n := n + 12) (m := (sn : Int)) hs0 hs1 (by omega) hh
      exact ⟨.int r, s', by simp [wipeE]; exact e', ⟨r, rfl, p, q⟩, by omega, h'.mono (by omega), hb.trans m'⟩) (le_line (by rw [List.length_map, List.length_range]; omega)) ⟨by rw [List.length_map, List.length_range]; omega, h6.mono (by omega), .refl _ _⟩
  rw [List.length_map, List.length_range] at hwl
  obtain ⟨_, s8, e8, ⟨r8, rfl, a8, b8⟩, h8, m8⟩ := p24 (n := n + 12) (m := 2) (by decide) (by decide) (by omega) h7
  obtain ⟨ts, htc, htg⟩ : ∃ ts, (∀ s, cutD s (.tup [.tup [.str "t", .tup ws]]) none (some r8) = some (.tup ts)) ∧ (ts = [] ∨ ts = [.tup [.str "t", .tup ws]]) := by
    by_cases hr : r8 = 0
    · subst hr
      exact ⟨[], fun s => rfl, .inl rfl⟩
    · have : r8 = 1 := by omega
      subst this
      exact ⟨_, fun s => rfl, .inr rfl⟩
  have e9 : lcM (compA [9] (seqI (varM 4)) (nameG 9) yesT (binM ixD (varM 9) (conM (.int 0)))) (callN tab (n + 13)) [some (.ref l), some (.int w), some (.int (sn : Int)), some sec, some (.tup ds), some (.tup ws), none, some (.tup ts), none, none] s8 = .ok (.lst (ds.map fs)) s8 :=
    lc_map fs (e_seqT (by simp)) (fun x hx => by
      obtain ⟨nm, v, rfl, _⟩ := hdm x hx
      exact ⟨_, rfl, by simp [wipeE, fs]⟩) (le_line (by omega))
  have hn : Nm (ds.map fs) := ⟨by rw [List.length_map]; omega, by rw [List.length_map]; omega, fun x hx => by
    obtain ⟨y, hy, rfl⟩ := List.mem_map.mp hx
    obtain ⟨nm, v, rfl, hm, _⟩ := hdm y hy
    exact hm⟩
  obtain ⟨b, s9, e10, hb, h9, m9⟩ := p29 (l := l) hn (ts := ts) (htg.imp id fun e => ⟨_, e⟩) 3 n (by decide) (by decide) 9 (c + 12) s8 (by decide) (by have : bk 3 = 154693 := rfl; omega) (h8.mono (by omega))
  have hbk : bk 3 = 154693 := rfl
  obtain ⟨ys, rfl, hb1, hb2⟩ := hb
  have hmv := (((((((m1.trans m2).trans m3).trans m4).trans m5).trans m6).trans m7).trans m8).trans m9
  refine ⟨.tup [.int w, .tup ds, .tup ts, .tup ys], s9, run_ret ?_, ⟨w, sn, ds, ts, ys, rfl, hsn, hdl0, hdl1, hdm, ?_, ⟨ys, rfl, hb1, hb2⟩⟩, h9.mono (by omega), hmv⟩
  · have e1' : callN tab (n + 13) 24 [.ref l, .int 2] st = .ok (.int r1) s1 := e1
    have e2' : callN tab (n + 13) 24 [.ref l, .int (sn : Int)] s1 = .ok (.int r2) s2 := e2
    have e3' : callN tab (n + 13) 25 [.ref l, .lst [.str "open", .str "hidden", .int r2]] s2 = .ok sec s3 := e3
    have e4' : callN tab (n + 13) 24 [.ref l, .int (sn : Int)] s3 = .ok (.int r4) s4 := e4
    have e5' : callN tab (n + 13) 24 [.ref l, .int 2] s4 = .ok (.int r5) s5 := e5
    have e6' : callN tab (n + 13) 24 [.ref l, .int 3] s5 = .ok (.int r6) s6 := e6
    have e8' : callN tab (n + 13) 24 [.ref l, .int 2] s7 = .ok (.int r8) s8 := e8
    have e10' : callN tab (n + 13) 29 [.ref l, .lst (ds.map fs), .tup ts, .int 9, .int 3] s8 = .ok (.tup ys) s9 := e10
    by_cases hr : r6 = 0
    · rw [if_pos hr] at hds
      injection hds with hds
      subst hds
      simp [m32, e1', hw, hm, e2', e3', e4', e5', hcut, e6', hr, e7, e8', htc, e9, e10', -List.map_reverse]
    · rw [if_neg hr] at hds
      injection hds with hds
      subst hds
      simp [m32, e1', hw, hm, e2', e3', e4', e5', hcut, e6', hr, e7, e8', htc, e9, e10', -List.map_reverse]
  · rcases htg with rfl | rfl
    · exact .inl rfl
    · exact .inr ⟨ws, rfl, hwl, hwm⟩
end L11
end

section
set_option Elab.async false
set_option linter.all false
set_option maxRecDepth 100000
set_option maxHeartbeats 2000000
namespace L11
open PySem PySem.Spec PyProof.Rows L2 PyI
theorem le_line3 {n : Nat} (h : n ≤ 1001) : n ≤ sizeLine := big_line (by omega)
/-! two answers alike -/
theorem p26 {n : Nat} {b : Bool} {st : Store} : callN tab (n + 1) 26 [.bl b, .bl b] st = .ok (.bl true) st := by
  rw [call_tab t26]
  refine run_ret ?_
  cases b <;> rfl
theorem p26t {n : Nat} {a b c : Bool} {st : Store} : callN tab (n + 2) 26 [.tup [.bl a, .bl b, .bl c], .tup [.bl a, .bl b, .bl c]] st = .ok (.bl true) st := by
  rw [call_tab t26]
  refine run_ret ?_
  cases a <;> cases b <;> cases c <;> rfl
/-! odd things -/
def oddL : List D := [.non, .bl true, .int (-1), .int 8, .int 7, .str "A", .str "", .str "toolongname", .str "b", .tup [], .tup [.str "word", .bl true], .tup [.str "word", .int 8], .lst [.str "cell", .str "a"], .dct [] [], .tup [.str "cell", .int 3], .tup [.str "not", .tup [.str "word", .int 1], .int 2], .tup [.str "rest", .str "go", .int 100], .tup [.str "rest", .str "stop", .int 1]]
theorem odd_ok : ∀ x ∈ oddL, dt x = true ∧ szD x ≤ 6 ∧ dpD x ≤ 2 := by decide +kernel
theorem p42 {n l c : Nat} {st : Store} (hc : c + 10 ≤ 1000000000000) (h : Hand st l c) : Dr l c 1 st (callN tab (n + 3) 42 [.ref l] st) (fun d => d ∈ oddL) := by
  rw [call_tab t42]
  obtain ⟨x, s1, e1, hx, h1, b1⟩ := p25 (n := n) (xs := oddL) (th := .lst oddL) (.inl rfl) (by show (1 : Nat) ≤ 18; decide) (by show (18 : Nat) ≤ 1000; decide) (by omega) h
  refine ⟨x, s1, run_ret ?_, hx, h1, b1⟩
  have ha : ∀ s, opAdd s (.lst [.non, .bl true, .int (-1), .int 8, .int 7, .str "A", .str "", .str "toolongname", .str "b", .tup [], .tup [.str "word", .bl true], .tup [.str "word", .int 8], .lst [.str "cell", .str "a"], .dct [] []]) (.lst [.tup [.str "cell", .int 3], .tup [.str "not", .tup [.str "word", .int 1], .int 2], .tup [.str "rest", .str "go", .int 100], .tup [.str "rest", .str "stop", .int 1]]) = some (.lst oddL) := fun s => rfl
  have e1' : callN tab (n + 2) 25 [.ref l, .lst oddL] st = .ok x s1 := e1
  simp [m42, ha, e1']
/-! bent things -/
theorem cutL_to {xs : List D} {i : Nat} (h : i ≤ xs.length) : cutL xs none (some (i : Int)) = xs.take i := by
  unfold cutL
  have e1 : HT.sIx xs.length 0 none = 0 := rfl
  have e2 : HT.sIx xs.length xs.length (some (i : Int)) = min i xs.length := HT.sIx_nat _ _ i
  rw [e1, e2, List.drop_zero, Nat.sub_zero, Nat.min_eq_left h]
theorem cutL_from {xs : List D} {i : Nat} (h : i ≤ xs.length) : cutL xs (some (i : Int)) none = xs.drop i := by
  unfold cutL
  have e1 : HT.sIx xs.length xs.length none = xs.length := rfl
  have e2 : HT.sIx xs.length 0 (some (i : Int)) = min i xs.length := HT.sIx_nat _ _ i
  rw [e1, e2, Nat.min_eq_left h]
  exact List.take_of_length_le (by rw [List.length_drop]; omega)
structure Be (d y : D) : Prop where
  dt : dt y = true
  sz : szD y ≤ szD d + 6
  dp : dpD y ≤ dpD d + 3
theorem dts_all : ∀ {xs : List D}, (∀ x ∈ xs, dt x = true) → dts xs = true
  | [], _ => rfl
  | x :: r, h => by
    show (PyI.dt x && dts r) = true
    rw [h x List.mem_cons_self, dts_all fun y hy => h y (List.mem_cons_of_mem _ hy)]
    rfl
theorem dt_seq {xs : List D} (h : ∀ x ∈ xs, dt x = true) (hl : xs.length ≤ 1000) : dt (.tup xs) = true ∧ dt (.lst xs) = true := by
  have : (dts xs && decide (xs.length ≤ 1000)) = true := by rw [dts_all h, decide_eq_true hl]; rfl
  exact ⟨this, this⟩
theorem dpDs_le {b : Nat} : ∀ {xs : List D}, (∀ x ∈ xs, dpD x ≤ b) → dpDs xs ≤ b
  | [], _ => Nat.zero_le _
  | x :: r, h => by
    rw [dpDs_cons]
    have := h x List.mem_cons_self
    have := dpDs_le (xs := r) fun y hy => h y (List.mem_cons_of_mem _ hy)
    omega
theorem szDs_rev : ∀ xs : List D, szDs xs.reverse = szDs xs
  | [] => rfl
  | x :: r => by
    rw [List.reverse_cons, szDs_app, szDs_rev r, szDs_cons, szDs_cons, szDs_nil]
    omega
theorem split_at {xs : List D} {i : Nat} (h : i < xs.length) : ∃ y, xs[i]? = some y ∧ xs = xs.take i ++ y :: xs.drop (i + 1) := by
  refine ⟨xs[i], List.getElem?_eq_getElem h, ?_⟩
  rw [← List.drop_eq_getElem_cons h, List.take_append_drop]
/-- an odd thing in place of any -/
theorem Be.odd {d y : D} (h : y ∈ oddL) : Be d y := by
  obtain ⟨h1, h2, h3⟩ := odd_ok y h
  exact ⟨h1, by omega, by omega⟩
theorem p43 : ∀ (k n c l : Nat) (d : D) (st : Store), PyI.dt d = true → szD d ≤ 900 → c + 5 * (k + 1) + 10 ≤ 1000000000000 → Hand st l c → Dr l c (5 * (k + 1)) st (callN tab (n + k + 4) 43 [.ref l, d, .int (k : Int)] st) (Be d)
  | k, n, c, l, d, st, hd, hsz, hc, h => by
    rw [call_tab t43]
    have direct : (∀ y s', callN tab (n + k + 3) 42 [.ref l] st = .ok y s' → m43 (callN tab (n + k + 3)) ([D.ref l, d, D.int (k : Int)].map some ++ List.replicate (5 - [D.ref l, d, D.int (k : Int)].length) none) st = .ret y s') → Dr l c (5 * (k + 1)) st (runF 5 m43 (callN tab (n + k + 3)) [.ref l, d, .int (k : Int)] st) (Be d) := fun hh => by
      obtain ⟨y, s1, e1, hy, h1, b1⟩ := p42 (n := n + k) (by omega) h
      exact ⟨y, s1, run_ret (hh y s1 e1), .odd hy, h1.mono (by omega), b1⟩
    cases d with
    | tup xs =>
      rw [szD_tup] at hsz
      have hlen := szDs_len xs
      have hm := dt_mem hd
      by_cases h0 : xs.length = 0
      · exact direct fun y s' e => by simp [m43, h0, e]
      cases k with
      | zero => exact direct fun y s' e => by simp [m43, h0, e]
      | succ k =>
        obtain ⟨_, s1, e1, ⟨r, rfl, r0, r1⟩, h1, b1⟩ := p24 (n := n + k + 3) (m := 4) (by decide) (by decide) (by omega) h
        have e1' : callN tab (n + (k + 1) + 3) 24 [.ref l, .int 4] st = .ok (.int r) s1 := e1
        have k0 : ¬ ((k : Int) + 1 = 0) := by omega
        have h0' : ¬ xs = [] := fun z => h0 (by rw [z]; rfl)
        by_cases hr : r = 0
        · obtain ⟨y, s2, e2, hy, h2, b2⟩ := p42 (n := n + k + 1) (by omega) h1
          have e2' : callN tab (n + (k + 1) + 3) 42 [.ref l] s1 = .ok y s2 := e2
          refine ⟨y, s2, run_ret ?_, .odd hy, h2.mono (by omega), b1.trans b2⟩
          simp [m43, h0, h0', k0, e1', hr, e2']
        · obtain ⟨_, s2, e2, ⟨i, rfl, i0, i1⟩, h2, b2⟩ := p24 (n := n + k + 3) (m := (xs.length : Int)) (by omega) (by omega) (by omega) h1
          have e2' : callN tab (n + (k + 1) + 3) 24 [.ref l, .int (xs.length : Int)] s1 = .ok (.int i) s2 := e2
          obtain ⟨_, s3, e3, ⟨w, rfl, w0, w1⟩, h3, b3⟩ := p24 (n := n + k + 3) (m := 6) (by decide) (by decide) (by omega) h2
          have e3' : callN tab (n + (k + 1) + 3) 24 [.ref l, .int 6] s2 = .ok (.int w) s3 := e3
          obtain ⟨a, rfl⟩ : ∃ a : Nat, i = (a : Int) := ⟨i.toNat, by omega⟩
          have ha : a < xs.length := by omega
          have c1 : ∀ s, cutD s (.tup xs) none (some (a : Int)) = some (.tup (xs.take a)) := fun s => congrArg (fun z => some (D.tup z)) (cutL_to (by omega))
          have c2 : ∀ s, cutD s (.tup xs) (some ((a : Int) + 1)) none = some (.tup (xs.drop (a + 1))) := fun s => congrArg (fun z => some (D.tup z)) (cutL_from (i := a + 1) (by omega))
          obtain ⟨x, hx1, hx2⟩ := split_at ha
          have hxm : x ∈ xs := List.mem_of_getElem? hx1
          have hix : ∀ s, ixD s (.tup xs) (.int (a : Int)) = some x := fun s => by
            show L2.atI xs (a : Int) = _
            unfold L2.atI ixN
            rw [if_pos i0, if_pos i1]
            exact hx1
          have hl1 : (xs.take a).length + (xs.drop (a + 1)).length + 1 = xs.length := by
            rw [List.length_take, List.length_drop]
            omega
          have hz1 : szDs xs = szDs (xs.take a) + (szD x + szDs (xs.drop (a + 1))) := by
            have := congrArg szDs hx2
            rwa [szDs_app, szDs_cons] at this
          have bb := (b1.trans b2).trans b3
          have ad : ∀ s (us vs : List D), us.length + vs.length ≤ 1001 → opAdd s (.tup us) (.tup vs) = some (.tup (us ++ vs)) := fun s us vs hh => if_pos (le_line3 hh)
          by_cases hw0 : w = 0
          · refine ⟨.tup (xs.take a ++ xs.drop (a + 1)), s3, run_ret ?_, ⟨(dt_seq (fun y hy => ?_) ?_).1, ?_, ?_⟩, h3.mono (by omega), bb⟩
            · simp [m43, h0, h0', k0, e1', hr, e2', e3', hw0, c1, c2, ad _ (xs.take a) (xs.drop (a + 1)) (by omega)]
            · rcases List.mem_append.mp hy with hy | hy
              · exact hm y (List.mem_of_mem_take hy)
              · exact hm y (List.mem_of_mem_drop hy)
            · rw [List.length_append]
              omega
            · rw [szD_tup, szD_tup, szDs_app]
              omega
            · rw [dpD_tup, dpD_tup]
              have : dpDs (xs.take a ++ xs.drop (a + 1)) ≤ dpDs xs := dpDs_le fun y hy => by
                rcases List.mem_append.mp hy with hy | hy
                · exact dpDs_mem (List.mem_of_mem_take hy)
                · exact dpDs_mem (List.mem_of_mem_drop hy)
              omega
          by_cases hw1 : w = 1
          · obtain ⟨y, s4, e4, hy, h4, b4⟩ := p42 (n := n + k + 1) (by omega) h3
            have e4' : callN tab (n + (k + 1) + 3) 42 [.ref l] s3 = .ok y s4 := e4
            obtain ⟨z, s5, e5, hz, h5, b5⟩ := p25 (n := n + k + 2) (xs := [.lst xs, .tup (xs ++ [y]), .tup xs.reverse]) (th := .lst [.lst xs, .tup (xs ++ [y]), .tup xs.reverse]) (.inl rfl) (by show (1 : Nat) ≤ 3; decide) (by show (3 : Nat) ≤ 1000; decide) (by omega) h4
            have e5' : callN tab (n + (k + 1) + 3) 25 [.ref l, .lst [.lst xs, .tup (xs ++ [y]), .tup xs.reverse]] s4 = .ok z s5 := e5
            have bl : ∀ s, bLst s [.tup xs] = some (.lst xs) := fun s => rfl
            refine ⟨z, s5, run_ret ?_, ?_, h5.mono (by omega), (bb.trans b4).trans b5⟩
            · simp [m43, h0, h0', k0, e1', hr, e2', e3', hw1, bl, e4', ad _ xs [y] (by simp; omega), e5']
            · obtain ⟨o1, o2, o3⟩ := odd_ok y hy
              simp only [List.mem_cons, List.not_mem_nil, or_false] at hz
              rcases hz with rfl | rfl | rfl
              · exact ⟨(dt_seq hm (by omega)).2, by rw [szD_tup, szD_lst]; omega, by rw [dpD_tup, dpD_lst]; omega⟩
              · refine ⟨(dt_seq (fun u hu => ?_) (by rw [List.length_append, List.length_singleton]; omega)).1, ?_, ?_⟩
                · rcases List.mem_append.mp hu with hu | hu
                  · exact hm u hu
                  · rw [List.mem_singleton.mp hu]
                    exact o1
                · rw [szD_tup, szD_tup, szDs_app, szDs_cons, szDs_nil]
                  omega
                · rw [dpD_tup, dpD_tup, dpDs_app, dpDs_cons, dpDs_nil]
                  omega
              · refine ⟨(dt_seq (fun u hu => hm u (List.mem_reverse.mp hu)) (by rw [List.length_reverse]; omega)).1, ?_, ?_⟩
                · rw [szD_tup, szD_tup, szDs_rev]
                  omega
                · rw [dpD_tup, dpD_tup]
                  have : dpDs xs.reverse ≤ dpDs xs := dpDs_le fun u hu => dpDs_mem (List.mem_reverse.mp hu)
                  omega
          · have hsx := szDs_mem hxm
            obtain ⟨y, s4, e4, hy, h4, b4⟩ := p43 k n (c + 1 + 1 + 1) l x s3 (hm x hxm) (by omega) (by omega) h3
            have e4' : callN tab (n + (k + 1) + 3) 43 [.ref l, x, .int (k : Int)] s3 = .ok y s4 := e4
            have hk : ((k : Int) + 1 - 1) = (k : Int) := by omega
            refine ⟨.tup (xs.take a ++ [y] ++ xs.drop (a + 1)), s4, run_ret ?_, ⟨(dt_seq (fun u hu => ?_) ?_).1, ?_, ?_⟩, h4.mono (by omega), bb.trans b4⟩
            · simp [m43, h0, h0', k0, e1', hr, e2', e3', hw0, hw1, c1, c2, hix, hk, e4', ad _ (xs.take a) [y] (by simp; omega), ad _ (xs.take a ++ [y]) (xs.drop (a + 1)) (by simp; omega)]
            · rcases List.mem_append.mp hu with hu | hu
              · rcases List.mem_append.mp hu with hu | hu
                · exact hm u (List.mem_of_mem_take hu)
                · rw [List.mem_singleton.mp hu]
                  exact hy.dt
              · exact hm u (List.mem_of_mem_drop hu)
            · rw [List.length_append, List.length_append, List.length_singleton]
              omega
            · have := hy.sz
              rw [szD_tup, szD_tup, szDs_app, szDs_app, szDs_cons, szDs_nil]
              omega
            · rw [dpD_tup, dpD_tup]
              have hdx := dpDs_mem hxm
              have := hy.dp
              have : dpDs (xs.take a ++ [y] ++ xs.drop (a + 1)) ≤ dpDs xs + 3 := dpDs_le fun u hu => by
                rcases List.mem_append.mp hu with hu | hu
                · rcases List.mem_append.mp hu with hu | hu
                  · have := dpDs_mem (List.mem_of_mem_take hu)
                    omega
                  · rw [List.mem_singleton.mp hu]
                    omega
                · have := dpDs_mem (List.mem_of_mem_drop hu)
                  omega
              omega
    | _ => first | (cases hd; done) | exact direct fun y s' e => by simp [m43, e, subT]
end L11
end

section
set_option Elab.async false
set_option linter.all false
set_option maxRecDepth 100000
set_option maxHeartbeats 2000000
namespace L11
open PySem PySem.Spec PyProof.Rows L2 PyI
/-! a drawn program is good -/
theorem CG.good {sn : Nat} {x : D} (hs : sn ≤ 4) (h : CG (sn : Int) x) : dt x = true ∧ szD x = 3 ∧ dpD x = 1 ∧ isCell x = true ∧ okW (sn : Int) x = true := by
  obtain ⟨nm, v, rfl, hn, hv⟩ := h
  obtain ⟨h1, h2, h3, h4⟩ := nm_ok nm hn
  rcases hv with rfl | rfl | ⟨r, rfl, r0, r1⟩
  · refine ⟨(dt_seq (fun y hy => ?_) (by show (2 : Nat) ≤ 1000; decide)).1, by simp [h3, szD], by simp [h4, dpD], ?_, rfl⟩
    · simp only [List.mem_cons, List.not_mem_nil, or_false] at hy
      rcases hy with rfl | rfl
      · exact h2
      · decide +kernel
    · show (isNm nm && ohB "hidden") = true
      rw [h1]
      decide +kernel
  · refine ⟨(dt_seq (fun y hy => ?_) (by show (2 : Nat) ≤ 1000; decide)).1, by simp [h3, szD], by simp [h4, dpD], ?_, rfl⟩
    · simp only [List.mem_cons, List.not_mem_nil, or_false] at hy
      rcases hy with rfl | rfl
      · exact h2
      · decide +kernel
    · show (isNm nm && ohB "open") = true
      rw [h1]
      decide +kernel
  · refine ⟨(dt_seq (fun y hy => ?_) (by show (2 : Nat) ≤ 1000; decide)).1, by simp [h3, szD], by simp [h4, dpD], ?_, decide_eq_true r1⟩
    · simp only [List.mem_cons, List.not_mem_nil, or_false] at hy
      rcases hy with rfl | rfl
      · exact h2
      · rfl
    · show (isNm nm && (decide (0 ≤ r) && decide (r ≤ 7))) = true
      rw [h1, decide_eq_true r0, decide_eq_true (by omega : r ≤ 7)]
      rfl
theorem szDs_le {b : Nat} : ∀ {xs : List D}, (∀ x ∈ xs, szD x ≤ b) → szDs xs ≤ b * xs.length
  | [], _ => Nat.zero_le _
  | x :: r, h => by
    rw [szDs_cons, List.length_cons, Nat.mul_succ]
    have := h x List.mem_cons_self
    have := szDs_le (xs := r) fun y hy => h y (List.mem_cons_of_mem _ hy)
    omega
structure Gd (d : D) : Prop where
  dt : PyI.dt d = true
  sz : szD d ≤ 900
  dp : dpD d ≤ 20
theorem Gd.fit {d : D} (h : Gd d) : Fit d := ⟨h.dt, by have := h.sz; omega, by have := h.dp; omega⟩
theorem Be.fit {d y : D} (hd : Gd d) (h : Be d y) : Fit y := ⟨h.dt, by have := h.sz; have := hd.sz; omega, by have := h.dp; have := hd.dp; omega⟩
theorem pw64 {sn k : Nat} (hs : sn = 2 ∨ sn = 4) (hk : k ≤ 3) : ((sn : Int)) ^ k ≤ 64 := by
  have h : k = 0 ∨ k = 1 ∨ k = 2 ∨ k = 3 := by omega
  rcases hs with rfl | rfl <;> rcases h with rfl | rfl | rfl | rfl <;> decide
structure PGood (w : Int) (sn : Nat) (cs ts ys : List D) : Prop where
  w1 : 1 ≤ w
  w3 : w ≤ 3
  two : (2 : Int) ^ w.toNat = (sn : Int)
  mul : ∀ s, opMul s (.int 2) (.int w) = some (.int (sn : Int))
  c : Gd (.tup cs)
  t : Gd (.tup ts)
  b : Gd (.tup ys)
  p : Gd (.tup [.int w, .tup cs, .tup ts, .tup ys])
  sh : isSh (.tup [.int w, .tup cs, .tup ts, .tup ys]) = true
  bw : wdB (wd 6) (.tup ys) ≤ 60
theorem PGs.good {w : Int} {sn : Nat} {cs ts ys : List D} (h : PGs w sn cs ts ys) : PGood w sn cs ts ys := by
  have hsn : sn = 2 ∨ sn = 4 := by rcases h.w with h | h <;> omega
  have hs4 : sn ≤ 4 := by omega
  have hw1 : 1 ≤ w := by rcases h.w with h | h <;> omega
  have hw3 : w ≤ 3 := by rcases h.w with h | h <;> omega
  have htwo : (2 : Int) ^ w.toNat = (sn : Int) := by rcases h.w with ⟨rfl, rfl⟩ | ⟨rfl, rfl⟩ <;> decide
  have hmul : ∀ s, opMul s (.int 2) (.int w) = some (.int (sn : Int)) := fun s => by rcases h.w with ⟨rfl, rfl⟩ | ⟨rfl, rfl⟩ <;> rfl
  have hc0 := h.c0
  have hc1 := h.c1
  have hcg := fun x hx => CG.good hs4 (h.c x hx)
  have cG : Gd (.tup cs) ∧ szD (.tup cs) ≤ 10 ∧ dpD (.tup cs) ≤ 2 := by
    have a1 := szDs_le (b := 3) (xs := cs) fun x hx => Nat.le_of_eq (hcg x hx).2.1
    have a2 := dpDs_le (b := 1) (xs := cs) fun x hx => Nat.le_of_eq (hcg x hx).2.2.1
    have a3 : szD (.tup cs) = 1 + szDs cs := rfl
    have a4 : dpD (.tup cs) = 1 + dpDs cs := rfl
    exact ⟨⟨(dt_seq (fun x hx => (hcg x hx).1) (by omega)).1, by omega, by omega⟩, by omega, by omega⟩
  have cA : arC (.tup cs) = true := by
    show (decide ((1 : Int) ≤ (cs.length : Int)) && (decide ((cs.length : Int) ≤ 6) && cs.all isCell)) = true
    rw [decide_eq_true (by omega : (1 : Int) ≤ (cs.length : Int)), decide_eq_true (by omega : (cs.length : Int) ≤ 6), List.all_eq_true.mpr fun x hx => (hcg x hx).2.2.2.1]
    rfl
  have tG : Gd (.tup ts) ∧ szD (.tup ts) ≤ 10 ∧ dpD (.tup ts) ≤ 4 ∧ arT (sn : Int) (.tup ts) = true := by
    rcases h.t with rfl | ⟨ws, rfl, hl, hw⟩
    · exact ⟨⟨rfl, by decide, by decide⟩, by decide, by decide, rfl⟩
    · have d1 : ∀ y ∈ ws, PyI.dt y = true := fun y hy => by
        obtain ⟨r, rfl, _⟩ := hw y hy
        rfl
      have d2 : PyI.dt (.tup ws) = true := (dt_seq d1 (by omega)).1
      have d3 : PyI.dt (.tup [.str "t", .tup ws]) = true := dt2 (z := "t") (by decide) d2
      have s1 := szDs_le (b := 1) (xs := ws) fun y hy => by
        obtain ⟨r, rfl, _⟩ := hw y hy
        exact Nat.le_refl _
      have p1 := dpDs_le (b := 0) (xs := ws) fun y hy => by
        obtain ⟨r, rfl, _⟩ := hw y hy
        exact Nat.le_refl _
      have z1 : szD (.tup [.tup [.str "t", .tup ws]]) = 1 + (1 + (1 + (1 + szDs ws))) := rfl
      have z2 : dpD (.tup [.tup [.str "t", .tup ws]]) ≤ 1 + (1 + (1 + dpDs ws)) := by
        have : dpD (.str "t") = 0 := rfl
        simp [this]
      refine ⟨⟨(dt_seq (fun x hx => by rw [List.mem_singleton.mp hx]; exact d3) (by show (1 : Nat) ≤ 1000; decide)).1, by omega, by omega⟩, by omega, by omega, ?_⟩
      have wa : (ws.all fun y => isW y 0 ((sn : Int) - 1)) = true := List.all_eq_true.mpr fun y hy => by
        obtain ⟨r, rfl, r0, r1⟩ := hw y hy
        show (decide (0 ≤ r) && decide (r ≤ (sn : Int) - 1)) = true
        rw [decide_eq_true r0, decide_eq_true (by omega : r ≤ (sn : Int) - 1)]
        rfl
      show (true && ((isNm (.str "t") && (decide ((ws.length : Int) = (sn : Int)) && ws.all fun y => isW y 0 ((sn : Int) - 1))) && true)) = true
      rw [wa, decide_eq_true (by omega : (ws.length : Int) = (sn : Int))]
      decide +kernel
  obtain ⟨ys', e, y1, y2, y3, y4, y5, y6⟩ := h.b.get (by decide)
  injection e with e
  subst e
  have z1 : szD (.tup ys) = 1 + szDs ys := rfl
  have z2 : dpD (.tup ys) = 1 + dpDs ys := rfl
  have hbw : wdB (wd 6) (.tup ys) ≤ 60 := by
    have y6' : (ys.map (wd 6)).sum ≤ ((9 : Nat) : Int) := y6
    exact Int.le_trans y6' (by decide)
  have bG : Gd (.tup ys) ∧ szD (.tup ys) ≤ 400 ∧ dpD (.tup ys) ≤ 15 := ⟨⟨y1, by omega, by omega⟩, by omega, by omega⟩
  have z3 : szD (.tup [.int w, .tup cs, .tup ts, .tup ys]) = 1 + (1 + (szD (.tup cs) + (szD (.tup ts) + (szD (.tup ys) + 0)))) := rfl
  have z4 : dpD (.tup [.int w, .tup cs, .tup ts, .tup ys]) = 1 + max 0 (max (dpD (.tup cs)) (max (dpD (.tup ts)) (max (dpD (.tup ys)) 0))) := rfl
  have pd : PyI.dt (.tup [.int w, .tup cs, .tup ts, .tup ys]) = true := (dt_seq (fun y hy => by
    simp only [List.mem_cons, List.not_mem_nil, or_false] at hy
    rcases hy with rfl | rfl | rfl | rfl
    · rfl
    · exact cG.1.dt
    · exact tG.1.dt
    · exact bG.1.dt) (by show (4 : Nat) ≤ 1000; decide)).1
  obtain ⟨_, cG1, cG2⟩ := cG
  obtain ⟨_, tG1, tG2, tA⟩ := tG
  obtain ⟨_, bG1, bG2⟩ := bG
  refine ⟨hw1, hw3, htwo, hmul, ‹_›, ‹_›, ‹_›, ⟨pd, by omega, by omega⟩, ?_, hbw⟩
  show (isW (.int w) 1 3 && (arC (.tup cs) && shB (2 ^ w.toNat) cs (.tup ts) (.tup ys))) = true
  rw [htwo, cA]
  have hwW : isW (.int w) 1 3 = true := by
    show (decide (1 ≤ w) && decide (w ≤ 3)) = true
    rw [decide_eq_true hw1, decide_eq_true hw3]
    rfl
  have f1 := List.length_filter_le hidB cs
  have f2 := List.length_filter_le stB cs
  have p1 := pw64 (k := (cs.filter hidB).length) hsn (by omega)
  have p2 := pw64 (k := (cs.filter stB).length) hsn (by omega)
  have p3 := pw64 (k := cs.length) hsn (by omega)
  have oa : cs.all (okW (sn : Int)) = true := List.all_eq_true.mpr fun x hx => (hcg x hx).2.2.2.2
  rw [hwW]
  show (true && (true && (arT (sn : Int) (.tup ts) && (decide (wdB (wd 6) (.tup ys) ≤ 60) && (cs.all (okW (sn : Int)) && (decide ((sn : Int) ^ (cs.filter hidB).length ≤ 64) && (decide ((sn : Int) ^ (cs.filter stB).length ≤ 512) && decide ((sn : Int) ^ cs.length ≤ 4096)))))))) = true
  rw [tA, decide_eq_true hbw, oa, decide_eq_true p1, decide_eq_true (Int.le_trans p2 (by decide)), decide_eq_true (Int.le_trans p3 (by decide))]
  rfl
end L11
end

section
set_option Elab.async false
set_option linter.all false
set_option maxRecDepth 100000
set_option maxHeartbeats 4000000
namespace L11
open PySem PySem.Spec PyProof.Rows L2 PyI
def IF44 : EE := (ifM (boolT (binM cGt (bltM (keep bLen) (consM (varM 5) nilM)) (conM (.int 0)))) (callM 43 (consM (varM 0) (consM (binM ixD (varM 5) (conM (.int 0))) (consM (conM (.int 6)) nilM)))) (varM 10))
def B44 : SS := (seqS (asgS (callM 43 (consM (varM 0) (consM (varM 7) (consM (conM (.int 5)) nilM)))) (nameG 10)) (seqS (ifS (notT (boolT (callM 26 (consM (callM 10 (consM (varM 10) nilM)) (consM (callM 35 (consM (varM 10) (consM (conM (.int 6)) nilM))) nilM))))) (seqS (retS (conM (.bl false))) skipS) skipS) (seqS (asgS (callM 43 (consM (varM 0) (consM (varM 8) (consM (conM (.int 5)) nilM)))) (nameG 10)) (seqS (ifS (notT (boolT (callM 26 (consM (callM 11 (consM (varM 10) nilM)) (consM (callM 36 (consM (varM 10) nilM)) nilM))))) (seqS (retS (conM (.bl false))) skipS) skipS) (seqS (asgS (callM 43 (consM (varM 0) (consM (varM 5) (consM (conM (.int 6)) nilM)))) (nameG 10)) (seqS (ifS (notT (boolT (callM 26 (consM (callM 17 (consM (varM 10) nilM)) (consM (binM cLe (callM 38 (consM (varM 10) (consM (conM (.int 6)) nilM))) (conM (.int 60))) nilM))))) (seqS (retS (conM (.bl false))) skipS) skipS) (seqS (asgS IF44 (nameG 11)) (seqS (ifS (notT (boolT (callM 26 (consM (callM 16 (consM (varM 11) nilM)) (consM (binM cLe (callM 37 (consM (varM 11) (consM (conM (.int 6)) nilM))) (conM (.int 60))) nilM))))) (seqS (retS (conM (.bl false))) skipS) skipS) (seqS (asgS (lstM (consM (callM 43 (consM (varM 0) (consM (varM 3) (consM (conM (.int 3)) nilM)))) (consM (callM 43 (consM (varM 0) (consM (varM 4) (consM (conM (.int 3)) nilM)))) (consM (callM 43 (consM (varM 0) (consM (varM 1) (consM (conM (.int 6)) nilM)))) nilM)))) (nameG 12)) (seqS (asgS (tupM (consM (callM 19 (consM (binM ixD (varM 12) (conM (.int 0))) nilM)) (consM (callM 20 (consM (varM 2) (consM (binM ixD (varM 12) (conM (.int 1))) nilM))) (consM (callM 22 (consM (binM ixD (varM 12) (conM (.int 2))) nilM)) nilM)))) (nameG 13)) (seqS (ifS (notT (boolT (callM 26 (consM (varM 13) (consM (tupM (consM (callM 39 (consM (binM ixD (varM 12) (conM (.int 0))) nilM)) (consM (callM 40 (consM (varM 6) (consM (binM ixD (varM 12) (conM (.int 1))) nilM))) (consM (callM 41 (consM (binM ixD (varM 12) (conM (.int 2))) nilM)) nilM)))) nilM))))) (seqS (retS (conM (.bl false))) skipS) skipS) skipS)))))))))))
theorem m44_eq : m44 = (seqS (asgS (varM 1) (tupG [(nameG 2), (nameG 3), (nameG 4), (nameG 5)])) (seqS (parS [6, 7] (consM (binM opMul (conM (.int 2)) (varM 2)) (consM (callM 28 (consM (varM 0) (consM (lstM (consM (conM (.str "a")) (consM (conM (.str "b")) nilM))) (consM (conM (.int 5)) nilM)))) nilM))) (seqS (asgS (tupM (consM (conM (.str "look")) (consM (callM 25 (consM (varM 0) (consM (lstM (consM (conM (.str "t")) (consM (conM (.str "u")) nilM))) nilM))) (consM (varM 7) nilM)))) (nameG 8)) (seqS (ifS (orT (boolT (binM cIsNot (callM 11 (consM (varM 8) nilM)) (conM (.bl true)))) (orT (boolT (binM cIsNot (callM 10 (consM (varM 8) nilM)) (conM (.bl false)))) (boolT (binM cIsNot (callM 16 (consM (tupM (consM (conM (.str "set")) (consM (conM (.str "a")) (consM (varM 8) nilM)))) nilM)) (conM (.bl true)))))) (seqS (retS (conM (.bl false))) skipS) skipS) (seqS (ifS (orT (boolT (binM cIsNot (callM 22 (consM (varM 1) nilM)) (conM (.bl true)))) (orT (boolT (binM cIsNot (callM 10 (consM (varM 7) nilM)) (conM (.bl true)))) (boolT (binM cIsNot (callM 17 (consM (varM 5) nilM)) (conM (.bl true)))))) (seqS (retS (conM (.bl false))) skipS) skipS) (seqS (forS (argM rng1 (consM (conM (.int 4)) nilM)) (nameG 9) B44) (seqS (retS (conM (.bl true))) skipS))))))) := rfl
theorem B44_ok {n l c : Nat} {w : Int} {sn : Nat} {cs ts ys : List D} {e lk : D} {s : Store} {x9 x10 x11 x12 x13 : Option D} (g : PGood w sn cs ts ys) (he : Gd e) (hlk : Gd lk) (hc : c + 500 ≤ 1000000000000) (h : Hand s l c) :
    ∃ s' y9 y10 y11 y12 y13, B44 (callN tab (n + 29)) [some (.ref l), some (.tup [.int w, .tup cs, .tup ts, .tup ys]), some (.int w), some (.tup cs), some (.tup ts), some (.tup ys), some (.int (sn : Int)), some e, some lk, x9, x10, x11, x12, x13] s =
      .nx [some (.ref l), some (.tup [.int w, .tup cs, .tup ts, .tup ys]), some (.int w), some (.tup cs), some (.tup ts), some (.tup ys), some (.int (sn : Int)), some e, some lk, y9, y10, y11, y12, y13] s' ∧ Hand s' l (c + 300) ∧ But l s s' := by
  have q26 : ∀ b s, callN tab (n + 29) 26 [.bl b, .bl b] s = .ok (.bl true) s := fun b s => p26 (n := n + 28)
  have q26t : ∀ a b c s, callN tab (n + 29) 26 [.tup [.bl a, .bl b, .bl c], .tup [.bl a, .bl b, .bl c]] s = .ok (.bl true) s := fun a b c s => p26t (n := n + 27)
  have q10 : ∀ y s, PyI.dt y = true → callN tab (n + 29) 10 [y] s = .ok (.bl (isE 6 y)) s := fun y s h => p10 (n := n + 18) h
  have q35 : ∀ y s, PyI.dt y = true → callN tab (n + 29) 35 [y, .int 6] s = .ok (.bl (isE 6 y)) s := fun y s h => p35' (n := n + 19) h
  have q11 : ∀ y s, PyI.dt y = true → callN tab (n + 29) 11 [y] s = .ok (.bl (isLook y)) s := fun y s h => p11 (n := n + 17) h
  have q36 : ∀ y s, PyI.dt y = true → callN tab (n + 29) 36 [y] s = .ok (.bl (isLook y)) s := fun y s h => p36 (n := n + 18) h
  have q38 : ∀ y s, PyI.dt y = true → callN tab (n + 29) 38 [y, .int 6] s = .ok (.int (wdB (wd 6) y)) s := fun y s h => p38' (n := n + 2) h
  have q37 : ∀ y s, PyI.dt y = true → callN tab (n + 29) 37 [y, .int 6] s = .ok (.int (wd 6 y)) s := fun y s h => p37' (n := n + 3) h
  have q19 : ∀ y s, PyI.dt y = true → callN tab (n + 29) 19 [y] s = .ok (.bl (arC y)) s := fun y s h => p19 (n := n + 25) h
  have q39 : ∀ y s, PyI.dt y = true → callN tab (n + 29) 39 [y] s = .ok (.bl (arC y)) s := fun y s h => p39 (n := n + 27) h
  have q20 : ∀ y s, PyI.dt y = true → callN tab (n + 29) 20 [.int w, y] s = .ok (.bl (arT (sn : Int) y)) s := fun y s h => by
    have := p20 (n := n + 25) (st := s) g.w1 g.w3 h
    rw [g.two] at this
    exact this
  have q40 : ∀ y s, PyI.dt y = true → callN tab (n + 29) 40 [.int (sn : Int), y] s = .ok (.bl (arT (sn : Int) y)) s := fun y s h => p40 (n := n + 27) h
  have q41 : ∀ y s, PyI.dt y = true → callN tab (n + 29) 41 [y] s = .ok (.bl (isSh y)) s := fun y s h => p41 (n := n + 1) h
  obtain ⟨y1, s1, e1, b1, h1, m1⟩ := p43 5 (n + 20) c l e s he.dt he.sz (by omega) h
  have e1' : callN tab (n + 29) 43 [.ref l, e, .int 5] s = .ok y1 s1 := e1
  obtain ⟨y2, s2, e2, b2, h2, m2⟩ := p43 5 (n + 20) _ l lk s1 hlk.dt hlk.sz (by omega) h1
  have e2' : callN tab (n + 29) 43 [.ref l, lk, .int 5] s1 = .ok y2 s2 := e2
  obtain ⟨y3, s3, e3, b3, h3, m3⟩ := p43 6 (n + 19) _ l (.tup ys) s2 g.b.dt g.b.sz (by omega) h2
  have e3' : callN tab (n + 29) 43 [.ref l, .tup ys, .int 6] s2 = .ok y3 s3 := e3
  obtain ⟨s4, e4, x4⟩ := p17 (n := n + 1) (st := s3) (b3.fit g.b)
  have e4' : callN tab (n + 29) 17 [y3] s3 = .ok (.bl (decide (wdB (wd 6) y3 ≤ 60))) s4 := e4
  have h4 := h3.ext x4
  obtain ⟨y5, s5, e5, b5, h5, m5⟩ : ∃ y5 s5, IF44 (callN tab (n + 29)) [some (.ref l), some (.tup [.int w, .tup cs, .tup ts, .tup ys]), some (.int w), some (.tup cs), some (.tup ts), some (.tup ys), some (.int (sn : Int)), some e, some lk, x9, some y3, x11, x12, x13] s4 = .ok y5 s5 ∧ Fit y5 ∧ Hand s5 l (c + 30 + 30 + 35 + 35) ∧ But l s4 s5 := by
    cases ys with
    | nil => exact ⟨y3, s4, by simp [IF44], b3.fit g.b, h4.mono (by omega), .refl _ _⟩
    | cons y r =>
      have hz := g.b.sz
      have hp := g.b.dp
      have z1 : szD (.tup (y :: r)) = 1 + (szD y + szDs r) := rfl
      have z2 : dpD (.tup (y :: r)) = 1 + max (dpD y) (dpDs r) := rfl
      have gy : Gd y := ⟨dt_mem g.b.dt y List.mem_cons_self, by omega, by omega⟩
      obtain ⟨y5, s5, e5, b5, h5, m5⟩ := p43 6 (n + 19) _ l y s4 gy.dt gy.sz (by omega) h4
      have e5' : callN tab (n + 29) 43 [.ref l, y, .int 6] s4 = .ok y5 s5 := e5
      refine ⟨y5, s5, ?_, b5.fit gy, h5.mono (by omega), m5⟩
      have hl : (0 : Int) < (r.length : Int) + 1 := by omega
      simp [IF44, e5', hl]
  obtain ⟨s6, e6, x6⟩ := p16 (n := n + 2) (st := s5) b5
  have e6' : callN tab (n + 29) 16 [y5] s5 = .ok (.bl (decide (wd 6 y5 ≤ 60))) s6 := e6
  have h6 := h5.ext x6
  obtain ⟨z1, s7, e7, b7, h7, m7⟩ := p43 3 (n + 22) _ l (.tup cs) s6 g.c.dt g.c.sz (by omega) h6
  have e7' : callN tab (n + 29) 43 [.ref l, .tup cs, .int 3] s6 = .ok z1 s7 := e7
  obtain ⟨z2, s8, e8, b8, h8, m8⟩ := p43 3 (n + 22) _ l (.tup ts) s7 g.t.dt g.t.sz (by omega) h7
  have e8' : callN tab (n + 29) 43 [.ref l, .tup ts, .int 3] s7 = .ok z2 s8 := e8
  obtain ⟨z3, s9, e9, b9, h9, m9⟩ := p43 6 (n + 19) _ l (.tup [.int w, .tup cs, .tup ts, .tup ys]) s8 g.p.dt g.p.sz (by omega) h8
  have e9' : callN tab (n + 29) 43 [.ref l, .tup [.int w, .tup cs, .tup ts, .tup ys], .int 6] s8 = .ok z3 s9 := e9
  obtain ⟨s10, e10, x10'⟩ := p22 (n := n) (st := s9) (b9.fit g.p)
  have bb := (((((((((m1.trans m2).trans m3).trans x4.but).trans m5).trans x6.but).trans m7).trans m8).trans m9).trans x10'.but)
  refine ⟨s10, x9, some y3, some y5, some (.lst [z1, z2, z3]), some (.tup [.bl (arC z1), .bl (arT (sn : Int) z2), .bl (isSh z3)]), ?_, (h9.ext x10').mono (by omega), bb⟩
  have a1 := fun s => q10 y1 s b1.dt
  have a2 := fun s => q35 y1 s b1.dt
  have a3 := fun s => q11 y2 s b2.dt
  have a4 := fun s => q36 y2 s b2.dt
  have a5 := fun s => q38 y3 s b3.dt
  have a6 := fun s => q37 y5 s b5.dt
  have a7 := fun s => q19 z1 s b7.dt
  have a8 := fun s => q39 z1 s b7.dt
  have a9 := fun s => q20 z2 s b8.dt
  have a10 := fun s => q40 z2 s b8.dt
  have a11 := fun s => q41 z3 s b9.dt
  have i0 : ∀ s, ixD s (.lst [z1, z2, z3]) (.int 0) = some z1 := fun s => rfl
  have i1 : ∀ s, ixD s (.lst [z1, z2, z3]) (.int 1) = some z2 := fun s => rfl
  have i2 : ∀ s, ixD s (.lst [z1, z2, z3]) (.int 2) = some z3 := fun s => rfl
  have e10' : callN tab (n + 29) 22 [z3] s9 = .ok (.bl (isSh z3)) s10 := e10
  simp [B44, i0, i1, i2, e1', a1, a2, q26, e2', a3, a4, e3', e4', a5, e5, e6', a6, e7', e8', e9', a7, a9, e10', a8, a10, a11, q26t]
end L11
end

section
set_option Elab.async false
set_option linter.all false
set_option maxRecDepth 100000
set_option maxHeartbeats 4000000
namespace L11
open PySem PySem.Spec PyProof.Rows L2 PyI
def FS44 : SS := forS (argM rng1 (consM (conM (.int 4)) nilM)) (nameG 9) B44
def ckA44 : TT' := (orT (boolT (binM cIsNot (callM 11 (consM (varM 8) nilM)) (conM (.bl true)))) (orT (boolT (binM cIsNot (callM 10 (consM (varM 8) nilM)) (conM (.bl false)))) (boolT (binM cIsNot (callM 16 (consM (tupM (consM (conM (.str "set")) (consM (conM (.str "a")) (consM (varM 8) nilM)))) nilM)) (conM (.bl true))))))
def ckB44 : TT' := (orT (boolT (binM cIsNot (callM 22 (consM (varM 1) nilM)) (conM (.bl true)))) (orT (boolT (binM cIsNot (callM 10 (consM (varM 7) nilM)) (conM (.bl true)))) (boolT (binM cIsNot (callM 17 (consM (varM 5) nilM)) (conM (.bl true))))))
theorem m44_eq2 : m44 = (seqS (asgS (varM 1) (tupG [(nameG 2), (nameG 3), (nameG 4), (nameG 5)])) (seqS (parS [6, 7] (consM (binM opMul (conM (.int 2)) (varM 2)) (consM (callM 28 (consM (varM 0) (consM (lstM (consM (conM (.str "a")) (consM (conM (.str "b")) nilM))) (consM (conM (.int 5)) nilM)))) nilM))) (seqS (asgS (tupM (consM (conM (.str "look")) (consM (callM 25 (consM (varM 0) (consM (lstM (consM (conM (.str "t")) (consM (conM (.str "u")) nilM))) nilM))) (consM (varM 7) nilM)))) (nameG 8)) (seqS (ifS ckA44 (seqS (retS (conM (.bl false))) skipS) skipS) (seqS (ifS ckB44 (seqS (retS (conM (.bl false))) skipS) skipS) (seqS FS44 (seqS (retS (conM (.bl true))) skipS))))))) := rfl
theorem look_ok {z : Str} {e : D} (hz : z = "t" ∨ z = "u") (he : EG 5 e) : Gd (.tup [.str "look", .str z, e]) ∧ isLook (.tup [.str "look", .str z, e]) = true ∧ isE 6 (.tup [.str "look", .str z, e]) = false ∧ Gd (.tup [.str "set", .str "a", .tup [.str "look", .str z, e]]) ∧ wd 6 (.tup [.str "set", .str "a", .tup [.str "look", .str z, e]]) = 1 := by
  have e1 := he.sz
  have e2 := he.dp
  have hd5 : dn 5 = 158 := rfl
  have he6 : isE 6 e = true := (he.le (m := 6) (by decide)).ok
  have hzd : PyI.dt (.str z) = true ∧ isNm (.str z) = true := by rcases hz with rfl | rfl <;> exact ⟨by decide +kernel, by decide +kernel⟩
  have d1 : PyI.dt (.tup [.str "look", .str z, e]) = true := dt3 (z := "look") (by decide) hzd.1 he.dt
  have d2 : PyI.dt (.tup [.str "set", .str "a", .tup [.str "look", .str z, e]]) = true := dt3 (z := "set") (by decide) (by decide +kernel) d1
  have hL : isLook (.tup [.str "look", .str z, e]) = true := by simp [isLook, hzd.2, he6]
  have z1 : szD (.tup [.str "look", .str z, e]) = 1 + (1 + (1 + (szD e + 0))) := rfl
  have p1 : dpD (.tup [.str "look", .str z, e]) = 1 + max 0 (max 0 (max (dpD e) 0)) := rfl
  have z2 : szD (.tup [.str "set", .str "a", .tup [.str "look", .str z, e]]) = 1 + (1 + (1 + (szD (.tup [.str "look", .str z, e]) + 0))) := rfl
  have p2 : dpD (.tup [.str "set", .str "a", .tup [.str "look", .str z, e]]) = 1 + max 0 (max 0 (max (dpD (.tup [.str "look", .str z, e])) 0)) := rfl
  refine ⟨⟨d1, by omega, by omega⟩, hL, ?_, ⟨d2, by omega, by omega⟩, ?_⟩
  · have w1 : ¬ (("look" : Str) = "word") := by decide
    have w2 : ¬ (("look" : Str) = "cell") := by decide
    have w3 : ¬ (("look" : Str) = "not") := by decide
    have w4 : deedB "look" = false := by decide +kernel
    simp [isE, w1, w2, w3, w4]
  · have w1 : ¬ (("set" : Str) = "if") := by decide
    have w2 : ¬ (("set" : Str) = "while") := by decide
    have hn : isNm (.str "a") = true := by decide +kernel
    simp [wd, w1, w2, hn, hL]
theorem FS44_ok {n l c : Nat} {w : Int} {sn : Nat} {cs ts ys : List D} {e lk : D} {s : Store} {x9 x10 x11 x12 x13 : Option D} (g : PGood w sn cs ts ys) (he : Gd e) (hlk : Gd lk) (hc : c + 5000 ≤ 1000000000000) (h : Hand s l c) :
    ∃ s' y9 y10 y11 y12 y13, FS44 (callN tab (n + 29)) [some (.ref l), some (.tup [.int w, .tup cs, .tup ts, .tup ys]), some (.int w), some (.tup cs), some (.tup ts), some (.tup ys), some (.int (sn : Int)), some e, some lk, x9, x10, x11, x12, x13] s =
      .nx [some (.ref l), some (.tup [.int w, .tup cs, .tup ts, .tup ys]), some (.int w), some (.tup cs), some (.tup ts), some (.tup ys), some (.int (sn : Int)), some e, some lk, y9, y10, y11, y12, y13] s' ∧ Hand s' l (c + 1200) ∧ But l s s' := by
  obtain ⟨env', s', k1, y9, y10, y11, y12, y13, rfl, k2, k3⟩ := forR_inv (tg := nameG 9) (body := B44) (cl := callN tab (n + 29))
    (fun r env s1 => ∃ y9 y10 y11 y12 y13, env = [some (.ref l), some (.tup [.int w, .tup cs, .tup ts, .tup ys]), some (.int w), some (.tup cs), some (.tup ts), some (.tup ys), some (.int (sn : Int)), some e, some lk, y9, y10, y11, y12, y13] ∧ (r.length ≤ 4 ∧ Hand s1 l (c + (4 - r.length) * 300)) ∧ But l s s1)
    ((List.range 4).map fun (i : Nat) => D.int (i : Int)) [some (.ref l), some (.tup [.int w, .tup cs, .tup ts, .tup ys]), some (.int w), some (.tup cs), some (.tup ts), some (.tup ys), some (.int (sn : Int)), some e, some lk, x9, x10, x11, x12, x13] s
    (fun x r env s1 ⟨y9, y10, y11, y12, y13, he1, ⟨hr, hh⟩, hb⟩ => by
      subst he1
      rw [List.length_cons] at hr hh
      refine ⟨_, rfl, ?_⟩
      obtain ⟨s2, z9, z10, z11, z12, z13, f1, f2, f3⟩ := B44_ok (n := n) (x9 := some x) (x10 := y10) (x11 := y11) (x12 := y12) (x13 := y13) g he hlk (by omega) hh
      exact ⟨_, s2, f1, z9, z10, z11, z12, z13, rfl, ⟨by omega, f2.mono (by omega)⟩, hb.trans f3⟩)
    ⟨x9, x10, x11, x12, x13, rfl, ⟨Nat.le_refl 4, h.mono (by omega)⟩, .refl _ _⟩
  refine ⟨s', y9, y10, y11, y12, y13, ?_, k2.2.mono (by rw [List.length_nil]; omega), k3⟩
  unfold FS44
  rw [e_for (e_rng1 (m := 4) (s := s) (by simp) (by decide))]
  exact k1
theorem p44 {n l c : Nat} {d : D} {st : Store} (hp : PG d) (hc : c + 6000 ≤ 1000000000000) (h : Hand st l c) : Dr l c 2000 st (callN tab (n + 30) 44 [.ref l, d] st) (fun r => r = .bl true) := by
  obtain ⟨w, sn, cs, ts, ys, rfl, hP⟩ := hp
  have g := hP.good
  rw [call_tab t44, m44_eq2]
  obtain ⟨e, s1, e1, ge, h1, b1⟩ := p28 (nms := [.str "a", .str "b"]) (by decide) (by decide) (fun x hx => by
    simp only [List.mem_cons, List.not_mem_nil, or_false] at hx
    rcases hx with rfl | rfl <;> simp [nmL]) 5 (n + 22) c l st (by decide) (by have : dn 5 = 158 := rfl; omega) h
  have hd5 : dn 5 = 158 := rfl
  rw [hd5] at h1
  have e1' : callN tab (n + 29) 28 [.ref l, .lst [.str "a", .str "b"], .int 5] st = .ok e s1 := e1
  obtain ⟨x, s2, e2, hx, h2, b2⟩ := p25 (n := n + 27) (xs := [.str "t", .str "u"]) (th := .lst [.str "t", .str "u"]) (.inl rfl) (by decide) (by decide) (by omega) h1
  have e2' : callN tab (n + 29) 25 [.ref l, .lst [.str "t", .str "u"]] s1 = .ok x s2 := e2
  obtain ⟨z, rfl, hz⟩ : ∃ z : Str, x = .str z ∧ (z = "t" ∨ z = "u") := by
    simp only [List.mem_cons, List.not_mem_nil, or_false] at hx
    rcases hx with rfl | rfl
    · exact ⟨_, rfl, .inl rfl⟩
    · exact ⟨_, rfl, .inr rfl⟩
  obtain ⟨l1, l2, l3, l4, l5⟩ := look_ok hz ge
  have gE : Gd e := ⟨ge.dt, by have := ge.sz; omega, by have := ge.dp; omega⟩
  have he6 : isE 6 e = true := (ge.le (m := 6) (by decide)).ok
  generalize hlk : D.tup [.str "look", .str z, e] = lk at l1 l2 l3 l4 l5
  have a1 : ∀ s, callN tab (n + 29) 11 [lk] s = .ok (.bl true) s := fun s => by
    have := p11 (n := n + 17) (st := s) l1.dt
    rw [l2] at this
    exact this
  have a2 : ∀ s, callN tab (n + 29) 10 [lk] s = .ok (.bl false) s := fun s => by
    have := p10 (n := n + 18) (st := s) l1.dt
    rw [l3] at this
    exact this
  obtain ⟨s3, e3, x3⟩ := p16 (n := n + 2) (st := s2) l4.fit
  rw [l5] at e3
  have e3' : callN tab (n + 29) 16 [.tup [.str "set", .str "a", lk]] s2 = .ok (.bl true) s3 := e3
  obtain ⟨s4, e4, x4⟩ := p22 (n := n) (st := s3) g.p.fit
  rw [g.sh] at e4
  have a5 : ∀ s, callN tab (n + 29) 10 [e] s = .ok (.bl true) s := fun s => by
    have := p10 (n := n + 18) (st := s) ge.dt
    rw [he6] at this
    exact this
  obtain ⟨s5, e5, x5⟩ := p17 (n := n + 1) (st := s4) g.b.fit
  rw [decide_eq_true g.bw] at e5
  have e5' : callN tab (n + 29) 17 [.tup ys] s4 = .ok (.bl true) s5 := e5
  have h5 := ((h2.ext x3).ext x4).ext x5
  obtain ⟨s6, y9, y10, y11, y12, y13, e6, h6, b6⟩ := FS44_ok (n := n) (x9 := none) (x10 := none) (x11 := none) (x12 := none) (x13 := none) g gE l1 (by omega) h5
  have n1 : ∀ s, cIsNot s (.bl true) (.bl true) = some (.bl false) := fun s => rfl
  have n2 : ∀ s, cIsNot s (.bl false) (.bl false) = some (.bl false) := fun s => rfl
  refine ⟨.bl true, s6, run_ret ?_, rfl, h6.mono (by omega), ((((b1.trans b2).trans x3.but).trans x4.but).trans x5.but).trans b6⟩
  simp [tupG, tupGs, g.mul, e1', e2', hlk, ckA44, ckB44, a1, a2, e3', n1, n2, e4, a5, e5', e6]
end L11
end

section
set_option Elab.async false
set_option linter.all false
set_option maxRecDepth 100000
set_option maxHeartbeats 4000000
namespace L11
open PySem PySem.Spec PyProof.Rows L2 PyI
theorem compL_elive {l : Nat} {tg : GG} {el : EE} {cl : CL} {env : PyI.Env} {xs : List D} {P : D → Prop} {st : Store} (hat : listAt st l = some xs) (hl : xs.length ≤ 1000)
    (hx : ∀ (j : Nat) (x : D), xs[j]? = some x → ∃ ll, tg (.tup [.int (j : Int), x]) = some ll ∧ ∃ y, el cl (putE ll env) st = .ok y st ∧ P y) :
    ∀ (r : List D) (i : Nat) (acc : List D), xs.drop i = r → acc.length = i → ∃ ys, compL (.elive l) tg yesT el cl env (r.length + 1) i acc st = .ok (acc ++ ys) st ∧ ys.length = r.length ∧ ∀ y ∈ ys, P y
  | [], i, acc, h, ha => by
    have e : xs[i]? = none := List.getElem?_eq_none (by have := congrArg List.length h; rw [List.length_drop, List.length_nil] at this; omega)
    refine ⟨[], ?_, rfl, fun y hy => by cases hy⟩
    unfold compL
    have : IT.get (.elive l) st i = some none := by
      show (listAt st l).map _ = _
      rw [hat]
      show some (xs[i]?.map _) = _
      rw [e]
      rfl
    rw [this, List.append_nil]
  | x :: r, i, acc, h, ha => by
    have e : xs[i]? = some x := by
      have := congrArg (fun l => l[0]?) h
      simpa [List.getElem?_drop] using this
    have h' : xs.drop (i + 1) = r := by
      have := congrArg List.tail h
      simpa [List.tail_drop] using this
    have hi : i < xs.length := (List.getElem?_eq_some_iff.mp e).1
    obtain ⟨ll, h1, y, h2, h3⟩ := hx i x e
    obtain ⟨ys, g1, g2, g3⟩ := compL_elive hat hl hx r (i + 1) (acc ++ [y]) h' (by rw [List.length_append, List.length_singleton, ha])
    refine ⟨y :: ys, ?_, by rw [List.length_cons, List.length_cons, g2], fun z hz => ?_⟩
    · unfold compL
      have : IT.get (.elive l) st i = some (some (.tup [.int (i : Int), x])) := by
        show (listAt st l).map _ = _
        rw [hat]
        show some (xs[i]?.map _) = _
        rw [e]
        rfl
      rw [this]
      show (match tg (.tup [.int (i : Int), x]) with
        | none => Res.stuck
        | some l' => (yesT cl (putE l' env) st).bindN fun b s1 => match b with
          | true => (el cl (putE l' env) s1).bindN fun y s2 => if acc.length < sizeLine then compL (.elive l) tg yesT el cl env (r.length + 1) (i + 1) (acc ++ [y]) s2 else .stuck
          | false => compL (.elive l) tg yesT el cl env (r.length + 1) (i + 1) acc s1) = _
      rw [h1]
      show (el cl (putE ll env) st).bindN (fun y s2 => if acc.length < sizeLine then compL (.elive l) tg yesT el cl env (r.length + 1) (i + 1) (acc ++ [y]) s2 else .stuck) = _
      rw [h2, bindN_ok, if_pos (show acc.length < sizeLine from le_line (n := acc.length + 1) (by omega)), g1, List.append_assoc]
      rfl
    · rcases List.mem_cons.mp hz with rfl | hz
      · exact h3
      · exact g3 z hz
theorem lc_elive {own : List Nat} {l : Nat} {iter : II} {tg : GG} {el : EE} {cl : CL} {env : PyI.Env} {xs : List D} {P : D → Prop} {st : Store} (hit : iter cl env st = .ok (.elive l) st) (hat : listAt st l = some xs) (hl : xs.length ≤ 1000)
    (hx : ∀ (j : Nat) (x : D), xs[j]? = some x → ∃ ll, tg (.tup [.int (j : Int), x]) = some ll ∧ ∃ y, el cl (putE ll (wipeE own env)) st = .ok y st ∧ P y) : ∃ ys, lcM (compA own iter tg yesT el) cl env st = .ok (.lst ys) st ∧ ys.length = xs.length ∧ ∀ y ∈ ys, P y := by
  obtain ⟨ys, g1, g2, g3⟩ := compL_elive hat hl hx xs 0 [] rfl rfl
  refine ⟨ys, ?_, g2, g3⟩
  unfold lcM compA
  rw [hit]
  have hlen : IT.len (.elive l) st = xs.length := by
    show ((listAt st l).map (·.length)).getD 0 = _
    rw [hat]
    rfl
  show (compL (.elive l) tg yesT el cl (wipeE own env) (IT.len (.elive l) st + 1) 0 [] st).bind _ = _
  rw [hlen, g1]
  rfl
/-! the bounds -/
theorem chr_ok : ∀ j : Nat, j < 8 → ∃ z : Str, (∀ s, ixD s (.str "abcdefgh") (.int (j : Int)) = some (.str z)) ∧ PyI.dt (.str z) = true
  | 0, _ => ⟨_, fun s => rfl, by decide +kernel⟩
  | 1, _ => ⟨_, fun s => rfl, by decide +kernel⟩
  | 2, _ => ⟨_, fun s => rfl, by decide +kernel⟩
  | 3, _ => ⟨_, fun s => rfl, by decide +kernel⟩
  | 4, _ => ⟨_, fun s => rfl, by decide +kernel⟩
  | 5, _ => ⟨_, fun s => rfl, by decide +kernel⟩
  | 6, _ => ⟨_, fun s => rfl, by decide +kernel⟩
  | 7, _ => ⟨_, fun s => rfl, by decide +kernel⟩
  | j + 8, h => absurd h (by omega)
def firL : List D := [.str "hidden", .str "open", .int 0, .int 1]
theorem fir_ok : ∀ x ∈ firL, dt x = true ∧ szD x = 1 ∧ dpD x = 0 := by decide +kernel
def CB (y : D) : Prop := dt y = true ∧ szD y = 3 ∧ dpD y = 1
/-- what is nested -/
structure Ne45 (i : Nat) (e b : D) : Prop where
  de : dt e = true
  se : szD e ≤ 3 + 2 * i
  pe : dpD e ≤ 1 + i
  db : dt b = true
  sb : szD b ≤ 8 + 7 * i
  pb : dpD b ≤ 3 + 2 * i
theorem Ne45.start : Ne45 0 (.tup [.str "word", .int 1]) (.tup [.tup [.str "tell", .tup [.str "word", .int 1]]]) := ⟨by decide +kernel, by decide +kernel, by decide +kernel, by decide +kernel, by decide +kernel, by decide +kernel⟩
theorem Ne45.next {i : Nat} {e b : D} (h : Ne45 i e b) : Ne45 (i + 1) (.tup [.str "not", e]) (.tup [.tup [.str "if", .tup [.str "word", .int 0], b, .tup []]]) := by
  obtain ⟨h1, h2, h3, h4, h5, h6⟩ := h
  have z1 : szD (.tup [.str "not", e]) = 1 + (1 + (szD e + 0)) := rfl
  have p1 : dpD (.tup [.str "not", e]) = 1 + max 0 (max (dpD e) 0) := rfl
  have z2 : szD (.tup [.tup [.str "if", .tup [.str "word", .int 0], b, .tup []]]) = 1 + (1 + (1 + (3 + (szD b + (1 + 0)))) + 0) := rfl
  have p2 : dpD (.tup [.tup [.str "if", .tup [.str "word", .int 0], b, .tup []]]) = 1 + max (1 + max 0 (max 1 (max (dpD b) (max 1 0)))) 0 := rfl
  refine ⟨dt2 (z := "not") (by decide) h1, by omega, by omega, ?_, by omega, by omega⟩
  exact (dt_seq (fun x hx => by
    rw [List.mem_singleton.mp hx]
    exact dt4 (z := "if") (by decide) (by decide +kernel) h4 (by decide +kernel)) (by show (1 : Nat) ≤ 1000; decide)).1
theorem wide_ok {m : Nat} (hm : m ≤ 61) : Gd (.tup (List.replicate m (.tup [.str "pick", .str "a"]))) ∧ wdB (wd 6) (.tup (List.replicate m (.tup [.str "pick", .str "a"]))) = (m : Int) := by
  have hx : dt (.tup [.str "pick", .str "a"]) = true ∧ szD (.tup [.str "pick", .str "a"]) = 3 ∧ dpD (.tup [.str "pick", .str "a"]) = 1 ∧ wd 6 (.tup [.str "pick", .str "a"]) = 1 := by decide +kernel
  generalize D.tup [.str "pick", .str "a"] = x at hx
  obtain ⟨h1, h2, h3, h4⟩ := hx
  have a1 := szDs_le (b := 3) (xs := List.replicate m x) fun y hy => by rw [List.eq_of_mem_replicate hy]; omega
  have a2 := dpDs_le (b := 1) (xs := List.replicate m x) fun y hy => by rw [List.eq_of_mem_replicate hy]; omega
  rw [List.length_replicate] at a1
  have a3 : szD (.tup (List.replicate m x)) = 1 + szDs (List.replicate m x) := rfl
  have a4 : dpD (.tup (List.replicate m x)) = 1 + dpDs (List.replicate m x) := rfl
  refine ⟨⟨(dt_seq (fun y hy => by rw [List.eq_of_mem_replicate hy]; exact h1) (by rw [List.length_replicate]; omega)).1, by omega, by omega⟩, ?_⟩
  show ((List.replicate m x).map (wd 6)).sum = (m : Int)
  rw [List.map_replicate, h4]
  clear a1 a2 a3 a4 hm
  induction m with
  | zero => rfl
  | succ m ih =>
    rw [List.replicate_succ, List.sum_cons, ih]
    omega
end L11
end

section
set_option Elab.async false
set_option linter.all false
set_option maxRecDepth 100000
set_option maxHeartbeats 4000000
namespace L11
open PySem PySem.Spec PyProof.Rows L2 PyI
def A45 : SS := (forS (argM rng1 (consM (callM 24 (consM (varM 0) (consM (conM (.int 8)) nilM))) nilM)) (nameG 4) (seqS (parS [1, 2] (consM (tupM (consM (conM (.str "not")) (consM (varM 1) nilM))) (consM (tupM (consM (tupM (consM (conM (.str "if")) (consM (tupM (consM (conM (.str "word")) (consM (conM (.int 0)) nilM))) (consM (varM 2) (consM (tupM nilM) nilM))))) nilM)) nilM))) skipS))
def B45 : SS := (forS (argM rng1 (consM (binM opAdd (conM (.int 1)) (callM 24 (consM (varM 0) (consM (conM (.int 7)) nilM)))) nilM)) (nameG 10) (seqS (exprS (mtM mAppend (varM 9) (consM (callM 25 (consM (varM 0) (consM (lstM (consM (conM (.str "hidden")) (consM (conM (.str "open")) (consM (conM (.int 0)) (consM (conM (.int 1)) nilM))))) nilM))) nilM))) skipS))
def C45 : EE := (lcM (compA [10, 12] (argM enu (consM (varM 9) nilM)) (tupG [(nameG 10), (nameG 12)]) yesT (tupM (consM (binM ixD (conM (.str "abcdefgh")) (varM 10)) (consM (varM 12) nilM)))))
theorem m45_eq : m45 = (seqS (parS [1, 2, 3] (consM (tupM (consM (conM (.str "word")) (consM (conM (.int 1)) nilM))) (consM (tupM (consM (tupM (consM (conM (.str "tell")) (consM (tupM (consM (conM (.str "word")) (consM (conM (.int 1)) nilM))) nilM))) nilM)) (consM (binM opAdd (conM (.int 59)) (callM 24 (consM (varM 0) (consM (conM (.int 3)) nilM)))) nilM)))) (seqS A45 (seqS (asgS (binM opMul (tupM (consM (tupM (consM (conM (.str "pick")) (consM (conM (.str "a")) nilM))) nilM)) (varM 3)) (nameG 5)) (seqS (asgS (lstM (consM (callM 10 (consM (varM 1) nilM)) (consM (callM 17 (consM (varM 2) nilM)) (consM (callM 17 (consM (varM 5) nilM)) nilM)))) (nameG 6)) (seqS (asgS (lstM (consM (callM 35 (consM (varM 1) (consM (conM (.int 6)) nilM))) (consM (binM cLe (callM 38 (consM (varM 2) (consM (conM (.int 6)) nilM))) (conM (.int 60))) (consM (binM cLe (varM 3) (conM (.int 60))) nilM)))) (nameG 7)) (seqS (parS [8, 9] (consM (binM opAdd (conM (.int 1)) (callM 24 (consM (varM 0) (consM (conM (.int 3)) nilM)))) (consM (lstN nilM) nilM))) (seqS B45 (seqS (asgS (bltM (keep bTup) (consM C45 nilM)) (nameG 11)) (seqS (asgS (tupM (consM (varM 8) (consM (varM 11) (consM (tupM nilM) (consM (tupM nilM) nilM))))) (nameG 13)) (seqS (retS (andM (binM cEq (varM 6) (varM 7)) (callM 26 (consM (callM 22 (consM (varM 13) nilM)) (consM (callM 41 (consM (varM 13) nilM)) nilM))))) skipS)))))))))) := rfl
theorem A45_ok {n l c m : Nat} {s : Store} (hc : c + 100 ≤ 1000000000000) (h : Hand s l c) : ∃ s' e b x4, A45 (callN tab (n + 29)) [some (.ref l), some (.tup [.str "word", .int 1]), some (.tup [.tup [.str "tell", .tup [.str "word", .int 1]]]), some (.int (m : Int)), none, none, none, none, none, none, none, none, none, none] s =
    .nx [some (.ref l), some e, some b, some (.int (m : Int)), x4, none, none, none, none, none, none, none, none, none] s' ∧ Gd e ∧ Gd b ∧ Hand s' l (c + 1) ∧ But l s s' := by
  obtain ⟨_, s1, e1, ⟨r, rfl, r0, r1⟩, h1, b1⟩ := p24 (n := n + 28) (m := 8) (by decide) (by decide) (by omega) h
  have e1' : callN tab (n + 29) 24 [.ref l, .int 8] s = .ok (.int r) s1 := e1
  obtain ⟨k, rfl⟩ : ∃ k : Nat, r = (k : Int) := ⟨r.toNat, by omega⟩
  have hk : k ≤ 7 := by omega
  obtain ⟨env', s', k1, rfl, e, b, x4, rfl, k2, k3⟩ := forR_inv (tg := nameG 4) (cl := callN tab (n + 29))
    (body := (seqS (parS [1, 2] (consM (tupM (consM (conM (.str "not")) (consM (varM 1) nilM))) (consM (tupM (consM (tupM (consM (conM (.str "if")) (consM (tupM (consM (conM (.str "word")) (consM (conM (.int 0)) nilM))) (consM (varM 2) (consM (tupM nilM) nilM))))) nilM)) nilM))) skipS))
    (fun r env s2 => s2 = s1 ∧ ∃ e b x4, env = [some (.ref l), some e, some b, some (.int (m : Int)), x4, none, none, none, none, none, none, none, none, none] ∧ r.length ≤ k ∧ Ne45 (k - r.length) e b)
    ((List.range k).map fun (i : Nat) => D.int (i : Int)) [some (.ref l), some (.tup [.str "word", .int 1]), some (.tup [.tup [.str "tell", .tup [.str "word", .int 1]]]), some (.int (m : Int)), none, none, none, none, none, none, none, none, none, none] s1
    (fun x r env s2 ⟨hs, e, b, x4, he1, hr, hN⟩ => by
      subst hs
      subst he1
      rw [List.length_cons] at hr hN
      refine ⟨_, rfl, ?_⟩
      have hN' := hN.next
      rw [show k - (r.length + 1) + 1 = k - r.length from by omega] at hN'
      exact ⟨[some (.ref l), some (.tup [.str "not", e]), some (.tup [.tup [.str "if", .tup [.str "word", .int 0], b, .tup []]]), some (.int (m : Int)), some x, none, none, none, none, none, none, none, none, none], s2, by simp, rfl, _, _, _, rfl, by omega, hN'⟩)
    ⟨rfl, _, _, none, rfl, by rw [List.length_map, List.length_range]; exact Nat.le_refl _, by rw [List.length_map, List.length_range, Nat.sub_self]; exact .start⟩
  rw [List.length_nil, Nat.sub_zero] at k3
  obtain ⟨g1, g2, g3, g4, g5, g6⟩ := k3
  refine ⟨s', e, b, x4, ?_, ⟨g1, by omega, by omega⟩, ⟨g4, by omega, by omega⟩, h1, b1⟩
  unfold A45
  rw [e_for (e_rng1 (m := k) (s := s') (by simp [e1']) (by omega))]
  exact k1
theorem B45_ok {n l c q : Nat} {s : Store} {a1 a2 a3 a4 a5 a6 a7 a8 : Option D} (hc : c + 100 ≤ 1000000000000) (h : Hand s l c) (hq : q < s.nx) (hn : q ≠ l) (hat : listAt s q = some []) : ∃ s' x10 fs, B45 (callN tab (n + 29)) [some (.ref l), a1, a2, a3, a4, a5, a6, a7, a8, some (.ref q), none, none, none, none] s =
    .nx [some (.ref l), a1, a2, a3, a4, a5, a6, a7, a8, some (.ref q), x10, none, none, none] s' ∧ listAt s' q = some fs ∧ fs.length ≤ 7 ∧ (∀ x ∈ fs, x ∈ firL) ∧ Hand s' l (c + 10) ∧ ∀ st : Store, st.nx ≤ q → But l st s → But l st s' := by
  obtain ⟨_, s1, e1, ⟨r, rfl, r0, r1⟩, h1, b1⟩ := p24 (n := n + 28) (m := 7) (by decide) (by decide) (by omega) h
  have e1' : callN tab (n + 29) 24 [.ref l, .int 7] s = .ok (.int r) s1 := e1
  obtain ⟨k, hk⟩ : ∃ k : Nat, 1 + r = (k : Int) := ⟨(1 + r).toNat, by omega⟩
  have hk7 : k ≤ 7 := by omega
  obtain ⟨env', s', k1, fs, x10, rfl, ⟨k2, k3⟩, k4, k5, k6, k7, k8⟩ := forR_inv (tg := nameG 10) (cl := callN tab (n + 29))
    (body := (seqS (exprS (mtM mAppend (varM 9) (consM (callM 25 (consM (varM 0) (consM (lstM (consM (conM (.str "hidden")) (consM (conM (.str "open")) (consM (conM (.int 0)) (consM (conM (.int 1)) nilM))))) nilM))) nilM))) skipS))
    (fun r env s2 => ∃ (fs : List D) (x10 : Option D), env = [some (.ref l), a1, a2, a3, a4, a5, a6, a7, a8, some (.ref q), x10, none, none, none] ∧ (r.length ≤ k ∧ fs.length + r.length = k) ∧ listAt s2 q = some fs ∧ (∀ x ∈ fs, x ∈ firL) ∧ Hand s2 l (c + 1 + (k - r.length)) ∧ q < s2.nx ∧ ∀ st : Store, st.nx ≤ q → But l st s → But l st s2)
    ((List.range k).map fun (i : Nat) => D.int (i : Int)) [some (.ref l), a1, a2, a3, a4, a5, a6, a7, a8, some (.ref q), none, none, none, none] s1
    (fun x r env s2 ⟨fs, x10, he1, ⟨hr, hr2⟩, ha, hf, hh, hlt, hb⟩ => by
      subst he1
      rw [List.length_cons] at hr hr2 hh
      refine ⟨_, rfl, ?_⟩
      obtain ⟨y, s3, e3, hy, h3, b3⟩ := p25 (n := n + 27) (xs := firL) (th := .lst firL) (.inl rfl) (by decide) (by decide) (by omega) hh
      have e3' : callN tab (n + 29) 25 [.ref l, .lst [.str "hidden", .str "open", .int 0, .int 1]] s2 = .ok y s3 := e3
      have ha3 := b3.list hlt hn ha
      have hap := app_ok (y := y) ha3 (le_line (n := fs.length + 1) (by omega))
      refine ⟨[some (.ref l), a1, a2, a3, a4, a5, a6, a7, a8, some (.ref q), some x, none, none, none], s3.put q (.lst (fs ++ [y])), ?_, fs ++ [y], some x, rfl, ⟨by omega, by rw [List.length_append, List.length_singleton]; omega⟩, list_put, fun z hz => ?_, (h3.put hn).mono (by omega), Nat.lt_of_lt_of_le hlt b3.nx, fun st h1 h2 => But.put' ((hb st h1 h2).trans b3) h1⟩
      · simp [isL_ref ha, e3', hap]
      · rcases List.mem_append.mp hz with hz | hz
        · exact hf z hz
        · rw [List.mem_singleton.mp hz]
          exact hy)
    ⟨[], none, rfl, ⟨by rw [List.length_map, List.length_range]; exact Nat.le_refl _, by rw [List.length_map, List.length_range]; exact Nat.zero_add _⟩, b1.list hq hn hat, fun x hx => (by cases hx), h1.mono (by omega), Nat.lt_of_lt_of_le hq b1.nx, fun st _ h2 => h2.trans b1⟩
  rw [List.length_nil] at k3
  refine ⟨s', x10, fs, ?_, k4, by omega, k5, k6.mono (by omega), k8⟩
  unfold B45
  rw [e_for (e_rng1 (m := k) (s := s1) (by simp [e1', hk]) (by omega))]
  exact k1
theorem C45_ok {cl : CL} {l q : Nat} {s : Store} {a1 a2 a3 a4 a5 a6 a7 a8 x10 : Option D} {fs : List D} (hat : listAt s q = some fs) (hl : fs.length ≤ 7) (hf : ∀ x ∈ fs, x ∈ firL) :
    ∃ ys, C45 cl [some (.ref l), a1, a2, a3, a4, a5, a6, a7, a8, some (.ref q), x10, none, none, none] s = .ok (.lst ys) s ∧ ys.length ≤ 7 ∧ ∀ y ∈ ys, CB y := by
  have hit : argM enu (consM (varM 9) nilM) cl [some (.ref l), a1, a2, a3, a4, a5, a6, a7, a8, some (.ref q), x10, none, none, none] s = .ok (.elive q) s := by
    have : enu s [.ref q] = some (.elive q) := by
      show (if (listAt s q).isSome then some (IT.elive q) else none) = _
      rw [hat]
      rfl
    unfold argM
    simp [this]
  obtain ⟨ys, g1, g2, g3⟩ := lc_elive (own := [10, 12]) (P := CB) (tg := tupG [(nameG 10), (nameG 12)]) (el := (tupM (consM (binM ixD (conM (.str "abcdefgh")) (varM 10)) (consM (varM 12) nilM)))) hit hat (by omega) (fun j x hx => by
    have hj : j < fs.length := (List.getElem?_eq_some_iff.mp hx).1
    obtain ⟨z, z1, z2⟩ := chr_ok j (by omega)
    obtain ⟨f1, f2, f3⟩ := fir_ok x (hf x (List.mem_of_getElem? hx))
    refine ⟨_, rfl, .tup [.str z, x], by simp [wipeE, z1], (dt_seq (fun y hy => ?_) (by show (2 : Nat) ≤ 1000; decide)).1, ?_, ?_⟩
    · simp only [List.mem_cons, List.not_mem_nil, or_false] at hy
      rcases hy with rfl | rfl
      · exact z2
      · exact f1
    · simp [f2, szD]
    · simp [f3, dpD])
  exact ⟨ys, g1, by omega, g3⟩
end L11
end

section
set_option Elab.async false
set_option linter.all false
set_option maxRecDepth 100000
set_option maxHeartbeats 4000000
namespace L11
open PySem PySem.Spec PyProof.Rows L2 PyI
theorem flat_rep {m : Nat} {x : D} : (List.replicate m [x]).flatten = List.replicate m x := by
  induction m with
  | zero => rfl
  | succ m ih =>
    rw [List.replicate_succ, List.flatten_cons, ih]
    rfl
theorem p45 {n l c : Nat} {st : Store} (hc : c + 1000 ≤ 1000000000000) (h : Hand st l c) : Dr l c 100 st (callN tab (n + 30) 45 [.ref l] st) (fun r => r = .bl true) := by
  rw [call_tab t45, m45_eq]
  obtain ⟨_, s1, e1, ⟨r, rfl, r0, r1⟩, h1, b1⟩ := p24 (n := n + 28) (m := 3) (by decide) (by decide) (by omega) h
  have e1' : callN tab (n + 29) 24 [.ref l, .int 3] st = .ok (.int r) s1 := e1
  obtain ⟨m, hm⟩ : ∃ m : Nat, 59 + r = (m : Int) := ⟨(59 + r).toNat, by omega⟩
  obtain ⟨s2, e, b, x4, e2, ge, gb, h2, b2⟩ := A45_ok (n := n) (m := m) (by omega) h1
  have gm := wide_ok (m := m) (by omega)
  obtain ⟨gw, gw2⟩ := gm
  have emul : ∀ s, opMul s (.tup [.tup [.str "pick", .str "a"]]) (.int (m : Int)) = some (.tup (List.replicate m (.tup [.str "pick", .str "a"]))) := fun s => by
    show (if [D.tup [.str "pick", .str "a"]] ≠ [] ∧ 2 ≤ (m : Int) ∧ (m : Int) ≤ 1000 ∧ [D.tup [.str "pick", .str "a"]].length ≤ 1000 then some (D.tup (List.replicate ((m : Int).toNat) [D.tup [.str "pick", .str "a"]]).flatten) else none) = _
    rw [if_pos ⟨List.cons_ne_nil _ _, by omega, by omega, by show (1 : Nat) ≤ 1000; decide⟩, Int.toNat_natCast, flat_rep]
  generalize List.replicate m (D.tup [.str "pick", .str "a"]) = wd' at gw gw2 emul
  have q10 : ∀ s, callN tab (n + 29) 10 [e] s = .ok (.bl (isE 6 e)) s := fun s => p10 (n := n + 18) ge.dt
  have q35 : ∀ s, callN tab (n + 29) 35 [e, .int 6] s = .ok (.bl (isE 6 e)) s := fun s => p35' (n := n + 19) ge.dt
  have q38 : ∀ s, callN tab (n + 29) 38 [b, .int 6] s = .ok (.int (wdB (wd 6) b)) s := fun s => p38' (n := n + 2) gb.dt
  obtain ⟨s3, e3, x3⟩ := p17 (n := n + 1) (st := s2) gb.fit
  have e3' : callN tab (n + 29) 17 [b] s2 = .ok (.bl (decide (wdB (wd 6) b ≤ 60))) s3 := e3
  obtain ⟨s4, e4, x4'⟩ := p17 (n := n + 1) (st := s3) gw.fit
  rw [gw2] at e4
  have e4' : callN tab (n + 29) 17 [.tup wd'] s3 = .ok (.bl (decide ((m : Int) ≤ 60))) s4 := e4
  have h4 := (h2.ext x3).ext x4'
  obtain ⟨_, s5, e5, ⟨r5, rfl, r50, r51⟩, h5, b5⟩ := p24 (n := n + 28) (m := 3) (by decide) (by decide) (by omega) h4
  have e5' : callN tab (n + 29) 24 [.ref l, .int 3] s4 = .ok (.int r5) s5 := e5
  have h6 : Hand (s5.new (.lst [])) l (c + 1 + 1 + 1) := h5.ext Ext.new
  obtain ⟨s7, x10, fs, e7, l7, f7, m7, h7, b7⟩ := B45_ok (n := n) (q := s5.nx) (a1 := some e) (a2 := some b) (a3 := some (.int (m : Int))) (a4 := x4) (a5 := some (.tup wd')) (a6 := some (.lst [.bl (isE 6 e), .bl (decide (wdB (wd 6) b ≤ 60)), .bl (decide ((m : Int) ≤ 60))])) (a7 := some (.lst [.bl (isE 6 e), .bl (decide (wdB (wd 6) b ≤ 60)), .bl (decide ((m : Int) ≤ 60))])) (a8 := some (.int (1 + r5))) (by omega) h6 (Nat.lt_succ_self _) (by have := h5.lt; omega) list_new
  obtain ⟨ys, e8, y8, c8⟩ := C45_ok (cl := callN tab (n + 29)) (l := l) (a1 := some e) (a2 := some b) (a3 := some (.int (m : Int))) (a4 := x4) (a5 := some (.tup wd')) (a6 := some (.lst [.bl (isE 6 e), .bl (decide (wdB (wd 6) b ≤ 60)), .bl (decide ((m : Int) ≤ 60))])) (a7 := some (.lst [.bl (isE 6 e), .bl (decide (wdB (wd 6) b ≤ 60)), .bl (decide ((m : Int) ≤ 60))])) (a8 := some (.int (1 + r5))) (x10 := x10) l7 f7 m7
  have a1 := szDs_le (b := 3) (xs := ys) fun y hy => Nat.le_of_eq (c8 y hy).2.1
  have a2 := dpDs_le (b := 1) (xs := ys) fun y hy => Nat.le_of_eq (c8 y hy).2.2
  have gP : Fit (.tup [.int (1 + r5), .tup ys, .tup [], .tup []]) := by
    have z1 : szD (.tup [.int (1 + r5), .tup ys, .tup [], .tup []]) = 1 + (1 + (1 + szDs ys + (1 + (1 + 0)))) := rfl
    have z2 : dpD (.tup [.int (1 + r5), .tup ys, .tup [], .tup []]) = 1 + max 0 (max (1 + dpDs ys) (max 1 (max 1 0))) := rfl
    refine ⟨(dt_seq (fun y hy => ?_) (by show (4 : Nat) ≤ 1000; decide)).1, by omega, by omega⟩
    simp only [List.mem_cons, List.not_mem_nil, or_false] at hy
    rcases hy with rfl | rfl | rfl | rfl
    · rfl
    · exact (dt_seq (fun y hy => (c8 y hy).1) (by omega)).1
    · rfl
    · rfl
  obtain ⟨s9, e9, x9⟩ := p22 (n := n) (st := s7) gP
  have e10 : ∀ s, callN tab (n + 29) 41 [.tup [.int (1 + r5), .tup ys, .tup [], .tup []]] s = .ok (.bl (isSh (.tup [.int (1 + r5), .tup ys, .tup [], .tup []]))) s := fun s => p41 (n := n + 1) gP.dt
  have q26 : ∀ b s, callN tab (n + 29) 26 [.bl b, .bl b] s = .ok (.bl true) s := fun b s => p26 (n := n + 28)
  have heq : ∀ (s : Store) (x y z : Bool), cEq s (.lst [.bl x, .bl y, .bl z]) (.lst [.bl x, .bl y, .bl z]) = some (.bl true) := fun s x y z => by cases x <;> cases y <;> cases z <;> rfl
  have bb : But l st s9 := (b7 st (by have := (((b1.trans b2).trans x3.but).trans x4'.but).trans b5; exact this.nx) (((((b1.trans b2).trans x3.but).trans x4'.but).trans b5).trans Ext.new.but)).trans x9.but
  refine ⟨.bl true, s9, run_ret ?_, rfl, (h7.ext x9).mono (by omega), bb⟩
  generalize isSh (.tup [.int (1 + r5), .tup ys, .tup [], .tup []]) = sh at e9 e10
  have e9' : callN tab (n + 29) 22 [.tup [.int (1 + r5), .tup ys, .tup [], .tup []]] s7 = .ok (.bl sh) s9 := e9
  generalize hE : isE 6 e = ee at *
  generalize hB : decide (wdB (wd 6) b ≤ 60) = be at *
  generalize hM : decide ((m : Int) ≤ 60) = me at *
  have cle1 : ∀ s, cLe s (.int (wdB (wd 6) b)) (.int 60) = some (.bl be) := fun s => by rw [← hB]; rfl
  have cle2 : ∀ s, cLe s (.int (m : Int)) (.int 60) = some (.bl me) := fun s => by rw [← hM]; rfl
  simp [e1', hm, e2, emul, q10, e3', e4', q35, q38, cle1, cle2, e5', newL_ok, e7, e8, heq, e9', e10, q26]
end L11
end

section
set_option Elab.async false
set_option linter.all false
set_option maxRecDepth 100000
set_option maxHeartbeats 4000000
namespace L11
open PySem PySem.Spec PyProof.Rows L2 PyI
def W46 : SS := (forS (argM rng1 (consM (conM (.int 3)) nilM)) (nameG 2) (seqS (ifS (orT (notT (boolT (callM 44 (consM (varM 1) (consM (callM 32 (consM (varM 1) nilM)) nilM))))) (notT (boolT (callM 45 (consM (varM 1) nilM))))) (seqS (retS (conM (.bl false))) skipS) skipS) skipS))
theorem m46_eq : m46 = (seqS (asgS (callM 23 (consM (varM 0) nilM)) (nameG 1)) (seqS W46 (seqS (retS (andM (binM cIs (callM 22 (consM (tupM (consM (conM (.int 1)) (consM (tupM (consM (tupM (consM (conM (.str "a")) (consM (conM (.int 2)) nilM))) nilM)) (consM (tupM nilM) (consM (tupM nilM) nilM))))) nilM)) (conM (.bl false))) (binM cIs (callM 19 (consM (tupM (consM (tupM (consM (conM (.str "a")) (consM (conM (.int 7)) nilM))) nilM)) nilM)) (conM (.bl true))))) skipS))) := rfl
theorem W46_ok {n l : Nat} {sc : D} {s : Store} (h : Hand s l 0) : ∃ s' x2, W46 (callN tab (n + 30)) [some sc, some (.ref l), none] s = .nx [some sc, some (.ref l), x2] s' := by
  obtain ⟨env', s', k1, x2, rfl, _⟩ := forR_inv (tg := nameG 2) (cl := callN tab (n + 30))
    (body := (seqS (ifS (orT (notT (boolT (callM 44 (consM (varM 1) (consM (callM 32 (consM (varM 1) nilM)) nilM))))) (notT (boolT (callM 45 (consM (varM 1) nilM))))) (seqS (retS (conM (.bl false))) skipS) skipS) skipS))
    (fun r env s1 => ∃ x2, env = [some sc, some (.ref l), x2] ∧ r.length ≤ 3 ∧ Hand s1 l ((3 - r.length) * 300000))
    ((List.range 3).map fun (i : Nat) => D.int (i : Int)) [some sc, some (.ref l), none] s
    (fun x r env s1 ⟨x2, he, hr, hh⟩ => by
      subst he
      rw [List.length_cons] at hr hh
      refine ⟨_, rfl, ?_⟩
      obtain ⟨d, s2, e2, hd, h2, _⟩ := p32 (n := n + 16) (by omega) hh
      have e2' : callN tab (n + 30) 32 [.ref l] s1 = .ok d s2 := e2
      obtain ⟨_, s3, e3, rfl, h3, _⟩ := p44 (n := n) hd (by omega) h2
      obtain ⟨_, s4, e4, rfl, h4, _⟩ := p45 (n := n) (by omega) h3
      exact ⟨[some sc, some (.ref l), some x], s4, by simp [e2', e3, e4], some x, rfl, by omega, h4.mono (by omega)⟩)
    ⟨none, rfl, by decide, h⟩
  refine ⟨s', x2, ?_⟩
  unfold W46
  rw [e_for (e_rng1 (m := 3) (s := s) (by simp) (by decide))]
  exact k1
theorem p46 {n : Nat} {ns : List Int} {st : Store} (hl : ns.length ≤ 63) : ∃ st', callN tab (n + 31) 46 [.scr (ns.map D.int)] st = .ok (.bl true) st' := by
  rw [call_tab t46, m46_eq]
  obtain ⟨s1, l, e1, h1, _⟩ := p23 (n := n + 29) (st := st) hl
  have e1' : callN tab (n + 30) 23 [.scr (ns.map D.int)] st = .ok (.ref l) s1 := e1
  obtain ⟨s2, x2, e2⟩ := W46_ok (n := n) (sc := .scr (ns.map D.int)) h1
  obtain ⟨s3, e3, _⟩ := p22 (n := n + 1) (d := .tup [.int 1, .tup [.tup [.str "a", .int 2]], .tup [], .tup []]) (st := s2) ⟨by decide +kernel, by decide +kernel, by decide +kernel⟩
  have b1 : isSh (.tup [.int 1, .tup [.tup [.str "a", .int 2]], .tup [], .tup []]) = false := by decide +kernel
  rw [b1] at e3
  have e3' : callN tab (n + 30) 22 [.tup [.int 1, .tup [.tup [.str "a", .int 2]], .tup [], .tup []]] s2 = .ok (.bl false) s3 := e3
  have e4 := p19 (n := n + 26) (d := .tup [.tup [.str "a", .int 7]]) (st := s3) (by decide +kernel)
  have b2 : arC (.tup [.tup [.str "a", .int 7]]) = true := by decide +kernel
  rw [b2] at e4
  have e4' : callN tab (n + 30) 19 [.tup [.tup [.str "a", .int 7]]] s3 = .ok (.bl true) s3 := e4
  have n1 : ∀ s, cIs s (.bl true) (.bl true) = some (.bl true) := fun s => rfl
  have n2 : ∀ s, cIs s (.bl false) (.bl false) = some (.bl true) := fun s => rfl
  refine ⟨s3, run_ret ?_⟩
  simp [e1', e2, e3', e4', n1, n2]
end L11
end

section
set_option Elab.async false
set_option linter.all false
set_option maxRecDepth 100000
set_option maxHeartbeats 0
namespace L11
open PySem PySem.Spec PyProof.Rows L2 PyI
abbrev R : PySem.W.OpenRow := PySem.W.OpenLaw.row PySem.Challenge.rw_evenclock_k11_whole_programs_judged
abbrev hk : PySem.W.Hook := He.hookX 4 (faOf dfs) (dfs.map DF.at_) [] [] (consB gd.cns)
def ob (s : PySem.W.SharedT) : He.AlX := He.obsX 4 (faOf dfs) (dfs.map DF.at_) [] [] (consB gd.cns) (HandSHeadRun.getT s)
theorem ob_eq (s : PySem.W.SharedT) : ob s = hk.obs s.abs := He.obsX_eq (HandSHeadRun.getT_eq s)
def loose0 : List Str := ["__name__", "ClockError", "BadWidth", "TooMany", "LETTERS", "MOST_DEEP", "is_integer", "is_within", "is_tuple_of", "is_name", "size_of", "are_within", "is_flat", "DEEDS", "KINDS", "is_deed", "is_kind", "OPEN", "HIDDEN", "MOST_EXPRESSION", "MOST_BLOCK", "MOST_STATEMENTS", "MOST_FILLINGS", "MOST_BOTH", "MOST_ROWS"]
def loose1 : List Str := ["is_expression_to", "is_expression", "is_look", "inner_blocks", "is_statement_to", "is_block_to", "statements_of", "is_statement", "is_block", "is_cell", "are_cells", "are_tables", "power", "is_shape", "_law_hand", "_law_draw", "_law_some", "_law_is", "_law_kinds", "_law_e", "_law_block", "_law_many", "_law_inner", "_law_program", "_law_is_int"]
def loose2 : List Str := ["_law_is_name", "_law_is_e", "_law_is_look", "_law_wide", "_law_wide_block", "_law_are_cells", "_law_are_tables", "_law_is_shape", "_law_odd", "_law_bent", "_law_judged_right", "_law_bounds_right", "_law_all"]
def loose : List Str := loose0 ++ loose1 ++ loose2
theorem run (w : World) : HandSHeadRun.RunEq R (PySem.W.view R.prog [67]) hk ob 20000 loose w := by
  intro os
  kernel_rfl
end L11
end

section
set_option Elab.async false
set_option linter.all false
set_option maxRecDepth 100000
set_option maxHeartbeats 4000000
namespace L11
open PySem PySem.Spec PyProof.Rows L2 PyI
theorem plain : ∀ ns : List Int, ns.length ≤ 63 → ∃ st, callN tab 200 47 [.scr (ns.map D.int)] st0 = .ok (.bl true) st := fun ns hl => by
  obtain ⟨s1, e1⟩ := p46 (n := 168) (ns := ns) (st := st0) hl
  have e1' : callN tab 199 46 [.scr (ns.map D.int)] st0 = .ok (.bl true) s1 := e1
  refine ⟨s1, ?_⟩
  have : callN tab (199 + 1) 47 [.scr (ns.map D.int)] st0 = .ok (.bl true) s1 := by
    rw [call_tab t47]
    refine run_ret ?_
    simp [m47, tryS, e1']
  exact this
end L11
end

section
set_option Elab.async false
set_option linter.all false
set_option maxRecDepth 100000
set_option maxHeartbeats 0
open PySem PySem.W PySem.Calls PyProof.Rows
theorem PySem.Challenge.cw_evenclock_k11_whole_programs_judged_holds : PySem.Challenge.rw_evenclock_k11_whole_programs_judged.Holds := by
  w_on; o_law
  refine HandSHeadRun.head_any (r := OpenLaw.row PySem.Challenge.rw_evenclock_k11_whole_programs_judged) (q := view (OpenLaw.row PySem.Challenge.rw_evenclock_k11_whole_programs_judged).prog [67]) (H := L11.hk) (ob := L11.ob) (M := 20000) (loose := L11.loose) (d := HandSHeadRun.topDef (OpenLaw.row PySem.Challenge.rw_evenclock_k11_whole_programs_judged).prog 67) (kwd := []) L11.ob_eq
    (by kernel_rfl) (fun s => by kernel_rfl) L11.run (by kernel_rfl) (by kernel_rfl) (by kernel_rfl) (by rfl) (by first | assumption | decide +kernel) (by decide +kernel) ⟨rfl, rfl, rfl, rfl, rfl, by decide +kernel⟩ ?hw ?hc
  case hw => w_witness2
  case hc =>
    refine PyI.walk_ofEw (l := PySem.Challenge.rw_evenclock_k11_whole_programs_judged) (n := 63) (k := 200) (x := "script") (CX := fun w => L2.CX (PySem.Challenge.rw_evenclock_k11_whole_programs_judged).prog w) rfl (by decide) (by kernel_rfl) ⟨rfl, by decide, by decide⟩ ?F (fun w _ _ _ _ z => PyI.cx_no z)
    intro w mg fa h Y G hmg0
    have hmg : mg (L11.d47).name = some (.ref fa) := by
      have e : (HandSHeadRun.topDef (OpenLaw.row PySem.Challenge.rw_evenclock_k11_whole_programs_judged).prog 67).name = (L11.d47).name := by kernel_rfl
      rw [← e]
      exact hmg0
    exact PyI.head_of (l := PySem.Challenge.rw_evenclock_k11_whole_programs_judged) (i := 47) (dl := L11.d47) L11.lst (fun z => by cases z) rfl rfl L11.plain Y G hmg
end
