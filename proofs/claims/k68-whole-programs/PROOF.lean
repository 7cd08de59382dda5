import PyProof.Rows.All
import Wide.All
import OpenK.AllK
import Wide.FinOn
import HandS.ForMost
import HandS.Wide
import HandS.Gcd
import HandS.TupAny
import HandS.TupMul
import HandS.Zip
import HandS.Style
import HandS.Flow
import HandS.IsInst
import HandS.Conv
import HandS.TupSets
import KE.KeyNested
import KE.KDictKeyed
import KE.KDictWalk
import KE.KDictLaw
import KE.KDictList
import KE.SortData
import HandS.Evl
import KE.GoesEnum
import KE.KDictSum
import HandS.ExcValue
import HandS.RepeatKit
import PySem.Challenge.RW_everysource_k68_whole_programs_told_by_t
set_option Elab.async false
set_option linter.all false
-- K68A
set_option maxRecDepth 100000
set_option maxHeartbeats 4000000
/-! Data: ints and nested tuples, how the heap bears them, the abstract store. -/
namespace Kd
open PySem PySem.Spec PyProof.Rows L2

/-- a datum: an int, or a tuple of data -/
inductive T where
  | i (n : Int)
  | t (l : List T)

namespace T
mutual
def nk : T → NestedKey
  | .i n => .num n
  | .t l => .tup (nks l)
def nks : List T → List NestedKey
  | [] => []
  | x :: r => nk x :: nks r
end
mutual
def py : T → PyData
  | .i n => .int n
  | .t l => .tuple (pys l)
def pys : List T → List PyData
  | [] => []
  | x :: r => py x :: pys r
end
mutual
theorem nk_inj : ∀ a b : T, nk a = nk b → a = b
  | .i n, .i m, h => by simp only [nk, NestedKey.num.injEq] at h; rw [h]
  | .i n, .t l, h => by simp [nk] at h
  | .t l, .i m, h => by simp [nk] at h
  | .t l, .t r, h => by simp only [nk, NestedKey.tup.injEq] at h; rw [nks_inj l r h]
theorem nks_inj : ∀ a b : List T, nks a = nks b → a = b
  | [], [], _ => rfl
  | [], _ :: _, h => by simp [nks] at h
  | _ :: _, [], h => by simp [nks] at h
  | x :: r, y :: s, h => by
    simp only [nks, List.cons.injEq] at h
    rw [nk_inj x y h.1, nks_inj r s h.2]
end
instance : DecidableEq T := fun a b => if h : nk a = nk b then isTrue (nk_inj a b h) else isFalse fun e => h (e ▸ rfl)
theorem nk_dec (a b : T) : decide (nk a = nk b) = decide (a = b) := by
  by_cases h : a = b
  · subst h; simp
  · rw [decide_eq_false h, decide_eq_false fun e => h (nk_inj a b e)]
mutual
def depth : T → Nat
  | .i _ => 0
  | .t l => depths l + 1
def depths : List T → Nat
  | [] => 0
  | x :: r => max (depth x) (depths r)
end
mutual
theorem nk_depth : ∀ a : T, (nk a).depth = depth a
  | .i _ => by simp [nk, NestedKey.depth, depth]
  | .t l => by simp only [nk, NestedKey.depth, depth]; rw [nks_depth l]
theorem nks_depth : ∀ a : List T, NestedKey.depthAll (nks a) = depths a
  | [] => by simp [nks, NestedKey.depthAll, depths]
  | x :: r => by simp only [nks, NestedKey.depthAll, depths]; rw [nk_depth x, nks_depth r]
end
theorem nks_length : ∀ l : List T, (nks l).length = l.length
  | [] => rfl
  | x :: r => by simp only [nks, List.length_cons]; rw [nks_length r]
theorem pys_map : ∀ l : List T, pys l = l.map py
  | [] => rfl
  | x :: r => by simp only [pys, List.map_cons]; rw [pys_map r]
mutual
theorem py_eqv : ∀ a b : T, PyData.eqv (py a) (py b) = decide (a = b)
  | .i n, .i m => by
    simp only [py, PyData.eqv]
    by_cases h : n = m
    · subst h; simp
    · have : ¬ T.i n = T.i m := fun e => h (by injection e)
      rw [decide_eq_false this]; simp [h]
  | .i n, .t l => by
    have : ¬ T.i n = T.t l := fun e => by cases e
    rw [decide_eq_false this]; simp [py, PyData.eqv]
  | .t l, .i m => by
    have : ¬ T.t l = T.i m := fun e => by cases e
    rw [decide_eq_false this]; simp [py, PyData.eqv]
  | .t l, .t r => by
    simp only [py, PyData.eqv]
    rw [pys_eqv l r]
    by_cases h : l = r
    · subst h; simp
    · have : ¬ T.t l = T.t r := fun e => h (by injection e)
      rw [decide_eq_false h, decide_eq_false this]
theorem pys_eqv : ∀ a b : List T, PyData.eqvAll (pys a) (pys b) = decide (a = b)
  | [], [] => by simp [pys, PyData.eqvAll]
  | [], _ :: _ => by simp [pys, PyData.eqvAll]
  | _ :: _, [] => by simp [pys, PyData.eqvAll]
  | x :: r, y :: s => by
    simp only [pys, PyData.eqvAll]
    rw [py_eqv x y, pys_eqv r s]
    by_cases h : x = y
    · subst h
      by_cases h2 : r = s
      · subst h2; simp
      · simp [h2]
    · simp [h]
end
mutual
theorem py_alike_self : ∀ a : T, PySem.W.alike (py a) (py a) = true
  | .i _ => by simp [py, PySem.W.alike]
  | .t l => by simp only [py, PySem.W.alike]; exact pys_alike_self l
theorem pys_alike_self : ∀ a : List T, PySem.W.alikeAll (pys a) (pys a) = true
  | [] => by simp [pys, PySem.W.alikeAll]
  | x :: r => by simp only [pys, PySem.W.alikeAll]; rw [py_alike_self x, pys_alike_self r]; rfl
end
mutual
theorem py_depth : ∀ a : T, (py a).depth = depth a
  | .i _ => by simp [py, PyData.depth, depth]
  | .t l => by simp only [py, PyData.depth, depth]; rw [pys_depth l]
theorem pys_depth : ∀ a : List T, PyData.depthAll (pys a) = depths a
  | [] => by simp [pys, PyData.depthAll, depths]
  | x :: r => by simp only [pys, PyData.depthAll, depths]; rw [py_depth x, pys_depth r]
end
end T

/-! ### what the heap bears -/
mutual
inductive Rep (K : PySem.W.Frag) (H : Hp) : V → T → Prop
  | i (n : Int) : Rep K H (.int n) (.i n)
  | t {a : Addr} {vs : List V} {ds : List T} : SqT K H a vs → Reps K H vs ds → Rep K H (.ref a) (.t ds)
inductive Reps (K : PySem.W.Frag) (H : Hp) : List V → List T → Prop
  | nil : Reps K H [] []
  | cons {v : V} {vs : List V} {d : T} {ds : List T} : Rep K H v d → Reps K H vs ds → Reps K H (v :: vs) (d :: ds)
end
/-- tuples stay -/
def TEx (K : PySem.W.Frag) (H H' : Hp) : Prop := ∀ a xs, SqT K H a xs → SqT K H' a xs
section
variable {K : PySem.W.Frag} {H H' H2 : Hp} {v : V} {vs : List V} {d : T} {ds : List T}
theorem same_t (e : Same H H') {a : Addr} {xs : List V} (h : SqT K H a xs) : SqT K H' a xs := by
  rcases h with (h | ⟨o, h⟩) | h
  · exact .inl (.inl (e _ _ h))
  · exact .inl (.inr ⟨o, e _ _ h⟩)
  · exact .inr h
theorem TEx.refl : TEx K H H := fun _ _ h => h
theorem TEx.trans (a : TEx K H H') (b : TEx K H' H2) : TEx K H H2 := fun x y h => b x y (a x y h)
theorem _root_.L2.Same.tex (e : Same H H') : TEx K H H' := fun _ _ h => same_t e h
/-- an object that is no tuple is written -/
theorem TEx.wr {p : Addr} {o o' : HO} (h : H p = some o) (h1 : ∀ xs, o ≠ .tup xs) (h2 : ∀ ob u, o ≠ .frz ob u) : TEx K H (upd H p o') := fun a xs hs => by
  have ne : ∀ u, H a = some u → (∀ xs, u = .tup xs → a ≠ p) ∧ (∀ ob x, u = .frz ob x → a ≠ p) := fun u hu => by
    refine ⟨fun xs e z => ?_, fun ob x e z => ?_⟩
    · subst z; rw [h] at hu; injection hu with hu; subst hu; exact h1 _ e
    · subst z; rw [h] at hu; injection hu with hu; subst hu; exact h2 _ _ e
  rcases hs with (hs | ⟨ob, hs⟩) | hs
  · exact .inl (.inl (by rw [upd_ne ((ne _ hs).1 _ rfl)]; exact hs))
  · exact .inl (.inr ⟨ob, by rw [upd_ne ((ne _ hs).2 _ _ rfl)]; exact hs⟩)
  · exact .inr hs
theorem TEx.lst {p : Addr} {xs ys : List V} (h : H p = some (.lst xs)) : TEx K H (upd H p (.lst ys)) := TEx.wr h (fun _ z => by cases z) (fun _ _ z => by cases z)
mutual
theorem Rep.tex (e : TEx K H H') : ∀ {v : V} (d : T), Rep K H v d → Rep K H' v d
  | _, .i n, h => by cases h; exact .i n
  | _, .t l, h => by
    cases h with
    | t h1 h2 => exact .t (e _ _ h1) (Reps.tex e l h2)
theorem Reps.tex (e : TEx K H H') : ∀ {vs : List V} (ds : List T), Reps K H vs ds → Reps K H' vs ds
  | _, [], h => by cases h; exact .nil
  | _, d :: ds, h => by
    cases h with
    | cons h1 h2 => exact .cons (Rep.tex e d h1) (Reps.tex e ds h2)
end
theorem Rep.ex (e : Same H H') (h : Rep K H v d) : Rep K H' v d := Rep.tex e.tex d h
theorem Reps.ex (e : Same H H') (h : Reps K H vs ds) : Reps K H' vs ds := Reps.tex e.tex ds h
theorem Rep.int {n : Int} (h : Rep K H v (.i n)) : v = .int n := by cases h; rfl
theorem Rep.tup {l : List T} (h : Rep K H v (.t l)) : ∃ a vs, v = .ref a ∧ SqT K H a vs ∧ Reps K H vs l := by
  cases h with
  | t h1 h2 => exact ⟨_, _, rfl, h1, h2⟩
theorem Reps.length : ∀ {vs : List V} {ds : List T}, Reps K H vs ds → vs.length = ds.length
  | _, _, .nil => rfl
  | _, _, .cons _ t => by rw [List.length_cons, List.length_cons, Reps.length t]
theorem Reps.get : ∀ {vs : List V} {ds : List T} {i : Nat} {d : T}, Reps K H vs ds → ds[i]? = some d → ∃ v, vs[i]? = some v ∧ Rep K H v d
  | _, _, _, _, .nil, e => by simp at e
  | _, _, 0, _, .cons r _, e => by simp at e; subst e; exact ⟨_, rfl, r⟩
  | _, _, i + 1, _, .cons _ t, e => by
    obtain ⟨v, h1, h2⟩ := Reps.get (i := i) t (by simpa using e)
    exact ⟨v, by simpa using h1, h2⟩
theorem Reps.getV : ∀ {vs : List V} {ds : List T} {i : Nat} {v : V}, Reps K H vs ds → vs[i]? = some v → ∃ d, ds[i]? = some d ∧ Rep K H v d
  | _, _, _, _, .nil, e => by simp at e
  | _, _, 0, _, .cons r _, e => by simp at e; subst e; exact ⟨_, rfl, r⟩
  | _, _, i + 1, _, .cons _ t, e => by
    obtain ⟨v, h1, h2⟩ := Reps.getV (i := i) t (by simpa using e)
    exact ⟨v, by simpa using h1, h2⟩
theorem Reps.append : ∀ {vs ws : List V} {ds es : List T}, Reps K H vs ds → Reps K H ws es → Reps K H (vs ++ ws) (ds ++ es)
  | _, _, _, _, .nil, s => s
  | _, _, _, _, .cons r t, s => .cons r (Reps.append t s)
theorem Reps.one (h : Rep K H v d) : Reps K H [v] [d] := .cons h .nil
theorem Reps.snoc (h : Reps K H vs ds) (r : Rep K H v d) : Reps K H (vs ++ [v]) (ds ++ [d]) := h.append (.one r)
theorem Reps.take : ∀ {vs : List V} {ds : List T} (n : Nat), Reps K H vs ds → Reps K H (vs.take n) (ds.take n)
  | _, _, 0, _ => .nil
  | _, _, _ + 1, .nil => .nil
  | _, _, n + 1, .cons r t => .cons r (Reps.take n t)
theorem Reps.drop : ∀ {vs : List V} {ds : List T} (n : Nat), Reps K H vs ds → Reps K H (vs.drop n) (ds.drop n)
  | _, _, 0, r => r
  | _, _, _ + 1, .nil => .nil
  | _, _, n + 1, .cons _ t => Reps.drop n t
theorem Reps.set {i : Nat} : ∀ {vs : List V} {ds : List T} (i : Nat), Reps K H vs ds → Rep K H v d → Reps K H (vs.set i v) (ds.set i d)
  | _, _, _, .nil, _ => .nil
  | _, _, 0, .cons _ t, q => .cons q t
  | _, _, i + 1, .cons r t, q => .cons r (Reps.set (i := i) i t q)
theorem Reps.flatRep (h : Reps K H vs ds) : ∀ k : Nat, Reps K H (List.replicate k vs).flatten (List.replicate k ds).flatten
  | 0 => .nil
  | k + 1 => by
    rw [List.replicate_succ, List.replicate_succ, List.flatten_cons, List.flatten_cons]
    exact h.append (Reps.flatRep h k)
theorem Reps.ints : ∀ {ns : List Int} {vs : List V}, Reps K H vs (ns.map T.i) → vs = ns.map V.int
  | [], _, h => by cases h; rfl
  | n :: ns, _, h => by
    rw [List.map_cons] at h
    cases h with
    | cons h1 h2 => cases h1; rw [Reps.ints h2]; rfl
theorem Reps.of_ints : ∀ (ns : List Int), Reps K H (ns.map V.int) (ns.map T.i)
  | [] => .nil
  | n :: ns => .cons (.i n) (Reps.of_ints ns)
theorem Reps.nil_iff (h : Reps K H vs ds) : vs = [] ↔ ds = [] := by
  cases h with
  | nil => simp
  | cons _ _ => simp
theorem Reps.rev : ∀ {vs : List V} {ds : List T}, Reps K H vs ds → ∀ v ∈ vs, ∃ d ∈ ds, Rep K H v d
  | _, _, .nil, _, h => by cases h
  | _, _, .cons r t, v, h => by
    rcases List.mem_cons.mp h with rfl | h
    · exact ⟨_, List.mem_cons_self .., r⟩
    · obtain ⟨d, h1, h2⟩ := Reps.rev t v h
      exact ⟨d, List.mem_cons_of_mem _ h1, h2⟩
mutual
theorem Rep.dp : ∀ {v : V} (d : T), Rep K H v d → Dp K H v d.py
  | _, .i n, h => by cases h; exact .int n
  | _, .t l, h => by
    cases h with
    | t h1 h2 => exact .tup h1 (Reps.dp l h2)
theorem Reps.dp : ∀ {vs : List V} (ds : List T), Reps K H vs ds → DpAll K H vs (T.pys ds)
  | _, [], h => by cases h; exact .nil
  | _, d :: ds, h => by
    cases h with
    | cons h1 h2 => exact .cons (Rep.dp d h1) (Reps.dp ds h2)
end
end
section
variable {X : Cx} {pins : List (Addr × Obj)} {σ : L2.St} {H : Hp} {s : Shared}
mutual
theorem Rep.nested (I : Inv X pins σ H s) : ∀ {v : V} (d : T) {u : Value}, Rep X.K H v d → RelV v u → NestedIs s.heap d.nk u
  | _, .i n, _, h, r => by
    cases h
    obtain ⟨t, rfl⟩ := r
    exact NestedIs.int n t
  | _, .t l, _, h, r => by
    cases h with
    | t h1 h2 =>
      cases r
      obtain ⟨its, rv, ⟨o, ho, hc, n, hd⟩, _⟩ := I.tuple h1
      exact NestedIs.tup ho hc hd (by simpa using Reps.nested I l h2 rv)
theorem Reps.nested (I : Inv X pins σ H s) : ∀ {vs : List V} (ds : List T) {us : List Value}, Reps X.K H vs ds → Vals vs us → NestedAll s.heap (T.nks ds) us
  | _, [], _, h, r => by cases h; cases r; exact NestedAll.nil
  | _, d :: ds, _, h, r => by
    cases h with
    | cons h1 h2 =>
      cases r with
      | cons r1 r2 => exact NestedAll.cons (Rep.nested I d h1 r1) (Reps.nested I ds h2 r2)
end
end
end Kd
-- K68B
set_option maxRecDepth 100000
set_option maxHeartbeats 4000000
/-! The abstract store and the judgements over data. -/
namespace Kd
open PySem PySem.Spec PyProof.Rows L2

/-! ### a dict whose keys are data -/
def dctφ (P : Program) (w : World) (a : Addr) (xs : List (NestedKey × Addr × Value)) : Heap → Prop := fun h =>
  ∃ o es ep, h.get? a = some o ∧ o.ExactDict ∧ o.data = .dict es ep ∧ es.toList = xs.map (entryOfKey (nestedKind P w))
/-- an entry: the key's tuple, the value -/
def EntOk (K : PySem.W.Frag) (H : Hp) (kv : T × T) (x : NestedKey × Addr × Value) : Prop :=
  x.1 = kv.1.nk ∧ kv.1.depth ≤ 8 ∧ Rep K H (.ref x.2.1) kv.1 ∧ ∃ v, RelV v x.2.2 ∧ Rep K H v kv.2
def DctAt (P : Program) (w : World) (K : PySem.W.Frag) (H : Hp) (a : Addr) (kvs : List (T × T)) : Prop :=
  ∃ xs, H a = some (.ext (dctφ P w a xs)) ∧ (a == sysModules) = false ∧ kvs.length ≤ sizeLine ∧ Paired (EntOk K H) kvs xs ∧ (kvs.map (·.1)).Nodup

/-! ### the abstract store -/
inductive Sd where
  /-- not known -/
  | no
  /-- a datum -/
  | d (x : T)
  /-- a list of one's own at p, of data -/
  | own (p : Addr) (xs : List T)
  /-- a list that stood at the entry -/
  | bas (p : Addr) (xs : List T)
  /-- a dict of one's own -/
  | dct (p : Addr) (kvs : List (T × T))
  /-- any value -/
  | raw (v : V)
  /-- the urn, a list that the draws write -/
  | urn (p : Addr) (n : Nat)
def UrnOk (n : Nat) (a b c : Int) : Prop := 0 ≤ a ∧ 0 ≤ b ∧ b < 2 ^ 62 ∧ 0 ≤ c ∧ c ≤ n
def Sd.adr : Sd → Option Addr
  | .own p _ => some p
  | .dct p _ => some p
  | .urn p _ => some p
  | _ => none
abbrev Dl := List Sd
section
variable (P : Program) (w : World) (K : PySem.W.Frag) (B H : Hp)
def SdOk (o : Option (Option V)) : Sd → Prop
  | .no => True
  | .d x => ∃ v, o = some (some v) ∧ Rep K H v x
  | .own p xs => o = some (some (.ref p)) ∧ B p = none ∧ ∃ vs, H p = some (.lst vs) ∧ Reps K H vs xs
  | .bas p xs => o = some (some (.ref p)) ∧ ∃ vs, SqL K B p vs ∧ Reps K B vs xs
  | .dct p kvs => o = some (some (.ref p)) ∧ B p = none ∧ DctAt P w K H p kvs
  | .raw v => o = some (some v)
  | .urn p n => o = some (some (.ref p)) ∧ B p = none ∧ ∃ a b c, H p = some (.lst [.int a, .int b, .int c]) ∧ UrnOk n a b c
structure Sto (σ : L2.St) (δ : Dl) : Prop where
  ex : Same B H
  len : σ.length = δ.length
  ok : ∀ (i : Nat) (s : Sd), δ[i]? = some s → SdOk P w K B H (σ[i]?) s
  sep : ∀ (i j : Nat) (s u : Sd) (p : Addr), δ[i]? = some s → δ[j]? = some u → s.adr = some p → u.adr = some p → i = j
end
section
variable {P : Program} {w : World} {K : PySem.W.Frag} {B H H' : Hp} {σ : L2.St} {δ : Dl} {i : Nat}
theorem EntOk.tex (e : TEx K H H') {kv : T × T} {x : NestedKey × Addr × Value} (h : EntOk K H kv x) : EntOk K H' kv x := by
  obtain ⟨h1, h2, h3, v, h4, h5⟩ := h
  exact ⟨h1, h2, h3.tex e, v, h4, h5.tex e⟩
theorem DctAt.keep {a : Addr} {kvs : List (T × T)} (e : TEx K H H') (h : DctAt P w K H a kvs) (k : ∀ o, H a = some o → H' a = some o) : DctAt P w K H' a kvs := by
  obtain ⟨xs, h1, h2, h3, h4, h5⟩ := h
  exact ⟨xs, k _ h1, h2, h3, L2.Paired.mapP h4 fun _ _ q => q.tex e, h5⟩
/-- the store stays where the tuples and its own objects stay -/
theorem SdOk.keep {o : Option (Option V)} {s : Sd} (e : TEx K H H') (k : ∀ p, s.adr = some p → ∀ o, H p = some o → H' p = some o) (h : SdOk P w K B H o s) : SdOk P w K B H' o s := by
  cases s with
  | no => trivial
  | d x => obtain ⟨v, h1, h2⟩ := h; exact ⟨v, h1, h2.tex e⟩
  | own p xs => obtain ⟨h1, h2, vs, h3, h4⟩ := h; exact ⟨h1, h2, vs, k p rfl _ h3, h4.tex e⟩
  | bas p xs => exact h
  | dct p kvs => obtain ⟨h1, h2, h3⟩ := h; exact ⟨h1, h2, h3.keep e fun o q => k p rfl o q⟩
  | raw v => exact h
  | urn p n => obtain ⟨h1, h2, a, b, c, h3, h4⟩ := h; exact ⟨h1, h2, a, b, c, k p rfl _ h3, h4⟩
theorem Sto.to (S : Sto P w K B H σ δ) (e : Same H H') : Sto P w K B H' σ δ :=
  ⟨S.ex.trans e, S.len, fun i s h => (S.ok i s h).keep e.tex fun p _ o q => e p o q, S.sep⟩
/-- the base may shrink .. -/
theorem SdOk.adr_in {o : Option (Option V)} {s : Sd} {p : Addr} (h : SdOk P w K B H o s) (hp : s.adr = some p) : (∃ u, H p = some u) ∧ B p = none := by
  cases s with
  | own q xs => cases hp; obtain ⟨_, h2, vs, h3, _⟩ := h; exact ⟨⟨_, h3⟩, h2⟩
  | dct q kvs => cases hp; obtain ⟨_, h2, xs, h3, _⟩ := h; exact ⟨⟨_, h3⟩, h2⟩
  | urn q n => cases hp; obtain ⟨_, h2, _, _, _, h3, _⟩ := h; exact ⟨⟨_, h3⟩, h2⟩
  | _ => cases hp
/-- a slot is set to what owns nothing -/
theorem Sto.set0 {v : Option V} {s : Sd} (S : Sto P w K B H σ δ) (h : SdOk P w K B H (some v) s) (hs : s.adr = none) : Sto P w K B H (σ.set i v) (δ.set i s) := by
  refine ⟨S.ex, by rw [List.length_set, List.length_set]; exact S.len, fun j u hu => ?_, fun j k u u' p h1 h2 h3 h4 => ?_⟩
  · by_cases hj : i = j
    · subst hj
      have hi : i < δ.length := by
        have := (List.getElem?_eq_some_iff.mp hu).1
        simpa using this
      rw [List.getElem?_set_self hi] at hu; cases hu
      rw [List.getElem?_set_self (by rw [S.len]; exact hi)]
      exact h
    · rw [List.getElem?_set_ne hj] at hu
      rw [List.getElem?_set_ne hj]
      exact S.ok j u hu
  · have ne : ∀ (m : Nat) (r : Sd), (δ.set i s)[m]? = some r → r.adr = some p → δ[m]? = some r := fun m r hm hr => by
      by_cases hj : i = m
      · subst hj
        have hi : i < δ.length := by
          have := (List.getElem?_eq_some_iff.mp hm).1
          simpa using this
        rw [List.getElem?_set_self hi] at hm; cases hm
        rw [hs] at hr; cases hr
      · rwa [List.getElem?_set_ne hj] at hm
    exact S.sep j k u u' p (ne _ _ h1 h3) (ne _ _ h2 h4) h3 h4
/-- .. to a new object -/
theorem Sto.setN {p : Addr} {s : Sd} (S : Sto P w K B H σ δ) (e : Same H H') (hn : H p = none) (h : SdOk P w K B H' (some (some (.ref p))) s) (hs : s.adr = some p) : Sto P w K B H' (σ.set i (some (.ref p))) (δ.set i s) := by
  have S' := S.to e
  refine ⟨S'.ex, by rw [List.length_set, List.length_set]; exact S.len, fun j u hu => ?_, fun j k u u' q h1 h2 h3 h4 => ?_⟩
  · by_cases hj : i = j
    · subst hj
      have hi : i < δ.length := by
        have := (List.getElem?_eq_some_iff.mp hu).1
        simpa using this
      rw [List.getElem?_set_self hi] at hu; cases hu
      rw [List.getElem?_set_self (by rw [S.len]; exact hi)]
      exact h
    · rw [List.getElem?_set_ne hj] at hu
      rw [List.getElem?_set_ne hj]
      exact S'.ok j u hu
  · have old : ∀ (m : Nat) (r : Sd), δ[m]? = some r → r.adr = some q → q ≠ p := fun m r hm hr z => by
      obtain ⟨⟨u, hu⟩, _⟩ := (S.ok m r hm).adr_in hr
      rw [z, hn] at hu; cases hu
    have ne : ∀ (m : Nat) (r : Sd), (δ.set i s)[m]? = some r → r.adr = some q → (m = i ∧ q = p) ∨ (i ≠ m ∧ δ[m]? = some r) := fun m r hm hr => by
      by_cases hj : i = m
      · subst hj
        have hi : i < δ.length := by
          have := (List.getElem?_eq_some_iff.mp hm).1
          simpa using this
        rw [List.getElem?_set_self hi] at hm; cases hm
        rw [hs] at hr; cases hr
        exact .inl ⟨rfl, rfl⟩
      · rw [List.getElem?_set_ne hj] at hm
        exact .inr ⟨hj, hm⟩
    rcases ne _ _ h1 h3 with ⟨rfl, rfl⟩ | ⟨n1, m1⟩
    · rcases ne _ _ h2 h4 with ⟨rfl, _⟩ | ⟨n2, m2⟩
      · rfl
      · exact absurd rfl (old _ _ m2 h4)
    · rcases ne _ _ h2 h4 with ⟨rfl, rfl⟩ | ⟨n2, m2⟩
      · exact absurd rfl (old _ _ m1 h3)
      · exact S.sep j k u u' q m1 m2 h3 h4
/-- an object of one's own is written -/
theorem Sto.write {p : Addr} {s s' : Sd} (S : Sto P w K B H σ δ) (hi : δ[i]? = some s) (ha : s.adr = some p) (ha' : s'.adr = some p)
    (e : TEx K H H') (k : ∀ b, b ≠ p → ∀ o, H b = some o → H' b = some o) (h : SdOk P w K B H' (some (some (.ref p))) s') : Sto P w K B H' σ (δ.set i s') := by
  have hB : B p = none := ((S.ok i s hi).adr_in ha).2
  have hσ : σ[i]? = some (some (.ref p)) := by
    have := S.ok i s hi
    cases s with
    | own q xs => cases ha; exact this.1
    | dct q kvs => cases ha; exact this.1
    | urn q n => cases ha; exact this.1
    | _ => cases ha
  have hil : i < δ.length := (List.getElem?_eq_some_iff.mp hi).1
  refine ⟨fun b o q => k b (fun z => by rw [z, hB] at q; cases q) _ (S.ex b o q), by rw [List.length_set]; exact S.len, fun j u hu => ?_, fun j m u u' q h1 h2 h3 h4 => ?_⟩
  · by_cases hj : i = j
    · subst hj
      rw [List.getElem?_set_self hil] at hu; cases hu
      rw [hσ]; exact h
    · rw [List.getElem?_set_ne hj] at hu
      refine (S.ok j u hu).keep e fun q hq o ho => k q (fun z => ?_) o ho
      subst z
      exact hj (S.sep i j s u q hi hu ha hq)
  · have ne : ∀ (m : Nat) (r : Sd), (δ.set i s')[m]? = some r → r.adr = some q → ∃ r' : Sd, δ[m]? = some r' ∧ r'.adr = some q := fun m r hm hr => by
      by_cases hj : i = m
      · subst hj
        rw [List.getElem?_set_self hil] at hm; cases hm
        rw [ha'] at hr; cases hr
        exact ⟨s, hi, ha⟩
      · rw [List.getElem?_set_ne hj] at hm
        exact ⟨r, hm, hr⟩
    obtain ⟨r1, a1, b1⟩ := ne _ _ h1 h3
    obtain ⟨r2, a2, b2⟩ := ne _ _ h2 h4
    exact S.sep j m r1 r2 q a1 a2 b1 b2
/-- forgetting -/
theorem Sto.weak {δ' : Dl} (S : Sto P w K B H σ δ) (hl : δ'.length = δ.length) (h : ∀ (i : Nat) (s : Sd), δ'[i]? = some s → s = .no ∨ δ[i]? = some s) : Sto P w K B H σ δ' := by
  refine ⟨S.ex, by rw [hl]; exact S.len, fun i s hs => ?_, fun i j s u p h1 h2 h3 h4 => ?_⟩
  · rcases h i s hs with rfl | h1
    · trivial
    · exact S.ok i s h1
  · have f : ∀ (m : Nat) (r : Sd), δ'[m]? = some r → r.adr = some p → δ[m]? = some r := fun m r hm hr => by
      rcases h m r hm with rfl | q
      · cases hr
      · exact q
    exact S.sep i j s u p (f _ _ h1 h3) (f _ _ h2 h4) h3 h4
/-- another base -/
theorem Sto.rebase {B' : Hp} (S : Sto P w K B H σ δ) (e : Same B' B) (h : ∀ (i : Nat) (p : Addr) (xs : List T), δ[i]? = some (.bas p xs) → ∃ vs, SqL K B' p vs ∧ Reps K B' vs xs) : Sto P w K B' H σ δ := by
  refine ⟨fun b o q => S.ex b o (e b o q), S.len, fun i s hs => ?_, S.sep⟩
  have q := S.ok i s hs
  have nn : ∀ p, B p = none → B' p = none := fun p hp => by
    cases z : B' p with
    | none => rfl
    | some u => rw [e p u z] at hp; cases hp
  cases s with
  | no => trivial
  | d x => exact q
  | own p xs => exact ⟨q.1, nn p q.2.1, q.2.2⟩
  | bas p xs => exact ⟨q.1, h i p xs hs⟩
  | dct p kvs => exact ⟨q.1, nn p q.2.1, q.2.2⟩
  | raw v => exact q
  | urn p n => exact ⟨q.1, nn p q.2.1, q.2.2⟩
end

/-! ### values handed on -/
inductive Ad where
  | d (x : T)
  | l (xs : List T)
  | v (v : V)
inductive RepA (K : PySem.W.Frag) (H : Hp) : V → Ad → Prop
  | d {v : V} {x : T} : Rep K H v x → RepA K H v (.d x)
  | l {p : Addr} {vs : List V} {xs : List T} : SqL K H p vs → Reps K H vs xs → RepA K H (.ref p) (.l xs)
  | v (v : V) : RepA K H v (.v v)
abbrev RepAs (K : PySem.W.Frag) (H : Hp) : List V → List Ad → Prop := Paired (RepA K H)
def Sd.ad : Sd → Option Ad
  | .d x => some (.d x)
  | .own _ xs => some (.l xs)
  | .bas _ xs => some (.l xs)
  | .raw v => some (.v v)
  | .urn p _ => some (.v (.ref p))
  | _ => none
section
variable {P : Program} {w : World} {K : PySem.W.Frag} {B H H' : Hp} {σ : L2.St} {δ : Dl}
theorem RepA.ex {v : V} {a : Ad} (e : Same H H') (h : RepA K H v a) : RepA K H' v a := by
  cases h with
  | d h => exact .d (h.ex e)
  | l h1 h2 => exact .l (e.seq h1) (h2.ex e)
  | v v => exact .v v
theorem RepAs.ex {vs : List V} {as : List Ad} (e : Same H H') (h : RepAs K H vs as) : RepAs K H' vs as := L2.Paired.mapP h fun _ _ q => q.ex e
theorem Sto.get {i : Nat} {a : Ad} (S : Sto P w K B H σ δ) (h : (δ[i]?).bind Sd.ad = some a) : ∃ v, σ[i]? = some (some v) ∧ RepA K H v a := by
  cases hd : δ[i]? with
  | none => rw [hd] at h; cases h
  | some s =>
    rw [hd] at h
    have q := S.ok i s hd
    cases s with
    | no => cases h
    | d x => cases h; obtain ⟨v, h1, h2⟩ := q; exact ⟨v, h1, .d h2⟩
    | own p xs => cases h; obtain ⟨h1, _, vs, h3, h4⟩ := q; exact ⟨_, h1, .l (SqL.of h3) h4⟩
    | bas p xs => cases h; obtain ⟨h1, vs, h3, h4⟩ := q; exact ⟨_, h1, .l (S.ex.seq h3) (h4.ex S.ex)⟩
    | dct p kvs => cases h
    | raw v => cases h; exact ⟨v, q, .v v⟩
    | urn p n => cases h; exact ⟨_, q.1, .v _⟩
end

/-! ### the judgements -/
section
variable (B : Hp) (X : Cx)
/-- whatever the machine says -/
def tD (e : Expr) : TE := fun σ H Q => ∀ pins s, Inv X pins σ H s → wpAny (model X.prog X.w) X.A (eval e X.env) (EP X pins σ Q) X.xe s
def tDT (e : Expr) : TT := fun σ H Q => ∀ pins s, Inv X pins σ H s → wpAny (model X.prog X.w) X.A (isTrue e X.env (eval e X.env)) (TP X pins σ Q) X.xe s
def tDA (es : List Expr) : TA := fun σ H Q => ∀ pos pins s, Inv X pins σ H s → wpAny (model X.prog X.w) X.A (spliced (backTo pos (starEach es X.env))) (AP X pins σ Q) X.xe s
def tDS (st : Stmt) : TS := fun D σ H => ∀ pins s, Inv X pins σ H s → wpAny (model X.prog X.w) X.A (exec st X.env) (SP X pins D) X.xe s
def tDSs (st : List Stmt) : TS := fun D σ H => ∀ pins s, Inv X pins σ H s → wpAny (model X.prog X.w) X.A (execs st X.env) (SP X pins D) X.xe s
def tDI (tg iter : Expr) : TI := fun σ H R => ∀ pins s, Inv X pins σ H s → wpAny (model X.prog X.w) X.A (eval iter X.env) (fun v s1 => wpAny (model X.prog X.w) X.A (pyIter v) (PIE X pins σ tg R) X.xe s1) X.xe s
def tDG (tg : Expr) : TG := fun v σ H Q => ∀ pins s u, Inv X pins σ H s → RelV v u → wpAny (model X.prog X.w) X.A (assign tg X.env u) (fun _ s' => ∃ σ' H', Inv X pins σ' H' s' ∧ Q σ' H') X.xe s
variable {X} {B}
theorem pe_D {e : Expr} : PE X e (tD X e) := ⟨fun pins s σ H Q I h => h pins s I⟩
theorem pt_D {e : Expr} : PT X e (tDT X e) := ⟨fun pins s σ H Q I h => h pins s I⟩
theorem pa_D {es : List Expr} : PA X es (tDA X es) := ⟨fun pos pins s σ H Q I h => h pos pins s I⟩
theorem ps_D {st : Stmt} : PS X st (tDS X st) := ⟨fun pins s σ H D I h => h pins s I⟩
theorem pss_D {st : List Stmt} : PSs X st (tDSs X st) := ⟨fun pins s σ H D I h => h pins s I⟩
theorem pi_D {tg iter : Expr} : PI X tg iter (tDI X tg iter) := ⟨fun pins s σ H R I h => h pins s I⟩
theorem pg_D {tg : Expr} : PG X tg (tDG X tg) := ⟨fun pins s σ H v u Q I r h => h pins s u I r⟩
theorem _root_.L2.PE.to {e : Expr} {t : TE} {σ : L2.St} {H : Hp} {Q : VK} (p : PE X e t) (h : t σ H Q) : tD X e σ H Q := fun pins s I => p.run pins s σ H Q I h
theorem _root_.L2.PT.to {e : Expr} {t : TT} {σ : L2.St} {H : Hp} {Q : Bool → Hp → Prop} (p : PT X e t) (h : t σ H Q) : tDT X e σ H Q := fun pins s I => p.run pins s σ H Q I h
theorem _root_.L2.PA.to {es : List Expr} {t : TA} {σ : L2.St} {H : Hp} {Q : List V → Hp → Prop} (p : PA X es t) (h : t σ H Q) : tDA X es σ H Q := fun pos pins s I => p.run pos pins s σ H Q I h
theorem _root_.L2.PS.to {st : Stmt} {t : TS} {σ : L2.St} {H : Hp} {D : Ends} (p : PS X st t) (h : t D σ H) : tDS X st D σ H := fun pins s I => p.run pins s σ H D I h
theorem _root_.L2.PSs.to {st : List Stmt} {t : TS} {σ : L2.St} {H : Hp} {D : Ends} (p : PSs X st t) (h : t D σ H) : tDSs X st D σ H := fun pins s I => p.run pins s σ H D I h
theorem _root_.L2.PI.to {tg iter : Expr} {t : TI} {σ : L2.St} {H : Hp} {R : It → Hp → Prop} (p : PI X tg iter t) (h : t σ H R) : tDI X tg iter σ H R := fun pins s I => p.run pins s σ H R I h
theorem _root_.L2.PG.to {tg : Expr} {t : TG} {v : V} {σ : L2.St} {H : Hp} {Q : L2.St → Hp → Prop} (p : PG X tg t) (h : t v σ H Q) : tDG X tg v σ H Q := fun pins s u I r => p.run pins s σ H v u Q I r h
variable (X) (B)
abbrev St1 (H : Hp) (σ : L2.St) (δ : Dl) : Prop := Sto X.prog X.w X.K B H σ δ
/-- e's value is a; the store stays -/
def DR (e : Expr) (δ : Dl) (a : Ad) : Prop := ∀ σ H, St1 B X H σ δ → ∀ Q : VK, (∀ v H', Same H H' → RepA X.K H' v a → Q v H') → tD X e σ H Q
/-- e's value is a new list -/
def DN (e : Expr) (δ : Dl) (xs : List T) : Prop := ∀ σ H, St1 B X H σ δ → ∀ Q : VK, (∀ p vs H', H p = none → Same H H' → H' p = some (.lst vs) → Reps X.K H' vs xs → Q (.ref p) H') → tD X e σ H Q
def DT (e : Expr) (δ : Dl) (b : Bool) : Prop := ∀ σ H, St1 B X H σ δ → ∀ Q : Bool → Hp → Prop, (∀ H', Same H H' → Q b H') → tDT X e σ H Q
def DA (es : List Expr) (δ : Dl) (as : List Ad) : Prop := ∀ σ H, St1 B X H σ δ → ∀ Q : List V → Hp → Prop, (∀ vs H', Same H H' → RepAs X.K H' vs as → Q vs H') → tDA X es σ H Q
def DD (es : List Expr) (δ : Dl) (xs : List T) : Prop := ∀ σ H, St1 B X H σ δ → ∀ Q : List V → Hp → Prop, (∀ vs H', Same H H' → Reps X.K H' vs xs → Q vs H') → tDA X es σ H Q
/-- a statement: M of the store behind it; Rt of what it returns -/
def DS (st : Stmt) (δ : Dl) (M : Dl → Prop) (Rt : VK) : Prop := ∀ σ H, St1 B X H σ δ → ∀ D : Ends, (∀ σ' H' δ', M δ' → St1 B X H' σ' δ' → TEx X.K H H' → D.nx σ' H') → (∀ v H', Rt v H' → D.rt v H') → tDS X st D σ H
def DSs (st : List Stmt) (δ : Dl) (M : Dl → Prop) (Rt : VK) : Prop := ∀ σ H, St1 B X H σ δ → ∀ D : Ends, (∀ σ' H' δ', M δ' → St1 B X H' σ' δ' → TEx X.K H H' → D.nx σ' H') → (∀ v H', Rt v H' → D.rt v H') → tDSs X st D σ H
end
abbrev DX (B : Hp) (X : Cx) (e : Expr) (δ : Dl) (x : T) : Prop := DR B X e δ (.d x)
abbrev DL (B : Hp) (X : Cx) (e : Expr) (δ : Dl) (xs : List T) : Prop := DR B X e δ (.l xs)
abbrev DV (B : Hp) (X : Cx) (e : Expr) (δ : Dl) (v : V) : Prop := DR B X e δ (.v v)
abbrev DI (B : Hp) (X : Cx) (e : Expr) (δ : Dl) (n : Int) : Prop := DX B X e δ (.i n)
abbrev DBl (B : Hp) (X : Cx) (e : Expr) (δ : Dl) (b : Bool) : Prop := DV B X e δ (.bl b)
end Kd
-- K68C
set_option maxRecDepth 100000
set_option maxHeartbeats 4000000
/-! Rules: expressions. -/
namespace Kd
open PySem PySem.Spec PyProof.Rows L2
section
variable {B : Hp} {X : Cx} {δ : Dl} {a b c e o : Expr} {es : List Expr} {x : Str} {p pos p2 tpos apos cpos : Pos} {ad : Ad} {as : List Ad} {u v : T} {us vs xs : List T} {m n : Int}
theorem RepA.dat {K : PySem.W.Frag} {H : Hp} {w : V} {x : T} (h : RepA K H w (.d x)) : Rep K H w x := by cases h; assumption
theorem RepA.int {K : PySem.W.Frag} {H : Hp} {w : V} {n : Int} (h : RepA K H w (.d (.i n))) : w = .int n := h.dat.int
theorem RepA.val {K : PySem.W.Frag} {H : Hp} {w z : V} (h : RepA K H w (.v z)) : w = z := by cases h; rfl
theorem RepA.lst {K : PySem.W.Frag} {H : Hp} {w : V} {xs : List T} (h : RepA K H w (.l xs)) : ∃ p vs, w = .ref p ∧ SqL K H p vs ∧ Reps K H vs xs := by
  cases h with
  | l h1 h2 => exact ⟨_, _, rfl, h1, h2⟩
/-- a name -/
theorem r_var (i : Nat) (h : (δ[i]?).bind Sd.ad = some ad := by rfl) (hN : X.N[i]? = some x := by rfl)
    (hv : Vis X.env.scope x := by first | exact Or.inl rfl | exact Or.inr (Or.inl rfl) | exact Or.inr (Or.inr rfl))
    (hd : (x == ("__debug__" : Str)) = false := by decide) (hcd : (x == ("__classdict__" : Str)) = false := by decide) : DR B X (.Name x pos) δ ad := fun σ H S Q q => by
  obtain ⟨v, h1, h2⟩ := S.get h
  exact (pe_var hN hv hd hcd).to ⟨v, h1, q v H (Same.refl H) h2⟩
theorem r_int {i : Int} {j : Nat} : DI B X (.Constant (.int i) j pos) δ i := fun σ H S Q q => pe_int.to (q _ H (Same.refl H) (.d (.i i)))
theorem r_bl {k : Bool} {j : Nat} : DBl B X (.Constant (.bool k) j pos) δ k := fun σ H S Q q => pe_bl.to (q _ H (Same.refl H) (.v _))
/-- a module's constant -/
theorem r_glob {q : Addr} (hg : Gl X x) (hm : X.mg x = some (.ref q)) (hr : ∀ H, Rep X.K H (.ref q) u) (hd : (x == ("__debug__" : Str)) = false := by decide) : DX B X (.Name x pos) δ u := fun σ H S Q q' =>
  (pe_glob (v := .ref q) hg hm rfl hd).to (q' _ H (Same.refl H) (.d (hr H)))
theorem DN.dl (h : DN B X e δ xs) : DL B X e δ xs := fun σ H S Q q => h σ H S Q fun p vs H' hn hs h1 h2 => q _ H' hs (.l (SqL.of h1) h2)
theorem DR.is {ad' : Ad} (h : DR B X e δ ad) (he : ad = ad') : DR B X e δ ad' := he ▸ h

/-! ### two ints -/
theorem r_bin {op : Operator} {C : Int → Int → Prop} {g : Int → Int → Int} (ho : OpR X (binaryOp op) (rI C fun i j => .int (g i j))) (ha : DI B X a δ m) (hb : DI B X b δ n) (hc : C m n) : DI B X (.BinOp a op b pos) δ (g m n) := fun σ H S Q q =>
  (pe_op ho pe_D pe_D).to (ha σ H S _ fun v H1 e1 r1 => hb σ H1 (S.to e1) _ fun w H2 e2 r2 => ⟨m, n, r1.int, r2.int, hc, q _ H2 (e1.trans e2) (.d (.i _))⟩)
theorem r_bin0 {op : Operator} {g : Int → Int → Int} (ho : OpR X (binaryOp op) (rI0 fun i j => .int (g i j))) (ha : DI B X a δ m) (hb : DI B X b δ n) : DI B X (.BinOp a op b pos) δ (g m n) := fun σ H S Q q =>
  (pe_op ho pe_D pe_D).to (ha σ H S _ fun v H1 e1 r1 => hb σ H1 (S.to e1) _ fun w H2 e2 r2 => ⟨m, n, r1.int, r2.int, q _ H2 (e1.trans e2) (.d (.i _))⟩)
theorem r_add (ha : DI B X a δ m) (hb : DI B X b δ n) : DI B X (.BinOp a .Add b pos) δ (m + n) := r_bin0 op_add ha hb
theorem r_sub (ha : DI B X a δ m) (hb : DI B X b δ n) : DI B X (.BinOp a .Sub b pos) δ (m - n) := r_bin0 op_sub ha hb
/-- one factor below 2 ^ 64 -/
theorem r_mul (ha : DI B X a δ m) (hb : DI B X b δ n) (hc : CMul m n) : DI B X (.BinOp a .Mult b pos) δ (m * n) := r_bin op_mul ha hb hc
theorem r_mulW (ha : DI B X a δ m) (hb : DI B X b δ n) (hc : CMulW m n) : DI B X (.BinOp a .Mult b pos) δ (m * n) := r_bin op_mulW ha hb hc
theorem r_divW (ha : DI B X a δ m) (hb : DI B X b δ n) (hc : CDivW m n) : DI B X (.BinOp a .FloorDiv b pos) δ (m / n) := r_bin op_fdivW ha hb hc
theorem r_mod (ha : DI B X a δ m) (hb : DI B X b δ n) (hc : 0 < n) : DI B X (.BinOp a .Mod b pos) δ (m % n) := r_bin (C := fun _ j => 0 < j) op_mod ha hb hc
theorem r_pow (ha : DI B X a δ m) (hb : DI B X b δ n) (hc : CPow m n) : DI B X (.BinOp a .Pow b pos) δ (m ^ n.toNat) := r_bin op_pow ha hb hc
theorem r_neg (ha : DI B X a δ m) : DI B X (.UnaryOp .USub a pos) δ (-m) := fun σ H S Q q => (pe_un un_neg pe_D).to (ha σ H S _ fun v H1 e1 r1 => ⟨m, r1.int, q _ H1 e1 (.d (.i _))⟩)
/-! ### comparisons of ints -/
theorem r_cmp {op : CmpOp} {g : Int → Int → Bool} (ho : OpR X (compareOp op) (rI0 fun i j => .bl (g i j))) (ha : DI B X a δ m) (hb : DI B X b δ n) (hm : behindInMarks op b = false) : DBl B X (.Compare a [op] [b] pos) δ (g m n) := fun σ H S Q q =>
  (pe_cmpR ho pe_D pe_D hm).to (ha σ H S _ fun v H1 e1 r1 => hb σ H1 (S.to e1) _ fun w H2 e2 r2 => ⟨m, n, r1.int, r2.int, q _ H2 (e1.trans e2) (.v _)⟩)
theorem t_cmp {op : CmpOp} {g : Int → Int → Bool} (ho : OpR X (compareOp op) (rI0 fun i j => .bl (g i j))) (ha : DI B X a δ m) (hb : DI B X b δ n) (hm : behindInMarks op b = false) : DT B X (.Compare a [op] [b] pos) δ (g m n) := fun σ H S Q q =>
  (pt_cmpR ho pe_D pe_D hm).to (ha σ H S _ fun v H1 e1 r1 => hb σ H1 (S.to e1) _ fun w H2 e2 r2 => ⟨m, n, r1.int, r2.int, _, rfl, q H2 (e1.trans e2)⟩)
theorem r_lt (ha : DI B X a δ m) (hb : DI B X b δ n) : DBl B X (.Compare a [.Lt] [b] pos) δ (decide (m < n)) := r_cmp op_lt ha hb (nomark _)
theorem r_ge (ha : DI B X a δ m) (hb : DI B X b δ n) : DBl B X (.Compare a [.GtE] [b] pos) δ (decide (n ≤ m)) := r_cmp op_ge ha hb (nomark _)
theorem t_lt (ha : DI B X a δ m) (hb : DI B X b δ n) : DT B X (.Compare a [.Lt] [b] pos) δ (decide (m < n)) := t_cmp op_lt ha hb (nomark _)
theorem t_le (ha : DI B X a δ m) (hb : DI B X b δ n) : DT B X (.Compare a [.LtE] [b] pos) δ (decide (m ≤ n)) := t_cmp op_le ha hb (nomark _)
theorem t_gt (ha : DI B X a δ m) (hb : DI B X b δ n) : DT B X (.Compare a [.Gt] [b] pos) δ (decide (n < m)) := t_cmp op_gt ha hb (nomark _)
theorem t_ge (ha : DI B X a δ m) (hb : DI B X b δ n) : DT B X (.Compare a [.GtE] [b] pos) δ (decide (n ≤ m)) := t_cmp op_ge ha hb (nomark _)
theorem dec_i {m n : Int} : decide (V.int m = V.int n) = decide (m = n) := by
  by_cases h : m = n
  · subst h; simp
  · rw [decide_eq_false h, decide_eq_false fun e => h (by injection e)]
theorem t_eq (ha : DI B X a δ m) (hb : DI B X b δ n) : DT B X (.Compare a [.Eq] [b] pos) δ (decide (m = n)) := fun σ H S Q q =>
  (pt_cmpR op_eq pe_D pe_D (nomark _)).to (ha σ H S _ fun v H1 e1 r1 => hb σ H1 (S.to e1) _ fun w H2 e2 r2 => ⟨by rw [r1.int, r2.int]; rfl, _, rfl, by rw [r1.int, r2.int, dec_i]; exact q H2 (e1.trans e2)⟩)
theorem r_eq (ha : DI B X a δ m) (hb : DI B X b δ n) : DBl B X (.Compare a [.Eq] [b] pos) δ (decide (m = n)) := fun σ H S Q q =>
  (pe_cmpR op_eq pe_D pe_D (nomark _)).to (ha σ H S _ fun v H1 e1 r1 => hb σ H1 (S.to e1) _ fun w H2 e2 r2 => ⟨by rw [r1.int, r2.int]; rfl, by rw [r1.int, r2.int, dec_i]; exact q _ H2 (e1.trans e2) (.v _)⟩)
theorem t_ne (ha : DI B X a δ m) (hb : DI B X b δ n) : DT B X (.Compare a [.NotEq] [b] pos) δ (!decide (m = n)) := fun σ H S Q q =>
  (pt_cmpR op_ne pe_D pe_D (nomark _)).to (ha σ H S _ fun v H1 e1 r1 => hb σ H1 (S.to e1) _ fun w H2 e2 r2 => ⟨by rw [r1.int, r2.int]; rfl, _, rfl, by rw [r1.int, r2.int, dec_i]; exact q H2 (e1.trans e2)⟩)
/-- two bools -/
theorem t_neB {k l : Bool} (ha : DBl B X a δ k) (hb : DBl B X b δ l) : DT B X (.Compare a [.NotEq] [b] pos) δ (!decide (k = l)) := fun σ H S Q q =>
  (pt_cmpR op_ne pe_D pe_D (nomark _)).to (ha σ H S _ fun v H1 e1 r1 => hb σ H1 (S.to e1) _ fun w H2 e2 r2 => ⟨by rw [r1.val, r2.val]; rfl, _, rfl, by
    rw [r1.val, r2.val]
    have e : decide (V.bl k = V.bl l) = decide (k = l) := by cases k <;> cases l <;> rfl
    rw [e]; exact q H2 (e1.trans e2)⟩)
/-! ### data compared -/
mutual
theorem _root_.Kd.T.py_lay : ∀ d : T, d.py.canLay0 = true
  | .i _ => by simp [T.py, PyData.canLay0]
  | .t l => by simp only [T.py, PyData.canLay0]; exact T.pys_lay l
theorem _root_.Kd.T.pys_lay : ∀ d : List T, PyData.canLayAll0 (T.pys d) = true
  | [] => by simp [T.pys, PyData.canLayAll0]
  | x :: r => by simp only [T.pys, PyData.canLayAll0]; rw [T.py_lay x, T.pys_lay r]; rfl
end
theorem shaped_py {d : T} (h : d.depth ≤ 64) : SeqAt.shaped d.py = true := by
  unfold SeqAt.shaped
  rw [T.py_lay, T.py_depth, decide_eq_true h]; rfl
theorem t_eqD (hu : X.A.units + 64 < cLine) (ha : DX B X a δ u) (hb : DX B X b δ v) (h1 : u.depth ≤ 64) (h2 : v.depth ≤ 64) : DT B X (.Compare a [.Eq] [b] pos) δ (decide (u = v)) := fun σ H S Q q =>
  (pt_cmpR (op_eqD hu) pe_D pe_D (nomark _)).to (ha σ H S _ fun v' H1 e1 r1 => hb σ H1 (S.to e1) _ fun w H2 e2 r2 => ⟨_, _, (r1.dat.ex e2).dp, r2.dat.dp, shaped_py h1, shaped_py h2, _, rfl, by rw [T.py_eqv]; exact q H2 (e1.trans e2)⟩)
theorem t_neD (hu : X.A.units + 64 < cLine) (ha : DX B X a δ u) (hb : DX B X b δ v) (h1 : u.depth ≤ 64) (h2 : v.depth ≤ 64) : DT B X (.Compare a [.NotEq] [b] pos) δ (!decide (u = v)) := fun σ H S Q q =>
  (pt_cmpR (op_neD hu) pe_D pe_D (nomark _)).to (ha σ H S _ fun v' H1 e1 r1 => hb σ H1 (S.to e1) _ fun w H2 e2 r2 => ⟨_, _, (r1.dat.ex e2).dp, r2.dat.dp, shaped_py h1, shaped_py h2, _, rfl, by rw [T.py_eqv]; exact q H2 (e1.trans e2)⟩)
/-- two lists of data -/
theorem depths_map (xs : List T) : PyData.depthAll (xs.map T.py) = T.depths xs := by rw [← T.pys_map, T.pys_depth]
theorem Rep_lst {K : PySem.W.Frag} {H : Hp} {w : V} {xs : List T} (h : RepA K H w (.l xs)) : Dp K H w (.list (T.pys xs)) := by
  obtain ⟨p, vs, rfl, h1, h2⟩ := h.lst
  exact .lst h1 h2.dp
theorem shaped_lst {xs : List T} (h : T.depths xs ≤ 63) : SeqAt.shaped (.list (T.pys xs)) = true := by
  unfold SeqAt.shaped
  rw [show PyData.canLay0 (.list (T.pys xs)) = true by simp only [PyData.canLay0]; exact T.pys_lay xs, show (PyData.list (T.pys xs)).depth = T.depths xs + 1 by simp only [PyData.depth]; rw [T.pys_depth], decide_eq_true (by omega)]; rfl
theorem eqv_lst (xs ys : List T) : PyData.eqv (.list (T.pys xs)) (.list (T.pys ys)) = decide (xs = ys) := by
  simp only [PyData.eqv]; exact T.pys_eqv xs ys
theorem t_neL (hu : X.A.units + 64 < cLine) (ha : DL B X a δ xs) (hb : DL B X b δ us) (h1 : T.depths xs ≤ 63) (h2 : T.depths us ≤ 63) : DT B X (.Compare a [.NotEq] [b] pos) δ (!decide (xs = us)) := fun σ H S Q q =>
  (pt_cmpR (op_neD hu) pe_D pe_D (nomark _)).to (ha σ H S _ fun v' H1 e1 r1 => hb σ H1 (S.to e1) _ fun w H2 e2 r2 => ⟨_, _, Rep_lst (r1.ex e2), Rep_lst r2, shaped_lst h1, shaped_lst h2, _, rfl, by rw [eqv_lst]; exact q H2 (e1.trans e2)⟩)

/-! ### places -/
theorem atI_map {α : Type} {xs : List α} {i : Int} {j : Nat} {v : α} (h : ixN xs.length i = some j) (hv : xs[j]? = some v) : atI xs i = some v := by
  unfold atI; rw [h]; exact hv
theorem Reps.atI {K : PySem.W.Frag} {H : Hp} {ws : List V} {ds : List T} {i : Int} {d : T} (r : Reps K H ws ds) (h : L2.atI ds i = some d) : ∃ v, L2.atI ws i = some v ∧ Rep K H v d := by
  unfold L2.atI at h ⊢
  rw [r.length]
  cases hi : ixN ds.length i with
  | none => rw [hi] at h; cases h
  | some j =>
    rw [hi] at h
    exact r.get h
theorem r_ixT (ha : DX B X a δ (.t xs)) (hb : DI B X b δ n) (h : L2.atI xs n = some v) (hs : PlainIx b := by exact fun _ _ => rfl) : DX B X (.Subscript a b pos) δ v := fun σ H S Q q =>
  (pe_ix ix_tup pe_D pe_D hs).to (ha σ H S _ fun v' H1 e1 r1 => hb σ H1 (S.to e1) _ fun w H2 e2 r2 => by
    obtain ⟨p, vs, rfl, h1, h2⟩ := (r1.dat.ex e2).tup
    obtain ⟨z, h3, h4⟩ := h2.atI h
    exact ⟨p, vs, n, z, rfl, r2.int, h1, h3, q _ H2 (e1.trans e2) (.d h4)⟩)
theorem r_ixL (ha : DL B X a δ xs) (hb : DI B X b δ n) (h : L2.atI xs n = some v) (hs : PlainIx b := by exact fun _ _ => rfl) : DX B X (.Subscript a b pos) δ v := fun σ H S Q q =>
  (pe_ix ix_list pe_D pe_D hs).to (ha σ H S _ fun v' H1 e1 r1 => hb σ H1 (S.to e1) _ fun w H2 e2 r2 => by
    obtain ⟨p, vs, rfl, h1, h2⟩ := (r1.ex e2).lst
    obtain ⟨z, h3, h4⟩ := h2.atI h
    exact ⟨p, vs, n, z, rfl, r2.int, h1, h3, q _ H2 (e1.trans e2) (.d h4)⟩)

/-! ### lists of expressions -/
theorem dd_nil : DD B X [] δ [] := fun σ H S Q q => pa_nil.to (q _ H (Same.refl H) .nil)
theorem dd_cons (ha : DX B X a δ v) (hr : DD B X es δ xs) (hs : starEach (a :: es) X.env = (false, eval a X.env) :: starEach es X.env := by rfl) : DD B X (a :: es) δ (v :: xs) := fun σ H S Q q =>
  (pa_cons pe_D pa_D hs).to (ha σ H S _ fun w H1 e1 r1 => hr σ H1 (S.to e1) _ fun ws H2 e2 r2 => q _ H2 (e1.trans e2) (.cons (r1.dat.ex e2) r2))
theorem da_nil : DA B X [] δ [] := fun σ H S Q q => pa_nil.to (q _ H (Same.refl H) .nil)
theorem da_cons (ha : DR B X a δ ad) (hr : DA B X es δ as) (hs : starEach (a :: es) X.env = (false, eval a X.env) :: starEach es X.env := by rfl) : DA B X (a :: es) δ (ad :: as) := fun σ H S Q q =>
  (pa_cons pe_D pa_D hs).to (ha σ H S _ fun w H1 e1 r1 => hr σ H1 (S.to e1) _ fun ws H2 e2 r2 => q _ H2 (e1.trans e2) (.cons (r1.ex e2) r2))
theorem sz_of {n : Nat} (h : n ≤ 100000) : n ≤ sizeLine := Evl.sz_of h
theorem sz_lt {n : Nat} (h : n < 100000) : n < sizeLine := Evl.sz_lt h
/-- (a, b, ..) -/
theorem r_tup {k : Nat} (h : DD B X es δ xs) (hl : xs.length ≤ 100000 := by first | decide | simp) : DX B X (.Tuple es k pos) δ (.t xs) := fun σ H S Q q =>
  (pe_tup pa_D).to (h σ H S _ fun vs H1 e1 r1 => ⟨sz_of (by rw [r1.length]; exact hl), fun p hp => q _ _ (e1.trans (Evl.Ex.new hp)) (.d (.t (SqT.of upd_same) (r1.ex (Evl.Ex.new hp))))⟩)
/-- [a, b, ..] -/
theorem n_lst (h : DD B X es δ xs) (hl : xs.length ≤ 100000 := by first | decide | simp) : DN B X (.List es pos) δ xs := fun σ H S Q q =>
  (pe_lst pa_D).to (h σ H S _ fun vs H1 e1 r1 => ⟨sz_of (by rw [r1.length]; exact hl), fun p hp => q p vs _ (e1.free hp) (e1.trans (Evl.Ex.new hp)) upd_same (r1.ex (Evl.Ex.new hp))⟩)
end
end Kd
-- K68D
set_option maxRecDepth 100000
set_option maxHeartbeats 4000000
/-! Rules: tests, tuples, calls, built-ins. -/
namespace Kd
open PySem PySem.Spec PyProof.Rows L2
section
variable {B : Hp} {X : Cx} {δ : Dl} {a b c e o : Expr} {es rest : List Expr} {x : Str} {p pos p2 tpos apos cpos : Pos} {ad : Ad} {as : List Ad} {u v : T} {us vs xs ys : List T} {m n : Int} {k l : Bool}
/-! ### tests -/
theorem t_val (h : DBl B X e δ k) (he : ∀ whole, isTrue e X.env whole = (do let v ← whole; standAt e.pos; holding [v] (truthy v)) := by intro _; rfl) : DT B X e δ k := fun σ H S Q q =>
  (pt_val pe_D he).to (h σ H S _ fun v H1 e1 r1 => ⟨k, r1.val, q H1 e1⟩)
theorem t_not (h : DT B X a δ k) : DT B X (.UnaryOp .Not a pos) δ (!k) := fun σ H S Q q => (pt_not pt_D).to (h σ H S _ fun H1 e1 => q H1 e1)
theorem r_not (h : DBl B X a δ k) : DBl B X (.UnaryOp .Not a pos) δ (!k) := fun σ H S Q q => (pe_not pe_D).to (h σ H S _ fun v H1 e1 r1 => ⟨k, r1.val, q _ H1 e1 (.v _)⟩)
/-- and, or as tests -/
def DW (B : Hp) (X : Cx) (e : Expr) (δ : Dl) (k : Bool) : Prop := ∀ σ H, St1 B X H σ δ → ∀ Q : Bool → Hp → Prop, (∀ H', Same H H' → Q k H') → ∀ wh pins s, Inv X pins σ H s → wpAny (model X.prog X.w) X.A (isTrue e X.env wh) (TP X pins σ Q) X.xe s
theorem pw_D {e : Expr} : PW X e (fun σ H Q => ∀ wh pins s, Inv X pins σ H s → wpAny (model X.prog X.w) X.A (isTrue e X.env wh) (TP X pins σ Q) X.xe s) := ⟨fun wh pins s σ H Q I h => h wh pins s I⟩
theorem DW.t (h : DW B X e δ k) : DT B X e δ k := fun σ H S Q q pins s I => h σ H S Q q _ pins s I
theorem w_and1 (h : DT B X a δ k) : DW B X (.BoolOp .And [a] pos) δ k := fun σ H S Q q wh pins s I => (pw_and1 pt_D).run wh pins s σ H Q I (h σ H S Q q)
theorem w_or1 (h : DT B X a δ k) : DW B X (.BoolOp .Or [a] pos) δ k := fun σ H S Q q wh pins s I => (pw_or1 pt_D).run wh pins s σ H Q I (h σ H S Q q)
theorem w_and (h : DT B X a δ k) (h2 : k = true → DW B X (.BoolOp .And (b :: rest) pos) δ l) : DW B X (.BoolOp .And (a :: b :: rest) pos) δ (k && l) := fun σ H S Q q wh pins s I =>
  (pw_and pt_D pw_D).run wh pins s σ H Q I (h σ H S _ fun H1 e1 => by
    cases k with
    | true => exact (if_pos rfl).mpr (h2 rfl σ H1 (S.to e1) Q fun H2 e2 => q H2 (e1.trans e2))
    | false => exact (if_neg Bool.false_ne_true).mpr (q H1 e1))
theorem w_or (h : DT B X a δ k) (h2 : k = false → DW B X (.BoolOp .Or (b :: rest) pos) δ l) : DW B X (.BoolOp .Or (a :: b :: rest) pos) δ (k || l) := fun σ H S Q q wh pins s I =>
  (pw_or pt_D pw_D).run wh pins s σ H Q I (h σ H S _ fun H1 e1 => by
    cases k with
    | true => exact (if_pos rfl).mpr (q H1 e1)
    | false => exact (if_neg Bool.false_ne_true).mpr (h2 rfl σ H1 (S.to e1) Q fun H2 e2 => q H2 (e1.trans e2)))
/-- and as a value (bools) -/
theorem r_one {op : BoolOp} (h : DR B X a δ ad) : DR B X (.BoolOp op [a] pos) δ ad := fun σ H S Q q => (pe_one pe_D).to (h σ H S Q q)
theorem r_and (h : DBl B X a δ k) (h2 : k = true → DBl B X (.BoolOp .And (b :: rest) pos) δ l) : DBl B X (.BoolOp .And (a :: b :: rest) pos) δ (k && l) := fun σ H S Q q =>
  (pe_and pe_D pe_D).to (h σ H S _ fun v H1 e1 r1 => ⟨k, r1.val, by
    cases k with
    | true => exact (if_pos rfl).mpr (h2 rfl σ H1 (S.to e1) Q fun v H2 e2 r2 => q v H2 (e1.trans e2) r2)
    | false => exact (if_neg Bool.false_ne_true).mpr (q _ H1 e1 (.v _))⟩)
/-- a if t else b -/
theorem r_if (h : DT B X c δ k) (h1 : k = true → DR B X a δ ad) (h2 : k = false → DR B X b δ ad) : DR B X (.IfExp c a b pos) δ ad := fun σ H S Q q =>
  (pe_ifExp pt_D pe_D pe_D).to (h σ H S _ fun H1 e1 => by
    cases k with
    | true => exact (if_pos rfl).mpr (h1 rfl σ H1 (S.to e1) Q fun v H2 e2 r2 => q v H2 (e1.trans e2) r2)
    | false => exact (if_neg Bool.false_ne_true).mpr (h2 rfl σ H1 (S.to e1) Q fun v H2 e2 r2 => q v H2 (e1.trans e2) r2))
theorem RepA.truT {K : PySem.W.Frag} {H : Hp} {w : V} {xs : List T} (h : RepA K H w (.d (.t xs))) : TruV K w H (!xs.isEmpty) := by
  obtain ⟨p, vs, rfl, h1, h2⟩ := h.dat.tup
  refine .inr (.inl ⟨vs, h1, ?_⟩)
  cases h2 <;> rfl
theorem RepA.truL {K : PySem.W.Frag} {H : Hp} {w : V} {xs : List T} (h : RepA K H w (.l xs)) : TruV K w H (!xs.isEmpty) := by
  obtain ⟨p, vs, rfl, h1, h2⟩ := h.lst
  refine .inl ⟨vs, h1, ?_⟩
  cases h2 <;> rfl
/-- a or b, a tuple -/
theorem r_orT (ha : DX B X a δ (.t xs)) (h1 : xs ≠ [] → Ad.d (.t xs) = ad) (h2 : xs = [] → DR B X (.BoolOp .Or (b :: rest) pos) δ ad) : DR B X (.BoolOp .Or (a :: b :: rest) pos) δ ad := fun σ H S Q q =>
  (pe_orT pe_D pe_D).to (ha σ H S _ fun w H1 e1 r1 => ⟨_, r1.truT, by
    cases xs with
    | nil => exact (if_neg Bool.false_ne_true).mpr (h2 rfl σ H1 (S.to e1) Q fun v H2 e2 r2 => q v H2 (e1.trans e2) r2)
    | cons y r =>
      have e := h1 (by simp)
      subst e
      exact (if_pos rfl).mpr (q _ H1 e1 r1)⟩)

/-! ### tuples -/
theorem cat_nil_iff {K : PySem.W.Frag} {H : Hp} {ws : List V} {ds : List T} (r : Reps K H ws ds) : ws = [] ↔ ds = [] := r.nil_iff
theorem r_cat (ha : DX B X a δ (.t xs)) (hb : DX B X b δ (.t ys)) (hl : xs.length + ys.length ≤ 100000) : DX B X (.BinOp a .Add b pos) δ (.t (xs ++ ys)) := fun σ H S Q q =>
  (pe_op op_catA pe_D pe_D).to (ha σ H S _ fun v' H1 e1 r1 => hb σ H1 (S.to e1) _ fun w H2 e2 r2 => by
    obtain ⟨p, vs, rfl, h1, h2⟩ := (r1.dat.ex e2).tup
    obtain ⟨p', ws, rfl, h3, h4⟩ := r2.dat.tup
    refine ⟨p, p', vs, ws, rfl, rfl, h1, h3, sz_of (by rw [h2.length, h4.length]; exact hl), fun z => ?_, fun _ z => ?_, fun _ _ l hl => ?_⟩
    · have := h2.nil_iff.mp z; subst this
      exact q _ H2 (e1.trans e2) (.d (.t h3 h4))
    · have := h4.nil_iff.mp z; subst this
      exact q _ H2 (e1.trans e2) (.d (by rw [List.append_nil]; exact .t h1 h2))
    · exact q _ _ ((e1.trans e2).trans (Evl.Ex.new hl)) (.d (.t (SqT.of upd_same) ((h2.append h4).ex (Evl.Ex.new hl)))))
/-- a slice's end, as its run tells it -/
abbrev tDO (X : Cx) (e : Option Expr) : L2.St → Hp → (Option Int → Hp → Prop) → Prop := fun σ H Q => ∀ pins s, Inv X pins σ H s → wpAny (model X.prog X.w) X.A (evalPart e X.env) (fun u s' => ∃ o H', Inv X pins σ H' s' ∧ IsPart u o ∧ Q o H') X.xe s
def DO (B : Hp) (X : Cx) (e : Option Expr) (δ : Dl) (i : Option Int) : Prop := ∀ σ H, St1 B X H σ δ → ∀ Q : Option Int → Hp → Prop, (∀ H', Same H H' → Q i H') → tDO X e σ H Q
theorem po_D {e : Option Expr} : PO X e (tDO X e) := ⟨fun pins s σ H Q I h => h pins s I⟩
theorem o_none : DO B X none δ none := fun σ H S Q q pins s I => po_none.run pins s σ H Q I (q H (Same.refl H))
theorem o_some (h : DI B X e δ n) : DO B X (some e) δ (some n) := fun σ H S Q q pins s I => (po_some pe_D).run pins s σ H Q I (h σ H S _ fun v H1 e1 r1 => ⟨n, r1.int, q H1 e1⟩)
def cutT (xs : List T) (lo hi : Option Int) : List T := (xs.drop (HT.sIx xs.length 0 lo)).take (HT.sIx xs.length xs.length hi - HT.sIx xs.length 0 lo)
theorem Reps.cut {K : PySem.W.Frag} {H : Hp} {ws : List V} {ds : List T} (r : Reps K H ws ds) (lo hi : Option Int) : Reps K H (cutV ws lo hi) (cutT ds lo hi) := by
  unfold cutV cutT
  rw [r.length]
  exact (r.drop _).take _
theorem cut_whole (xs : List T) {lo hi : Option Int} (h : HT.sIx xs.length 0 lo = 0 ∧ HT.sIx xs.length xs.length hi = xs.length) : cutT xs lo hi = xs := by
  unfold cutT; rw [h.1, h.2, List.drop_zero, Nat.sub_zero, List.take_length]
variable {lo hi : Option Expr} {i j : Option Int}
theorem r_cut (ha : DX B X a δ (.t xs)) (hl : DO B X lo δ i) (hh : DO B X hi δ j) : DX B X (.Subscript a (.Slice lo hi none p2) pos) δ (.t (cutT xs i j)) := fun σ H S Q q =>
  (pe_slice sl_tupA pe_D po_D po_D).to (ha σ H S _ fun v' H1 e1 r1 => hl σ H1 (S.to e1) _ fun H2 e2 => hh σ H2 (S.to (e1.trans e2)) _ fun H3 e3 => by
    obtain ⟨p, vs, rfl, h1, h2⟩ := (r1.dat.ex (e2.trans e3)).tup
    refine ⟨p, vs, rfl, h1, fun z => ?_, fun z p' hp => ?_⟩
    · rw [h2.length] at z
      exact q _ H3 ((e1.trans e2).trans e3) (.d (by rw [cut_whole xs z]; exact .t h1 h2))
    · exact q _ _ (((e1.trans e2).trans e3).trans (Evl.Ex.new hp)) (.d (.t (SqT.of upd_same) ((h2.cut i j).ex (Evl.Ex.new hp)))))
/-- a list's slice: a new list -/
theorem n_cut (ha : DL B X a δ xs) (hl : DO B X lo δ i) (hh : DO B X hi δ j) : DN B X (.Subscript a (.Slice lo hi none p2) pos) δ (cutT xs i j) := fun σ H S Q q =>
  (pe_slice sl_list pe_D po_D po_D).to (ha σ H S _ fun v' H1 e1 r1 => hl σ H1 (S.to e1) _ fun H2 e2 => hh σ H2 (S.to (e1.trans e2)) _ fun H3 e3 => by
    obtain ⟨p, vs, rfl, h1, h2⟩ := (r1.ex (e2.trans e3)).lst
    exact ⟨p, vs, rfl, h1, fun p' hp => q _ _ _ (((e1.trans e2).trans e3).free hp) (((e1.trans e2).trans e3).trans (Evl.Ex.new hp)) upd_same ((h2.cut i j).ex (Evl.Ex.new hp))⟩)

/-! ### built-ins -/
theorem r_B {id : String} {r : List V → Hp → VK → Prop} (hc : CallR X (.builtin id) r) (hg : Gl X x) (hm : X.mg x = none) (hv : bootBuiltins x = some (.builtin id)) (ha : DA B X (e :: es) δ as)
    (hr : ∀ H ws, RepAs X.K H ws as → ∀ Q : VK, (∀ v H', Same H H' → RepA X.K H' v ad → Q v H') → r ws H Q) (hn : x ≠ "__name__" := by decide) (hdb : (x == ("__debug__" : Str)) = false := by decide)
    (he : starEach (e :: es) X.env = (false, eval e X.env) :: starEach es X.env := by rfl) (hpl : (backTo pos (starEach es X.env)).any (·.1) = false := by rfl) : DR B X (.Call (.Name x p) (e :: es) [] pos) δ ad := fun σ H S Q q =>
  (pe_callB hc hg hm hv pa_D hn hdb he hpl).to (ha σ H S _ fun ws H1 e1 r1 => hr H1 ws r1 Q fun v H2 e2 r2 => q v H2 (e1.trans e2) r2)
theorem n_B {id : String} {r : List V → Hp → VK → Prop} (hc : CallR X (.builtin id) r) (hg : Gl X x) (hm : X.mg x = none) (hv : bootBuiltins x = some (.builtin id)) (ha : DA B X (e :: es) δ as)
    (hr : ∀ H ws, RepAs X.K H ws as → ∀ Q : VK, (∀ p vs H', H p = none → Same H H' → H' p = some (.lst vs) → Reps X.K H' vs xs → Q (.ref p) H') → r ws H Q) (hn : x ≠ "__name__" := by decide) (hdb : (x == ("__debug__" : Str)) = false := by decide)
    (he : starEach (e :: es) X.env = (false, eval e X.env) :: starEach es X.env := by rfl) (hpl : (backTo pos (starEach es X.env)).any (·.1) = false := by rfl) : DN B X (.Call (.Name x p) (e :: es) [] pos) δ xs := fun σ H S Q q =>
  (pe_callB hc hg hm hv pa_D hn hdb he hpl).to (ha σ H S _ fun ws H1 e1 r1 => hr H1 ws r1 Q fun p vs H2 h1 e2 h2 r2 => q p vs H2 (e1.free h1) (e1.trans e2) h2 r2)
theorem r_Ty {Ty : String} {r : List V → Hp → VK → Prop} (hc : CallR X (.type Ty) r) (hg : Gl X x) (hm : X.mg x = none) (hv : bootBuiltins x = some (.type Ty)) (ha : DA B X (e :: es) δ as)
    (hr : ∀ H ws, RepAs X.K H ws as → ∀ Q : VK, (∀ v H', Same H H' → RepA X.K H' v ad → Q v H') → r ws H Q) (hn : x ≠ "__name__" := by decide) (hdb : (x == ("__debug__" : Str)) = false := by decide)
    (he : starEach (e :: es) X.env = (false, eval e X.env) :: starEach es X.env := by rfl) (hpl : (backTo pos (starEach es X.env)).any (·.1) = false := by rfl) : DR B X (.Call (.Name x p) (e :: es) [] pos) δ ad := fun σ H S Q q =>
  (pe_callTy hc hg hm hv pa_D hn hdb he hpl).to (ha σ H S _ fun ws H1 e1 r1 => hr H1 ws r1 Q fun v H2 e2 r2 => q v H2 (e1.trans e2) r2)
theorem n_Ty {Ty : String} {r : List V → Hp → VK → Prop} (hc : CallR X (.type Ty) r) (hg : Gl X x) (hm : X.mg x = none) (hv : bootBuiltins x = some (.type Ty)) (ha : DA B X (e :: es) δ as)
    (hr : ∀ H ws, RepAs X.K H ws as → ∀ Q : VK, (∀ p vs H', H p = none → Same H H' → H' p = some (.lst vs) → Reps X.K H' vs xs → Q (.ref p) H') → r ws H Q) (hn : x ≠ "__name__" := by decide) (hdb : (x == ("__debug__" : Str)) = false := by decide)
    (he : starEach (e :: es) X.env = (false, eval e X.env) :: starEach es X.env := by rfl) (hpl : (backTo pos (starEach es X.env)).any (·.1) = false := by rfl) : DN B X (.Call (.Name x p) (e :: es) [] pos) δ xs := fun σ H S Q q =>
  (pe_callTy hc hg hm hv pa_D hn hdb he hpl).to (ha σ H S _ fun ws H1 e1 r1 => hr H1 ws r1 Q fun p vs H2 h1 e2 h2 r2 => q p vs H2 (e1.free h1) (e1.trans e2) h2 r2)
theorem RepAs.one {K : PySem.W.Frag} {H : Hp} {ws : List V} {a : Ad} (h : RepAs K H ws [a]) : ∃ w, ws = [w] ∧ RepA K H w a := by
  cases h with
  | cons h t => cases t; exact ⟨_, rfl, h⟩
theorem RepAs.two {K : PySem.W.Frag} {H : Hp} {ws : List V} {a b : Ad} (h : RepAs K H ws [a, b]) : ∃ w z, ws = [w, z] ∧ RepA K H w a ∧ RepA K H z b := by
  cases h with
  | cons h t =>
    obtain ⟨z, rfl, h2⟩ := RepAs.one t
    exact ⟨_, _, rfl, h, h2⟩
theorem RepAs.three {K : PySem.W.Frag} {H : Hp} {ws : List V} {a b c : Ad} (h : RepAs K H ws [a, b, c]) : ∃ w z y, ws = [w, z, y] ∧ RepA K H w a ∧ RepA K H z b ∧ RepA K H y c := by
  cases h with
  | cons h t =>
    obtain ⟨z, y, rfl, h2, h3⟩ := RepAs.two t
    exact ⟨_, _, _, rfl, h, h2, h3⟩
theorem da_1 (ha : DR B X a δ ad) (hs : starEach [a] X.env = (false, eval a X.env) :: starEach [] X.env := by rfl) : DA B X [a] δ [ad] := da_cons ha da_nil hs
/-- len -/
theorem r_lenT (hm : X.mg "len" = none) (ha : DX B X a δ (.t xs)) (hg : Gl X "len" := by rfl) (hs : starEach [a] X.env = (false, eval a X.env) :: starEach [] X.env := by rfl) (hpl : (backTo pos (starEach [] X.env)).any (·.1) = false := by rfl) :
    DI B X (.Call (.Name "len" p) [a] [] pos) δ (xs.length : Int) :=
  r_B call_len_seq hg hm boot_len (da_1 ha hs) (fun H ws r Q q => by
    obtain ⟨w, rfl, r1⟩ := r.one
    obtain ⟨p, vs, rfl, h1, h2⟩ := r1.dat.tup
    exact ⟨p, vs, rfl, .inr h1, q _ H (Same.refl H) (by rw [h2.length]; exact .d (.i _))⟩) (by decide) (by decide) hs hpl
theorem r_lenL (hm : X.mg "len" = none) (ha : DL B X a δ xs) (hg : Gl X "len" := by rfl) (hs : starEach [a] X.env = (false, eval a X.env) :: starEach [] X.env := by rfl) (hpl : (backTo pos (starEach [] X.env)).any (·.1) = false := by rfl) :
    DI B X (.Call (.Name "len" p) [a] [] pos) δ (xs.length : Int) :=
  r_B call_len_seq hg hm boot_len (da_1 ha hs) (fun H ws r Q q => by
    obtain ⟨w, rfl, r1⟩ := r.one
    obtain ⟨p, vs, rfl, h1, h2⟩ := r1.lst
    exact ⟨p, vs, rfl, .inl h1, q _ H (Same.refl H) (by rw [h2.length]; exact .d (.i _))⟩) (by decide) (by decide) hs hpl
theorem r_abs (hm : X.mg "abs" = none) (ha : DI B X a δ n) (hg : Gl X "abs" := by rfl) (hs : starEach [a] X.env = (false, eval a X.env) :: starEach [] X.env := by rfl) (hpl : (backTo pos (starEach [] X.env)).any (·.1) = false := by rfl) :
    DI B X (.Call (.Name "abs" p) [a] [] pos) δ (n.natAbs : Int) :=
  r_B call_abs hg hm (by decide +kernel) (da_1 ha hs) (fun H ws r Q q => by
    obtain ⟨w, rfl, r1⟩ := r.one
    refine ⟨n, by rw [r1.int], ?_⟩
    have e : (if n < 0 then -n else n) = (n.natAbs : Int) := by split <;> omega
    rw [e]
    exact q _ H (Same.refl H) (.d (.i _))) (by decide) (by decide) hs hpl
theorem r_intI (hm : X.mg "int" = none) (ha : DI B X a δ n) (hg : Gl X "int" := by rfl) (hs : starEach [a] X.env = (false, eval a X.env) :: starEach [] X.env := by rfl) (hpl : (backTo pos (starEach [] X.env)).any (·.1) = false := by rfl) :
    DI B X (.Call (.Name "int" p) [a] [] pos) δ n :=
  r_Ty call_int1 hg hm (by decide +kernel) (da_1 ha hs) (fun H ws r Q q => by
    obtain ⟨w, rfl, r1⟩ := r.one
    exact .inl ⟨n, by rw [r1.int], q _ H (Same.refl H) (.d (.i _))⟩) (by decide) (by decide) hs hpl
theorem r_intB (hm : X.mg "int" = none) (ha : DBl B X a δ k) (hg : Gl X "int" := by rfl) (hs : starEach [a] X.env = (false, eval a X.env) :: starEach [] X.env := by rfl) (hpl : (backTo pos (starEach [] X.env)).any (·.1) = false := by rfl) :
    DI B X (.Call (.Name "int" p) [a] [] pos) δ (if k then 1 else 0) :=
  r_Ty call_int1 hg hm (by decide +kernel) (da_1 ha hs) (fun H ws r Q q => by
    obtain ⟨w, rfl, r1⟩ := r.one
    exact .inr ⟨k, by rw [r1.val], q _ H (Same.refl H) (.d (.i _))⟩) (by decide) (by decide) hs hpl
/-- tuple(a list) -/
theorem r_tupL (hm : X.mg "tuple" = none) (ha : DL B X a δ xs) (hg : Gl X "tuple" := by rfl) (hs : starEach [a] X.env = (false, eval a X.env) :: starEach [] X.env := by rfl) (hpl : (backTo pos (starEach [] X.env)).any (·.1) = false := by rfl) :
    DX B X (.Call (.Name "tuple" p) [a] [] pos) δ (.t xs) :=
  r_Ty call_tuple_of hg hm (by decide +kernel) (da_1 ha hs) (fun H ws r Q q => by
    obtain ⟨w, rfl, r1⟩ := r.one
    obtain ⟨p, vs, rfl, h1, h2⟩ := r1.lst
    exact ⟨p, vs, rfl, .inl ⟨h1, fun l hl => q _ _ (Evl.Ex.new hl) (.d (.t (SqT.of upd_same) (h2.ex (Evl.Ex.new hl))))⟩⟩) (by decide) (by decide) hs hpl
/-- list(a list) -/
theorem n_listL (hm : X.mg "list" = none) (ha : DL B X a δ xs) (hg : Gl X "list" := by rfl) (hs : starEach [a] X.env = (false, eval a X.env) :: starEach [] X.env := by rfl) (hpl : (backTo pos (starEach [] X.env)).any (·.1) = false := by rfl) :
    DN B X (.Call (.Name "list" p) [a] [] pos) δ xs :=
  n_Ty call_list_of hg hm (by decide +kernel) (da_1 ha hs) (fun H ws r Q q => by
    obtain ⟨w, rfl, r1⟩ := r.one
    obtain ⟨p, vs, rfl, h1, h2⟩ := r1.lst
    exact ⟨p, vs, rfl, .inl h1, fun l hl => q _ _ _ hl (Evl.Ex.new hl) upd_same (h2.ex (Evl.Ex.new hl))⟩) (by decide) (by decide) hs hpl
/-- sum, max of a list of ints -/
theorem r_sum {ns : List Int} (hm : X.mg "sum" = none) (ha : DL B X a δ (ns.map T.i)) (hc : X.calm = true := by rfl) (hg : Gl X "sum" := by rfl) (hs : starEach [a] X.env = (false, eval a X.env) :: starEach [] X.env := by rfl) (hpl : (backTo pos (starEach [] X.env)).any (·.1) = false := by rfl) :
    DI B X (.Call (.Name "sum" p) [a] [] pos) δ ns.sum :=
  r_B (cr_sum hc) hg hm (by decide +kernel) (da_1 ha hs) (fun H ws r Q q => by
    obtain ⟨w, rfl, r1⟩ := r.one
    obtain ⟨p, vs, rfl, h1, h2⟩ := r1.lst
    rw [h2.ints] at h1
    exact ⟨p, ns, rfl, h1, q _ H (Same.refl H) (.d (.i _))⟩) (by decide) (by decide) hs hpl
theorem r_max {ns : List Int} {M : Int} (hm : X.mg "max" = none) (ha : DL B X a δ (ns.map T.i)) (hM : M ∈ ns) (hM2 : ∀ y ∈ ns, y ≤ M) (hc : X.calm = true := by rfl) (hg : Gl X "max" := by rfl) (hs : starEach [a] X.env = (false, eval a X.env) :: starEach [] X.env := by rfl) (hpl : (backTo pos (starEach [] X.env)).any (·.1) = false := by rfl) :
    DI B X (.Call (.Name "max" p) [a] [] pos) δ M :=
  r_B (cr_max hc) hg hm (by decide +kernel) (da_1 ha hs) (fun H ws r Q q => by
    obtain ⟨w, rfl, r1⟩ := r.one
    obtain ⟨p, vs, rfl, h1, h2⟩ := r1.lst
    rw [h2.ints] at h1
    refine ⟨p, ns, rfl, h1, List.length_pos_of_mem hM, fun M' h3 h4 => ?_⟩
    have e : M' = M := Int.le_antisymm (hM2 M' h3) (h4 M hM)
    subst e
    exact q _ H (Same.refl H) (.d (.i _))) (by decide) (by decide) hs hpl
theorem r_max2 (hm : X.mg "max" = none) (ha : DI B X a δ m) (hb : DI B X b δ n) (hc : X.calm = true := by rfl) (hg : Gl X "max" := by rfl) (hs : starEach [a, b] X.env = (false, eval a X.env) :: starEach [b] X.env := by rfl) (hs2 : starEach [b] X.env = (false, eval b X.env) :: starEach [] X.env := by rfl) (hpl : (backTo pos (starEach [b] X.env)).any (·.1) = false := by rfl) :
    DI B X (.Call (.Name "max" p) [a, b] [] pos) δ (max m n) :=
  r_B (call_max2 hc) hg hm (by decide +kernel) (da_cons ha (da_1 hb hs2) hs) (fun H ws r Q q => by
    obtain ⟨w, z, rfl, r1, r2⟩ := r.two
    refine ⟨m, n, by rw [r1.int, r2.int], ?_⟩
    have e : (if n > m then n else m) = max m n := by split <;> omega
    rw [e]
    exact q _ H (Same.refl H) (.d (.i _))) (by decide) (by decide) hs hpl
/-- gcd -/
theorem r_gcd (hm : X.mg x = some (.builtin "math.gcd")) (ha : DI B X a δ m) (hb : DI B X b δ n) (hg : Gl X x := by rfl) (hdb : (x == ("__debug__" : Str)) = false := by decide) (hs : starEach [a, b] X.env = (false, eval a X.env) :: starEach [b] X.env := by rfl) (hs2 : starEach [b] X.env = (false, eval b X.env) :: starEach [] X.env := by rfl) (hpl : (backTo pos (starEach [b] X.env)).any (·.1) = false := by rfl) :
    DI B X (.Call (.Name x p) [a, b] [] pos) δ ((Nat.gcd m.natAbs n.natAbs : Nat) : Int) := fun σ H S Q q =>
  (pe_callBfun cr_gcd hg hm pa_D hdb hs hpl).to (da_cons ha (da_1 hb hs2) hs σ H S _ fun ws H1 e1 r => by
    obtain ⟨w, z, rfl, r1, r2⟩ := r.two
    exact ⟨m, n, by rw [r1.int, r2.int], q _ H1 e1 (.d (.i _))⟩)
/-! ### a def -/
/-- what a def promises: from values a datum | a new list -/
def spF (K : PySem.W.Frag) (F : List Ad → T → Prop) : Sp := fun vs H Q _ => ∃ as d, RepAs K H vs as ∧ F as d ∧ ∀ v H', Same H H' → Rep K H' v d → Q v H'
def spN (K : PySem.W.Frag) (F : List Ad → List T → Prop) : Sp := fun vs H Q _ => ∃ as ds, RepAs K H vs as ∧ F as ds ∧ ∀ p ws H', H p = none → Same H H' → H' p = some (.lst ws) → Reps K H' ws ds → Q (.ref p) H'
def spB (K : PySem.W.Frag) (F : List Ad → Bool → Prop) : Sp := fun vs H Q _ => ∃ as k, RepAs K H vs as ∧ F as k ∧ ∀ H', Same H H' → Q (.bl k) H'
/-- the def x stands in the module and keeps its promise at level k -/
structure FnAt (P : Program) (w : World) (K : PySem.W.Frag) (mg : Str → Option Value) (base : Heap) (k : Nat) (x : Str) (ps : List Str) (sp : Sp) : Prop where
  ex : ∃ f fd, FnOk P w K mg base CX0 k f fd ps sp ∧ mg x = some (.ref f) ∧ PySem.W.keepIn K (.ref f) = true ∧ Binds K fd ps []
variable {kk : Nat} {ps : List Str}
theorem fn_call {sp : Sp} (F : FnAt X.prog X.w X.K X.mg X.base kk x ps sp) (hr : Room kk X.A) (ha : DA B X (e :: es) δ as)
    (hg : Gl X x) (hdb : (x == ("__debug__" : Str)) = false) (he : starEach (e :: es) X.env = (false, eval e X.env) :: starEach es X.env) (hpl : (backTo pos (starEach es X.env)).any (·.1) = false)
    {σ : L2.St} {H : Hp} (S : St1 B X H σ δ) {Q : VK} (q : ∀ vs H', Same H H' → RepAs X.K H' vs as → sp vs H' Q E0) : tD X (.Call (.Name x p) (e :: es) [] pos) σ H Q := by
  obtain ⟨f, fd, G, gm, kp, bd⟩ := F.ex
  refine (pe_call G hr hg gm kp bd .nil pass0 pa_D hdb he hpl).to (ha σ H S _ fun vs H1 e1 r1 => ?_)
  rw [List.append_nil]
  exact q vs H1 e1 r1
theorem r_call {F : List Ad → T → Prop} (G : FnAt X.prog X.w X.K X.mg X.base kk x ps (spF X.K F)) (hr : Room kk X.A) (ha : DA B X (e :: es) δ as) (hF : F as v)
    (hg : Gl X x := by rfl) (hdb : (x == ("__debug__" : Str)) = false := by decide) (he : starEach (e :: es) X.env = (false, eval e X.env) :: starEach es X.env := by rfl) (hpl : (backTo pos (starEach es X.env)).any (·.1) = false := by rfl) :
    DX B X (.Call (.Name x p) (e :: es) [] pos) δ v := fun σ H S Q q => fn_call G hr ha hg hdb he hpl S fun vs H1 e1 r1 => ⟨as, v, r1, hF, fun w H2 e2 r2 => q w H2 (e1.trans e2) (.d r2)⟩
theorem n_call {F : List Ad → List T → Prop} (G : FnAt X.prog X.w X.K X.mg X.base kk x ps (spN X.K F)) (hr : Room kk X.A) (ha : DA B X (e :: es) δ as) (hF : F as xs)
    (hg : Gl X x := by rfl) (hdb : (x == ("__debug__" : Str)) = false := by decide) (he : starEach (e :: es) X.env = (false, eval e X.env) :: starEach es X.env := by rfl) (hpl : (backTo pos (starEach es X.env)).any (·.1) = false := by rfl) :
    DN B X (.Call (.Name x p) (e :: es) [] pos) δ xs := fun σ H S Q q => fn_call G hr ha hg hdb he hpl S fun vs H1 e1 r1 => ⟨as, xs, r1, hF, fun p ws H2 h1 e2 h2 r2 => q p ws H2 (e1.free h1) (e1.trans e2) h2 r2⟩
theorem b_call {F : List Ad → Bool → Prop} (G : FnAt X.prog X.w X.K X.mg X.base kk x ps (spB X.K F)) (hr : Room kk X.A) (ha : DA B X (e :: es) δ as) (hF : F as k)
    (hg : Gl X x := by rfl) (hdb : (x == ("__debug__" : Str)) = false := by decide) (he : starEach (e :: es) X.env = (false, eval e X.env) :: starEach es X.env := by rfl) (hpl : (backTo pos (starEach es X.env)).any (·.1) = false := by rfl) :
    DBl B X (.Call (.Name x p) (e :: es) [] pos) δ k := fun σ H S Q q => fn_call G hr ha hg hdb he hpl S fun vs H1 e1 r1 => ⟨as, k, r1, hF, fun H2 e2 => q _ H2 (e1.trans e2) (.v _)⟩
end
end Kd
-- K68E
set_option maxRecDepth 100000
set_option maxHeartbeats 4000000
/-! Rules: targets, walks, comprehensions. -/
namespace Kd
open PySem PySem.Spec PyProof.Rows L2
/-! ### targets -/
/-- the slots js alone are set -/
def OutOf (js : List Nat) (σ σ' : L2.St) : Prop := σ'.length = σ.length ∧ ∀ i, i ∉ js → σ'[i]? = σ[i]?
theorem OutOf.refl {js : List Nat} {σ : L2.St} : OutOf js σ σ := ⟨rfl, fun _ _ => rfl⟩
theorem OutOf.trans {js : List Nat} {σ σ1 σ2 : L2.St} (a : OutOf js σ σ1) (b : OutOf js σ1 σ2) : OutOf js σ σ2 := ⟨b.1.trans a.1, fun i h => (b.2 i h).trans (a.2 i h)⟩
theorem OutOf.set {js : List Nat} {σ : L2.St} {j : Nat} {o : Option V} (h : j ∈ js) : OutOf js σ (σ.set j o) := ⟨by rw [List.length_set], fun i hi => List.getElem?_set_ne fun e => hi (by rw [← e]; exact h)⟩
theorem wipe_get {σ : L2.St} : ∀ {vs : List Nat} {i : Nat}, i < σ.length → (wipe σ vs)[i]? = if i ∈ vs then some none else σ[i]?
  | [], i, h => by simp [wipe]
  | v :: vs, i, h => by
    unfold wipe
    by_cases e : v = i
    · subst e
      rw [List.getElem?_set_self (by rw [wipe_length]; exact h)]; simp
    · rw [List.getElem?_set_ne e, wipe_get h]
      have : i ∈ v :: vs ↔ i ∈ vs := by simp [Ne.symm e]
      by_cases q : i ∈ vs
      · rw [if_pos q, if_pos (this.mpr q)]
      · rw [if_neg q, if_neg (fun z => q (this.mp z))]
theorem wipe_ext {σ σ' : L2.St} {vs : List Nat} (h : OutOf vs σ σ') : wipe σ' vs = wipe σ vs := by
  refine List.ext_getElem? fun i => ?_
  by_cases hi : i < σ.length
  · rw [wipe_get hi, wipe_get (by rw [h.1]; exact hi)]
    by_cases q : i ∈ vs
    · rw [if_pos q, if_pos q]
    · rw [if_neg q, if_neg q, h.2 i q]
  · rw [List.getElem?_eq_none (by rw [wipe_length, h.1]; omega), List.getElem?_eq_none (by rw [wipe_length]; omega)]
theorem wipe_out1 {σ : L2.St} {vs : List Nat} : OutOf vs σ (wipe σ vs) := ⟨wipe_length _ _, fun i h => by
  by_cases hi : i < σ.length
  · rw [wipe_get hi, if_neg h]
  · rw [List.getElem?_eq_none (by rw [wipe_length]; omega), List.getElem?_eq_none (by omega)]⟩
def wipeD (δ : Dl) : List Nat → Dl
  | [] => δ
  | v :: vs => (wipeD δ vs).set v .no
theorem Sto.wipe {P : Program} {w : World} {K : PySem.W.Frag} {B H : Hp} {σ : L2.St} {δ : Dl} (S : Sto P w K B H σ δ) : ∀ vs : List Nat, Sto P w K B H (L2.wipe σ vs) (wipeD δ vs)
  | [] => S
  | v :: vs => (S.wipe vs).set0 (v := none) (s := .no) trivial rfl
section
variable (B : Hp) (X : Cx)
/-- tg = an item x -/
def DG (tg : Expr) (δ : Dl) (x : T) (δ' : Dl) (js : List Nat) : Prop := ∀ σ H v, St1 B X H σ δ → Rep X.K H v x → ∀ Q : L2.St → Hp → Prop, (∀ σ', St1 B X H σ' δ' → OutOf js σ σ' → Q σ' H) → tDG X tg v σ H Q
def DGs (tgs : List Expr) (δ : Dl) (xs : List T) (δ' : Dl) (js : List Nat) : Prop := ∀ σ H vs us pins s, St1 B X H σ δ → Reps X.K H vs xs → Vals vs us → Inv X pins σ H s → ∀ Q : L2.St → Hp → Prop, (∀ σ', St1 B X H σ' δ' → OutOf js σ σ' → Q σ' H) →
  wpAny (model X.prog X.w) X.A (assignInOrder ((assignEach tgs X.env).map (·.2)) us) (fun _ s' => ∃ σ' H', Inv X pins σ' H' s' ∧ Q σ' H') X.xe s
end
section
variable {B : Hp} {X : Cx} {δ δ1 δ2 : Dl} {a b c e tg iter elt : Expr} {es ifs rest : List Expr} {x y : Str} {p pos p2 tpos : Pos} {u v : T} {xs ys : List T} {js : List Nat}
theorem g_name (i : Nat) (hN : X.N.Nodup) (hj : i ∈ js := by decide) (hi : X.N[i]? = some x := by rfl) (hx : Loc X.env.scope x := by first | exact .inl rfl | exact .inr rfl) (hf : X.fn x = true ∨ X.env.scope.names.lookup x = some .local := by first | exact .inl rfl | exact .inr rfl | assumption) :
    DG B X (.Name x pos) δ u (δ.set i (.d u)) js := fun σ H v S r Q q => (pg_name hN hi hx hf).to (q _ (S.set0 (v := some v) (s := .d u) ⟨v, rfl, r⟩ rfl) (.set hj))
theorem gs_nil : DGs B X [] δ [] δ js := fun σ H vs us pins s S r ru I Q q => by
  cases r
  cases ru
  exact (pgs_nil (X := X)).run pins s σ H [] [] Q I .nil ⟨rfl, q σ S .refl⟩
theorem gs_cons (h : DG B X a δ u δ1 js) (hr : DGs B X es δ1 xs δ2 js) (hs : (assignEach (a :: es) X.env).map (·.2) = assign a X.env :: (assignEach es X.env).map (·.2) := by rfl) : DGs B X (a :: es) δ (u :: xs) δ2 js := fun σ H vs us pins s S r ru I Q q => by
  cases r with
  | cons r1 r2 =>
    cases ru with
    | cons u1 u2 =>
      rw [hs]
      refine assignInOrder_cons (thn (h σ H _ S r1 (fun σ' H' => H' = H ∧ St1 B X H σ' δ1 ∧ OutOf js σ σ') (fun σ' S' o => ⟨rfl, S', o⟩) pins s _ I u1) fun _ s1 ⟨σ1, H1, I1, e, S1, o1⟩ => ?_)
      subst e
      exact hr σ1 H1 _ _ pins s1 S1 r2 u2 I1 Q fun σ' S' o => q σ' S' (o1.trans o)
theorem g_tup {k : Nat} (h : DGs B X es δ xs δ2 js) (hc : X.calm = true := by rfl) (hn : (assignEach es X.env).length = xs.length := by rfl) (hst : (assignEach es X.env).findIdx? (·.1) = none := by rfl) : DG B X (.Tuple es k pos) δ (.t xs) δ2 js := fun σ H v S r Q q => by
  obtain ⟨a, vs, rfl, h1, h2⟩ := r.tup
  intro pins s u I ru
  have pgs : PGs X es (fun ws σ' H' Q' => ∀ pins s us, Inv X pins σ' H' s → Vals ws us → wpAny (model X.prog X.w) X.A (assignInOrder ((assignEach es X.env).map (·.2)) us) (fun _ s' => ∃ σ'' H'', Inv X pins σ'' H'' s' ∧ Q' σ'' H'') X.xe s) :=
    ⟨fun pins s σ' H' ws us Q' I' ru' hw => hw pins s us I' ru'⟩
  exact (pg_tup hc pgs hn hst).run pins s σ H _ u Q I ru ⟨a, vs, rfl, h1, h2.length, fun pins' s' us I' ru' => h σ H vs us pins' s' S h2 ru' I' Q q⟩
theorem g_two {k i j : Nat} {x y : Str} {px py : Pos} (hN : X.N.Nodup) (hj1 : i ∈ js := by decide) (hj2 : j ∈ js := by decide) (hi : X.N[i]? = some x := by rfl) (hi2 : X.N[j]? = some y := by rfl) (hx : Loc X.env.scope x := by first | exact .inl rfl | exact .inr rfl) (hy : Loc X.env.scope y := by first | exact .inl rfl | exact .inr rfl)
    (hf : X.fn x = true ∨ X.env.scope.names.lookup x = some .local := by first | exact .inl rfl | exact .inr rfl | assumption) (hf2 : X.fn y = true ∨ X.env.scope.names.lookup y = some .local := by first | exact .inl rfl | exact .inr rfl | assumption) (hc : X.calm = true := by rfl) :
    DG B X (.Tuple [.Name x px, .Name y py] k pos) δ (.t [u, v]) ((δ.set i (.d u)).set j (.d v)) js :=
  g_tup (gs_cons (g_name i hN hj1 hi hx hf) (gs_cons (g_name j hN hj2 hi2 hy hf2) gs_nil)) hc

/-! ### what is walked -/
/-- J yields the data xs, whatever else stands in H -/
def Wk (K : PySem.W.Frag) (J : It) (H : Hp) (xs : List T) : Prop :=
  (∀ (i : Nat) x, xs[i]? = some x → J.go i H ∧ ∀ v H', J.yld i H v H' → Same H H' ∧ Rep K H' v x) ∧ ∀ i, xs.length ≤ i → J.stop i H
def DItT (B : Hp) (X : Cx) (tg iter : Expr) (δ : Dl) (xs : List T) : Prop := ∀ σ H, St1 B X H σ δ → ∀ R : It → Hp → Prop, (∀ J H', Same H H' → (∀ H2, Same B H2 → TEx X.K H' H2 → Wk X.K J H2 xs) → R J H') → tDI X tg iter σ H R
def DItS (B : Hp) (X : Cx) (tg iter : Expr) (δ : Dl) (xs : List T) : Prop := ∀ σ H, St1 B X H σ δ → ∀ R : It → Hp → Prop, (∀ J H', Same H H' → (∀ H2, Same H' H2 → Wk X.K J H2 xs) → R J H') → tDI X tg iter σ H R
theorem DItT.s (h : DItT B X tg iter δ xs) : DItS B X tg iter δ xs := fun σ H S R q => h σ H S R fun J H' e k => q J H' e fun H2 e2 => k H2 ((S.ex.trans e).trans e2) e2.tex
theorem wk_list {K : PySem.W.Frag} {H : Hp} {a : Addr} {vs : List V} (h : SqL K H a vs) (r : Reps K H vs xs) : Wk K (Itl K a) H xs := by
  refine ⟨fun i x hx => ?_, fun i hi => ⟨vs, h, by rw [r.length]; exact hi⟩⟩
  obtain ⟨v, h1, h2⟩ := r.get hx
  refine ⟨⟨vs, v, h, h1⟩, fun v' H' hy => ?_⟩
  obtain ⟨rfl, hy⟩ := hy
  have := hy vs h
  rw [h1] at this; cases this
  exact ⟨Same.refl _, h2⟩
theorem wk_tup {K : PySem.W.Frag} {H : Hp} {a : Addr} {vs : List V} (h : SqT K H a vs) (r : Reps K H vs xs) : Wk K (Itt K a) H xs := by
  refine ⟨fun i x hx => ?_, fun i hi => ⟨vs, h, by rw [r.length]; exact hi⟩⟩
  obtain ⟨v, h1, h2⟩ := r.get hx
  refine ⟨⟨vs, v, h, h1⟩, fun v' H' hy => ?_⟩
  obtain ⟨rfl, hy⟩ := hy
  have := hy vs h
  rw [h1] at this; cases this
  exact ⟨Same.refl _, h2⟩
theorem wk_range {K : PySem.W.Frag} {H : Hp} {lo : Int} {n : Nat} : Wk K (Itr lo n) H ((List.range n).map fun i => T.i (lo + (i : Nat))) := by
  refine ⟨fun i x hx => ?_, fun i hi => by rw [List.length_map, List.length_range] at hi; exact hi⟩
  rw [List.getElem?_map] at hx
  by_cases h : i < n
  · rw [List.getElem?_range h] at hx
    cases hx
    refine ⟨h, fun v H' hy => ?_⟩
    obtain ⟨rfl, rfl⟩ := hy
    exact ⟨Same.refl _, .i _⟩
  · rw [List.getElem?_eq_none (by rw [List.length_range]; omega)] at hx; cases hx
/-- a tuple -/
theorem it_tup (h : DX B X iter δ (.t xs)) : DItT B X tg iter δ xs := fun σ H S R q => (pi_tup pe_D).to (h σ H S _ fun v H1 e1 r1 => by
  obtain ⟨a, vs, rfl, h1, h2⟩ := r1.dat.tup
  exact ⟨a, rfl, ⟨vs, h1⟩, q _ H1 e1 fun H2 _ t => wk_tup (t _ _ h1) (h2.tex t)⟩)
/-- any list -/
theorem it_lst (h : DL B X iter δ xs) : DItS B X tg iter δ xs := fun σ H S R q => (pi_list pe_D).to (h σ H S _ fun v H1 e1 r1 => by
  obtain ⟨a, vs, rfl, h1, h2⟩ := r1.lst
  exact ⟨a, rfl, ⟨vs, h1⟩, q _ H1 e1 fun H2 e2 => wk_list (e2.seq h1) (h2.ex e2)⟩)
/-- a list of the entry, by its name -/
theorem it_bas (i : Nat) {q : Addr} (h : δ[i]? = some (.bas q xs) := by rfl) (hN : X.N[i]? = some x := by rfl)
    (hv : Vis X.env.scope x := by first | exact Or.inl rfl | exact Or.inr (Or.inl rfl) | exact Or.inr (Or.inr rfl))
    (hd : (x == ("__debug__" : Str)) = false := by decide) (hcd : (x == ("__classdict__" : Str)) = false := by decide) : DItT B X tg (.Name x pos) δ xs := fun σ H S R k => by
  obtain ⟨h1, vs, h2, h3⟩ := S.ok i _ h
  exact (pi_list (pe_var hN hv hd hcd)).to ⟨_, h1, q, rfl, ⟨vs, S.ex.seq h2⟩, k _ H (Same.refl H) fun H2 e2 _ => wk_list (e2.seq h2) (h3.ex e2)⟩
theorem it_range1 {n : Nat} (hm : X.mg "range" = none) (ha : DI B X a δ n) (hn : n < 1000000) (hg : Gl X "range" := by rfl) (hs : starEach [a] X.env = [(false, eval a X.env)] := by rfl) : DItT B X tg (.Call (.Name "range" p) [a] [] pos) δ ((List.range n).map fun i => T.i (i : Nat)) := fun σ H S R q =>
  (pi_range1 hg hm pa_D hs).to (da_1 ha hs σ H S _ fun ws H1 e1 r => by
    obtain ⟨w, rfl, r1⟩ := r.one
    refine ⟨n, by rw [r1.int], by omega, by omega, q _ H1 e1 fun H2 _ _ => ?_⟩
    have := wk_range (K := X.K) (H := H2) (lo := 0) (n := n)
    simpa using this)
theorem it_range2 {n m : Nat} (hm : X.mg "range" = none) (ha : DI B X a δ n) (hb : DI B X b δ m) (hn : n < 1000000) (hm2 : m < 1000000) (hg : Gl X "range" := by rfl) (hs : starEach [a, b] X.env = [(false, eval a X.env), (false, eval b X.env)] := by rfl) (hs2 : starEach [b] X.env = [(false, eval b X.env)] := by rfl) :
    DItT B X tg (.Call (.Name "range" p) [a, b] [] pos) δ ((List.range (m - n)).map fun i => T.i ((n : Nat) + (i : Nat) : Int)) := fun σ H S R q =>
  (pi_range2 hg hm pa_D hs hs2).to (da_cons ha (da_1 hb hs2) (by rw [hs, hs2]) σ H S _ fun ws H1 e1 r => by
    obtain ⟨w, z, rfl, r1, r2⟩ := r.two
    refine ⟨n, m, by rw [r1.int, r2.int], ⟨by omega, by omega, by omega, by omega⟩, q _ H1 e1 fun H2 _ _ => ?_⟩
    have e : ((m : Int) - (n : Int)).toNat = m - n := by omega
    rw [e]
    exact wk_range (K := X.K) (H := H2) (lo := n) (n := m - n))
/-- zip of two tuples -/
def zipT (xs ys : List T) : List T := (xs.zip ys).map fun p => T.t [p.1, p.2]
theorem wk_zipT {K : PySem.W.Frag} {H : Hp} {a b : Addr} {vs ws : List V} (h : SqT K H a vs) (r : Reps K H vs xs) (h' : SqT K H b ws) (r' : Reps K H ws ys) : Wk K (RZ.ItzT K a b) H (zipT xs ys) := by
  refine ⟨fun i z hz => ?_, fun i hi => ⟨vs, ws, h, h', ?_⟩⟩
  · unfold zipT at hz
    rw [List.getElem?_map] at hz
    cases hq : (xs.zip ys)[i]? with
    | none => rw [hq] at hz; cases hz
    | some pr =>
      rw [hq] at hz; cases hz
      obtain ⟨h1, h2⟩ := List.getElem?_zip_eq_some.mp hq
      obtain ⟨v1, g1, k1⟩ := r.get h1
      obtain ⟨v2, g2, k2⟩ := r'.get h2
      refine ⟨⟨vs, ws, v1, v2, h, h', g1, g2⟩, fun v H' hy => ?_⟩
      obtain ⟨T', x1, x2, rfl, hn, rfl, f1, f2⟩ := hy
      have e1 := f1 vs h
      have e2 := f2 ws h'
      rw [g1] at e1; rw [g2] at e2
      cases e1; cases e2
      exact ⟨Evl.Ex.new hn, .t (SqT.of upd_same) (.cons (k1.ex (Evl.Ex.new hn)) (.cons (k2.ex (Evl.Ex.new hn)) .nil))⟩
  · unfold zipT at hi
    rw [List.length_map, List.length_zip] at hi
    rw [r.length, r'.length]
    omega
theorem it_zipT {elts : List Expr} {kk : Nat} (hm : X.mg "zip" = none) (ha : DX B X a δ (.t xs)) (hb : DX B X b δ (.t ys)) (hg : Gl X "zip" := by rfl)
    (hs : starEach [a, b] X.env = (false, eval a X.env) :: starEach [b] X.env := by rfl) (hs2 : starEach [b] X.env = (false, eval b X.env) :: starEach [] X.env := by rfl) (hpl : (backTo pos (starEach [b] X.env)).any (·.1) = false := by rfl) :
    DItT B X (.Tuple elts kk tpos) (.Call (.Name "zip" p) [a, b] [] pos) δ (zipT xs ys) := fun σ H S R q =>
  (RZ.pi_zipA hg hm pa_D hs hpl).to (da_cons ha (da_1 hb hs2) hs σ H S _ fun ws H1 e1 r => by
    obtain ⟨w, z, rfl, r1, r2⟩ := r.two
    obtain ⟨a', vs, rfl, h1, h2⟩ := r1.dat.tup
    obtain ⟨b', ws, rfl, h3, h4⟩ := r2.dat.tup
    exact ⟨a', b', vs, ws, rfl, .inr ⟨h1, h3, q _ H1 e1 fun H2 _ t => wk_zipT (t _ _ h1) (h2.tex t) (t _ _ h3) (h4.tex t)⟩⟩)
theorem wk_zipL {K : PySem.W.Frag} {H : Hp} {a b : Addr} {vs ws : List V} (h : SqL K H a vs) (r : Reps K H vs xs) (h' : SqL K H b ws) (r' : Reps K H ws ys) : Wk K (Itz K a b) H (zipT xs ys) := by
  refine ⟨fun i z hz => ?_, fun i hi => ⟨vs, ws, h, h', ?_⟩⟩
  · unfold zipT at hz
    rw [List.getElem?_map] at hz
    cases hq : (xs.zip ys)[i]? with
    | none => rw [hq] at hz; cases hz
    | some pr =>
      rw [hq] at hz; cases hz
      obtain ⟨h1, h2⟩ := List.getElem?_zip_eq_some.mp hq
      obtain ⟨v1, g1, k1⟩ := r.get h1
      obtain ⟨v2, g2, k2⟩ := r'.get h2
      refine ⟨⟨vs, ws, v1, v2, h, h', g1, g2⟩, fun v H' hy => ?_⟩
      obtain ⟨T', x1, x2, rfl, hn, rfl, f1, f2⟩ := hy
      have e1 := f1 vs h
      have e2 := f2 ws h'
      rw [g1] at e1; rw [g2] at e2
      cases e1; cases e2
      exact ⟨Evl.Ex.new hn, .t (SqT.of upd_same) (.cons (k1.ex (Evl.Ex.new hn)) (.cons (k2.ex (Evl.Ex.new hn)) .nil))⟩
  · unfold zipT at hi
    rw [List.length_map, List.length_zip] at hi
    rw [r.length, r'.length]
    omega
theorem it_zipL {elts : List Expr} {kk : Nat} (hm : X.mg "zip" = none) (ha : DL B X a δ xs) (hb : DL B X b δ ys) (hg : Gl X "zip" := by rfl)
    (hs : starEach [a, b] X.env = (false, eval a X.env) :: starEach [b] X.env := by rfl) (hs2 : starEach [b] X.env = (false, eval b X.env) :: starEach [] X.env := by rfl) (hpl : (backTo pos (starEach [b] X.env)).any (·.1) = false := by rfl) :
    DItS B X (.Tuple elts kk tpos) (.Call (.Name "zip" p) [a, b] [] pos) δ (zipT xs ys) := fun σ H S R q =>
  (RZ.pi_zipA hg hm pa_D hs hpl).to (da_cons ha (da_1 hb hs2) hs σ H S _ fun ws H1 e1 r => by
    obtain ⟨w, z, rfl, r1, r2⟩ := r.two
    obtain ⟨a', vs, rfl, h1, h2⟩ := r1.lst
    obtain ⟨b', ws, rfl, h3, h4⟩ := r2.lst
    exact ⟨a', b', vs, ws, rfl, .inl ⟨h1, h3, q _ H1 e1 fun H2 e2 => wk_zipL (e2.seq h1) (h2.ex e2) (e2.seq h3) (h4.ex e2)⟩⟩)

/-! ### comprehensions -/
/-- the tests of a clause, as their run tells it -/
abbrev tDIf (X : Cx) (ifs : List Expr) : TT := fun σ H Q => ∀ pins s, Inv X pins σ H s → wpAny (model X.prog X.w) X.A (forIn ifs true fun c r => if r = true then do let ok ← isTrue c X.env (eval c X.env); pure (ForInStep.yield ok) else pure (ForInStep.yield r)) (TP X pins σ Q) X.xe s
def DTs (B : Hp) (X : Cx) (ifs : List Expr) (δ : Dl) (k : Bool) : Prop := ∀ σ H, St1 B X H σ δ → ∀ Q : Bool → Hp → Prop, (∀ H', Same H H' → Q k H') → tDIf X ifs σ H Q
theorem ts_nil : DTs B X [] δ true := fun σ H S Q q pins s I => pts_nil.run pins s σ H Q I (q H (Same.refl H))
theorem ts_one {k : Bool} (h : DT B X a δ k) : DTs B X [a] δ k := fun σ H S Q q pins s I => (pts_one pt_D).run pins s σ H Q I (h σ H S Q q)
variable {scope : Scope} {own : List (Str × Nat)}
/-- the block's context -/
abbrev blkX (X : Cx) (scope : Scope) (s : Shared) (H : Hp) (C : Addr) (cl : List (Str × Addr)) (fp : List Addr) : Cx := X.blk s H scope (compEnvC scope cl C X.env) fp
abbrev uTG (X : Cx) (scope : Scope) (tg : Expr) : TG := fun v σ H Q => ∀ s0 H0 C cl fp, tDG (blkX X scope s0 H0 C cl fp) tg v σ H Q
abbrev uTT (X : Cx) (scope : Scope) (ifs : List Expr) : TT := fun σ H Q => ∀ s0 H0 C cl fp, tDIf (blkX X scope s0 H0 C cl fp) ifs σ H Q
abbrev uTE (X : Cx) (scope : Scope) (elt : Expr) : TE := fun σ H Q => ∀ s0 H0 C cl fp, tD (blkX X scope s0 H0 C cl fp) elt σ H Q
theorem lc_read (vs : List Nat) (f : T → Bool) (g : T → T) (bd : T → Dl) (hi : DItS B X tg iter δ xs) (hz : xs.length ≤ 50000)
    (hg : ∀ s H C cl fp x, x ∈ xs → DG B (blkX X scope s H C cl fp) tg (wipeD δ vs) x (bd x) vs)
    (ht : ∀ s H C cl fp x, x ∈ xs → DTs B (blkX X scope s H C cl fp) ifs (bd x) (f x))
    (he : ∀ s H C cl fp x, x ∈ xs → f x = true → DX B (blkX X scope s H C cl fp) elt (bd x) (g x))
    {σ : L2.St} {H : Hp} (S : St1 B X H σ δ) {Q : VK} (q : ∀ p ws H', H p = none → Same H H' → H' p = some (.lst ws) → Reps X.K H' ws ((xs.filter f).map g) → Q (.ref p) H') :
    tLc (tDI X tg iter) (uTG X scope tg) (uTT X scope ifs) (uTE X scope elt) vs σ H Q := by
  refine hi σ H S _ fun J H1 e1 wk D hD => ?_
  refine ⟨fun i m H' => m = xs.length - i ∧ i ≤ xs.length ∧ Same H1 H' ∧ ∃ ws, H' D = some (.lst ws) ∧ Reps X.K H' ws (((xs.take i).filter f).map g), ⟨xs.length, by simp, Nat.zero_le _, Evl.Ex.new hD, [], upd_same, .nil⟩, ?_⟩
  rintro i m H' ⟨rfl, hle, s1, ws, h1, h2⟩
  have wk' := wk H' s1
  by_cases hlt : i < xs.length
  · refine .inr ⟨(wk'.1 i xs[i] (by rw [List.getElem?_eq_getElem hlt])).1, fun H2 => Same H1 H2 ∧ ∃ ws, H2 D = some (.lst ws) ∧ Reps X.K H2 ws (((xs.take (i + 1)).filter f).map g), fun H2 h => ⟨xs.length - (i + 1), by omega, rfl, hlt, h⟩, fun v H2 hy => ?_⟩
    have hx : xs[i]? = some xs[i] := List.getElem?_eq_getElem hlt
    have hmem : xs[i] ∈ xs := List.getElem_mem hlt
    obtain ⟨s2, r2⟩ := (wk'.1 i _ hx).2 v H2 hy
    intro s0 H0 C cl fp
    have S2 : St1 B X H2 (wipe σ vs) (wipeD δ vs) := ((S.to (e1.trans (s1.trans s2))).wipe vs)
    refine hg s0 H0 C cl fp _ hmem (wipe σ vs) H2 v S2 r2 _ fun σ2 S3 o => ⟨?_, ?_⟩
    · rw [wipe_ext o, wipe_ext wipe_out1]
    · intro s0 H0 C cl fp pins s I
      refine ht s0 H0 C cl fp _ hmem σ2 H2 S3 _ (fun H3 s3 => ?_) pins s I
      have et : xs.take (i + 1) = xs.take i ++ [xs[i]] := by rw [List.take_add_one, hx]; rfl
      cases hf : f xs[i] with
      | false =>
        refine (if_neg Bool.false_ne_true).mpr ⟨(s1.trans s2).trans s3, ws, s3 _ _ (s2 _ _ h1), ?_⟩
        rw [et, List.filter_append, List.filter_cons, hf]
        simp only [Bool.false_eq_true, if_false, List.filter_nil, List.append_nil]
        exact (h2.ex s2).ex s3
      | true =>
        refine (if_pos rfl).mpr ?_
        intro s0 H0 C cl fp
        refine he s0 H0 C cl fp _ hmem hf σ2 H3 (S3.to s3) _ fun y H4 s4 r4 => ⟨ws, s4 _ _ (s3 _ _ (s2 _ _ h1)), ?_, ?_, ws ++ [y], upd_same, ?_⟩
        · rw [h2.length, List.length_map]
          have a1 := List.length_filter_le f (xs.take i)
          rw [List.length_take] at a1
          exact sz_lt (by omega)
        · exact Evl.Ex.mut (((s1.trans s2).trans s3).trans s4) hD
        · rw [et, List.filter_append, List.filter_cons, hf]
          simp only [if_true, List.filter_nil, List.map_append, List.map_cons, List.map_nil]
          have t4 : TEx X.K H4 (upd H4 D (.lst (ws ++ [y]))) := TEx.lst (s4 _ _ (s3 _ _ (s2 _ _ h1)))
          exact (((h2.ex s2).ex s3).ex s4 |>.snoc r4.dat).tex t4
  · have ei : i = xs.length := by omega
    subst ei
    rw [List.take_length] at h2
    refine .inl ⟨wk'.2 _ (Nat.le_refl _), q D ws H' (e1.free hD) (e1.trans s1) h1 h2⟩
theorem n_lc (f : T → Bool) (g : T → T) (bd : T → Dl) (hN : X.N.Nodup) (ok : BlkOk X.N X.env.scope scope own) (hi : DItS B X tg iter δ xs) (hz : xs.length ≤ 50000)
    (hg : ∀ s H C cl fp x, x ∈ xs → DG B (blkX X scope s H C cl fp) tg (wipeD δ (own.map (·.2))) x (bd x) (own.map (·.2)))
    (ht : ∀ s H C cl fp x, x ∈ xs → DTs B (blkX X scope s H C cl fp) ifs (bd x) (f x))
    (he : ∀ s H C cl fp x, x ∈ xs → f x = true → DX B (blkX X scope s H C cl fp) elt (bd x) (g x)) (hc : X.calm = true := by rfl) (hs : ∀ x, foldedSetIterable iter X.env x = pure x := by intro _; rfl) :
    DN B X (.ListComp elt [⟨tg, iter, ifs, 0⟩] scope pos) δ ((xs.filter f).map g) := fun σ H S Q q =>
  (pe_lc (g := uTG X scope tg) (tt := uTT X scope ifs) (te := uTE X scope elt) hc hN pi_D ok (fun s H C cl fp => ⟨fun pins s' σ H v u Q I r h => h _ _ _ _ _ pins s' u I r⟩)
    (fun s H C cl fp => ⟨fun pins s' σ H Q I h => h _ _ _ _ _ pins s' I⟩) (fun s H C cl fp => ⟨fun pins s' σ H Q I h => h _ _ _ _ _ pins s' I⟩) hs).to (lc_read _ f g bd hi hz hg ht he S q)
end
end Kd
-- K68F
set_option maxRecDepth 100000
set_option maxHeartbeats 4000000
/-! Rules: statements, loops, a def's body. -/
namespace Kd
open PySem PySem.Spec PyProof.Rows L2
/-- a result that may be stored: a datum, a NEW list, any value -/
inductive FrA (K : PySem.W.Frag) (H H' : Hp) : V → Ad → Prop
  | d {v : V} {x : T} : Rep K H' v x → FrA K H H' v (.d x)
  | l {p : Addr} {vs : List V} {xs : List T} : H p = none → H' p = some (.lst vs) → Reps K H' vs xs → FrA K H H' (.ref p) (.l xs)
  | v (v : V) : FrA K H H' v (.v v)
/-- the slot that keeps it -/
inductive Kept : Ad → Sd → Prop
  | d (x : T) : Kept (.d x) (.d x)
  | l (p : Addr) (xs : List T) : Kept (.l xs) (.own p xs)
  | v (v : V) : Kept (.v v) (.raw v)
/-- how a parameter stands at the entry -/
inductive Given : Ad → Sd → Prop
  | d (x : T) : Given (.d x) (.d x)
  | l (p : Addr) (xs : List T) : Given (.l xs) (.bas p xs)
  | v (v : V) : Given (.v v) (.raw v)
theorem Kept.d' {x : T} {s : Sd} (h : Kept (.d x) s) : s = .d x := by cases h; rfl
theorem Kept.v' {x : V} {s : Sd} (h : Kept (.v x) s) : s = .raw x := by cases h; rfl
theorem Kept.l' {x : List T} {s : Sd} (h : Kept (.l x) s) : ∃ p, s = .own p x := by cases h; exact ⟨_, rfl⟩
theorem FrA.ex {K : PySem.W.Frag} {H H1 H2 : Hp} {v : V} {a : Ad} (h : FrA K H H1 v a) (e : Same H1 H2) : FrA K H H2 v a := by
  cases h with
  | d h => exact .d (h.ex e)
  | l h1 h2 h3 => exact .l h1 (e _ _ h2) (h3.ex e)
  | v v => exact .v v
theorem FrA.back {K : PySem.W.Frag} {H H1 H2 : Hp} {v : V} {a : Ad} (h : FrA K H1 H2 v a) (e : Same H H1) : FrA K H H2 v a := by
  cases h with
  | d h => exact .d h
  | l h1 h2 h3 => exact .l (e.free h1) h2 h3
  | v v => exact .v v
theorem Sto.setA {P : Program} {w : World} {K : PySem.W.Frag} {B H H' : Hp} {σ : L2.St} {δ : Dl} {v : V} {a : Ad} (S : Sto P w K B H σ δ) (e : Same H H') (h : FrA K H H' v a) (i : Nat) :
    ∃ s, Kept a s ∧ Sto P w K B H' (σ.set i (some v)) (δ.set i s) := by
  cases h with
  | d h => exact ⟨_, .d _, (S.to e).set0 (v := some v) (s := .d _) ⟨v, rfl, h⟩ rfl⟩
  | @l p vs xs h1 h2 h3 =>
    refine ⟨_, .l p xs, S.setN e h1 ⟨rfl, ?_, vs, h2, h3⟩ rfl⟩
    cases z : B p with
    | none => rfl
    | some u => rw [S.ex p u z] at h1; cases h1
  | v v => exact ⟨_, .v v, (S.to e).set0 (v := some v) (s := .raw v) rfl rfl⟩
section
variable (B : Hp) (X : Cx)
def DF (e : Expr) (δ : Dl) (a : Ad) : Prop := ∀ σ H, St1 B X H σ δ → ∀ Q : VK, (∀ v H', Same H H' → FrA X.K H H' v a → Q v H') → tD X e σ H Q
end
section
variable {B : Hp} {X : Cx} {δ δ1 δ2 : Dl} {a b c e f tg iter elt : Expr} {es ifs : List Expr} {st : Stmt} {sts rest body : List Stmt} {x y z : Str} {p pos p2 tpos pos' : Pos} {ad ad1 ad2 ad3 : Ad} {u v : T} {xs ys : List T} {js : List Nat} {M M' : Dl → Prop} {Rt : VK} {k : Bool} {n : Int}
theorem DR.fd (h : DX B X e δ u) : DF B X e δ (.d u) := fun σ H S Q q => h σ H S Q fun v H' e' r => q v H' e' (.d r.dat)
theorem DR.fv {w : V} (h : DV B X e δ w) : DF B X e δ (.v w) := fun σ H S Q q => h σ H S Q fun v H' e' r => q v H' e' (by rw [r.val]; exact .v w)
theorem DN.fn (h : DN B X e δ xs) : DF B X e δ (.l xs) := fun σ H S Q q => h σ H S Q fun p vs H' h1 e' h2 r => q _ H' e' (.l h1 h2 r)

/-! ### sequences -/
theorem DSs.imp (h : DSs B X sts δ M Rt) (hM : ∀ δ', M δ' → M' δ') : DSs B X sts δ M' Rt := fun σ H S D q1 q2 => h σ H S D (fun σ' H' δ' m => q1 σ' H' δ' (hM δ' m)) q2
theorem DS.imp (h : DS B X st δ M Rt) (hM : ∀ δ', M δ' → M' δ') : DS B X st δ M' Rt := fun σ H S D q1 q2 => h σ H S D (fun σ' H' δ' m => q1 σ' H' δ' (hM δ' m)) q2
theorem ss_nil (h : M δ) : DSs B X [] δ M Rt := fun σ H S D q1 q2 => pss_nil.to (q1 σ H δ h S TEx.refl)
theorem ss_cons (h : DS B X st δ M Rt) (hr : ∀ δ', M δ' → DSs B X rest δ' M' Rt) : DSs B X (st :: rest) δ M' Rt := fun σ H S D q1 q2 =>
  (pss_cons ps_D pss_D).to (h σ H S _ (fun σ1 H1 δ1 m S1 t1 => hr δ1 m σ1 H1 S1 D (fun σ' H' δ' m' S' t' => q1 σ' H' δ' m' S' (t1.trans t')) q2) q2)
theorem ss_one (h : DS B X st δ M Rt) : DSs B X [st] δ M Rt := fun σ H S D q1 q2 => (pss_one ps_D).to (h σ H S D q1 q2)
/-- a store and then the rest, the store's slot told -/
theorem ss_set (h : DS B X st δ (fun δ' => δ' = δ1) Rt) (hr : DSs B X rest δ1 M' Rt) : DSs B X (st :: rest) δ M' Rt := ss_cons h fun δ' e => e ▸ hr

/-! ### stores -/
theorem s_asg (i : Nat) (hN : X.N.Nodup) (h : DF B X e δ ad) (hi : X.N[i]? = some x := by rfl) (hx : Loc X.env.scope x := by first | exact .inl rfl | exact .inr rfl)
    (hs : swapsWith e (some (.Name x pos')) pos.line X.env = pure false := by rfl) (hf : X.fn x = true ∨ X.env.scope.names.lookup x = some .local := by first | exact .inl rfl | exact .inr rfl | assumption) :
    DS B X (.Assign [.Name x pos'] e pos) δ (fun δ' => ∃ s, Kept ad s ∧ δ' = δ.set i s) Rt := fun σ H S D q1 q2 =>
  (ps_set hN hi hx pe_D hs hf).to (h σ H S _ fun v H1 e1 r1 => by
    obtain ⟨s, h1, S1⟩ := S.setA e1 r1 i
    exact q1 _ H1 _ ⟨s, h1, rfl⟩ S1 e1.tex)
theorem s_set (i : Nat) (hN : X.N.Nodup) (h : DX B X e δ u) (hδ : δ.set i (.d u) = δ1 := by rfl) (hi : X.N[i]? = some x := by rfl) (hx : Loc X.env.scope x := by first | exact .inl rfl | exact .inr rfl)
    (hs : swapsWith e (some (.Name x pos')) pos.line X.env = pure false := by rfl) (hf : X.fn x = true ∨ X.env.scope.names.lookup x = some .local := by first | exact .inl rfl | exact .inr rfl | assumption) :
    DS B X (.Assign [.Name x pos'] e pos) δ (fun δ' => δ' = δ1) Rt := (s_asg i hN h.fd hi hx hs hf).imp fun δ' ⟨s, h1, h2⟩ => by rw [h2, h1.d', hδ]
theorem s_setN (i : Nat) (hN : X.N.Nodup) (h : DN B X e δ xs) (hi : X.N[i]? = some x := by rfl) (hx : Loc X.env.scope x := by first | exact .inl rfl | exact .inr rfl)
    (hs : swapsWith e (some (.Name x pos')) pos.line X.env = pure false := by rfl) (hf : X.fn x = true ∨ X.env.scope.names.lookup x = some .local := by first | exact .inl rfl | exact .inr rfl | assumption) :
    DS B X (.Assign [.Name x pos'] e pos) δ (fun δ' => ∃ p, δ' = δ.set i (.own p xs)) Rt := (s_asg i hN h.fn hi hx hs hf).imp fun δ' ⟨s, h1, h2⟩ => by
  obtain ⟨p, e⟩ := h1.l'
  exact ⟨p, by rw [h2, e]⟩
/-- x = [..], a comprehension -/
theorem s_setLc {scope : Scope} {own : List (Str × Nat)} {py spos : Pos} (i : Nat) (f : T → Bool) (g : T → T) (bd : T → Dl) (hN : X.N.Nodup) (ok : BlkOk X.N X.env.scope scope own) (hsw : swapsWith (.ListComp elt [⟨tg, iter, ifs, 0⟩] scope pos) (some (.Name y py)) spos.line X.env = pure true)
    (hi : DItS B X tg iter δ xs) (hz : xs.length ≤ 50000)
    (hg : ∀ s H C cl fp x, x ∈ xs → DG B (blkX X scope s H C cl fp) tg (wipeD δ (own.map (·.2))) x (bd x) (own.map (·.2)))
    (ht : ∀ s H C cl fp x, x ∈ xs → DTs B (blkX X scope s H C cl fp) ifs (bd x) (f x))
    (he : ∀ s H C cl fp x, x ∈ xs → f x = true → DX B (blkX X scope s H C cl fp) elt (bd x) (g x))
    (hy : X.N[i]? = some y := by rfl) (hyl : X.env.scope.names.lookup y = some .local := by rfl) (hc : X.calm = true := by rfl) (hs : ∀ x, foldedSetIterable iter X.env x = pure x := by intro _; rfl) :
    DS B X (.Assign [.Name y py] (.ListComp elt [⟨tg, iter, ifs, 0⟩] scope pos) spos) δ (fun δ' => ∃ p, δ' = δ.set i (.own p ((xs.filter f).map g))) Rt := fun σ H S D q1 q2 =>
  (ps_setLc (g := uTG X scope tg) (tt := uTT X scope ifs) (te := uTE X scope elt) hc hN hy hyl hsw pi_D ok (fun s H C cl fp => ⟨fun pins s' σ H v u Q I r h => h _ _ _ _ _ pins s' u I r⟩)
    (fun s H C cl fp => ⟨fun pins s' σ H Q I h => h _ _ _ _ _ pins s' I⟩) (fun s H C cl fp => ⟨fun pins s' σ H Q I h => h _ _ _ _ _ pins s' I⟩) hs).to
    (lc_read _ f g bd hi hz hg ht he S fun p ws H1 hn e1 h1 r1 => by
      obtain ⟨s, k1, S1⟩ := S.setA e1 (FrA.l hn h1 r1) i
      obtain ⟨p', rfl⟩ := k1.l'
      exact q1 _ H1 _ ⟨p', rfl⟩ S1 e1.tex)
/-- a list handed from a name to another -/
theorem s_move (i j : Nat) {q : Addr} (hN : X.N.Nodup) (h : δ[j]? = some (.own q xs) := by rfl) (hij : i ≠ j := by decide) (hj : X.N[j]? = some y := by rfl) (hi : X.N[i]? = some x := by rfl) (hx : Loc X.env.scope x := by first | exact .inl rfl | exact .inr rfl)
    (hv : Vis X.env.scope y := by first | exact Or.inl rfl | exact Or.inr (Or.inl rfl) | exact Or.inr (Or.inr rfl))
    (hd : (y == ("__debug__" : Str)) = false := by decide) (hcd : (y == ("__classdict__" : Str)) = false := by decide)
    (hs : swapsWith (.Name y p) (some (.Name x pos')) pos.line X.env = pure false := by rfl) (hf : X.fn x = true ∨ X.env.scope.names.lookup x = some .local := by first | exact .inl rfl | exact .inr rfl | assumption) :
    DS B X (.Assign [.Name x pos'] (.Name y p) pos) δ (fun δ' => δ' = (δ.set j .no).set i (.own q xs)) Rt := fun σ H S D q1 q2 =>
  (ps_set hN hi hx (pe_var hj hv hd hcd) hs hf).to (by
    have hq := S.ok j _ h
    obtain ⟨h1, h2, vs, h3, h4⟩ := hq
    refine ⟨_, h1, q1 _ H _ rfl ?_ TEx.refl⟩
    have hjl : j < δ.length := (List.getElem?_eq_some_iff.mp h).1
    refine ⟨S.ex, by simp [S.len], fun m s hm => ?_, fun m k' s s' q' g1 g2 g3 g4 => ?_⟩
    · by_cases e1 : i = m
      · subst e1
        have hil : i < δ.length := by
          have := (List.getElem?_eq_some_iff.mp hm).1
          simpa using this
        rw [List.getElem?_set_self (by simpa using hil)] at hm; cases hm
        rw [List.getElem?_set_self (by rw [S.len]; exact hil)]
        exact ⟨rfl, h2, vs, h3, h4⟩
      · rw [List.getElem?_set_ne e1] at hm ⊢
        by_cases e2 : j = m
        · subst e2
          rw [List.getElem?_set_self hjl] at hm; cases hm; trivial
        · rw [List.getElem?_set_ne e2] at hm
          exact S.ok m s hm
    · have loc : ∀ (m : Nat) (s : Sd), ((δ.set j .no).set i (.own q xs))[m]? = some s → s.adr = some q' → (m = i ∧ q' = q) ∨ (m ≠ i ∧ m ≠ j ∧ δ[m]? = some s) := fun m s hm hs => by
        by_cases e1 : i = m
        · subst e1
          have hil : i < δ.length := by
            have := (List.getElem?_eq_some_iff.mp hm).1
            simpa using this
          rw [List.getElem?_set_self (by simpa using hil)] at hm; cases hm; cases hs
          exact .inl ⟨rfl, rfl⟩
        · rw [List.getElem?_set_ne e1] at hm
          by_cases e2 : j = m
          · subst e2
            rw [List.getElem?_set_self hjl] at hm; cases hm; cases hs
          · rw [List.getElem?_set_ne e2] at hm
            exact .inr ⟨Ne.symm e1, Ne.symm e2, hm⟩
      rcases loc m s g1 g3 with ⟨a1, a2⟩ | ⟨a1, a2, a3⟩
      · rcases loc k' s' g2 g4 with ⟨b1, b2⟩ | ⟨b1, b2, b3⟩
        · rw [a1, b1]
        · exact absurd (S.sep k' j s' _ q' b3 h g4 (by rw [a2]; rfl)) b2
      · rcases loc k' s' g2 g4 with ⟨b1, b2⟩ | ⟨b1, b2, b3⟩
        · exact absurd (S.sep m j s _ q' a3 h g3 (by rw [b2]; rfl)) a2
        · exact S.sep m k' s s' q' a3 b3 g3 g4)
/-- results in a row -/
def FrAs (K : PySem.W.Frag) : Hp → Hp → List V → List Ad → Prop
  | _, _, [], [] => True
  | H, H', v :: vs, a :: as => ∃ H1, Same H H1 ∧ Same H1 H' ∧ FrA K H H1 v a ∧ FrAs K H1 H' vs as
  | _, _, _, _ => False
def DFs (B : Hp) (X : Cx) (es : List Expr) (δ : Dl) (as : List Ad) : Prop := ∀ σ H, St1 B X H σ δ → ∀ Q : List V → Hp → Prop, (∀ vs H', Same H H' → FrAs X.K H H' vs as → Q vs H') → tDA X es σ H Q
theorem FrAs.ex {K : PySem.W.Frag} : ∀ {vs : List V} {as : List Ad} {H H1 H2 : Hp}, FrAs K H H1 vs as → Same H1 H2 → FrAs K H H2 vs as
  | [], [], _, _, _, _, _ => trivial
  | v :: vs, a :: as, _, _, _, ⟨H3, e1, e2, r, t⟩, e => ⟨H3, e1, e2.trans e, r, t.ex e⟩
  | [], _ :: _, _, _, _, h, _ => h.elim
  | _ :: _, [], _, _, _, h, _ => h.elim
theorem fs_nil : DFs B X [] δ [] := fun σ H S Q q => pa_nil.to (q _ H (Same.refl H) trivial)
theorem fs_cons {as : List Ad} (ha : DF B X a δ ad) (hr : DFs B X es δ as) (hs : starEach (a :: es) X.env = (false, eval a X.env) :: starEach es X.env := by rfl) : DFs B X (a :: es) δ (ad :: as) := fun σ H S Q q =>
  (pa_cons pe_D pa_D hs).to (ha σ H S _ fun w H1 e1 r1 => hr σ H1 (S.to e1) _ fun ws H2 e2 r2 => q _ H2 (e1.trans e2) ⟨H1, e1, e2, r1, r2⟩)
/-- a, b = e, f -/
theorem s_par {kt : Nat} {k2 : Nat} {px py pt pt2 : Pos} (i j : Nat) (hN : X.N.Nodup) (ha : DF B X a δ ad1) (hb : DF B X b δ ad2) (hi : X.N[i]? = some x := by rfl) (hj : X.N[j]? = some y := by rfl) (hij : i ≠ j := by decide) (hx : X.env.scope.names.lookup x = some .local := by rfl) (hy : X.env.scope.names.lookup y = some .local := by rfl)
    (hw : swappedStores [.Tuple [.Name x px, .Name y py] kt pt] (.Tuple [a, b] k2 pt2) X.env = pure (some [x, y]) := by rfl) (hc : X.calm = true := by rfl)
    (hs : swapsWithSole [.Tuple [.Name x px, .Name y py] kt pt] (.Tuple [a, b] k2 pt2) pos.line X.env = pure false := by rfl) (hs1 : starEach [a, b] X.env = (false, eval a X.env) :: starEach [b] X.env := by rfl) (hs2 : starEach [b] X.env = (false, eval b X.env) :: starEach [] X.env := by rfl) :
    DS B X (.Assign [.Tuple [.Name x px, .Name y py] kt pt] (.Tuple [a, b] k2 pt2) pos) δ (fun δ' => ∃ s s', Kept ad1 s ∧ Kept ad2 s' ∧ δ' = (δ.set i s).set j s') Rt := fun σ H S D q1 q2 =>
  (ps_par hc hN hi hj hij hx hy pa_D hw hs).to (fs_cons ha (fs_cons hb fs_nil hs2) hs1 σ H S _ fun ws H' e' r => by
    match ws, r with
    | [v, w], ⟨H1, a1, a2, r1, H2, b1, b2, r2, _⟩ =>
      obtain ⟨s, k1, S1⟩ := S.setA a1 r1 i
      obtain ⟨s', k2, S2⟩ := S1.setA b1 r2 j
      exact ⟨v, w, rfl, q1 _ H' _ ⟨s, s', k1, k2, rfl⟩ (S2.to b2) e'.tex⟩
    | [], h => exact h.elim
    | [_], ⟨_, _, _, _, h⟩ => exact h.elim
    | _ :: _ :: _ :: _, ⟨_, _, _, _, _, _, _, _, h⟩ => exact h.elim)
/-- a, b, c = e, f, g -/
theorem s_par3 {kt k2 : Nat} {px py pz pt pt2 : Pos} (i j l : Nat) (hN : X.N.Nodup) (ha : DF B X a δ ad1) (hb : DF B X b δ ad2) (hcc : DF B X c δ ad3) (hi : X.N[i]? = some x := by rfl) (hj : X.N[j]? = some y := by rfl) (hl : X.N[l]? = some z := by rfl) (hij : i ≠ j := by decide) (hil : i ≠ l := by decide) (hjl : j ≠ l := by decide)
    (hx : X.env.scope.names.lookup x = some .local := by rfl) (hy : X.env.scope.names.lookup y = some .local := by rfl) (hz : X.env.scope.names.lookup z = some .local := by rfl)
    (hw : swappedStores [.Tuple [.Name x px, .Name y py, .Name z pz] kt pt] (.Tuple [a, b, c] k2 pt2) X.env = pure (some [x, y, z]) := by rfl) (hc : X.calm = true := by rfl)
    (hs : swapsWithSole [.Tuple [.Name x px, .Name y py, .Name z pz] kt pt] (.Tuple [a, b, c] k2 pt2) pos.line X.env = pure false := by rfl)
    (hs1 : starEach [a, b, c] X.env = (false, eval a X.env) :: starEach [b, c] X.env := by rfl) (hs2 : starEach [b, c] X.env = (false, eval b X.env) :: starEach [c] X.env := by rfl) (hs3 : starEach [c] X.env = (false, eval c X.env) :: starEach [] X.env := by rfl) :
    DS B X (.Assign [.Tuple [.Name x px, .Name y py, .Name z pz] kt pt] (.Tuple [a, b, c] k2 pt2) pos) δ (fun δ' => ∃ s s' s2, Kept ad1 s ∧ Kept ad2 s' ∧ Kept ad3 s2 ∧ δ' = ((δ.set i s).set j s').set l s2) Rt := fun σ H S D q1 q2 =>
  (ps_par3 hc hN hi hj hl hij hil hjl hx hy hz pa_D hw hs).to (fs_cons ha (fs_cons hb (fs_cons hcc fs_nil hs3) hs2) hs1 σ H S _ fun ws H' e' r => by
    match ws, r with
    | [v, w, o], ⟨H1, a1, a2, r1, H2, b1, b2, r2, H3, c1, c2, r3, _⟩ =>
      obtain ⟨s, k1, S1⟩ := S.setA a1 r1 i
      obtain ⟨s', k2, S2⟩ := S1.setA b1 r2 j
      obtain ⟨s2, k3, S3⟩ := S2.setA c1 r3 l
      exact ⟨v, w, o, rfl, q1 _ H' _ ⟨s, s', s2, k1, k2, k3, rfl⟩ (S3.to c2) e'.tex⟩
    | [], h => exact h.elim
    | [_], ⟨_, _, _, _, h⟩ => exact h.elim
    | [_, _], ⟨_, _, _, _, _, _, _, _, h⟩ => exact h.elim
    | _ :: _ :: _ :: _ :: _, ⟨_, _, _, _, _, _, _, _, _, _, _, _, h⟩ => exact h.elim)
/-- x *= e -/
theorem ip_mulW : PIp X .Mult (fun x y H Q => ∃ i j, x = .int i ∧ y = .int j ∧ CMulW i j ∧ Q (.int (i * j)) H) := by
  rintro pins s σ H _ _ v u Q I r1 r2 ⟨i, j, rfl, rfl, hc, q⟩
  obtain ⟨⟨_, rfl⟩, _, rfl⟩ : (∃ t, v = Value.int i t) ∧ ∃ t, u = Value.int j t := ⟨r1, r2⟩
  exact imul_int ⟨.int _, H, I.tok _, ⟨_, rfl⟩, q⟩ hc.ok
theorem s_augMul {m : Int} (i : Nat) (hN : X.N.Nodup) (h0 : δ[i]? = some (.d (.i m))) (h : DI B X e δ n) (hc : CMulW m n) (hi : X.N[i]? = some x := by rfl) (hx : Loc X.env.scope x := by first | exact .inl rfl | exact .inr rfl)
    (hf : X.fn x = true ∨ X.env.scope.names.lookup x = some .local := by first | exact .inl rfl | exact .inr rfl | assumption) : DS B X (.AugAssign (.Name x pos') .Mult e pos) δ (fun δ' => δ' = δ.set i (.d (.i (m * n)))) Rt := fun σ H S D q1 q2 =>
  (ps_aug hN hi hx pe_D ip_mulW hf).to (by
    obtain ⟨v, h1, h2⟩ := S.ok i _ h0
    refine ⟨v, h1, h σ H S _ fun w H1 e1 r1 => ⟨m, n, h2.int, r1.int, hc, q1 _ H1 _ rfl ?_ e1.tex⟩⟩
    exact (S.to e1).set0 (v := some (.int (m * n))) (s := .d (.i (m * n))) ⟨_, rfl, .i _⟩ rfl)

/-! ### return, if -/
theorem s_ret (h : DX B X e δ u) (hR : ∀ v H', Same B H' → Rep X.K H' v u → Rt v H') : DS B X (.Return (some e) pos) δ M Rt := fun σ H S D q1 q2 => (ps_ret pe_D).to (h σ H S _ fun v H1 e1 r1 => q2 v H1 (hR v H1 (S.ex.trans e1) r1.dat))
theorem s_retV {w : V} (h : DV B X e δ w) (hR : ∀ H', Same B H' → Rt w H') : DS B X (.Return (some e) pos) δ M Rt := fun σ H S D q1 q2 => (ps_ret pe_D).to (h σ H S _ fun v H1 e1 r1 => q2 v H1 (by rw [r1.val]; exact hR H1 (S.ex.trans e1)))
theorem s_retN (h : DN B X e δ xs) (hR : ∀ p ws H', B p = none → Same B H' → H' p = some (.lst ws) → Reps X.K H' ws xs → Rt (.ref p) H') : DS B X (.Return (some e) pos) δ M Rt := fun σ H S D q1 q2 =>
  (ps_ret pe_D).to (h σ H S _ fun p ws H1 hn e1 h1 r1 => q2 _ H1 (hR p ws H1 (S.ex.free hn) (S.ex.trans e1) h1 r1))
theorem s_retO (i : Nat) {q : Addr} (h : δ[i]? = some (.own q xs)) (hR : ∀ p ws H', B p = none → Same B H' → H' p = some (.lst ws) → Reps X.K H' ws xs → Rt (.ref p) H') (hN : X.N[i]? = some x := by rfl)
    (hv : Vis X.env.scope x := by first | exact Or.inl rfl | exact Or.inr (Or.inl rfl) | exact Or.inr (Or.inr rfl))
    (hd : (x == ("__debug__" : Str)) = false := by decide) (hcd : (x == ("__classdict__" : Str)) = false := by decide) : DS B X (.Return (some (.Name x p)) pos) δ M Rt := fun σ H S D q1 q2 => (ps_ret (pe_var hN hv hd hcd)).to (by
  obtain ⟨h1, h2, ws, h3, h4⟩ := S.ok i _ h
  exact ⟨_, h1, q2 _ H (hR q ws H h2 S.ex h3 h4)⟩)
theorem s_if {l : List Stmt} (h : DT B X c δ k) (h1 : k = true → DSs B X sts δ M Rt) (h2 : k = false → DSs B X l δ M Rt) : DS B X (.If c sts l pos) δ M Rt := fun σ H S D q1 q2 =>
  (ps_if pt_D pss_D pss_D).to (h σ H S _ fun H1 e1 => by
    cases k with
    | true => exact (if_pos rfl).mpr (h1 rfl σ H1 (S.to e1) D (fun σ' H' δ' m S' t' => q1 σ' H' δ' m S' (e1.tex.trans t')) q2)
    | false => exact (if_neg Bool.false_ne_true).mpr (h2 rfl σ H1 (S.to e1) D (fun σ' H' δ' m S' t' => q1 σ' H' δ' m S' (e1.tex.trans t')) q2))
/-- an if that isn't taken -/
theorem s_skip (h : DT B X c δ k) (hk : k = false) : DS B X (.If c sts [] pos) δ (fun δ' => δ' = δ) Rt := s_if h (fun z => by rw [hk] at z; cases z) fun _ => ss_nil rfl

/-! ### lists of one's own -/
theorem s_append (i : Nat) {q : Addr} {apos cpos px : Pos} (h : δ[i]? = some (.own q xs)) (he : DX B X e δ u) (hz : xs.length < 100000) (hN : X.N[i]? = some x := by rfl)
    (hv : Vis X.env.scope x := by first | exact Or.inl rfl | exact Or.inr (Or.inl rfl) | exact Or.inr (Or.inr rfl))
    (hd : (x == ("__debug__" : Str)) = false := by decide) (hcd : (x == ("__classdict__" : Str)) = false := by decide)
    (m : M1 X (.Name x px) "append" apos e cpos := by exact ⟨rfl, rfl, rfl, rfl⟩) (hs : starEach [e] X.env = (false, eval e X.env) :: starEach [] X.env := by rfl) (hplain : (backTo cpos (starEach [] X.env)).any (·.1) = false := by rfl)
    (hsw : swapsWith (.Call (.Attribute (.Name x px) "append" apos) [e] [] cpos) none pos.line X.env = pure false := by rfl) :
    DS B X (.Expr (.Call (.Attribute (.Name x px) "append" apos) [e] [] cpos) pos) δ (fun δ' => δ' = δ.set i (.own q (xs ++ [u]))) Rt := fun σ H S D q1 q2 =>
  (ps_expr (pe_bm PySem.F.plainAttrs_list PySem.F.slot_list_append PySem.F.type_list_append mt_append (pe_var hN hv hd hcd) pa_D m.base m.few m.line hs hplain) hsw).to (by
    obtain ⟨h1, h2, vs, h3, h4⟩ := S.ok i _ h
    refine ⟨_, h1, .inl ⟨rfl, vs, SqL.of h3⟩, dd_cons he dd_nil hs σ H S _ fun ws H1 e1 r1 => ?_⟩
    cases r1 with
    | @cons v1 _ _ _ r r' =>
      cases r'
      refine ⟨q, vs, v1, rfl, rfl, e1 _ _ h3, by rw [h4.length]; exact sz_lt hz, ?_⟩
      have t1 : TEx X.K H1 (upd H1 q (.lst (vs ++ [v1]))) := TEx.lst (e1 _ _ h3)
      exact q1 _ _ _ rfl ((S.to e1).write h rfl rfl t1 (fun b hb o ho => by rw [upd_ne hb]; exact ho) ⟨rfl, h2, _, upd_same, ((h4.ex e1).snoc r).tex t1⟩) (e1.tex.trans t1))
theorem s_extend (i : Nat) {q : Addr} {apos cpos px : Pos} (h : δ[i]? = some (.own q xs)) (he : DN B X e δ ys) (hz : xs.length + ys.length ≤ 100000) (hN : X.N[i]? = some x := by rfl)
    (hv : Vis X.env.scope x := by first | exact Or.inl rfl | exact Or.inr (Or.inl rfl) | exact Or.inr (Or.inr rfl))
    (hd : (x == ("__debug__" : Str)) = false := by decide) (hcd : (x == ("__classdict__" : Str)) = false := by decide)
    (m : M1 X (.Name x px) "extend" apos e cpos := by exact ⟨rfl, rfl, rfl, rfl⟩) (hs : starEach [e] X.env = (false, eval e X.env) :: starEach [] X.env := by rfl) (hplain : (backTo cpos (starEach [] X.env)).any (·.1) = false := by rfl)
    (hsw : swapsWith (.Call (.Attribute (.Name x px) "extend" apos) [e] [] cpos) none pos.line X.env = pure false := by rfl) :
    DS B X (.Expr (.Call (.Attribute (.Name x px) "extend" apos) [e] [] cpos) pos) δ (fun δ' => δ' = δ.set i (.own q (xs ++ ys))) Rt := fun σ H S D q1 q2 =>
  (ps_expr (pe_bm PySem.F.plainAttrs_list PySem.F.slot_list_extend PySem.F.type_list_extend mt_extend (pe_var hN hv hd hcd) pa_D m.base m.few m.line hs hplain) hsw).to (by
    obtain ⟨h1, h2, vs, h3, h4⟩ := S.ok i _ h
    refine ⟨_, h1, .inl ⟨rfl, vs, SqL.of h3⟩, (pa_cons pe_D pa_nil hs).to (he σ H S _ fun b ws H1 hn e1 h5 r5 => ?_)⟩
    refine ⟨q, b, vs, ws, rfl, rfl, e1 _ _ h3, h5, by rw [h4.length, r5.length]; exact sz_of hz, ?_⟩
    have t1 : TEx X.K H1 (upd H1 q (.lst (vs ++ ws))) := TEx.lst (e1 _ _ h3)
    exact q1 _ _ _ rfl ((S.to e1).write h rfl rfl t1 (fun b hb o ho => by rw [upd_ne hb]; exact ho) ⟨rfl, h2, _, upd_same, ((h4.ex e1).append r5).tex t1⟩) (e1.tex.trans t1))
theorem ixN_nat {n j : Nat} (h : j < n) : ixN n (j : Int) = some j := Evl.ixN_nat h
/-- x[j] = e -/
theorem s_put (i : Nat) {q : Addr} {j : Nat} {px : Pos} (h : δ[i]? = some (.own q xs)) (he : DX B X e δ u) (hi : DI B X a δ (j : Int)) (hj : j < xs.length) (hN : X.N[i]? = some x := by rfl)
    (hpg : PG X (.Subscript (.Name x px) a tpos) (gSub (tVar i) (tD X a) rSetL) := by exact pg_sub (pe_var (by rfl) (by first | exact Or.inl rfl | exact Or.inr (Or.inl rfl) | exact Or.inr (Or.inr rfl))) pe_D set_list)
    (hs : swapsWithSole [.Subscript (.Name x px) a tpos] e pos.line X.env = pure false := by rfl) (hw : swappedStores [.Subscript (.Name x px) a tpos] e X.env = pure none := by rfl)
    (h1 : (assignEach [.Subscript (.Name x px) a tpos] X.env).map (·.2) = [assign (.Subscript (.Name x px) a tpos) X.env] := by rfl) :
    DS B X (.Assign [.Subscript (.Name x px) a tpos] e pos) δ (fun δ' => δ' = δ.set i (.own q (xs.set j u))) Rt := fun σ H S D q1 q2 =>
  (ps_asg pe_D hpg hs hw h1).to (he σ H S _ fun v H1 e1 r1 => by
    obtain ⟨g1, g2, vs, g3, g4⟩ := (S.to e1).ok i _ h
    refine ⟨_, g1, hi σ H1 (S.to e1) _ fun w H2 e2 r2 => ⟨q, vs, j, j, rfl, r2.int, e2 _ _ g3, by rw [g4.length]; exact ixN_nat hj, ?_⟩⟩
    have t1 : TEx X.K H2 (upd H2 q (.lst (vs.set j v))) := TEx.lst (e2 _ _ g3)
    exact q1 _ _ _ rfl (((S.to e1).to e2).write h rfl rfl t1 (fun b hb o ho => by rw [upd_ne hb]; exact ho) ⟨rfl, g2, _, upd_same, (Reps.set (i := j) j (g4.ex e2) (r1.dat.ex e2)).tex t1⟩) ((e1.trans e2).tex.trans t1))
end
end Kd
-- K68G
set_option maxRecDepth 100000
set_option maxHeartbeats 4000000
/-! Rules: loops, a def's body. -/
namespace Kd
open PySem PySem.Spec PyProof.Rows L2
theorem Sto.grow {P : Program} {w : World} {K : PySem.W.Frag} {B H : Hp} {σ : L2.St} {δ : Dl} {p : Addr} {o : HO} (S : Sto P w K B H σ δ) (hB : B p = none) (hH : H p = some o) (hn : ∀ (i : Nat) (s : Sd), δ[i]? = some s → s.adr ≠ some p) : Sto P w K (upd B p o) H σ δ := by
  have sm : Same B (upd B p o) := Evl.Ex.new hB
  refine ⟨fun b u q => ?_, S.len, fun i s hs => ?_, S.sep⟩
  · by_cases hb : b = p
    · subst hb; rw [upd_same] at q; cases q; exact hH
    · rw [upd_ne hb] at q; exact S.ex b u q
  · have q := S.ok i s hs
    have ne : ∀ a, s.adr = some a → B a = none → upd B p o a = none := fun a ha hb => by
      rw [upd_ne (fun z => hn i s hs (by rw [ha, z]))]; exact hb
    cases s with
    | no => trivial
    | d x => exact q
    | own a xs => exact ⟨q.1, ne a rfl q.2.1, q.2.2⟩
    | bas a xs => obtain ⟨q1, vs, q2, q3⟩ := q; exact ⟨q1, vs, sm.seq q2, q3.ex sm⟩
    | dct a kvs => exact ⟨q.1, ne a rfl q.2.1, q.2.2⟩
    | raw v => exact q
    | urn a n => exact ⟨q.1, ne a rfl q.2.1, q.2.2⟩
section
variable {B : Hp} {X : Cx} {δ δ1 δ2 : Dl} {a b c e tg iter elt : Expr} {es ifs : List Expr} {st : Stmt} {sts rest body : List Stmt} {x y z : Str} {p pos p2 tpos pos' : Pos} {u v : T} {xs ys : List T} {js : List Nat} {M M' : Dl → Prop} {Rt : VK} {k : Bool} {n : Int}
/-- the turns of a for: the items by the index, I by the turn and the store -/
theorem for_core {J : It} {D : Ends} {σ : L2.St} {H1 : Hp} (I : Nat → Dl → Prop) (hb : ∀ (i : Nat) x δ1, xs[i]? = some x → I i δ1 → ∃ δ2 js, DG B X tg δ1 x δ2 js ∧ DSs B X body δ2 (I (i + 1)) Rt)
    (wk : ∀ i δ' σ' H', I i δ' → St1 B X H' σ' δ' → TEx X.K H1 H' → Wk X.K J H' xs) (h0 : I 0 δ) (S : St1 B X H1 σ δ)
    (q1 : ∀ σ' H' δ', I xs.length δ' → St1 B X H' σ' δ' → TEx X.K H1 H' → D.nx σ' H') (q2 : ∀ v H', Rt v H' → D.rt v H') :
    ∃ W : Nat → Nat → L2.St → Hp → Prop, (∃ m, W 0 m σ H1) ∧ ∀ i m σ H, W i m σ H →
      (J.stop i H ∧ D.nx σ H) ∨ (J.go i H ∧ ∃ N : L2.St → Hp → Prop, (∀ σ' H', N σ' H' → ∃ m', m' < m ∧ W (i + 1) m' σ' H') ∧ ∀ x H', J.yld i H x H' → tDG X tg x σ H' fun σ2 H2 => tDSs X body { D with nx := N, ct := N, bk := D.nx } σ2 H2) := by
  refine ⟨fun i m σ H => m = xs.length - i ∧ i ≤ xs.length ∧ ∃ δ', I i δ' ∧ St1 B X H σ δ' ∧ TEx X.K H1 H, ⟨xs.length, by simp, Nat.zero_le _, δ, h0, S, TEx.refl⟩, ?_⟩
  rintro i m σ H ⟨rfl, hle, δ', hI, S', t'⟩
  have wk' := wk i δ' σ H hI S' t'
  by_cases hlt : i < xs.length
  · have hx : xs[i]? = some xs[i] := List.getElem?_eq_getElem hlt
    refine .inr ⟨(wk'.1 i _ hx).1, fun σ H => ∃ δ', I (i + 1) δ' ∧ St1 B X H σ δ' ∧ TEx X.K H1 H, fun σ' H' h => ⟨xs.length - (i + 1), by omega, rfl, hlt, h⟩, fun v H2 hy => ?_⟩
    obtain ⟨s2, r2⟩ := (wk'.1 i _ hx).2 v H2 hy
    obtain ⟨δ2, js, hg, hbb⟩ := hb i _ δ' hx hI
    refine hg σ H2 v (S'.to s2) r2 _ fun σ3 S3 _ => ?_
    exact hbb σ3 H2 S3 _ (fun σ4 H4 δ4 m4 S4 t4 => ⟨δ4, m4, S4, (t'.trans s2.tex).trans t4⟩) q2
  · have ei : i = xs.length := by omega
    subst ei
    exact .inl ⟨wk'.2 _ (Nat.le_refl _), q1 σ H δ' hI S' t'⟩
/-- over a tuple, a range, zip of tuples, a list of the entry .. -/
theorem s_for (I : Nat → Dl → Prop) (hi : DItT B X tg iter δ xs) (h0 : I 0 δ) (hb : ∀ (i : Nat) x δ1, xs[i]? = some x → I i δ1 → ∃ δ2 js, DG B X tg δ1 x δ2 js ∧ DSs B X body δ2 (I (i + 1)) Rt)
    (hp : PassesOwn (model X.prog X.w) X.A X.env X.xe := by exact PassesOwn.never) (hc : X.calm = true := by rfl) (hs : ∀ x, foldedSetIterable iter X.env x = pure x := by intro _; rfl) :
    DS B X (.For tg iter body [] pos) δ (I xs.length) Rt := fun σ H S D q1 q2 =>
  (ps_for hp hc pi_D pg_D pss_D hs).to (hi σ H S _ fun J H1 e1 wk => for_core I hb (fun i δ' σ' H' _ S' t' => wk H' S'.ex t') h0 (S.to e1) (fun σ' H' δ' m S' t' => q1 σ' H' δ' m S' (e1.tex.trans t')) q2)
/-- over a list of one's own, by its name in the slot l -/
theorem s_forO (l : Nat) {q : Addr} (I : Nat → Dl → Prop) (hl : ∀ i δ', I i δ' → δ'[l]? = some (.own q xs)) (h0 : I 0 δ) (hb : ∀ (i : Nat) x δ1, xs[i]? = some x → I i δ1 → ∃ δ2 js, DG B X tg δ1 x δ2 js ∧ DSs B X body δ2 (I (i + 1)) Rt)
    (hN : X.N[l]? = some x := by rfl) (hv : Vis X.env.scope x := by first | exact Or.inl rfl | exact Or.inr (Or.inl rfl) | exact Or.inr (Or.inr rfl))
    (hd : (x == ("__debug__" : Str)) = false := by decide) (hcd : (x == ("__classdict__" : Str)) = false := by decide)
    (hp : PassesOwn (model X.prog X.w) X.A X.env X.xe := by exact PassesOwn.never) (hc : X.calm = true := by rfl) (hs : ∀ z, foldedSetIterable (.Name x p) X.env z = pure z := by intro _; rfl) :
    DS B X (.For tg (.Name x p) body [] pos) δ (I xs.length) Rt := fun σ H S D q1 q2 =>
  (ps_for hp hc (pi_list (pe_var hN hv hd hcd)) pg_D pss_D hs).to (by
    obtain ⟨h1, h2, vs, h3, h4⟩ := S.ok l _ (hl 0 δ h0)
    refine ⟨_, h1, q, rfl, ⟨vs, SqL.of h3⟩, for_core I hb (fun i δ' σ' H' hI S' t' => ?_) h0 S (fun σ' H' δ' m S' t' => q1 σ' H' δ' m S' t') q2⟩
    obtain ⟨_, _, vs', g3, g4⟩ := S'.ok l _ (hl i δ' hI)
    exact wk_list (SqL.of g3) g4)
/-- over a new list: the body for every base that holds it -/
theorem s_forN (I : Nat → Dl → Prop) (hi : DN B X iter δ xs) (h0 : I 0 δ) (hnb : ∀ (i : Nat) q zs, δ[i]? ≠ some (.bas q zs)) (hnb2 : ∀ δ', I xs.length δ' → ∀ (i : Nat) q zs, δ'[i]? ≠ some (.bas q zs))
    (hb : ∀ B', Same B B' → ∀ (i : Nat) x δ1, xs[i]? = some x → I i δ1 → ∃ δ2 js, DG B' X tg δ1 x δ2 js ∧ DSs B' X body δ2 (I (i + 1)) Rt)
    (hp : PassesOwn (model X.prog X.w) X.A X.env X.xe := by exact PassesOwn.never) (hc : X.calm = true := by rfl) (hs : ∀ x, foldedSetIterable iter X.env x = pure x := by intro _; rfl) :
    DS B X (.For tg iter body [] pos) δ (I xs.length) Rt := fun σ H S D q1 q2 =>
  (ps_for hp hc (pi_list pe_D) pg_D pss_D hs).to (hi σ H S _ fun p vs H1 hn e1 h1 r1 => by
    have hB : B p = none := S.ex.free hn
    have sm : Same B (upd B p (.lst vs)) := Evl.Ex.new hB
    have S1 : St1 (upd B p (.lst vs)) X H1 σ δ := (S.to e1).grow hB h1 fun i s hs ha => by
      obtain ⟨⟨u, hu⟩, _⟩ := (S.ok i s hs).adr_in ha
      rw [hn] at hu; cases hu
    refine ⟨p, rfl, ⟨vs, SqL.of h1⟩, for_core (B := upd B p (.lst vs)) I (hb _ sm) (fun i δ' σ' H' hI S' t' => ?_) h0 S1 (fun σ' H' δ' m S' t' => q1 σ' H' δ' m (S'.rebase sm fun i q zs z => absurd z (hnb2 δ' m i q zs)) (e1.tex.trans t')) q2⟩
    exact wk_list (SqL.of (S'.ex p _ upd_same)) (r1.tex t'))
/-- while, by a word and a measure of the store -/
theorem s_while (I : Nat → Dl → Prop) (h0 : ∃ m, I m δ) (hb : ∀ m δ1, I m δ1 → ∃ k, DT B X c δ1 k ∧ (k = true → DSs B X body δ1 (fun δ2 => ∃ m', m' < m ∧ I m' δ2) Rt) ∧ (k = false → M δ1))
    (hp : PassesOwn (model X.prog X.w) X.A X.env X.xe := by exact PassesOwn.never) :
    DS B X (.While c body [] pos) δ M Rt := fun σ H S D q1 q2 => (ps_while hp pt_D pss_D).to (by
  obtain ⟨m0, hm0⟩ := h0
  refine ⟨fun m σ' H' => ∃ δ', I m δ' ∧ St1 B X H' σ' δ' ∧ TEx X.K H H', ⟨m0, δ, hm0, S, TEx.refl⟩, ?_⟩
  rintro m σ' H' ⟨δ', hI, S', t'⟩
  obtain ⟨k, h1, h2, h3⟩ := hb m δ' hI
  refine h1 σ' H' S' _ fun H2 e2 => ?_
  cases k with
  | true =>
    refine (if_pos rfl).mpr ⟨fun σ3 H3 => ∃ δ3, (∃ m', m' < m ∧ I m' δ3) ∧ St1 B X H3 σ3 δ3 ∧ TEx X.K H H3, fun σ3 H3 ⟨δ3, ⟨m', l, i3⟩, S3, t3⟩ => ⟨m', l, δ3, i3, S3, t3⟩, ?_⟩
    exact h2 rfl σ' H2 (S'.to e2) _ (fun σ4 H4 δ4 m4 S4 t4 => ⟨δ4, m4, S4, (t'.trans e2.tex).trans t4⟩) q2
  | false => exact (if_neg Bool.false_ne_true).mpr (q1 σ' H2 δ' (h3 rfl) (S'.to e2) (t'.trans e2.tex)))
end
/-! ### a def's body -/
theorem sto_start {P : Program} {w : World} {K : PySem.W.Frag} {H : Hp} {N : List Str} {vs : List V} {as : List Ad} (r : RepAs K H vs as) (hl : as.length ≤ N.length) :
    ∃ δ1, Paired Given as δ1 ∧ Sto P w K H H (L2.start N vs) (δ1 ++ List.replicate (N.length - as.length) .no) := by
  have len : vs.length = as.length := Paired.length r
  -- the parameters
  have go : ∀ {vs : List V} {as : List Ad}, RepAs K H vs as → ∃ δ1, Paired Given as δ1 ∧ δ1.length = as.length ∧ (∀ s ∈ δ1, s.adr = none) ∧ ∀ (i : Nat) (s : Sd), δ1[i]? = some s → SdOk P w K H H ((vs.map some)[i]?) s := by
    intro vs as r
    induction r with
    | nil => exact ⟨[], .nil, rfl, fun _ h => (by cases h), fun i s h => by simp at h⟩
    | @cons v a vs as r t ih =>
      obtain ⟨δ1, g1, g2, g3, g4⟩ := ih
      have one : ∃ s, Given a s ∧ s.adr = none ∧ SdOk P w K H H (some (some v)) s := by
        cases r with
        | d r => exact ⟨_, .d _, rfl, _, rfl, r⟩
        | l h1 h2 => exact ⟨_, .l _ _, rfl, rfl, _, h1, h2⟩
        | v => exact ⟨_, .v _, rfl, rfl⟩
      obtain ⟨s, h1, h2, h3⟩ := one
      refine ⟨s :: δ1, .cons h1 g1, by rw [List.length_cons, List.length_cons, g2], fun z hz => ?_, fun i z hz => ?_⟩
      · rcases List.mem_cons.mp hz with rfl | hz
        · exact h2
        · exact g3 z hz
      · cases i with
        | zero => simp at hz; subst hz; exact h3
        | succ i => exact g4 i z (by simpa using hz)
  obtain ⟨δ1, g1, g2, g3, g4⟩ := go r
  refine ⟨δ1, g1, Same.refl H, ?_, fun i s hs => ?_, fun i j s u q h1 h2 h3 h4 => ?_⟩
  · unfold L2.start
    rw [List.length_append, List.length_append, List.length_map, List.length_replicate, List.length_replicate, len, g2]
  · by_cases hi : i < δ1.length
    · rw [List.getElem?_append_left hi] at hs
      unfold L2.start
      rw [List.getElem?_append_left (by rw [List.length_map, len, ← g2]; exact hi)]
      exact g4 i s hs
    · rw [List.getElem?_append_right (by omega)] at hs
      have := List.mem_of_getElem? hs
      rw [List.eq_of_mem_replicate this]; trivial
  · have none_ : ∀ (m : Nat) (s : Sd), (δ1 ++ List.replicate (N.length - as.length) Sd.no)[m]? = some s → s.adr = none := fun m s hm => by
      rcases List.mem_append.mp (List.mem_of_getElem? hm) with h | h
      · exact g3 s h
      · rw [List.eq_of_mem_replicate h]; rfl
    rw [none_ i s h1] at h3; cases h3
section
variable {P : Program} {w : World} {K : PySem.W.Frag} {mg : Str → Option Value} {base : Heap} {x qual : Str} {st : Stmt} {N ps : List Str} {k : Nat}
/-- the context of the body of the def st -/
abbrev bdX (P : Program) (w : World) (K : PySem.W.Frag) (mg : Str → Option Value) (base : Heap) (N : List Str) (qual : Str) (st : Stmt) (f : Addr) (cdv : Value) (A : Around) (outer : List Env) (s : Shared) (H : Hp) (E : XK) : Cx := (cxOf CX0 P w K mg base N qual (defScope st) f cdv A outer s H E).nox
/-- the def x of the text, as the module holds it -/
structure Def (K : PySem.W.Frag) (mg : Str → Option Value) (x : Str) (st : Stmt) (ps : List Str) : Prop where
  ex : ∃ f fd, Fun K x x st f fd ∧ mg x = some (.ref f) ∧ Binds K fd ps []
/-- THE RULE: a datum | a new list | a bool comes back -/
theorem Def.d {F : List Ad → T → Prop} (D : Def K mg x st ps) (S : FnScope N ps (defScope st)) (hl : ps.length ≤ N.length) (len : ∀ as d, F as d → as.length = ps.length)
    (hb : ∀ (f : Addr) (cdv : Value) (A : Around) (outer : List Env) (s : Shared) (H : Hp) (E : XK), Room k (bdX P w K mg base N x st f cdv A outer s H E).A → ∀ as d δ1, F as d → Paired Given as δ1 →
      DSs H (bdX P w K mg base N x st f cdv A outer s H E) (defBody st) (δ1 ++ List.replicate (N.length - as.length) .no) (fun _ => False) (fun v H' => Same H H' ∧ Rep K H' v d)) : FnAt P w K mg base (k + 1) x ps (spF K F) := by
  obtain ⟨f, fd, Fn, gm, bd⟩ := D.ex
  refine ⟨f, fd, Fn.ok S (fun vs H Q E h => ?_) (fun cdv A outer s H vs Q E hr h => ?_), gm, Fn.kp, bd⟩
  · obtain ⟨as, d, r, hF, _⟩ := h
    rw [Paired.length r, len as d hF]
  · obtain ⟨as, d, r, hF, q⟩ := h
    obtain ⟨δ1, g1, S1⟩ := sto_start (P := P) (w := w) (N := N) r (by rw [len as d hF]; exact hl)
    exact ⟨_, pss_D, hb f cdv A outer s H E hr as d δ1 hF g1 (L2.start N vs) H S1 _ (fun _ _ _ z => z.elim) fun v H' ⟨e, r'⟩ => q v H' e r'⟩
theorem Def.n {F : List Ad → List T → Prop} (D : Def K mg x st ps) (S : FnScope N ps (defScope st)) (hl : ps.length ≤ N.length) (len : ∀ as d, F as d → as.length = ps.length)
    (hb : ∀ (f : Addr) (cdv : Value) (A : Around) (outer : List Env) (s : Shared) (H : Hp) (E : XK), Room k (bdX P w K mg base N x st f cdv A outer s H E).A → ∀ as d δ1, F as d → Paired Given as δ1 →
      DSs H (bdX P w K mg base N x st f cdv A outer s H E) (defBody st) (δ1 ++ List.replicate (N.length - as.length) .no) (fun _ => False) (fun v H' => ∃ p ws, v = .ref p ∧ H p = none ∧ Same H H' ∧ H' p = some (.lst ws) ∧ Reps K H' ws d)) : FnAt P w K mg base (k + 1) x ps (spN K F) := by
  obtain ⟨f, fd, Fn, gm, bd⟩ := D.ex
  refine ⟨f, fd, Fn.ok S (fun vs H Q E h => ?_) (fun cdv A outer s H vs Q E hr h => ?_), gm, Fn.kp, bd⟩
  · obtain ⟨as, d, r, hF, _⟩ := h
    rw [Paired.length r, len as d hF]
  · obtain ⟨as, d, r, hF, q⟩ := h
    obtain ⟨δ1, g1, S1⟩ := sto_start (P := P) (w := w) (N := N) r (by rw [len as d hF]; exact hl)
    exact ⟨_, pss_D, hb f cdv A outer s H E hr as d δ1 hF g1 (L2.start N vs) H S1 _ (fun _ _ _ z => z.elim) fun v H' ⟨p, ws, e, hn, e1, h1, r1⟩ => e ▸ q p ws H' hn e1 h1 r1⟩
theorem Def.b {F : List Ad → Bool → Prop} (D : Def K mg x st ps) (S : FnScope N ps (defScope st)) (hl : ps.length ≤ N.length) (len : ∀ as d, F as d → as.length = ps.length)
    (hb : ∀ (f : Addr) (cdv : Value) (A : Around) (outer : List Env) (s : Shared) (H : Hp) (E : XK), Room k (bdX P w K mg base N x st f cdv A outer s H E).A → ∀ as d δ1, F as d → Paired Given as δ1 →
      DSs H (bdX P w K mg base N x st f cdv A outer s H E) (defBody st) (δ1 ++ List.replicate (N.length - as.length) .no) (fun _ => False) (fun v H' => Same H H' ∧ v = .bl d)) : FnAt P w K mg base (k + 1) x ps (spB K F) := by
  obtain ⟨f, fd, Fn, gm, bd⟩ := D.ex
  refine ⟨f, fd, Fn.ok S (fun vs H Q E h => ?_) (fun cdv A outer s H vs Q E hr h => ?_), gm, Fn.kp, bd⟩
  · obtain ⟨as, d, r, hF, _⟩ := h
    rw [Paired.length r, len as d hF]
  · obtain ⟨as, d, r, hF, q⟩ := h
    obtain ⟨δ1, g1, S1⟩ := sto_start (P := P) (w := w) (N := N) r (by rw [len as d hF]; exact hl)
    exact ⟨_, pss_D, hb f cdv A outer s H E hr as d δ1 hF g1 (L2.start N vs) H S1 _ (fun _ _ _ z => z.elim) fun v H' ⟨e, z⟩ => z ▸ q H' e⟩
end
/-! ### the text -/
def topS (i : Nat) : Stmt := PySem.Challenge.pw_everysource_k68_whole_programs_told_by_t.main.body.getD i (.Pass ⟨0, 0, 0, 0⟩)
end Kd
-- K68X1
set_option maxRecDepth 100000
set_option maxHeartbeats 4000000
/-! Further rules: tuple * int (none, once), lists. -/
namespace Kd
open PySem PySem.Spec PyProof.Rows L2
/-- a tuple's object -/
abbrev tupO (items : Array Value) (n : Nat) (dd : Option Addr) (sl : Array (Option Value)) : Obj := { cls := .type "tuple", dict := dd, data := .seq items n, slots := sl }
theorem tupO_of {h : Heap} {l : Addr} {items : Array Value} (p : h.IsTuple l items) : ∃ n dd sl, h.get? l = some (tupO items n dd sl) := by
  obtain ⟨⟨_, dd, _, sl⟩, h1, h2, n, h3⟩ := p
  cases h2; cases h3
  exact ⟨n, dd, sl, h1⟩
theorem off_of {b : Bool} (h : b = false) : decide (b = true) = false := by rw [h]; rfl
theorem on_of {b : Bool} (h : b = true) : decide (b = true) = true := by rw [h]; rfl
/-- what the product asks of its number: within a word; zero or less; one -/
theorem tuple_mul1 (l : Addr) (items : Array Value) (n : Nat) (dd : Option Addr) (sl : Array (Option Value)) (x : Int) (u : Tok) (small : (decide (x < -(2 ^ 63)) || decide (x ≥ 2 ^ 63)) = false) (once : (items.isEmpty || x == 1) = true) :
    Meets (Builtin.«tuple.__mul__» ⟨[.ref l, .int x u], []⟩) (fun _ R s => s.heap.get? l = some (tupO items n dd sl) ∧ R (.ok (.ret (Value.ref l))) s) :=
  .of_wp fun prog w A R s h => by
    obtain ⟨hp, g, d, tk, os⟩ := s
    obtain ⟨hl, h⟩ := h
    have f1 := AutoSeq1.idx_int
    wp_walk using wpAny_loadPart' hl
    repeat ((first | refine wpAny_ite_false (off_of small) ?_ | refine wpAny_ite_true (on_of once) ?_); wp_walk using wpAny_loadPart' hl)
    exact ⟨_, rfl, h⟩
theorem tuple_mul0 (l : Addr) (items : Array Value) (n : Nat) (dd : Option Addr) (sl : Array (Option Value)) (x : Int) (u : Tok) (small : (decide (x < -(2 ^ 63)) || decide (x ≥ 2 ^ 63)) = false) (more : (items.isEmpty || x == 1) = false) (void : (decide (x ≤ 0) || items.isEmpty) = true) :
    Meets (Builtin.«tuple.__mul__» ⟨[.ref l, .int x u], []⟩) (fun _ R s => s.heap.get? l = some (tupO items n dd sl) ∧
      R (.ok (.ret (Value.ref s.heap.objs.size))) { s with heap := s.heap.push { cls := Value.type "tuple", data := Data.seq #[] }, toks := s.toks }) :=
  .of_wp fun prog w A R s h => by
    obtain ⟨hp, g, d, tk, os⟩ := s
    obtain ⟨hl, h⟩ := h
    have f1 := AutoSeq1.idx_int
    wp_walk using wpAny_loadPart' hl
    repeat ((first | refine wpAny_ite_false (off_of small) ?_ | refine wpAny_ite_false (off_of more) ?_ | refine wpAny_ite_true (on_of void) ?_ | refine wpAny_ite_false (decide_eq_false (by simp [sizeLine_eq])) ?_); wp_walk using wpAny_loadPart' hl)
    exact ⟨_, rfl, h⟩
def rRepA (K : PySem.W.Frag) : R2 := fun x y H Q => ∃ (l : Addr) (k : Nat) (xs : List V), x = .ref l ∧ y = .int k ∧ SqT K H l xs ∧ xs ≠ [] ∧ k ≤ 1000 ∧ xs.length ≤ 1000 ∧
  (k = 1 → Q (.ref l) H) ∧ (k ≠ 1 → ∀ p, H p = none → Q (.ref p) (upd H p (.tup (List.replicate k xs).flatten)))
section
variable {X : Cx}
theorem op_repA : OpR X (binaryOp .Mult) (rRepA X.K) := by
  intro pins s σ H x y v u Q I rx ry h
  obtain ⟨l, k, xs, rfl, rfl, hT, hne, h2, hz, q1, q2⟩ := h
  by_cases hk : 2 ≤ k
  · exact op_repT pins s σ H _ _ v u Q I rx ry ⟨l, k, xs, rfl, rfl, hT, hne, by omega, by omega, hz, fun p hp => q2 (by omega) p hp⟩
  cases rx
  obtain ⟨t, rfl⟩ := ry
  obtain ⟨its, rv, hIs, _⟩ := I.tuple hT
  obtain ⟨n, dd, sl, ho⟩ := tupO_of hIs
  have full : its.toArray.isEmpty = false := by
    match its, rv with
    | _ :: _, _ => rfl
    | [], z => cases z; exact absurd rfl hne
  have small : (decide ((k : Int) < -(2 ^ 63)) || decide ((k : Int) ≥ 2 ^ 63)) = false := Bool.or_eq_false_iff.mpr ⟨decide_eq_false (by omega), decide_eq_false (by omega)⟩
  have tupT : s.TypeIs (.ref l) "tuple" := ⟨_, ho, rfl⟩
  refine wpAny_binaryOp_repeat_ref (T := "tuple") (U := "int") (by decide) tupT (fun s' => typeIs_int s' k t) noFill_tuple_mul F.fills_int_mul F.slot_int_rmul repeat_tuple F.slot_int_index.lookup ?_
  refine call_meets F.slot_int_rmul (typeIs_int s k t) F.entry_int_rmul (F.args_int_rmul_2 _ _) (int_rmul_tuple k t l its.toArray n dd sl) ⟨ho, rfl, tupT, ?_⟩
  rcases Nat.lt_or_ge k 1 with h0 | h1
  · obtain rfl : k = 0 := by omega
    refine call_meets F.slot_tuple_mul tupT F.entry_tuple_mul (F.args_tuple_mul_2 _ _) (tuple_mul0 l its.toArray n dd sl _ t small (by rw [full]; rfl) rfl) ⟨ho, ?_⟩
    exact ⟨.ref s.heap.objs.size, _, I.laid (t' := s.toks) (o := .tup []) (fun b ob q => Heap.get?_push_of_some _ q) (Nat.le_refl _) ⟨by simp, [], .nil, IsTup.new _ _⟩, rfl, q2 (by decide) _ (I.hok.fresh (Nat.le_refl _))⟩
  · obtain rfl : k = 1 := by omega
    refine call_meets F.slot_tuple_mul tupT F.entry_tuple_mul (F.args_tuple_mul_2 _ _) (tuple_mul1 l its.toArray n dd sl _ t small (by rw [full]; rfl)) ⟨ho, ?_⟩
    exact ⟨.ref l, H, I, rfl, q1 rfl⟩
end
section
variable {B : Hp} {X : Cx} {δ : Dl} {a b c e o : Expr} {es : List Expr} {x : Str} {p pos p2 tpos apos cpos : Pos} {ad : Ad} {as : List Ad} {u v : T} {us vs xs ys : List T} {m n : Int} {k : Nat}
/-- (..) * k -/
theorem r_rep (ha : DX B X a δ (.t xs)) (hb : DI B X b δ (k : Nat)) (hne : xs ≠ []) (hk : k ≤ 1000) (hl : xs.length ≤ 1000 := by first | decide | simp) : DX B X (.BinOp a .Mult b pos) δ (.t (List.replicate k xs).flatten) := fun σ H S Q q =>
  (pe_op op_repA pe_D pe_D).to (ha σ H S _ fun v' H1 e1 r1 => hb σ H1 (S.to e1) _ fun w H2 e2 r2 => by
    obtain ⟨p, vs, rfl, h1, h2⟩ := (r1.dat.ex e2).tup
    refine ⟨p, k, vs, rfl, r2.int, h1, fun z => hne (h2.nil_iff.mp z), hk, by rw [h2.length]; exact hl, fun z => ?_, fun z p' hp => ?_⟩
    · subst z
      refine q _ H2 (e1.trans e2) (.d ?_)
      have e : (List.replicate 1 xs).flatten = xs := by simp
      rw [e]; exact .t h1 h2
    · exact q _ _ ((e1.trans e2).trans (Evl.Ex.new hp)) (.d (.t (SqT.of upd_same) ((h2.flatRep k).ex (Evl.Ex.new hp)))))
theorem rep_one (x : T) (k : Nat) : (List.replicate k [x]).flatten = List.replicate k x := by
  induction k with
  | zero => rfl
  | succ k ih => rw [List.replicate_succ, List.flatten_cons, ih, List.replicate_succ]; rfl
/-- (x,) * k -/
theorem r_rep1 (ha : DX B X a δ (.t [u])) (hb : DI B X b δ (k : Nat)) (hk : k ≤ 1000) : DX B X (.BinOp a .Mult b pos) δ (.t (List.replicate k u)) := by
  rw [← rep_one]; exact r_rep ha hb (by simp) hk
/-- a new list times k; a new list and a new list -/
theorem n_rep1 (ha : DN B X a δ [u]) (hb : DI B X b δ (k : Nat)) (hk : k ≤ 1000) : DN B X (.BinOp a .Mult b pos) δ (List.replicate k u) := fun σ H S Q q =>
  (pe_op op_rep pe_D pe_D).to (ha σ H S _ fun p vs H1 hn e1 h1 r1 => hb σ H1 (S.to e1) _ fun w H2 e2 r2 => by
    refine ⟨p, k, vs, rfl, r2.int, e2 _ _ h1, by omega, by omega, ?_, fun p' hp => ?_⟩
    · rw [r1.length]; exact sz_of (by simp; omega)
    · refine q _ _ _ ((e1.trans e2).free hp) ((e1.trans e2).trans (Evl.Ex.new hp)) upd_same ?_
      have := ((r1.ex e2).flatRep k).ex (Evl.Ex.new (o := .lst (List.replicate k vs).flatten) hp)
      rw [rep_one] at this
      exact this)
theorem n_cat (ha : DN B X a δ xs) (hb : DN B X b δ ys) (hl : xs.length + ys.length ≤ 100000) : DN B X (.BinOp a .Add b pos) δ (xs ++ ys) := fun σ H S Q q =>
  (pe_op op_cat pe_D pe_D).to (ha σ H S _ fun p vs H1 hn e1 h1 r1 => hb σ H1 (S.to e1) _ fun p' ws H2 hn2 e2 h2 r2 => by
    refine ⟨p, p', vs, ws, rfl, rfl, e2 _ _ h1, h2, by rw [r1.length, r2.length]; exact sz_of hl, fun l hp => ?_⟩
    exact q _ _ _ ((e1.trans e2).free hp) ((e1.trans e2).trans (Evl.Ex.new hp)) upd_same (((r1.ex e2).append r2).ex (Evl.Ex.new hp)))
/-- a list of one's own (by its name) and a new list -/
theorem n_catO (i : Nat) {q : Addr} (h : δ[i]? = some (.own q xs)) (hb : DN B X b δ ys) (hl : xs.length + ys.length ≤ 100000) (hN : X.N[i]? = some x := by rfl)
    (hv : Vis X.env.scope x := by first | exact Or.inl rfl | exact Or.inr (Or.inl rfl) | exact Or.inr (Or.inr rfl))
    (hd : (x == ("__debug__" : Str)) = false := by decide) (hcd : (x == ("__classdict__" : Str)) = false := by decide) : DN B X (.BinOp (.Name x p) .Add b pos) δ (xs ++ ys) := fun σ H S Q k =>
  (pe_op op_cat (pe_var hN hv hd hcd) pe_D).to (by
    obtain ⟨h1, _, vs, h3, h4⟩ := S.ok i _ h
    refine ⟨_, h1, hb σ H S _ fun p' ws H2 hn2 e2 h2 r2 => ⟨q, p', vs, ws, rfl, rfl, e2 _ _ h3, h2, by rw [h4.length, r2.length]; exact sz_of hl, fun l hp => ?_⟩⟩
    exact k _ _ _ (e2.free hp) (e2.trans (Evl.Ex.new hp)) upd_same (((h4.ex e2).append r2).ex (Evl.Ex.new hp)))
end
end Kd
-- K68X2
set_option maxRecDepth 100000
set_option maxHeartbeats 4000000
/-! Further rules: enumerate of a tuple, of a new list. -/
namespace Kd
open PySem PySem.Spec PyProof.Rows L2
/-- the two objects of enumerate(a tuple) -/
abbrev titO (l : Addr) : Obj := { cls := .type "tuple_iterator", data := .fields #[.ref l, .int 0 0] }
abbrev enuO (it : Addr) : Obj := { cls := .type "enumerate", data := .fields #[.none, .bool false, .ref it, rawInt 0, .none, .none] }
theorem meets_enumerate_newT (l : Addr) (items : Array Value) (n : Nat) (dct : Option Addr) (sl : Array (Option Value)) :
    Meets (Builtin.«enumerate.__new__» ⟨[.type "enumerate", .ref l], []⟩) (fun _ R s => s.heap.get? l = some (tupO items n dct sl) ∧
      R (.ok (.ret (.ref (s.heap.push (titO l)).objs.size))) { s with heap := (s.heap.push (titO l)).push (enuO s.heap.objs.size) }) :=
  .of_wp fun prog w A R s ⟨at1, q⟩ => by
    have tup : s.heap.IsTuple l items := ⟨_, at1, rfl, n, rfl⟩
    have hsub := sub_enumerate
    obtain ⟨hp, g, d, tk, os⟩ := s
    wp_walk using wpAny_loadPart' at1
    refine wpAny_stack_any fun st => wpAny_pure ?_
    split
    · rename_i c _ _ _ _ _
      rcases hc : (c == Value.type "enumerate") <;> (wp_walk using wpAny_loadPart' at1, wpAny_pyIter_tuple tup; exact ⟨_, rfl, q⟩)
    · wp_walk using wpAny_loadPart' at1, wpAny_pyIter_tuple tup
      exact ⟨_, rfl, q⟩
section
variable {prog : Program} {w : World} {A : Around} {E : Value → Shared → Prop} {s : Shared}
theorem call_enumerate_tup {l : Addr} {items : Array Value} {Q : Value → Shared → Prop} (tup : s.heap.IsTuple l items)
    (q : ∀ h', IsEnum h' (s.heap.objs.size + 1) s.heap.objs.size 0 .none → h'.IsTupleIter s.heap.objs.size l 0 →
      (∀ b o, s.heap.get? b = some o → h'.get? b = some o) → Q (.ref (s.heap.objs.size + 1)) { s with heap := h' }) :
    wpAny (model prog w) A (call (.type "enumerate") [.ref l]) Q E s := by
  obtain ⟨n, dd, sl, at1⟩ := tupO_of tup
  have two : (s.heap.push (titO l)).objs.size = s.heap.objs.size + 1 := Heap.size_push ..
  have isE : IsEnum ((s.heap.push (titO l)).push (enuO s.heap.objs.size)) (s.heap.objs.size + 1) s.heap.objs.size 0 .none := two ▸ Heap.get?_push_size (s.heap.push (titO l)) (o := enuO s.heap.objs.size) rfl
  have isT : ((s.heap.push (titO l)).push (enuO s.heap.objs.size)).get? s.heap.objs.size = some (titO l) := Heap.get?_push_of_some _ (Heap.get?_push_size _ rfl)
  refine callType_new F.called_enumerate (by decide) (F.typeCall_enumerate_1 _) (F.newCall_enumerate_1 _) (F.args_object_init_2 · _) F.entry_enumerate_new (meets_enumerate_newT l items n dd sl) ⟨at1, ?_⟩
  show _ ∧ _
  rw [two]
  exact ⟨⟨_, isE, rfl⟩, q _ isE ⟨_, isT, rfl, rfl⟩ fun b o z => Heap.get?_push_of_some _ (Heap.get?_push_of_some _ z)⟩
end
def IteT (K : PySem.W.Frag) (a : Addr) : It :=
  ⟨fun i H => ∃ (xs : List V) (x : V), SqT K H a xs ∧ xs[i]? = some x, fun i H v H' => ∃ T x, v = .ref T ∧ H T = none ∧ H' = upd H T (.tup [.int (i : Nat), x]) ∧ ∀ xs, SqT K H a xs → xs[i]? = some x, fun i H => ∃ xs : List V, SqT K H a xs ∧ xs.length ≤ i⟩
theorem isTup_tuple {h : Heap} {a : Addr} {items : Array Value} (p : IsTup h a items) : h.IsTuple a items := p
/-- enumerate's object and the tuple's iterator, i items on -/
def EnSt (e it a : Addr) (i : Nat) (h : Heap) : Prop := (∃ old, IsEnum h e it ((i : Nat) : Int) old) ∧ h.IsTupleIter it a i ∧ e ≠ it
theorem two_mem {b e it : Addr} (h : b ∈ [e, it]) : b = e ∨ b = it := by
  rcases List.mem_cons.mp h with z | z
  · exact .inl z
  · exact .inr (List.mem_singleton.mp z)
theorem turn_enumT {P : Program} {w : World} {K : PySem.W.Frag} {elts : List Expr} {kk : Nat} {tpos : Pos} (a e it : Addr) (hai : a ≠ it) (hae : a ≠ e) :
    Turn P w K (.Tuple elts kk tpos) (IteT K a) [e, it] e (EnSt e it a) where
  mem := .head _
  obj _ h st b hb := by
    obtain ⟨⟨_, isE⟩, ⟨o, o1, _, o3⟩, _⟩ := st
    cases two_mem hb with
    | inl z => subst z; exact ⟨_, isE, nofun⟩
    | inr z => subst z; exact ⟨o, o1, fun v q => nomatch o3.symm.trans q⟩
  keep _ h h' st k := by
    obtain ⟨⟨old, isE⟩, isT, ne⟩ := st
    exact ⟨⟨old, k e (.head _) _ isE⟩, isT.at (k it (.tail _ (.head _))), ne⟩
  self _ _ s Q E st q := by
    obtain ⟨⟨_, isE⟩, _⟩ := st
    exact wpAny_pyIter_enum isE q
  item := by
    intro X hP hw hK calm i pins s σ H E I own st ⟨xs, x, seq, at1⟩
    cases hP; cases hw; cases hK
    obtain ⟨⟨old, isE⟩, isT, ne⟩ := st
    obtain ⟨us, vals, tup, _⟩ := I.tuple seq
    obtain ⟨u, at2, is⟩ := vals.get at1
    have ae : e < s.heap.objs.size := Heap.lt_size isE
    have ai : it < s.heap.objs.size := let ⟨_, q, _⟩ := isT; Heap.lt_size q
    have lt : i < us.toArray.size := (List.getElem?_eq_some_iff.mp at2).1
    have out : it ∉ [e] ∧ a ∉ [e, it] := ⟨fun z => ne (List.mem_singleton.mp z).symm, fun z => (two_mem z).elim hae hai⟩
    refine wpAny_pyNext_enum_itemD (Draws.tuple (A := X.A.in1) (I.ok.hd calm) it a hai us.toArray) isE ⟨isT, tup⟩ lt ne (by simpa using ⟨ne, hae.symm⟩) fun y h' tk hy old' next new1 size stays => ?_
    obtain rfl : y = u := by
      have q : us.toArray[i]? = some y := hy
      rw [List.getElem?_toArray, at2] at q
      cases q; rfl
    refine ⟨_, rfl, wpAny_letOwnedTupleGo_enum (s := { s with heap := h', toks := tk + 1 }) old' fun h2 isE' but => ?_⟩
    have made : h2.get? s.heap.objs.size = some { cls := .type "tuple", data := .seq #[.int i tk, y] } := (but.2 _ (Nat.ne_of_gt ae)).trans new1
    have ok : ObjOk X.prog X.w (upd H s.heap.objs.size (.tup [.int (i : Nat), x])) h2 s.heap.objs.size (.tup [.int (i : Nat), x]) := ⟨show 2 ≤ sizeLine by decide, [.int i tk, y], .cons ⟨tk, rfl⟩ (.cons is .nil), _, made, rfl, _, rfl⟩
    have I2 : Inv X pins σ (upd H s.heap.objs.size (.tup [.int (i : Nat), x])) { s with heap := h2, toks := tk + 1 } :=
      I.turnedNew (ch := [e, it]) (fun b o hb q => (but.2 b fun z => hb (z ▸ .head _)).trans (stays b o (fun z => hb (z ▸ .head _)) (fun z => hb (z ▸ .tail _ (.head _))) q)) own (Nat.le_refl _) ok
    have step : ((i + 1 : Nat) : Int) = (i : Int) + 1 := Int.natCast_succ i
    refine ⟨.ref s.heap.objs.size, _, I2, rfl, ⟨_, x, rfl, I.hok.fresh (Nat.le_refl _), rfl, fun zs seq' => I.tuple_inj seq' seq ▸ at1⟩, ⟨⟨y, step ▸ isE'⟩, next.1.at fun o q => (but.2 it ne.symm).trans q, ne⟩, fun b hb => ?_⟩
    have low : b < s.heap.objs.size := (two_mem hb).elim (· ▸ ae) (· ▸ ai)
    exact (upd_ne (Nat.ne_of_lt low)).trans (own b hb).1
  done := by
    intro X hP hw hK calm i pins s σ H E I own st ⟨xs, seq, le⟩
    cases hP; cases hw; cases hK
    obtain ⟨⟨old, isE⟩, isT, ne⟩ := st
    obtain ⟨us, vals, tup, _⟩ := I.tuple seq
    have over : us.toArray[i]? = none := by
      rw [List.getElem?_toArray]
      exact List.getElem?_eq_none (Vals.length vals ▸ le)
    have ty : s.TypeIs (.ref e) "enumerate" := ⟨_, isE, rfl⟩
    obtain ⟨o0, o1, _, o3, o4, o5⟩ := own it (.tail _ (.head _))
    unfold pyNext
    refine wpAny_bind (wpAny_attempt (wpAny_callSpecial?_slot (name := Str.ofString "__next__") ty F.slot_enumerate_next (wpAny_call_entry F.slot_enumerate_next ty F.entry_enumerate_next ?_ (F.args_enumerate_next_1 _))))
    show wpAny _ _ (field (.ref e) 2 >>= _) _ _ _
    refine wpAny_bind (wpAny_field isE rfl (x := .ref it) rfl (wpAny_bind (wpAny_nextOf_tuple_end (I.ok.hd calm) isT (isTup_tuple tup) over fun h' x stays ⟨o, x1, x2⟩ => ?_)))
    refine wpAny_bind (wpAny_isInstance (T := "StopIteration") (b := true) ⟨o, x1, x2⟩ isSubtype_stop (wpAny_pure ⟨rfl, ?_⟩))
    exact I.turned (t' := s.toks) (fun b o hb q => stays b o hb q) o0 o1 o3 o4 o5
def iEnumT (K : PySem.W.Frag) (ta : TA) : TI := fun σ H R => ta σ H fun vs H1 => ∃ a xs, vs = [.ref a] ∧ SqT K H1 a xs ∧ R (IteT K a) H1
theorem pi_enumT {X : Cx} {e : Expr} {ta : TA} {p pos tpos : Pos} {elts : List Expr} {kk : Nat} (hg : Gl X "enumerate") (hm : X.mg "enumerate" = none) (ha : PA X [e] ta) (hs : starEach [e] X.env = [(false, eval e X.env)] := by rfl) :
    PI X (.Tuple elts kk tpos) (.Call (.Name "enumerate" p) [e] [] pos) (iEnumT X.K ta) := ⟨fun pins s σ H R I h => Call_ (ld_blt I hg hm boot_enumerate (PyProof.Rows.callWith_type1 (thn (ha.run pos pins s σ H _ I h) fun us s1 ⟨vs, H1, I1, are, a, xs, eq, seq, q⟩ => by
  cases eq
  obtain rfl := Vals.ref1 are
  obtain ⟨_, _, tup, _⟩ := I1.tuple seq
  have low : a < s1.heap.objs.size := tup.lt
  refine call_enumerate_tup (isTup_tuple tup) fun h' isE isT stays => wpAny_pyIter_enum isE ?_
  refine ⟨s1.heap.objs.size + 1, [s1.heap.objs.size + 1, s1.heap.objs.size], _, _, H1, rfl, I1.kept (s := s1) (t' := s1.toks) stays, turn_enumT a _ _ (Nat.ne_of_lt low) (Nat.ne_of_lt (Nat.lt_succ_of_lt low)), ⟨⟨.none, isE⟩, isT, Nat.succ_ne_self _⟩, fun b hb => ?_, q⟩
  have high : s1.heap.objs.size ≤ b := (two_mem hb).elim (fun z => z ▸ Nat.le_succ _) (fun z => z ▸ Nat.le_refl _)
  exact I1.fpOk high (I1.hok.fresh high)) hs rfl))⟩
section
variable {B : Hp} {X : Cx} {δ δ1 δ2 : Dl} {a b c e tg iter elt : Expr} {es elts : List Expr} {body : List Stmt} {x y : Str} {p pos p2 tpos : Pos} {u v : T} {xs ys : List T} {Rt : VK}
/-- (i, item) for each -/
def enumFrom (k : Nat) : List T → List T
  | [] => []
  | x :: r => .t [.i k, x] :: enumFrom (k + 1) r
theorem enumFrom_get : ∀ (xs : List T) (k i : Nat), (enumFrom k xs)[i]? = (xs[i]?).map fun x => T.t [.i ((k + i : Nat) : Int), x]
  | [], k, i => by simp [enumFrom]
  | x :: r, k, 0 => by simp [enumFrom]
  | x :: r, k, i + 1 => by
    rw [enumFrom, List.getElem?_cons_succ, enumFrom_get r (k + 1) i, List.getElem?_cons_succ]
    have : k + 1 + i = k + (i + 1) := by omega
    rw [this]
theorem enumFrom_length : ∀ (xs : List T) (k : Nat), (enumFrom k xs).length = xs.length
  | [], _ => rfl
  | x :: r, k => by rw [enumFrom, List.length_cons, List.length_cons, enumFrom_length r]
theorem wk_enumT {K : PySem.W.Frag} {H : Hp} {a : Addr} {vs : List V} (h : SqT K H a vs) (r : Reps K H vs xs) : Wk K (IteT K a) H (enumFrom 0 xs) := by
  refine ⟨fun i x hx => ?_, fun i hi => ⟨vs, h, by rw [enumFrom_length] at hi; rw [r.length]; exact hi⟩⟩
  rw [enumFrom_get] at hx
  cases hq : xs[i]? with
  | none => rw [hq] at hx; cases hx
  | some d =>
    rw [hq] at hx; cases hx
    obtain ⟨v, h1, h2⟩ := r.get hq
    refine ⟨⟨vs, v, h, h1⟩, fun z H' hy => ?_⟩
    obtain ⟨T', x1, rfl, hn, rfl, f1⟩ := hy
    have e1 := f1 vs h
    rw [h1] at e1; cases e1
    refine ⟨Evl.Ex.new hn, .t (SqT.of upd_same) (.cons ?_ (.cons (h2.ex (Evl.Ex.new hn)) .nil))⟩
    have : ((0 + i : Nat) : Int) = (i : Int) := by omega
    rw [this]; exact .i _
theorem wk_enumL {K : PySem.W.Frag} {H : Hp} {a : Addr} {vs : List V} (h : SqL K H a vs) (r : Reps K H vs xs) : Wk K (Ite K a) H (enumFrom 0 xs) := by
  refine ⟨fun i x hx => ?_, fun i hi => ⟨vs, h, by rw [enumFrom_length] at hi; rw [r.length]; exact hi⟩⟩
  rw [enumFrom_get] at hx
  cases hq : xs[i]? with
  | none => rw [hq] at hx; cases hx
  | some d =>
    rw [hq] at hx; cases hx
    obtain ⟨v, h1, h2⟩ := r.get hq
    refine ⟨⟨vs, v, h, h1⟩, fun z H' hy => ?_⟩
    obtain ⟨T', x1, rfl, hn, rfl, f1⟩ := hy
    have e1 := f1 vs h
    rw [h1] at e1; cases e1
    refine ⟨Evl.Ex.new hn, .t (SqT.of upd_same) (.cons ?_ (.cons (h2.ex (Evl.Ex.new hn)) .nil))⟩
    have : ((0 + i : Nat) : Int) = (i : Int) := by omega
    rw [this]; exact .i _
theorem it_enumT {kk : Nat} (hm : X.mg "enumerate" = none) (ha : DX B X a δ (.t xs)) (hg : Gl X "enumerate" := by rfl) (hs : starEach [a] X.env = [(false, eval a X.env)] := by rfl) :
    DItT B X (.Tuple elts kk tpos) (.Call (.Name "enumerate" p) [a] [] pos) δ (enumFrom 0 xs) := fun σ H S R q =>
  (pi_enumT hg hm pa_D hs).to (da_1 ha hs σ H S _ fun ws H1 e1 r => by
    obtain ⟨w, rfl, r1⟩ := r.one
    obtain ⟨a', vs, rfl, h1, h2⟩ := r1.dat.tup
    exact ⟨a', vs, rfl, h1, q _ H1 e1 fun H2 _ t => wk_enumT (t _ _ h1) (h2.tex t)⟩)
/-- for .. in enumerate(a new list): the body for every base that holds it -/
theorem s_forEn {kk : Nat} (I : Nat → Dl → Prop) (hm : X.mg "enumerate" = none) (hi : DN B X a δ xs) (h0 : I 0 δ) (hnb : ∀ δ', I xs.length δ' → ∀ (i : Nat) q zs, δ'[i]? = some (.bas q zs) → ∃ vs, SqL X.K B q vs ∧ Reps X.K B vs zs)
    (hb : ∀ B', Same B B' → ∀ (i : Nat) x δ1, (enumFrom 0 xs)[i]? = some x → I i δ1 → ∃ δ2 js, DG B' X (.Tuple elts kk tpos) δ1 x δ2 js ∧ DSs B' X body δ2 (I (i + 1)) Rt)
    (hg : Gl X "enumerate" := by rfl) (hs1 : starEach [a] X.env = [(false, eval a X.env)] := by rfl)
    (hp : PassesOwn (model X.prog X.w) X.A X.env X.xe := by exact PassesOwn.never) (hc : X.calm = true := by rfl) (hs : ∀ x, foldedSetIterable (.Call (.Name "enumerate" p) [a] [] pos) X.env x = pure x := by intro _; rfl) :
    DS B X (.For (.Tuple elts kk tpos) (.Call (.Name "enumerate" p) [a] [] pos) body [] p2) δ (I xs.length) Rt := fun σ H S D q1 q2 =>
  (ps_for hp hc (pi_enum hg hm (pa_cons pe_D pa_nil hs1) hs1) pg_D pss_D hs).to (hi σ H S _ fun l vs H1 hn e1 h1 r1 => by
    have hB : B l = none := S.ex.free hn
    have sm : Same B (upd B l (.lst vs)) := Evl.Ex.new hB
    have S1 : St1 (upd B l (.lst vs)) X H1 σ δ := (S.to e1).grow hB h1 fun i s hs ha => by
      obtain ⟨⟨u, hu⟩, _⟩ := (S.ok i s hs).adr_in ha
      rw [hn] at hu; cases hu
    refine ⟨l, vs, rfl, SqL.of h1, ?_⟩
    have fc := for_core (B := upd B l (.lst vs)) (X := X) (tg := .Tuple elts kk tpos) (body := body) (J := Ite X.K l) (D := D) (σ := σ) (H1 := H1) (xs := enumFrom 0 xs) (δ := δ) (Rt := Rt) I (hb _ sm) (fun i δ' σ' H' hI S' t' => ?_) h0 S1 (fun σ' H' δ' m S' t' => q1 σ' H' δ' (by rw [enumFrom_length] at m; exact m) (S'.rebase sm fun i q zs z => hnb δ' (by rw [enumFrom_length] at m; exact m) i q zs z) (e1.tex.trans t')) q2
    · exact fc
    · exact wk_enumL (SqL.of (S'.ex l _ upd_same)) (r1.tex t'))
end
end Kd
-- K68S
set_option maxRecDepth 100000
set_option maxHeartbeats 4000000
/-! Sorting: tuples of data, the empty tuple too. -/
namespace Kd
open PySem PySem.Spec PyProof.Rows PySem.W PySem.Calls PySem.SeqAt
section
variable {prog : Program} {w : World} {A : Around} {E : Value → Shared → Prop} {s : Shared}
/-- the first items of tuples, as the sort looks at them: where all have one, each tuple has one -/
structure Firsts (s : Shared) (vs : List Value) (ds : List PyData) (fs : List (Option Value)) : Prop where
  full : fs.all Option.isSome = true → ∀ d ∈ ds, ∃ x r, d = .tuple (x :: r)
  run : ∀ (M : Model) (A : Around) (E : Value → Shared → Prop) (Q : List (Option Value) → Shared → Prop), Q fs s → wpAny M A (vs.mapM firstOfTuple') Q E s
/-- one tuple's -/
theorem first_run {a : Addr} {xs : List PyData} {as : List Addr} (rd : Reads s.heap (.ref a) (.tuple xs) as) :
    ∃ f : Option Value, (f.isSome = true → ∃ x r, xs = x :: r) ∧ ∀ (M : Model) (A : Around) (E : Value → Shared → Prop) (Q : Option Value → Shared → Prop), Q f s → wpAny M A (firstOfTuple' (.ref a)) Q E s := by
  cases rd with
  | @tuple _ ob items _ _ _ at1 isT isS each =>
    refine ⟨items[0]?, fun some0 => ?_, fun M A E Q q => ?_⟩
    · cases xs with
      | cons x r => exact ⟨x, r, rfl⟩
      | nil =>
        have len := ReadsAll.length _ _ _ each
        rw [Array.getElem?_eq_none (by simpa using Nat.le_of_eq len)] at some0
        cases some0
    · have look : Looks M s.heap (typeOf (.ref a)) ob.cls := (Looks.ld at1).andThen .now
      rw [kas_first_eq]
      refine wpAny_bind (look.here ?_)
      rw [isT, if_neg (by decide)]
      exact wpAny_bind (listItems_at at1 isS (wpAny_pure q))
theorem firsts_run : ∀ {vs : List Value} {ds : List PyData}, EachIs (fun v d => ∃ as, Reads s.heap v d as) vs ds → (∀ d ∈ ds, ∃ xs, d = .tuple xs) → ∃ fs, Firsts s vs ds fs := by
  intro vs ds each
  induction each with
  | nil => exact fun _ => ⟨[], fun _ d hd => (nomatch hd), fun M A E Q q => by rw [List.mapM_nil]; exact wpAny_pure q⟩
  | @cons v d vs ds one _ ih =>
    intro tup
    obtain ⟨as, rd⟩ := one
    obtain ⟨xs, rfl⟩ := tup d (List.mem_cons_self ..)
    obtain ⟨fs, F⟩ := ih fun y hy => tup y (List.mem_cons_of_mem _ hy)
    obtain ⟨a, rfl⟩ : ∃ a, v = .ref a := by cases rd; exact ⟨_, rfl⟩
    obtain ⟨f, f1, f2⟩ := first_run rd
    refine ⟨f :: fs, fun z y hy => ?_, fun M A E Q q => ?_⟩
    · obtain ⟨z1, z2⟩ := Bool.and_eq_true_iff.mp (List.all_cons ▸ z)
      cases hy with
      | head => obtain ⟨x, r, rfl⟩ := f1 z1; exact ⟨x, r, rfl⟩
      | tail _ hy => exact F.full z2 y hy
    · rw [List.mapM_cons]
      exact wpAny_bind (f2 _ _ _ _ (wpAny_bind (F.run M A E (fun l s' => wpAny M A (pure (f :: l)) Q E s') (wpAny_pure q))))

theorem call_tuple_lt {Q : Value → Shared → Prop} {l b : Addr} {xs ys : Array Value} {eqs less : Nat → Bool} (hl : s.heap.IsTuple l xs) (hb : s.heap.IsTuple b ys)
    (same : ∀ j (hx : j < xs.size) (hy : j < ys.size), EqAt A.in1 s xs[j] ys[j] (eqs j)) (below : ∀ j (hx : j < xs.size) (hy : j < ys.size), eqs j = false → RcLt A.in1 s xs[j] ys[j] (less j))
    (q : Q (.bool (firstLt eqs less (decide (xs.size < ys.size)) (List.range (min xs.size ys.size)))) s) : wpAny (model prog w) A (call (.builtin "tuple.__lt__") [.ref l, .ref b]) Q E s := by
  obtain ⟨n, dd, sl, g⟩ := tupO_of hl
  obtain ⟨n', dd', sl', g'⟩ := tupO_of hb
  exact call_meets F.slot_tuple_lt ⟨_, g, rfl⟩ F.entry_tuple_lt (F.args_tuple_lt_2 _ _) (tuple_ltAt l b xs ys n n' dd dd' sl sl' eqs less) ⟨g, g', same, below, q⟩

theorem oneLt_tup {f : Bool} {xs ys : List PyData} {a b : Value} {as bs : List Addr} {Q : Bool → Shared → Prop} (ra : Reads s.heap a (.tuple xs) as) (rb : Reads s.heap b (.tuple ys) bs) (h : alike (.tuple xs) (.tuple ys) = true)
    (hu : A.units + min (PyData.tuple xs).depth (PyData.tuple ys).depth < cLine) (hq : Q (dataLt (.tuple xs) (.tuple ys)) s) : wpAny (model prog w) A (oneLt' f a b) Q E s := by
  match f with
  | false => exact oneLt_alike (fun z => nomatch z) ra rb h (by simp) hu hq
  | true =>
    have all : alikeAll xs ys = true := by rw [alike] at h; exact h
    have ask := room_in hu
    cases ra with
    | @tuple l o us _ _ _ a1 a2 a3 a4 =>
      cases rb with
      | @tuple l' o' ws _ _ _ b1 b2 b3 b4 =>
        have n1 : us.size = xs.length := by have := ReadsAll.length _ _ _ a4; rwa [Array.length_toList] at this
        have n2 : ws.size = ys.length := by have := ReadsAll.length _ _ _ b4; rwa [Array.length_toList] at this
        have es := eqAt_alikeAll xs ys A.in1 s us.toList ws.toList _ _ a4 b4 all ask
        have ls := rcLt_alikeAll xs ys A.in1 s us.toList ws.toList _ _ a4 b4 all ask
        rw [dataLt_tuple, ← firstLt_toks xs ys all, ← n1, ← n2] at hq
        rw [oneLt'_eq, if_pos rfl]
        refine wpAny_bind (wpAny_cRoomFor (room_here hu) (wpAny_bind ?_))
        refine wpAny_callSpecialIfBound?_slot (T := "tuple") ⟨_, a1, a2⟩ F.slot_tuple_lt (call_tuple_lt (eqs := pairEq xs ys) (less := fun j => dataLt (xs.getD j .none) (ys.getD j .none)) ⟨_, a1, a2, _, a3⟩ ⟨_, b1, b2, _, b3⟩ (fun j hx hy => ?_) (fun j hx hy no => ?_) (wpAny_truthy_bool hq))
        · have := es j (by rwa [Array.length_toList]) (by rwa [Array.length_toList])
          rwa [Array.getElem_toList, Array.getElem_toList] at this
        · have := ls j (by rwa [Array.length_toList]) (by rwa [Array.length_toList]) no
          rwa [Array.getElem_toList, Array.getElem_toList] at this

/-- tuples of alike data can be sorted -/
theorem sortsAt_tups {vs : List Value} {ds : List PyData} (e : EachIs (fun v d => ∃ as, Reads s.heap v d as) vs ds) (hal : AllAlike ds) (ht : ∀ d, d ∈ ds → ∃ xs, d = .tuple xs) (hu : ∀ d, d ∈ ds → A.units + d.depth < cLine) : SortsAt prog w A s (dataKind s.heap ds) vs := by
  by_cases hk : Sortable ds
  · exact SortsAt.data e hal hk hu
  obtain ⟨fs, F⟩ := firsts_run e ht
  have gap : ¬ fs.toArray.all Option.isSome = true := fun z => hk (.inl (F.full (by rwa [List.all_toArray] at z)))
  have below : ∀ (b : Bool) (E : Value → Shared → Prop) (x y : Value) (p q : (dataKind s.heap ds).α) {Q : Bool → Shared → Prop}, (dataKind s.heap ds).keyOf x = some p → (dataKind s.heap ds).keyOf y = some q → Q ((dataKind s.heap ds).blt p q) s →
      wpAny (model prog w) A (oneLt' b x y) Q E s := fun b E x y p q Q hp hq z => by
    obtain ⟨_, _, m1, r1, rfl⟩ := dataKind_inv hp
    obtain ⟨_, _, m2, r2, rfl⟩ := dataKind_inv hq
    have like := hal _ m1 _ m2
    have deep := hu _ m1
    obtain ⟨_, rfl⟩ := ht _ m1
    obtain ⟨_, rfl⟩ := ht _ m2
    exact oneLt_tup r1 r2 like (by omega) z
  refine ⟨fun v hv => ?_, ?_⟩
  · obtain ⟨d, m, _, r⟩ := e.left v hv
    exact ⟨_, dataKind_some hal m r⟩
  match fs, F, gap with
  | [], _, gap => exact (gap (by simp)).elim
  | some f :: fr, F, gap =>
    refine ⟨general', below false, fun _ E Q hq => ?_⟩
    rw [kat_kind_eq, List.mapM_toArray]
    rw [map_eq_pure_bind]
    refine wpAny_bind (wpAny_bind (F.run _ A E _ (wpAny_pure ?_)))
    rw [if_neg gap, if_pos (by simp)]
    exact wpAny_pure hq
  | none :: fr, F, gap =>
    refine ⟨oneType', below true, fun two E Q hq => ?_⟩
    rw [kat_kind_eq, List.mapM_toArray]
    rw [map_eq_pure_bind]
    refine wpAny_bind (wpAny_bind (F.run _ A E _ (wpAny_pure ?_)))
    rw [if_neg gap, if_neg (by simp)]
    rw [oneTypeOnly'_eq, List.mapM_toArray]
    rw [map_eq_pure_bind]
    have look : ∀ v ∈ vs, Looks (model prog w) s.heap (typeOf v) (.type "tuple") := fun v hv => by
      obtain ⟨d, m, _, r⟩ := e.left v hv
      obtain ⟨_, rfl⟩ := ht d m
      exact looks_reads r
    refine wpAny_bind (wpAny_bind (wpAny_bind (kas_mapM (r := .type "tuple") _ (fun v hv Q' z => (look v hv).here z) (wpAny_pure ?_))))
    match vs, two with
    | v1 :: vr, _ =>
      have one : ((v1 :: vr).map fun _ => Value.type "tuple").toArray[0]? = some (.type "tuple") := by simp
      have all : ((v1 :: vr).map fun _ => Value.type "tuple").toArray.all (· == Value.type "tuple") = true := by
        rw [List.all_toArray, List.all_map]
        exact List.all_eq_true.mpr fun _ _ => beq_self_eq_true _
      rw [one]
      simp only [all, if_true]
      exact wpAny_pure (wpAny_pure hq)
end
end Kd
namespace Kd
open PySem PySem.Spec PyProof.Rows PySem.W PySem.Calls PySem.SeqAt
/-- sorted, upwards -/
noncomputable def srtT (xs : List T) : List T := xs.mergeSort (dataLe false T.py)
theorem srtT_perm (xs : List T) : (srtT xs).Perm xs := List.mergeSort_perm _ _
section
variable {prog : Program} {w : World} {A : Around} {E : Value → Shared → Prop} {s : Shared} {vs : List Value} {bs : List T} {R : Value → T → Prop}
/-- sorted(xs) -/
theorem sorted_tups {l : Addr} {Q : Value → Shared → Prop} (hl : s.heap.IsList l vs.toArray) (e : EachIs R vs bs) (er : EachIs (fun v b => ∃ as, Reads s.heap v (T.py b) as) vs bs) (hal : AllAlike (bs.map T.py)) (ht : ∀ d, d ∈ bs.map T.py → ∃ xs, d = .tuple xs) (hL : bs.length ≤ sizeLine)
    (hu : ∀ b, b ∈ bs → A.units + 2 + (T.py b).depth < cLine) (h : ∀ out, out.length = bs.length → EachIs R out (srtT bs) → Q (.ref (s.heap.objs.size + 1)) { s with heap := sortedAll s.heap vs (List.toArray out) }) :
    wpAny (model prog w) A (call (.builtin "sorted") [.ref l]) Q E s := by
  have er' : EachIs (fun v b => ∃ as, Reads (sortingHeap (copyHeap s.heap vs) (s.heap.objs.size + 1) vs) v (T.py b) as) vs bs := er.mono fun _ _ ⟨as, r⟩ => ⟨as, PyProof.Rows.Reads.keeps (fun _ _ => sorting_copy_old) r⟩
  exact sorted_vals hl (sortsAt_tups (s := { s with heap := sortingHeap (copyHeap s.heap vs) (s.heap.objs.size + 1) vs }) (each_map (R := fun v d => ∃ as, Reads (sortingHeap (copyHeap s.heap vs) (s.heap.objs.size + 1) vs) v d as) T.py er') hal ht (bound_map hu)) (by rw [e.length]; exact hL)
    (h _ ((sortVals_length false rfl).trans e.length) (sortVals_data false e er' hal))
/-- xs.sort() -/
theorem list_sort_tups {a : Addr} {n : Nat} {Q : Value → Shared → Prop} (ho : s.heap.get? a = some (seqObj "list" vs.toArray n)) (e : EachIs R vs bs) (er : EachIs (fun v b => ∃ as, Reads (sortingHeap s.heap a vs) v (T.py b) as) vs bs) (hal : AllAlike (bs.map T.py)) (ht : ∀ d, d ∈ bs.map T.py → ∃ xs, d = .tuple xs) (hL : bs.length ≤ sizeLine)
    (hu : ∀ b, b ∈ bs → A.units + 1 + (T.py b).depth < cLine) (h : ∀ out, out.length = bs.length → EachIs R out (srtT bs) → Q .none { s with heap := sortedHeap s.heap a vs (List.toArray out) }) :
    wpAny (model prog w) A (call (.builtin "list.sort") [.ref a]) Q E s := by
  refine wpAny_call_entry slot_list_sort ⟨_, ho, rfl⟩ entry_list_sort (list_sort_vals (κ := dataKind (sortingHeap s.heap a vs) (bs.map T.py)) ho (sortsAt_tups (s := { s with heap := sortingHeap s.heap a vs }) (each_map (R := fun v d => ∃ as, Reads (sortingHeap s.heap a vs) v d as) T.py er) hal ht (bound_map hu)) (by rw [e.length]; exact hL) ⟨.none, rfl, ?_⟩) (args_list_sort _)
  exact h _ ((sortVals_length false rfl).trans e.length) (sortVals_data false e er hal)
end
/-! a dict keyed by objects, collected -/
section
variable {prog : Program} {w : World} {K : Type} {d : Addr} {xs : List (K × Addr × Value)} {es : Array DictEntry} {ep : Nat}
theorem dictRaw_lt {h : Heap} (hm : h.DictRaw d es ep) : d < h.objs.size := let ⟨_, ho, _⟩ := hm; Heap.lt_size ho
theorem kdlH (lo : (d == sysModules) = false) (hx : ∀ i (hi : i < es.size), ∃ y, xs[i]? = some y ∧ es[i].key = .ref y.2.1 ∧ es[i].val = y.2.2) :
    KdlSrc prog w "dict" d d es.size (fun i v => ∃ y, xs[i]? = some y ∧ v = .ref y.2.1) (fun h => h.DictRaw d es ep) where
  type := fun _ hm => hm.typeIs
  there := fun _ hm => ⟨dictRaw_lt hm, dictRaw_lt hm⟩
  keep _ _ raw stays := raw.at (stays d (.inl rfl))
  notList := by decide
  notTuple := by decide
  hint _ _ _ _ raw q := kdl_hint_dict raw.typeIs q
  iter := fun _ _ hh hm => ⟨_, _, (fun _ _ hq => wpAny_pyIter_dict_raw lo hm hq), Walks.keysH hh _ d (Nat.ne_of_lt (dictRaw_lt hm)) es ep hx, ⟨⟨_, Heap.get?_push_size _ rfl, rfl, rfl⟩, hm.at fun o e => Heap.get?_push_of_some _ e⟩⟩
end
section
variable {prog : Program} {w : World} {A : Around} {E : Value → Shared → Prop} {s : Shared} {T : String} {r d : Addr} {n : Nat} {P : Nat → Value → Prop} {OK : Heap → Prop} {Q : Value → Shared → Prop}
theorem sorted_src (K : KdlSrc prog w T r d n P OK) (hh : A.handled = none) (hok : OK s.heap) (hn : n ≤ sizeLine)
    (h : ∀ (h' : Heap) (tk : Nat) (vs : List Value), (∀ b o, s.heap.get? b = some o → h'.get? b = some o) → vs.length = n → (∀ (j : Nat) (v : Value), vs[j]? = some v → P j v) →
      wpAny (model prog w) A.in1 (call (.builtin "list.sort") [.ref h'.objs.size]) (fun _ s' => Q (.ref h'.objs.size) s') E { s with heap := h'.push { cls := .type "list", data := .seq vs.toArray }, toks := tk }) :
    wpAny (model prog w) A (call (.builtin "sorted") [.ref r]) Q E s := by
  have made : ∀ (h' : Heap) (tk : Nat) (got : Array Value), (∀ b o, s.heap.get? b = some o → h'.get? b = some o) → ItemsOf P got n → got.toList.length = n ∧ wpAny (model prog w) A.in1 (call (.builtin "list.sort") [.ref h'.objs.size]) (fun _ s' => Q (.ref h'.objs.size) s') E { s with heap := h'.push { cls := .type "list", data := .seq got.toList.toArray }, toks := tk } := fun h' tk got stays all => by
    have len : got.toList.length = n := Array.length_toList.trans all.1
    exact ⟨len, h h' tk got.toList stays len fun j v at1 => all.2 j v (Array.getElem?_toList ▸ at1)⟩
  refine call_function_entry kind_sorted plain_sorted entry_sorted (args_sorted1 _) (by
    unfold Builtin.«sorted»
    refine wpAny_bind (m := checkCount "sorted" 1 1 _) (wpAny_pure (wpAny_bind (kdu_collect (A := A.in1) K hh hok hn fun h' tk got stays all => ?_)))
    obtain ⟨len, go⟩ := made h' tk got stays all
    refine wpAny_bind (wpAny_newList (wpAny_bind (wpAny_holding (wpAny_mono go (fun _ s' q => ?_) fun _ _ z => z))) (len ▸ hn))
    exact wpAny_pure ⟨_, rfl, q⟩)
end
end Kd

namespace Kd
open PySem PySem.Spec PyProof.Rows L2
/-! ### data alike -/
mutual
/-- tuples of tuples .. of ints, n deep -/
def shp : Nat → T → Bool
  | 0, .i _ => true
  | n + 1, .t l => shps n l
  | _, _ => false
def shps : Nat → List T → Bool
  | _, [] => true
  | n, x :: r => shp n x && shps n r
end
theorem shps_all {n : Nat} : ∀ {l : List T}, shps n l = true ↔ ∀ x ∈ l, shp n x = true
  | [] => by simp [shps]
  | x :: r => by rw [shps, Bool.and_eq_true, shps_all (l := r)]; simp
mutual
theorem shp_alike : ∀ (n : Nat) (a b : T), shp n a = true → shp n b = true → PySem.W.alike a.py b.py = true
  | 0, .i _, .i _, _, _ => by simp [T.py, PySem.W.alike]
  | 0, .i _, .t _, _, h => by simp [shp] at h
  | 0, .t _, _, h, _ => by simp [shp] at h
  | n + 1, .i _, _, h, _ => by simp [shp] at h
  | n + 1, .t _, .i _, _, h => by simp [shp] at h
  | n + 1, .t l, .t r, h, h' => by
    simp only [T.py, PySem.W.alike]
    rw [shp] at h h'
    exact shps_alike n l r h h'
theorem shps_alike : ∀ (n : Nat) (a b : List T), shps n a = true → shps n b = true → PySem.W.alikeAll (T.pys a) (T.pys b) = true
  | _, [], _, _, _ => by simp [T.pys, PySem.W.alikeAll]
  | _, _ :: _, [], _, _ => by simp [T.pys, PySem.W.alikeAll]
  | n, x :: r, y :: s, h, h' => by
    rw [shps, Bool.and_eq_true] at h h'
    rw [T.pys, T.pys, PySem.W.alikeAll, shp_alike n x y h.1 h'.1, shps_alike n r s h.2 h'.2]; rfl
end
mutual
theorem shp_depth : ∀ (n : Nat) (a : T), shp n a = true → a.depth ≤ n
  | 0, .i _, _ => by simp [T.depth]
  | 0, .t _, h => by simp [shp] at h
  | n + 1, .i _, h => by simp [shp] at h
  | n + 1, .t l, h => by
    rw [shp] at h
    have := shps_depth n l h
    simp only [T.depth]; omega
theorem shps_depth : ∀ (n : Nat) (a : List T), shps n a = true → T.depths a ≤ n
  | _, [], _ => by simp [T.depths]
  | n, x :: r, h => by
    rw [shps, Bool.and_eq_true] at h
    have h1 := shp_depth n x h.1
    have h2 := shps_depth n r h.2
    simp only [T.depths]; omega
end
theorem shp_tup {n : Nat} {a : T} (h : shp (n + 1) a = true) : ∃ l, a = .t l := by
  cases a with
  | i _ => simp [shp] at h
  | t l => exact ⟨l, rfl⟩
/-- what the values of the machine stand for -/
def RU (K : PySem.W.Frag) (H : Hp) (u : Value) (x : T) : Prop := ∃ v, RelV v u ∧ Rep K H v x
theorem each_of {K : PySem.W.Frag} {H : Hp} : ∀ {vs : List V} {us : List Value} {xs : List T}, Vals vs us → Reps K H vs xs → PySem.W.EachIs (RU K H) us xs
  | _, _, [], .nil, r => by cases r; exact .nil
  | _, _, _ :: _, .cons h t, r => by
    cases r with
    | cons r1 r2 => exact .cons ⟨_, h, r1⟩ (each_of t r2)
theorem of_each {K : PySem.W.Frag} {H : Hp} : ∀ {us : List Value} {xs : List T}, PySem.W.EachIs (RU K H) us xs → ∃ vs, Vals vs us ∧ Reps K H vs xs
  | _, _, .nil => ⟨[], .nil, .nil⟩
  | _, _, .cons ⟨v, h1, h2⟩ t => by
    obtain ⟨vs, r1, r2⟩ := of_each t
    exact ⟨v :: vs, .cons h1 r1, .cons h2 r2⟩
section
variable {X : Cx} {pins : List (Addr × Obj)} {σ : L2.St} {H : Hp} {s : Shared} {xs : List T}
theorem each_reads (I : Inv X pins σ H s) {us : List Value} (e : PySem.W.EachIs (RU X.K H) us xs) : PySem.W.EachIs (fun v b => ∃ as, Reads s.heap v (T.py b) as) us xs :=
  e.mono fun _ b ⟨v, h1, h2⟩ => Dp.reads I _ v _ (h2.dp) h1
theorem alike_all {n : Nat} (h : shps n xs = true) : PySem.W.AllAlike (xs.map T.py) := fun d hd d' hd' => by
  obtain ⟨x, hx, rfl⟩ := List.mem_map.mp hd
  obtain ⟨y, hy, rfl⟩ := List.mem_map.mp hd'
  exact shp_alike n x y (shps_all.mp h x hx) (shps_all.mp h y hy)
theorem tups_all {n : Nat} (h : shps (n + 1) xs = true) : ∀ d, d ∈ xs.map T.py → ∃ l, d = PyData.tuple l := fun d hd => by
  obtain ⟨x, hx, rfl⟩ := List.mem_map.mp hd
  obtain ⟨l, rfl⟩ := shp_tup (shps_all.mp h x hx)
  exact ⟨_, by rw [T.py]⟩
/-- sorted(a list of tuples alike) -/
def rSortD (K : PySem.W.Frag) : List V → Hp → VK → Prop := fun ws H Q => ∃ a vs xs n, ws = [.ref a] ∧ SqL K H a vs ∧ Reps K H vs xs ∧ shps (n + 1) xs = true ∧ n ≤ 8 ∧ ∀ out p, H p = none → Reps K H out (srtT xs) → Q (.ref p) (upd H p (.lst out))
theorem cr_sortD (hu : X.A.units + 64 < cLine) : CallR X (.builtin "sorted") (rSortD X.K) := by
  intro pins s σ H vs us Q I r h
  obtain ⟨a, ws, xs, n, rfl, hs, hr, hsh, hn, q⟩ := h
  obtain ⟨its, rv, hl, hz⟩ := I.list hs
  rw [Vals.ref1 r]
  have e := each_of rv hr
  have hlen : xs.length ≤ sizeLine := by rw [← hr.length]; exact hz
  refine sorted_tups hl.isList e (each_reads I e) (alike_all hsh) (tups_all hsh) hlen (fun b hb => ?_) fun out h1 h2 => ?_
  · rw [T.py_depth]
    have := shp_depth _ b (shps_all.mp hsh b hb)
    omega
  · obtain ⟨ep, he'⟩ := PyProof.Rows.sortedAll_at s.heap its (List.toArray out)
    obtain ⟨ws', rv', rr'⟩ := of_each h2
    exact ⟨.ref _, upd H (s.heap.objs.size + 1) (.lst ws'), I.laid (t' := s.toks) (fun _ _ => PyProof.Rows.sortedAll_old) (Nat.le_succ _) ⟨by rw [rr'.length, (srtT_perm xs).length_eq]; exact hlen, out, ep, rv', he'⟩, rfl, q _ _ (I.hok.fresh (Nat.le_succ _)) rr'⟩
end
section
variable {B : Hp} {X : Cx} {δ : Dl} {a : Expr} {x : Str} {p pos : Pos} {xs : List T} {n : Nat}
/-- sorted(list) -/
theorem n_sortedL (hu : X.A.units + 64 < cLine) (hm : X.mg "sorted" = none) (ha : DL B X a δ xs) (hsh : shps (n + 1) xs = true) (hn : n ≤ 8) (hg : Gl X "sorted" := by rfl) (hs : starEach [a] X.env = (false, eval a X.env) :: starEach [] X.env := by rfl) (hpl : (backTo pos (starEach [] X.env)).any (·.1) = false := by rfl) :
    DN B X (.Call (.Name "sorted" p) [a] [] pos) δ (srtT xs) := by
  refine n_B (cr_sortD hu) hg hm (by rfl) (da_1 ha hs) (fun H ws r Q q => ?_) (he := hs) (hpl := hpl)
  obtain ⟨w, rfl, r1⟩ := RepAs.one r
  obtain ⟨l, vs, rfl, h1, h2⟩ := r1.lst
  exact ⟨l, vs, xs, n, rfl, h1, h2, hsh, hn, fun out p hp hr => q p out _ hp (Evl.Ex.new hp) (upd_same ..) (hr.ex (Evl.Ex.new hp))⟩
end
end Kd
-- K68X3
set_option maxRecDepth 100000
set_option maxHeartbeats 4000000
/-! Further rules: dicts keyed by data; values with an effect. -/
namespace Kd
open PySem PySem.Spec PyProof.Rows L2
/-! ### tables of data -/
def gT (kvs : List (T × T)) (k : T) : Option T := (kvs.find? fun kv => decide (kv.1 = k)).map (·.2)
def pT (kvs : List (T × T)) (k v : T) : List (T × T) := if (gT kvs k).isSome then kvs.map (fun kv => if kv.1 = k then (kv.1, v) else kv) else kvs ++ [(k, v)]
theorem pT_keys (kvs : List (T × T)) (k v : T) : (pT kvs k v).map (·.1) = if (gT kvs k).isSome then kvs.map (·.1) else kvs.map (·.1) ++ [k] := by
  unfold pT
  split
  · rw [List.map_map]
    refine List.map_congr_left fun kv _ => ?_
    simp only [Function.comp]
    split <;> rfl
  · rw [List.map_append]; rfl
theorem gT_none {kvs : List (T × T)} {k : T} (h : gT kvs k = none) : k ∉ kvs.map (·.1) := by
  intro hm
  obtain ⟨kv, h1, h2⟩ := List.mem_map.mp hm
  unfold gT at h
  rw [Option.map_eq_none_iff, List.find?_eq_none] at h
  exact h kv h1 (decide_eq_true h2)
theorem pT_nodup {kvs : List (T × T)} {k v : T} (h : (kvs.map (·.1)).Nodup) : ((pT kvs k v).map (·.1)).Nodup := by
  rw [pT_keys]
  split
  · exact h
  · rename_i hs
    have : gT kvs k = none := by
      cases q : gT kvs k with
      | none => rfl
      | some _ => rw [q] at hs; exact absurd rfl hs
    refine List.nodup_append.mpr ⟨h, by simp, fun a ha b hb => ?_⟩
    rw [List.mem_singleton] at hb
    intro e
    rw [e, hb] at ha
    exact gT_none this ha
theorem pT_length (kvs : List (T × T)) (k v : T) : (pT kvs k v).length ≤ kvs.length + 1 := by
  unfold pT
  split
  · rw [List.length_map]; omega
  · simp
section
variable {K : PySem.W.Frag} {H : Hp}
theorem ent_get {kvs : List (T × T)} {xs : List (NestedKey × Addr × Value)} (r : Paired (EntOk K H) kvs xs) (k : T) :
    (∀ v, gT kvs k = some v → ∃ b u z, atKey xs k.nk = some (b, u) ∧ RelV z u ∧ Rep K H z v) ∧ (gT kvs k = none → atKey xs k.nk = none) := by
  induction r with
  | nil => exact ⟨fun v h => by simp [gT] at h, fun _ => rfl⟩
  | @cons p q ps qs h t ih =>
    obtain ⟨h1, h2, h3, z, h4, h5⟩ := h
    by_cases e : p.1 = k
    · have e' : q.1 = k.nk := by rw [h1, e]
      have g1 : gT (p :: ps) k = some p.2 := by simp [gT, List.find?_cons, e]
      have g2 : atKey (q :: qs) k.nk = some q.2 := by simp [atKey, List.find?_cons, e']
      rw [g1, g2]
      exact ⟨fun v hv => ⟨q.2.1, q.2.2, z, rfl, h4, by rw [← Option.some.inj hv]; exact h5⟩, fun z => nomatch z⟩
    · have e' : ¬ q.1 = k.nk := fun z => e (T.nk_inj _ _ (h1.symm.trans z))
      have g1 : gT (p :: ps) k = gT ps k := by simp [gT, List.find?_cons, e]
      have g2 : atKey (q :: qs) k.nk = atKey qs k.nk := by simp [atKey, List.find?_cons, e']
      rw [g1, g2]
      exact ih
theorem ent_put {kvs : List (T × T)} {xs : List (NestedKey × Addr × Value)} (r : Paired (EntOk K H) kvs xs) {k v : T} {b : Addr} {z : V} {u : Value} (hk : k.depth ≤ 8) (hb : Rep K H (.ref b) k) (hz : RelV z u) (hv : Rep K H z v) :
    Paired (EntOk K H) (pT kvs k v) (storedH xs k.nk b u) := by
  have g := ent_get r k
  unfold pT storedH
  have e : (gT kvs k).isSome = (atKey xs k.nk).isSome := by
    cases q : gT kvs k with
    | none => rw [g.2 q]; rfl
    | some w => obtain ⟨b, u, z, h, _⟩ := g.1 w q; rw [h]; rfl
  rw [e]
  by_cases q : (atKey xs k.nk).isSome = true
  · rw [if_pos q, if_pos q]
    clear g e q
    induction r with
    | nil => exact .nil
    | @cons p q ps qs h t ih =>
      rw [List.map_cons, List.map_cons]
      refine .cons ?_ ih
      obtain ⟨h1, h2, h3, z', h4, h5⟩ := h
      unfold putAt
      by_cases e : p.1 = k
      · rw [if_pos e, if_pos (by rw [h1, e])]; exact ⟨h1, h2, h3, z, hz, hv⟩
      · rw [if_neg e, if_neg (fun z => e (T.nk_inj _ _ (h1.symm.trans z)))]; exact ⟨h1, h2, h3, z', h4, h5⟩
  · rw [if_neg q, if_neg q]
    exact Paired.snoc r ⟨rfl, hk, hb, z, hz, hv⟩
theorem ent_keys {kvs : List (T × T)} {xs : List (NestedKey × Addr × Value)} (r : Paired (EntOk K H) kvs xs) : xs.map (·.1) = (kvs.map (·.1)).map T.nk := by
  induction r with
  | nil => rfl
  | cons h t ih => rw [List.map_cons, List.map_cons, List.map_cons, ih, h.1]
end
theorem nk_nodup : ∀ {l : List T}, l.Nodup → (l.map T.nk).Nodup
  | [], _ => List.nodup_nil
  | x :: r, h => by
    rw [List.nodup_cons] at h
    rw [List.map_cons, List.nodup_cons]
    refine ⟨fun z => ?_, nk_nodup h.2⟩
    obtain ⟨y, h1, h2⟩ := List.mem_map.mp z
    exact h.1 (by rw [← T.nk_inj _ _ h2]; exact h1)
section
variable {X : Cx} {pins : List (Addr × Obj)} {σ : L2.St} {H : Hp} {s : Shared} {a : Addr} {kvs : List (T × T)}
theorem key_is (I : Inv X pins σ H s) {b : Addr} {k : T} (r : Rep X.K H (.ref b) k) (hd : k.depth ≤ 8) : (nestedKind X.prog X.w).is s.heap k.nk b := ⟨Rep.nested I k r rfl, by rw [T.nk_depth]; exact hd⟩
theorem DctAt.of (I : Inv X pins σ H s) (d : DctAt X.prog X.w X.K H a kvs) : (a == sysModules) = false ∧ kvs.length ≤ sizeLine ∧ ∃ xs, H a = some (.ext (dctφ X.prog X.w a xs)) ∧ Paired (EntOk X.K H) kvs xs ∧ s.heap.DictOfH (nestedKind X.prog X.w) a xs ∧ (kvs.map (·.1)).Nodup := by
  obtain ⟨xs, h1, h2, h3, h4, h5⟩ := d
  refine ⟨h2, h3, xs, h1, h4, ?_, h5⟩
  obtain ⟨⟨o, es, ep, q1, q2, q3, q4⟩, _⟩ := (show ObjOk X.prog X.w H s.heap a (.ext (dctφ X.prog X.w a xs)) from I.hok a _ h1)
  refine ⟨o, es, ep, q1, q2, q3, q4, fun x hx => ?_, by rw [ent_keys h4]; exact nk_nodup h5⟩
  have all : ∀ {l : List (T × T)} {m : List (NestedKey × Addr × Value)}, Paired (EntOk X.K H) l m → ∀ x ∈ m, (nestedKind X.prog X.w).is s.heap x.1 x.2.1 := by
    intro l m r
    induction r with
    | nil => intro x hx; cases hx
    | @cons p q ps qs h t ih =>
      intro x hx
      rcases List.mem_cons.mp hx with rfl | hx
      · rw [h.1]; exact key_is I h.2.2.1 h.2.1
      · exact ih x hx
  exact all h4 x hx
theorem dctφ_ok {P : Program} {w : World} {H : Hp} {h : Heap} {xs : List (NestedKey × Addr × Value)} (d : dctφ P w a xs h) : ObjOk P w H h a (.ext (dctφ P w a xs)) :=
  ⟨d, let ⟨o, _, _, q, _⟩ := d; ⟨o, q⟩, fun _ _ ⟨o, es, ep, q1, q2⟩ k => ⟨o, es, ep, k _ q1, q2⟩⟩
theorem room_in (hu : X.A.units + 64 < cLine) : (nestedKind X.prog X.w).room X.A.in1 := by
  show X.A.in1.units + 8 < cLine
  have : X.A.in1.units = X.A.units + 1 := rfl
  omega
end
theorem rep_ref {K : PySem.W.Frag} {H : Hp} {v : V} {k : T} (r : Rep K H v k) (ht : ∃ l, k = .t l) : ∃ b, v = .ref b := by
  obtain ⟨l, rfl⟩ := ht
  obtain ⟨a, _, h, _⟩ := r.tup
  exact ⟨a, h⟩
/-- d[y] -/
def tKGet (P : Program) (w : World) (K : PySem.W.Frag) (td ty : TE) : TE := fun σ H Q => td σ H fun x H1 => ty σ H1 fun y H2 => ∃ a kvs k v, x = .ref a ∧ DctAt P w K H2 a kvs ∧ Rep K H2 y k ∧ k.depth ≤ 8 ∧ (∃ l, k = .t l) ∧ gT kvs k = some v ∧ ∀ z, Rep K H2 z v → Q z H2
/-- d.get(y, z) -/
def tKGet2 (P : Program) (w : World) (K : PySem.W.Frag) (td ty tx : TE) : TE := fun σ H Q => td σ H fun x H1 => ∃ a, x = .ref a ∧ (∃ kvs, DctAt P w K H1 a kvs) ∧ ty σ H1 fun y H2 => tx σ H2 fun z H3 => ∃ kvs k, DctAt P w K H3 a kvs ∧ Rep K H3 y k ∧ k.depth ≤ 8 ∧ (∃ l, k = .t l) ∧
  (∀ v, gT kvs k = some v → ∀ z, Rep K H3 z v → Q z H3) ∧ (gT kvs k = none → Q z H3)
/-- d[y] = v -/
def sKPut (P : Program) (w : World) (K : PySem.W.Frag) (td ty tv : TE) : TS := fun D σ H => tv σ H fun v H1 => td σ H1 fun x H2 => ty σ H2 fun y H3 => ∃ a kvs k d, x = .ref a ∧ DctAt P w K H3 a kvs ∧ Rep K H3 y k ∧ k.depth ≤ 8 ∧ (∃ l, k = .t l) ∧ Rep K H3 v d ∧ kvs.length < sizeLine ∧
  ∀ H4, TEx K H3 H4 → (∀ b, b ≠ a → ∀ o, H3 b = some o → H4 b = some o) → DctAt P w K H4 a (pT kvs k d) → D.nx σ H4
section
variable {X : Cx} {o i e f value : Expr} {pos pos' tpos apos cpos : Pos} {td ty tv tx : TE}
theorem pe_kget (hu : X.A.units + 64 < cLine) (ho : PE X o td) (hi : PE X i ty) (hs : NoSl i) : PE X (.Subscript o i pos) (tKGet X.prog X.w X.K td ty) := by
  refine ⟨fun pins s σ H Q I h => ?_⟩
  refine subD_of PySem.F.slot_dict_getitem.lookup hs (thn (ho.run pins s σ H _ I h) fun u s1 ⟨x, H1, I1, rx, q1⟩ => thn (hi.run pins s1 σ H1 _ I1 q1) fun iv s2 ⟨y, H2, I2, ry, a, kvs, k, v, ex, g, rk, hd, ht, hg, q2⟩ => ?_)
  subst ex
  obtain rfl : u = Value.ref a := rx
  obtain ⟨b, rfl⟩ := rep_ref rk ht
  obtain rfl : iv = Value.ref b := ry
  obtain ⟨_, _, xs, _, rel, dd, _⟩ := g.of I2
  obtain ⟨b', u', z, hp, h1, h2⟩ := (ent_get rel k).1 v hg
  refine ⟨dd.typeIs, wpAny_getItem_heap (room_in hu) (key_is I2 rk hd) dd hp ?_⟩
  exact ⟨z, H2, I2.tok _, h1, q2 z h2⟩
theorem pe_kget2 (hu : X.A.units + 64 < cLine) (ho : PE X o td) (he : PE X e ty) (hf : PE X f tx) (m : M2 X o "get" apos e f cpos) : PE X (.Call (.Attribute o "get" apos) [e, f] [] cpos) (tKGet2 X.prog X.w X.K td ty tx) := by
  refine ⟨fun pins s σ H Q I h => ?_⟩
  refine wpAny_Call_method m.base m.few m.line PySem.F.plainAttrs_dict PySem.F.slot_dict_get PySem.F.type_dict_get (thn (ho.run pins s σ H _ I h) fun u s1 ⟨x, H1, I1, rx, a, ex, ⟨kvs, d⟩, q1⟩ => ?_)
  subst ex
  obtain rfl : u = Value.ref a := rx
  obtain ⟨_, _, xs, _, _, dd, _⟩ := d.of I1
  refine ⟨dd.typeIs, fun b q => ?_, ?_⟩
  · cases q
    obtain ⟨ob, _, _, h1, h2, _⟩ := dd
    exact ⟨ob, h1, h2.2.1⟩
  rw [m.trees]
  refine Calls.callWith_builtin rfl (Calls.evalArgs_plain (Calls.spliced_cons (thn (he.run pins s1 σ H1 _ I1 q1) fun kv s2 ⟨y, H2, I2, isK, q2⟩ =>
    Calls.spliced_cons (thn (hf.run pins s2 σ H2 _ I2 q2) fun fv s3 ⟨z, H3, I3, rz, kvs, k, d, rk, hd, ht, q3, q4⟩ => Calls.spliced_nil ?_))))
  obtain ⟨b, rfl⟩ := rep_ref rk ht
  obtain rfl : kv = Value.ref b := isK
  obtain ⟨hsm, _, xs, _, rel, dd, _⟩ := d.of I3
  refine call_meetsIn PySem.F.slot_dict_get dd.typeIs PySem.F.entry_dict_get (PySem.F.args_dict_get_3 _ _ _) (meetsH_dict_get_default (nestedKind X.prog X.w) a b hsm fv) ⟨room_in hu, k.nk, xs, key_is I3 rk hd, dd, ?_⟩
  cases hg : gT kvs k with
  | none =>
    rw [(ent_get rel k).2 hg]
    exact ⟨z, H3, I3.tok _, rz, q4 hg⟩
  | some v =>
    obtain ⟨b', u', z', hp, h1, h2⟩ := (ent_get rel k).1 v hg
    rw [hp]
    exact ⟨z', H3, I3.tok _, h1, q3 v hg z' h2⟩
theorem ps_kput (hu : X.A.units + 64 < cLine) (ho : PE X o td) (hi : PE X i ty) (hv : PE X value tv) (hs : swapsWith value (some (.Subscript o i pos')) pos.line X.env = pure false) :
    PS X (.Assign [.Subscript o i pos'] value pos) (sKPut X.prog X.w X.K td ty tv) := by
  refine ⟨fun pins s σ H D I h => ?_⟩
  refine wpAny_Assign_Subscript (thn (hv.run pins s σ H _ I h) fun r s1 ⟨v, H1, I1, rv, q1⟩ => thn (ho.run pins s1 σ H1 _ I1 q1) fun u s2 ⟨x, H2, I2, rx, q2⟩ => thn (hi.run pins s2 σ H2 _ I2 q2) fun iv s3 ⟨y, H3, I3, ry, a, kvs, k, d, ex, g, rk, hd, ht, rd, hl, q3⟩ => ?_) hs
  subst ex
  obtain rfl : u = Value.ref a := rx
  obtain ⟨b, rfl⟩ := rep_ref rk ht
  obtain rfl : iv = Value.ref b := ry
  obtain ⟨hsm, hz, xs, ha, rel, dd, hn⟩ := g.of I3
  have hz' : xs.length ≤ sizeLine := by rw [← Paired.length rel]; exact hz
  refine wpAny_setItem_heap (hsz := hz') (room_in hu) (key_is I3 rk hd) dd fun h' dd' hs => ?_
  obtain ⟨q, es, ep, hq, h2, h3, h4, _, h5⟩ := dd'
  have t1 : TEx X.K H3 (upd H3 a (.ext (dctφ X.prog X.w a (storedH xs k.nk b r)))) := TEx.wr ha (fun _ z => nomatch z) (fun _ _ z => nomatch z)
  have J : Inv X pins σ (upd H3 a (.ext (dctφ X.prog X.w a (storedH xs k.nk b r)))) { s3 with heap := h', toks := s3.toks + (nestedKind X.prog X.w).draws k.nk } := d_write I3 (by rw [ha]; exact True.intro) hs ⟨q, hq⟩ (dctφ_ok ⟨q, es, ep, hq, h2, h3, h4⟩)
  refine ⟨σ, _, J, q3 _ t1 (fun b hb o ho => by rw [upd_ne hb]; exact ho) ⟨_, upd_same .., hsm, ?_, ?_, pT_nodup hn⟩⟩
  · have := pT_length kvs k d; omega
  · exact Paired.mapP (ent_put rel hd rk rv rd) fun _ _ z => z.tex t1
end
/-- {} -/
def tKNew (P : Program) (w : World) : TE := fun _ H Q => ∀ p, H p = none → (p == sysModules) = false → Q (.ref p) (upd H p (.ext (dctφ P w p [])))
theorem pe_knew {X : Cx} {pos : Pos} : PE X (.Dict [] [] pos) (tKNew X.prog X.w) := ⟨fun pins s σ H Q I h => by
  refine wpAny_Dict_empty ⟨.ref s.heap.objs.size, _, I.laid (a := s.heap.objs.size) (o := .ext (dctφ X.prog X.w s.heap.objs.size [])) (t' := s.toks) (fun _ _ q => Heap.get?_push_of_some _ q) (Nat.le_refl _) (dctφ_ok ⟨_, #[], 0, Heap.get?_push_size _ rfl, ⟨rfl, rfl, rfl⟩, rfl, rfl⟩), rfl, h _ (I.hok.fresh (Nat.le_refl _)) (beq_eq_false_iff_ne.mpr (Ne.symm (Nat.ne_of_lt I.big)))⟩⟩
/-! ### values with an effect: the store's words stay, the tuples stay -/
section
variable (B : Hp) (X : Cx)
def DE (e : Expr) (δ : Dl) (R : T → Prop) : Prop := ∀ σ H, St1 B X H σ δ → ∀ Q : VK, (∀ v x H', R x → St1 B X H' σ δ → TEx X.K H H' → Rep X.K H' v x → Q v H') → tD X e σ H Q
end
section
variable {B : Hp} {X : Cx} {δ δ1 : Dl} {a b c e f o : Expr} {es : List Expr} {x y : Str} {p pos p2 pos' : Pos} {u v k d : T} {kvs : List (T × T)} {R R' : T → Prop} {Rt : VK}
theorem DR.de (h : DX B X e δ u) : DE B X e δ (fun x => x = u) := fun σ H S Q q => h σ H S Q fun v H' e r => q v u H' rfl (S.to e) e.tex r.dat
theorem DE.imp (h : DE B X e δ R) (hR : ∀ x, R x → R' x) : DE B X e δ R' := fun σ H S Q q => h σ H S Q fun v x H' r => q v x H' (hR x r)
/-- x = e -/
theorem s_setE (i : Nat) (hN : X.N.Nodup) (h : DE B X e δ R) (hi : X.N[i]? = some x := by rfl) (hx : Loc X.env.scope x := by first | exact .inl rfl | exact .inr rfl)
    (hs : swapsWith e (some (.Name x pos')) pos.line X.env = pure false := by rfl) (hf : X.fn x = true ∨ X.env.scope.names.lookup x = some .local := by first | exact .inl rfl | exact .inr rfl | assumption) :
    DS B X (.Assign [.Name x pos'] e pos) δ (fun δ' => ∃ u, R u ∧ δ' = δ.set i (.d u)) Rt := fun σ H S D q1 q2 =>
  (ps_set hN hi hx pe_D hs hf).to (h σ H S _ fun v x H' hr S' t r => q1 _ _ _ ⟨x, hr, rfl⟩ (S'.set0 (v := some v) (s := .d x) ⟨v, rfl, r⟩ rfl) t)
/-- return e -/
theorem s_retE {M : Dl → Prop} (h : DE B X e δ R) (hR : ∀ v x H' σ, R x → St1 B X H' σ δ → Rep X.K H' v x → Rt v H') : DS B X (.Return (some e) pos) δ M Rt := fun σ H S D q1 q2 =>
  (ps_ret pe_D).to (h σ H S _ fun v x H' hr S' t r => q2 _ _ (hR v x H' _ hr S' r))
/-- a + b .. of ints, the right one with an effect -/
theorem e_addR {m : Int} {g : Int → Prop} (ha : DI B X a δ m) (hb : DE B X b δ (fun x => ∃ n, x = .i n ∧ g n)) : DE B X (.BinOp a .Add b pos) δ (fun x => ∃ n, x = .i (m + n) ∧ g n) := fun σ H S Q q =>
  (pe_op op_add pe_D pe_D).to (ha σ H S _ fun v H1 e1 r1 => hb σ H1 (S.to e1) _ fun w x H2 ⟨n, en, hg⟩ S2 t2 r2 => by
    subst en
    refine ⟨m, n, r1.int, r2.int, q _ _ H2 ⟨n, rfl, hg⟩ S2 (e1.tex.trans t2) (.i _)⟩)
/-! ### dicts -/
theorem s_dnew (i : Nat) (hN : X.N.Nodup) (hi : X.N[i]? = some x := by rfl) (hx : Loc X.env.scope x := by first | exact .inl rfl | exact .inr rfl)
    (hs : swapsWith (.Dict [] [] p) (some (.Name x pos')) pos.line X.env = pure false := by rfl) (hf : X.fn x = true ∨ X.env.scope.names.lookup x = some .local := by first | exact .inl rfl | exact .inr rfl | assumption) :
    DS B X (.Assign [.Name x pos'] (.Dict [] [] p) pos) δ (fun δ' => ∃ q, δ' = δ.set i (.dct q [])) Rt := fun σ H S D q1 q2 =>
  (ps_set hN hi hx pe_knew hs hf).to fun q hq hm => by
    have e : Same H (upd H q (.ext (dctφ X.prog X.w q []))) := Evl.Ex.new hq
    have hB : B q = none := by
      cases z : B q with
      | none => rfl
      | some o => rw [S.ex q o z] at hq; cases hq
    exact q1 _ _ _ ⟨q, rfl⟩ (S.setN e hq (s := .dct q []) ⟨rfl, hB, [], upd_same .., hm, Nat.zero_le _, .nil, List.nodup_nil⟩ rfl) e.tex
theorem r_dget (i : Nat) {q : Addr} (hu : X.A.units + 64 < cLine) (h : δ[i]? = some (.dct q kvs)) (hb : DX B X b δ k) (hg : gT kvs k = some v) (hd : k.depth ≤ 8) (ht : ∃ l, k = .t l) (hN : X.N[i]? = some x := by rfl)
    (hv : Vis X.env.scope x := by first | exact Or.inl rfl | exact Or.inr (Or.inl rfl) | exact Or.inr (Or.inr rfl))
    (hdb : (x == ("__debug__" : Str)) = false := by decide) (hcd : (x == ("__classdict__" : Str)) = false := by decide) (hs : NoSl b := by exact fun _ _ => rfl) : DX B X (.Subscript (.Name x p) b pos) δ v := fun σ H S Q q' =>
  (pe_kget hu (pe_var hN hv hdb hcd) pe_D hs).to (by
    obtain ⟨h1, h2, h3⟩ := S.ok i _ h
    refine ⟨_, h1, hb σ H S _ fun w H1 e1 r1 => ?_⟩
    exact ⟨q, kvs, k, v, rfl, h3.keep e1.tex fun o ho => e1 q o ho, r1.dat, hd, ht, hg, fun z rz => q' z H1 e1 (.d rz)⟩)
theorem r_dgetOr (i : Nat) {q : Addr} {px : Pos} (hu : X.A.units + 64 < cLine) (h : δ[i]? = some (.dct q kvs)) (hb : DX B X b δ k) (hc : DX B X c δ d) (hd : k.depth ≤ 8) (ht : ∃ l, k = .t l) (hN : X.N[i]? = some x := by rfl)
    (hv : Vis X.env.scope x := by first | exact Or.inl rfl | exact Or.inr (Or.inl rfl) | exact Or.inr (Or.inr rfl))
    (hdb : (x == ("__debug__" : Str)) = false := by decide) (hcd : (x == ("__classdict__" : Str)) = false := by decide)
    (h1 : attributeBase (.Name x px) "get" X.env (eval (.Name x px) X.env) = eval (.Name x px) X.env := by rfl)
    (h2 : ((backTo pos (starEach [b, c] X.env)).all (fun x => !x.1) && (backToKw pos (keywordEach [] X.env)).all (fun x => x.1.isSome)
      && decide (([b, c] : List Expr).length + ([] : List Keyword).length + (if ([] : List Keyword).isEmpty then 0 else 1) < 30)) = true := by rfl)
    (h3 : (p2.endLine == pos.line) = true := by rfl) (h4 : backTo pos (starEach [b, c] X.env) = [(false, eval b X.env), (false, eval c X.env)] := by rfl) :
    DX B X (.Call (.Attribute (.Name x px) "get" p2) [b, c] [] pos) δ ((gT kvs k).getD d) := fun σ H S Q q' =>
  (pe_kget2 hu (pe_var hN hv hdb hcd) pe_D pe_D ⟨h1, h2, h3, h4⟩).to (by
    obtain ⟨g1, g2, g3⟩ := S.ok i _ h
    refine ⟨_, g1, q, rfl, ⟨kvs, g3⟩, hb σ H S _ fun w H1 e1 r1 => hc σ H1 (S.to e1) _ fun z H2 e2 r2 => ?_⟩
    refine ⟨kvs, k, g3.keep (e1.trans e2).tex fun o ho => (e1.trans e2) q o ho, (r1.dat).ex e2, hd, ht, fun v hv z rz => ?_, fun hn => ?_⟩
    · rw [hv] at q'; exact q' z H2 (e1.trans e2) (.d rz)
    · rw [hn] at q'; exact q' z H2 (e1.trans e2) r2)
theorem s_dput (i : Nat) {q : Addr} {px tpos : Pos} (hu : X.A.units + 64 < cLine) (h : δ[i]? = some (.dct q kvs)) (he : DE B X e δ R) (hb : DX B X b δ k) (hd : k.depth ≤ 8) (ht : ∃ l, k = .t l) (hl : kvs.length < 100000) (hN : X.N[i]? = some x := by rfl)
    (hv : Vis X.env.scope x := by first | exact Or.inl rfl | exact Or.inr (Or.inl rfl) | exact Or.inr (Or.inr rfl))
    (hdb : (x == ("__debug__" : Str)) = false := by decide) (hcd : (x == ("__classdict__" : Str)) = false := by decide)
    (hs : swapsWith e (some (.Subscript (.Name x px) b tpos)) pos.line X.env = pure false := by rfl) :
    DS B X (.Assign [.Subscript (.Name x px) b tpos] e pos) δ (fun δ' => ∃ d, R d ∧ δ' = δ.set i (.dct q (pT kvs k d))) Rt := fun σ H S D q1 q2 =>
  (ps_kput hu (pe_var hN hv hdb hcd) pe_D pe_D hs).to (he σ H S _ fun v d H1 hr S1 t1 r1 => by
    obtain ⟨g1, g2, g3⟩ := S1.ok i _ h
    refine ⟨_, g1, hb σ H1 S1 _ fun w H2 e2 r2 => ?_⟩
    refine ⟨q, kvs, k, d, rfl, g3.keep e2.tex fun o ho => e2 q o ho, r2.dat, hd, ht, r1.ex e2, sz_lt hl, fun H4 t4 k4 d4 => ?_⟩
    exact q1 _ _ _ ⟨d, hr, rfl⟩ ((S1.to e2).write h rfl rfl t4 k4 ⟨rfl, g2, d4⟩) (t1.trans (e2.tex.trans t4)))
/-- sorted(d) -/
def rSortK (P : Program) (w : World) (K : PySem.W.Frag) : List V → Hp → VK → Prop := fun ws H Q => ∃ a kvs n, ws = [.ref a] ∧ DctAt P w K H a kvs ∧ shps (n + 1) (kvs.map (·.1)) = true ∧ n ≤ 8 ∧ ∀ out p, H p = none → Reps K H out (srtT (kvs.map (·.1))) → Q (.ref p) (upd H p (.lst out))
theorem cr_sortK (hc : X.calm = true) (hu : X.A.units + 64 < cLine) : CallR X (.builtin "sorted") (rSortK X.prog X.w X.K) := by
  intro pins s σ H vs us Q I r h
  obtain ⟨a, kvs, n, rfl, g, hsh, hn, q⟩ := h
  obtain ⟨hsm, hz, xs, ha, rel, dd, hnd⟩ := g.of I
  rw [Vals.ref1 r]
  obtain ⟨es, ep, hraw, hsz, hent⟩ := dd.raw
  have hlen : kvs.length = xs.length := Paired.length rel
  refine sorted_src (kdlH (xs := xs) hsm (ep := ep) (es := es) fun i hi => let ⟨y, h1, h2, h3, _⟩ := hent i hi; ⟨y, h1, h2, h3⟩) (I.ok.hd hc) hraw (by rw [hsz, ← hlen]; exact hz) fun h' tk vs hk hvl hvs => ?_
  have I1 : Inv X pins σ H { s with heap := h', toks := tk } := I.kept hk
  have hp : H h'.objs.size = none := I1.hok.fresh (Nat.le_refl _)
  -- the values are the keys
  have e : PySem.W.EachIs (RU X.K H) vs (kvs.map (·.1)) := by
    have hvl' : vs.length = xs.length := hvl.trans hsz
    have hvs' : ∀ (j : Nat) (v : Value), vs[j]? = some v → ∃ y, xs[j]? = some y ∧ v = .ref y.2.1 := hvs
    have go : ∀ {l : List (T × T)} {m : List (NestedKey × Addr × Value)}, Paired (EntOk X.K H) l m → ∀ vs : List Value, vs.length = m.length → (∀ (j : Nat) (v : Value), vs[j]? = some v → ∃ y, m[j]? = some y ∧ v = .ref y.2.1) → PySem.W.EachIs (RU X.K H) vs (l.map (·.1)) := by
      intro l m r
      induction r with
      | nil =>
        intro vs h1 _
        cases vs with
        | nil => exact .nil
        | cons _ _ => simp at h1
      | @cons p q ps qs h t ih =>
        intro vs h1 h2
        cases vs with
        | nil => simp at h1
        | cons v vr =>
          obtain ⟨y, hy, rfl⟩ := h2 0 v rfl
          cases hy
          exact .cons ⟨.ref q.2.1, rfl, h.2.2.1⟩ (ih vr (by simpa using h1) fun j v hv => h2 (j + 1) v hv)
    exact go rel vs hvl' hvs'
  have hpush : ∀ b o, h'.get? b = some o → (h'.push { cls := .type "list", data := .seq vs.toArray }).get? b = some o := fun b o e => Heap.get?_push_of_some _ e
  have hat : (h'.push { cls := .type "list", data := .seq vs.toArray }).get? h'.objs.size = some (seqObj "list" vs.toArray 0) := Heap.get?_push_size _ rfl
  have er : PySem.W.EachIs (fun v b => ∃ as, Reads (PySem.W.sortingHeap (h'.push { cls := .type "list", data := .seq vs.toArray }) h'.objs.size vs) v (T.py b) as) vs (kvs.map (·.1)) :=
    (each_reads I1 e).mono fun _ _ ⟨as, r⟩ => ⟨as, PyProof.Rows.Reads.keeps (fun b o hb => PySem.W.sortingHeap_old (Nat.ne_of_lt (Heap.lt_size hb)) (hpush b o hb)) r⟩
  have hl2 : (kvs.map (·.1)).length ≤ sizeLine := by rw [List.length_map]; exact hz
  refine list_sort_tups hat e er (alike_all hsh) (tups_all hsh) hl2 (fun b hb => ?_) fun out h1 h2 => ?_
  · rw [T.py_depth]
    have := shp_depth _ b (shps_all.mp hsh b hb)
    have : X.A.in1.units = X.A.units + 1 := rfl
    omega
  · obtain ⟨ep', he'⟩ := PyProof.Rows.sortedHeap_at (out := List.toArray out) hat
    obtain ⟨ws', rv', rr'⟩ := of_each h2
    refine ⟨.ref _, upd H h'.objs.size (.lst ws'), I.laidN (t' := tk) (fun b o hb => ?_) ?_ hp ⟨by rw [rr'.length, (srtT_perm _).length_eq]; exact hl2, out, ep', rv', he'⟩, rfl, q _ _ hp rr'⟩
    · rw [PyProof.Rows.sortedHeap_old (Nat.ne_of_lt (Heap.lt_size (hk b o hb))) (Heap.lt_size (hpush b o (hk b o hb)))]
      exact hpush b o (hk b o hb)
    · cases z : s.heap.get? h'.objs.size with
      | none => rfl
      | some o => exact absurd (Heap.lt_size (hk _ _ z)) (Nat.lt_irrefl _)
/-- sorted(d), by its name -/
theorem n_sortedK (i : Nat) {q : Addr} {n : Nat} (hc : X.calm = true) (hu : X.A.units + 64 < cLine) (hm : X.mg "sorted" = none) (h : δ[i]? = some (.dct q kvs)) (hsh : shps (n + 1) (kvs.map (·.1)) = true) (hn : n ≤ 8) (hN : X.N[i]? = some x := by rfl)
    (hv : Vis X.env.scope x := by first | exact Or.inl rfl | exact Or.inr (Or.inl rfl) | exact Or.inr (Or.inr rfl))
    (hdb : (x == ("__debug__" : Str)) = false := by decide) (hcd : (x == ("__classdict__" : Str)) = false := by decide)
    (hg : Gl X "sorted" := by rfl) (hs : starEach [.Name x p2] X.env = (false, eval (.Name x p2) X.env) :: starEach [] X.env := by rfl) (hpl : (backTo pos (starEach [] X.env)).any (·.1) = false := by rfl) :
    DN B X (.Call (.Name "sorted" p) [.Name x p2] [] pos) δ (srtT (kvs.map (·.1))) := fun σ H S Q q' =>
  (pe_callB (cr_sortK hc hu) hg hm (by rfl) (pa_cons (pe_var hN hv hdb hcd) pa_nil hs) (he := hs) (hpl := hpl)).to (by
    obtain ⟨g1, g2, g3⟩ := S.ok i _ h
    refine ⟨_, g1, q, kvs, n, rfl, g3, hsh, hn, fun out p hp hr => ?_⟩
    exact q' p out _ hp (Evl.Ex.new hp) (upd_same ..) (hr.ex (Evl.Ex.new hp)))
end
end Kd
-- K68X4
set_option maxRecDepth 100000
set_option maxHeartbeats 4000000
/-! Further rules: isinstance, is None, in, chains, all. -/
namespace Kd
open PySem PySem.Spec PyProof.Rows L2
def adTy : Ad → String
  | .d (.i _) => "int"
  | .d (.t _) => "tuple"
  | .l _ => "list"
  | .v _ => "bool"
theorem tyx {K : PySem.W.Frag} {H : Hp} {v : V} : ∀ {a : Ad}, RepA K H v a → (∀ v, a = .v v → ∃ b, v = .bl b) → TyX K H v (.type (adTy a))
  | .d (.i n), r, _ => by rw [r.int]; exact .base (.int n)
  | .d (.t l), r, _ => by
    obtain ⟨a, vs, rfl, h1, h2⟩ := r.dat.tup
    rcases h1 with (h | ⟨o, h⟩) | ⟨o, its, n, hk, hc, _⟩
    · exact .base (.tup h)
    · exact .fTuple h
    · exact .kTuple hk hc
  | .l l, r, _ => by
    obtain ⟨a, vs, rfl, h1, h2⟩ := r.lst
    rcases h1 with (h | ⟨o, h⟩) | ⟨o, its, n, hk, hc, _⟩
    · exact .base (.lst h)
    · exact .base (.frz h)
    · exact .kList hk hc
  | .v w, r, h => by
    obtain ⟨b, rfl⟩ := h w rfl
    rw [r.val]; exact .base (.bl b)
theorem nov {a : Ad} (h : ∀ v, a ≠ .v v) : ∀ v, a = .v v → ∃ b, v = V.bl b := fun v e => absurd e (h v)
section
variable {B : Hp} {X : Cx} {δ : Dl} {a b c e o : Expr} {es rest : List Expr} {x : Str} {p pos p2 p3 tpos : Pos} {ad : Ad} {T1 T2 : String} {x1 x2 : Str} {k k1 k2 : Bool} {m n l : Int} {xs : List T}
/-- isinstance(e, T) -/
theorem r_isi (hm : X.mg "isinstance" = none) (ha : DR B X a δ ad) (hn : ∀ v, ad ≠ .v v) (hm1 : X.mg x1 = none) (hk : kitB (adTy ad) T1 = some k) (hb1 : bootBuiltins x1 = some (.type T1) := by decide +kernel) (hg1 : Gl X x1 := by rfl) (hn1 : x1 ≠ "__name__" := by decide) (hd1 : (x1 == ("__debug__" : Str)) = false := by decide)
    (hg : Gl X "isinstance" := by rfl) (hs : starEach [a, .Name x1 p2] X.env = (false, eval a X.env) :: starEach [.Name x1 p2] X.env := by rfl) (hs2 : starEach [.Name x1 p2] X.env = (false, eval (.Name x1 p2) X.env) :: starEach [] X.env := by rfl) (hpl : (backTo pos (starEach [.Name x1 p2] X.env)).any (·.1) = false := by rfl) :
    DBl B X (.Call (.Name "isinstance" p) [a, .Name x1 p2] [] pos) δ k := fun σ H S Q q =>
  (pe_callB call_isi hg hm PyProof.Rows.boot_isinstance (pa_cons pe_D (pa_cons (pe_bltn hg1 hm1 hb1 (v := .ty T1) rfl hn1 hd1) pa_nil hs2) hs) (he := hs) (hpl := hpl)).to (ha σ H S _ fun v H1 e1 r1 =>
    ⟨v, .ty T1, .type (adTy ad), .type T1, k, rfl, .ty T1, tyx r1 (nov hn), kit_ty hk, q _ H1 e1 (.v _)⟩)
/-- isinstance(e, (T1, T2)) -/
theorem r_isi2 {kk : Nat} (hm : X.mg "isinstance" = none) (ha : DR B X a δ ad) (hn : ∀ v, ad ≠ .v v) (hm1 : X.mg x1 = none) (hm2 : X.mg x2 = none) (hk : kitB (adTy ad) T1 = some k1) (hk2 : kitB (adTy ad) T2 = some k2) (hb1 : bootBuiltins x1 = some (.type T1) := by decide +kernel) (hb2 : bootBuiltins x2 = some (.type T2) := by decide +kernel)
    (hg1 : Gl X x1 := by rfl) (hg2 : Gl X x2 := by rfl) (hn1 : x1 ≠ "__name__" := by decide) (hd1 : (x1 == ("__debug__" : Str)) = false := by decide) (hn2 : x2 ≠ "__name__" := by decide) (hd2 : (x2 == ("__debug__" : Str)) = false := by decide)
    (hg : Gl X "isinstance" := by rfl) (hs : starEach [a, .Tuple [.Name x1 p2, .Name x2 p3] kk tpos] X.env = (false, eval a X.env) :: starEach [.Tuple [.Name x1 p2, .Name x2 p3] kk tpos] X.env := by rfl)
    (hs2 : starEach [.Tuple [.Name x1 p2, .Name x2 p3] kk tpos] X.env = (false, eval (.Tuple [.Name x1 p2, .Name x2 p3] kk tpos) X.env) :: starEach [] X.env := by rfl) (hpl : (backTo pos (starEach [.Tuple [.Name x1 p2, .Name x2 p3] kk tpos] X.env)).any (·.1) = false := by rfl)
    (hs3 : starEach [.Name x1 p2, .Name x2 p3] X.env = (false, eval (.Name x1 p2) X.env) :: starEach [.Name x2 p3] X.env := by rfl) (hs4 : starEach [.Name x2 p3] X.env = (false, eval (.Name x2 p3) X.env) :: starEach [] X.env := by rfl) :
    DBl B X (.Call (.Name "isinstance" p) [a, .Tuple [.Name x1 p2, .Name x2 p3] kk tpos] [] pos) δ (k1 || k2) := fun σ H S Q q =>
  (pe_callB call_isiT hg hm PyProof.Rows.boot_isinstance (pa_cons pe_D (pa_cons (pe_tup (pa_cons (pe_bltn hg1 hm1 hb1 (v := .ty T1) rfl hn1 hd1) (pa_cons (pe_bltn hg2 hm2 hb2 (v := .ty T2) rfl hn2 hd2) pa_nil hs4) hs3)) pa_nil hs2) hs) (he := hs) (hpl := hpl)).to (ha σ H S _ fun v H1 e1 r1 => by
    refine ⟨sz_of (by simp), fun tp htp => ?_⟩
    have e2 : Same H1 (upd H1 tp (.tup [.ty T1, .ty T2])) := Evl.Ex.new htp
    refine ⟨v, tp, [.ty T1, .ty T2], .type (adTy ad), [.type T1, .type T2], k1 || k2, rfl, upd_same .., .cons (.ty _) (.cons (.ty _) .nil), tyx (r1.ex e2) (nov hn), ?_, q _ _ (e1.trans e2) (.v _)⟩
    refine kitAny_cons (kit_ty hk) (fun h => ?_) fun h => by rw [h]; rfl
    rw [h]
    refine kitAny_cons (kit_ty hk2) (fun h2 => ?_) fun h => by rw [h]; rfl
    rw [h2]; exact kitAny_nil)
/-- isinstance(e, (list, tuple)) -/
def isSeq : Ad → Bool
  | .d (.i _) => false
  | _ => true
theorem r_isLT {kk : Nat} (hm : X.mg "isinstance" = none) (ha : DR B X a δ ad) (hn : ∀ v, ad ≠ .v v) (hm1 : X.mg "list" = none) (hm2 : X.mg "tuple" = none)
    (hg : Gl X "isinstance" := by rfl) (hg1 : Gl X "list" := by rfl) (hg2 : Gl X "tuple" := by rfl) (hs : starEach [a, .Tuple [.Name "list" p2, .Name "tuple" p3] kk tpos] X.env = (false, eval a X.env) :: starEach [.Tuple [.Name "list" p2, .Name "tuple" p3] kk tpos] X.env := by rfl)
    (hs2 : starEach [.Tuple [.Name "list" p2, .Name "tuple" p3] kk tpos] X.env = (false, eval (.Tuple [.Name "list" p2, .Name "tuple" p3] kk tpos) X.env) :: starEach [] X.env := by rfl) (hpl : (backTo pos (starEach [.Tuple [.Name "list" p2, .Name "tuple" p3] kk tpos] X.env)).any (·.1) = false := by rfl)
    (hs3 : starEach [.Name "list" p2, .Name "tuple" p3] X.env = (false, eval (.Name "list" p2) X.env) :: starEach [.Name "tuple" p3] X.env := by rfl) (hs4 : starEach [.Name "tuple" p3] X.env = (false, eval (.Name "tuple" p3) X.env) :: starEach [] X.env := by rfl) :
    DBl B X (.Call (.Name "isinstance" p) [a, .Tuple [.Name "list" p2, .Name "tuple" p3] kk tpos] [] pos) δ (isSeq ad) := by
  have go : ∀ k1 k2, kitB (adTy ad) "list" = some k1 → kitB (adTy ad) "tuple" = some k2 → (k1 || k2) = isSeq ad → DBl B X (.Call (.Name "isinstance" p) [a, .Tuple [.Name "list" p2, .Name "tuple" p3] kk tpos] [] pos) δ (isSeq ad) := fun k1 k2 h1 h2 e => by
    rw [← e]
    exact r_isi2 (T1 := "list") (T2 := "tuple") hm ha hn hm1 hm2 h1 h2 (hg1 := hg1) (hg2 := hg2) (hg := hg) (hs := hs) (hs2 := hs2) (hpl := hpl) (hs3 := hs3) (hs4 := hs4)
  match ad, hn with
  | .d (.i _), _ => exact go false false (by show kitB "int" "list" = _; decide +kernel) (by show kitB "int" "tuple" = _; decide +kernel) rfl
  | .d (.t _), _ => exact go false true (by show kitB "tuple" "list" = _; decide +kernel) (by show kitB "tuple" "tuple" = _; decide +kernel) rfl
  | .l _, _ => exact go true false (by show kitB "list" "list" = _; decide +kernel) (by show kitB "list" "tuple" = _; decide +kernel) rfl
  | .v v, h => exact absurd rfl (h v)
/-- e is None, of what is not None -/
theorem t_isN {j : Nat} (ha : DR B X a δ ad) (hn : ad ≠ .v .non) (hb : behindInMarks .Is (.Constant .none j p2) = false := by rfl) : DT B X (.Compare a [.Is] [.Constant .none j p2] pos) δ false := fun σ H S Q q =>
  (pt_cmpR op_isN pe_D pe_non hb).to (ha σ H S _ fun v H1 e1 r1 => by
    refine ⟨rfl, false, ?_, q H1 e1⟩
    have : ¬ v = .non := by
      rintro rfl
      cases r1 with
      | d h => cases h
      | v _ => exact hn rfl
    rw [decide_eq_false this])
/-- in, not in: an int, a tuple of ints -/
theorem inV_ints (n : Int) (ns : List Int) : inV (.int n) (ns.map V.int) = decide (n ∈ ns) := by
  unfold inV
  rw [Bool.eq_iff_iff]
  simp [eqV]
theorem t_notIn {ns : List Int} (ha : DI B X a δ n) (hb : DX B X b δ (.t (ns.map T.i))) (hc : behindInMarks .NotIn b = false := by rfl) : DT B X (.Compare a [.NotIn] [b] pos) δ (!decide (n ∈ ns)) := fun σ H S Q q =>
  (pt_cmpR op_notIn_seq pe_D pe_D hc).to (ha σ H S _ fun v H1 e1 r1 => hb σ H1 (S.to e1) _ fun w H2 e2 r2 => by
    obtain ⟨p, vs, rfl, h1, h2⟩ := r2.dat.tup
    obtain rfl := Reps.ints h2
    refine ⟨p, ns.map V.int, rfl, .inr h1, by rw [r1.int]; rfl, ?_, _, rfl, ?_⟩
    · rw [List.all_map]; exact List.all_eq_true.mpr fun _ _ => rfl
    · rw [r1.int, inV_ints]; exact q H2 (e1.trans e2))
/-- a <= b <= c -/
theorem t_leChain (ha : DI B X a δ m) (hb : DI B X b δ n) (hc : DI B X c δ l) (hm : lastMarks [.LtE, .LtE] [b, c] = false := by with_unfolding_all rfl) : DT B X (.Compare a [.LtE, .LtE] [b, c] pos) δ (decide (m ≤ n) && decide (n ≤ l)) := fun σ H S Q q =>
  (pt_chain op_le op_le pe_D pe_D pe_D hm).to (ha σ H S _ fun v H1 e1 r1 => hb σ H1 (S.to e1) _ fun w H2 e2 r2 => by
    refine ⟨m, n, r1.int, r2.int, _, rfl, ?_⟩
    by_cases h : m ≤ n
    · rw [if_pos (decide_eq_true h)]
      rw [decide_eq_true h, Bool.true_and] at q
      exact hc σ H2 (S.to (e1.trans e2)) _ fun u H3 e3 r3 => ⟨n, l, r2.int, r3.int, _, rfl, q H3 ((e1.trans e2).trans e3)⟩
    · rw [if_neg (by rw [decide_eq_false h]; exact Bool.false_ne_true)]
      rw [decide_eq_false h, Bool.false_and] at q
      exact ⟨_, rfl, q H2 (e1.trans e2)⟩)
end
/-! ### comprehensions of bools -/
section
variable {B : Hp} {X : Cx} {δ δ1 : Dl} {a e tg iter elt : Expr} {x : Str} {p pos p2 : Pos} {u v : T} {xs : List T} {scope : Scope} {own : List (Str × Nat)}
theorem lc_readB (vs : List Nat) (g : T → Bool) (bd : T → Dl) (hi : DItS B X tg iter δ xs) (hz : xs.length ≤ 50000)
    (hg : ∀ s H C cl fp x, x ∈ xs → DG B (blkX X scope s H C cl fp) tg (wipeD δ vs) x (bd x) vs)
    (he : ∀ s H C cl fp x, x ∈ xs → DBl B (blkX X scope s H C cl fp) elt (bd x) (g x))
    {σ : L2.St} {H : Hp} (S : St1 B X H σ δ) {Q : VK} (q : ∀ p H', Same H H' → H' p = some (.lst ((xs.map g).map V.bl)) → Q (.ref p) H') :
    tLc (tDI X tg iter) (uTG X scope tg) (uTT X scope []) (uTE X scope elt) vs σ H Q := by
  refine hi σ H S _ fun J H1 e1 wk D hD => ?_
  refine ⟨fun i m H' => m = xs.length - i ∧ i ≤ xs.length ∧ Same H1 H' ∧ H' D = some (.lst (((xs.take i).map g).map V.bl)), ⟨xs.length, by simp, Nat.zero_le _, Evl.Ex.new hD, upd_same ..⟩, ?_⟩
  rintro i m H' ⟨rfl, hle, s1, h1⟩
  have wk' := wk H' s1
  by_cases hlt : i < xs.length
  · refine .inr ⟨(wk'.1 i xs[i] (by rw [List.getElem?_eq_getElem hlt])).1, fun H2 => Same H1 H2 ∧ H2 D = some (.lst (((xs.take (i + 1)).map g).map V.bl)), fun H2 h => ⟨xs.length - (i + 1), by omega, rfl, hlt, h⟩, fun v H2 hy => ?_⟩
    have hx : xs[i]? = some xs[i] := List.getElem?_eq_getElem hlt
    have hmem : xs[i] ∈ xs := List.getElem_mem hlt
    obtain ⟨s2, r2⟩ := (wk'.1 i _ hx).2 v H2 hy
    intro s0 H0 C cl fp
    have S2 : St1 B X H2 (wipe σ vs) (wipeD δ vs) := ((S.to (e1.trans (s1.trans s2))).wipe vs)
    refine hg s0 H0 C cl fp _ hmem (wipe σ vs) H2 v S2 r2 _ fun σ2 S3 o => ⟨?_, ?_⟩
    · rw [wipe_ext o, wipe_ext wipe_out1]
    · intro s0 H0 C cl fp pins s I
      refine ts_nil (X := blkX X scope s0 H0 C cl fp) σ2 H2 S3 _ (fun H3 s3 => ?_) pins s I
      refine (if_pos rfl).mpr ?_
      intro s0 H0 C cl fp
      refine he s0 H0 C cl fp _ hmem σ2 H3 (S3.to s3) _ fun y H4 s4 r4 => ⟨_, s4 _ _ (s3 _ _ (s2 _ _ h1)), ?_, ?_, ?_⟩
      · rw [List.length_map, List.length_map, List.length_take]
        exact sz_lt (by omega)
      · exact Evl.Ex.mut (((s1.trans s2).trans s3).trans s4) hD
      · rw [upd_same, r4.val, List.take_add_one, hx, Option.toList_some, List.map_append, List.map_append]; rfl
  · have ei : i = xs.length := by omega
    subst ei
    rw [List.take_length] at h1
    exact .inl ⟨wk'.2 _ (Nat.le_refl _), q D H' (e1.trans s1) h1⟩
/-- all([.. for ..]) -/
theorem r_all {p3 : Pos} (g : T → Bool) (bd : T → Dl) (hm : X.mg "all" = none) (hN : X.N.Nodup) (ok : BlkOk X.N X.env.scope scope own) (hi : DItS B X tg iter δ xs) (hz : xs.length ≤ 50000)
    (hg : ∀ s H C cl fp x, x ∈ xs → DG B (blkX X scope s H C cl fp) tg (wipeD δ (own.map (·.2))) x (bd x) (own.map (·.2)))
    (he : ∀ s H C cl fp x, x ∈ xs → DBl B (blkX X scope s H C cl fp) elt (bd x) (g x)) (hc : X.calm = true := by rfl) (hs : ∀ x, foldedSetIterable iter X.env x = pure x := by intro _; rfl)
    (hgl : Gl X "all" := by rfl) (hs1 : starEach [.ListComp elt [⟨tg, iter, [], 0⟩] scope p3] X.env = (false, eval (.ListComp elt [⟨tg, iter, [], 0⟩] scope p3) X.env) :: starEach [] X.env := by rfl) (hpl : (backTo pos (starEach [] X.env)).any (·.1) = false := by rfl) :
    DBl B X (.Call (.Name "all" p) [.ListComp elt [⟨tg, iter, [], 0⟩] scope p3] [] pos) δ (xs.all g) := fun σ H S Q q =>
  (pe_callB (cr_all hc) hgl hm (by rfl) (pa_cons (pe_lc (g := uTG X scope tg) (tt := uTT X scope []) (te := uTE X scope elt) hc hN pi_D ok (fun s H C cl fp => ⟨fun pins s' σ H v u Q I r h => h _ _ _ _ _ pins s' u I r⟩)
    (fun s H C cl fp => ⟨fun pins s' σ H Q I h => h _ _ _ _ _ pins s' I⟩) (fun s H C cl fp => ⟨fun pins s' σ H Q I h => h _ _ _ _ _ pins s' I⟩) hs) pa_nil hs1) (he := hs1) (hpl := hpl)).to
  (show tLc (tDI X tg iter) (uTG X scope tg) (uTT X scope []) (uTE X scope elt) (own.map (·.2)) σ H (fun x H1 => rAll X.K [x] H1 Q) from lc_readB _ g bd hi hz hg he S fun p H' e h => ⟨p, xs.map g, rfl, SqL.of h, by
    rw [List.all_map] 
    exact q _ H' e (.v _)⟩)
/-! ### comprehensions over data read off a list -/
variable {ifs : List Expr}
theorem lc_readA {α : Type} (L : List α) (enc : α → T) (vs : List Nat) (f : α → Bool) (g : α → T) (bd : α → Dl) (hi : DItS B X tg iter δ (L.map enc)) (hz : L.length ≤ 50000)
    (hg : ∀ s H C cl fp x, x ∈ L → DG B (blkX X scope s H C cl fp) tg (wipeD δ vs) (enc x) (bd x) vs)
    (ht : ∀ s H C cl fp x, x ∈ L → DTs B (blkX X scope s H C cl fp) ifs (bd x) (f x))
    (he : ∀ s H C cl fp x, x ∈ L → f x = true → DX B (blkX X scope s H C cl fp) elt (bd x) (g x))
    {σ : L2.St} {H : Hp} (S : St1 B X H σ δ) {Q : VK} (q : ∀ p ws H', H p = none → Same H H' → H' p = some (.lst ws) → Reps X.K H' ws ((L.filter f).map g) → Q (.ref p) H') :
    tLc (tDI X tg iter) (uTG X scope tg) (uTT X scope ifs) (uTE X scope elt) vs σ H Q := by
  refine hi σ H S _ fun J H1 e1 wk D hD => ?_
  refine ⟨fun i m H' => m = L.length - i ∧ i ≤ L.length ∧ Same H1 H' ∧ ∃ ws, H' D = some (.lst ws) ∧ Reps X.K H' ws (((L.take i).filter f).map g), ⟨L.length, by simp, Nat.zero_le _, Evl.Ex.new hD, [], upd_same, .nil⟩, ?_⟩
  rintro i m H' ⟨rfl, hle, s1, ws, h1, h2⟩
  have wk' := wk H' s1
  by_cases hlt : i < L.length
  · refine .inr ⟨(wk'.1 i (enc L[i]) (by rw [List.getElem?_map, List.getElem?_eq_getElem hlt]; rfl)).1, fun H2 => Same H1 H2 ∧ ∃ ws, H2 D = some (.lst ws) ∧ Reps X.K H2 ws (((L.take (i + 1)).filter f).map g), fun H2 h => ⟨L.length - (i + 1), by omega, rfl, hlt, h⟩, fun v H2 hy => ?_⟩
    have hx : L[i]? = some L[i] := List.getElem?_eq_getElem hlt
    have hmem : L[i] ∈ L := List.getElem_mem hlt
    obtain ⟨s2, r2⟩ := (wk'.1 i (enc L[i]) (by rw [List.getElem?_map, hx]; rfl)).2 v H2 hy
    intro s0 H0 C cl fp
    have S2 : St1 B X H2 (wipe σ vs) (wipeD δ vs) := ((S.to (e1.trans (s1.trans s2))).wipe vs)
    refine hg s0 H0 C cl fp _ hmem (wipe σ vs) H2 v S2 r2 _ fun σ2 S3 o => ⟨?_, ?_⟩
    · rw [wipe_ext o, wipe_ext wipe_out1]
    · intro s0 H0 C cl fp pins s I
      refine ht s0 H0 C cl fp _ hmem σ2 H2 S3 _ (fun H3 s3 => ?_) pins s I
      have et : L.take (i + 1) = L.take i ++ [L[i]] := by rw [List.take_add_one, hx]; rfl
      cases hf : f L[i] with
      | false =>
        refine (if_neg Bool.false_ne_true).mpr ⟨(s1.trans s2).trans s3, ws, s3 _ _ (s2 _ _ h1), ?_⟩
        rw [et, List.filter_append, List.filter_cons, hf]
        simp only [Bool.false_eq_true, if_false, List.filter_nil, List.append_nil]
        exact (h2.ex s2).ex s3
      | true =>
        refine (if_pos rfl).mpr ?_
        intro s0 H0 C cl fp
        refine he s0 H0 C cl fp _ hmem hf σ2 H3 (S3.to s3) _ fun y H4 s4 r4 => ⟨ws, s4 _ _ (s3 _ _ (s2 _ _ h1)), ?_, ?_, ws ++ [y], upd_same, ?_⟩
        · rw [h2.length, List.length_map]
          have a1 := List.length_filter_le f (L.take i)
          rw [List.length_take] at a1
          exact sz_lt (by omega)
        · exact Evl.Ex.mut (((s1.trans s2).trans s3).trans s4) hD
        · rw [et, List.filter_append, List.filter_cons, hf]
          simp only [if_true, List.filter_nil, List.map_append, List.map_cons, List.map_nil]
          have t4 : TEx X.K H4 (upd H4 D (.lst (ws ++ [y]))) := TEx.lst (s4 _ _ (s3 _ _ (s2 _ _ h1)))
          exact (((h2.ex s2).ex s3).ex s4 |>.snoc r4.dat).tex t4
  · have ei : i = L.length := by omega
    subst ei
    rw [List.take_length] at h2
    refine .inl ⟨wk'.2 _ (by rw [List.length_map]; exact Nat.le_refl _), q D ws H' (e1.free hD) (e1.trans s1) h1 h2⟩
theorem n_lcA {α : Type} (L : List α) (enc : α → T) (f : α → Bool) (g : α → T) (bd : α → Dl) (hN : X.N.Nodup) (ok : BlkOk X.N X.env.scope scope own) (hi : DItS B X tg iter δ (L.map enc)) (hz : L.length ≤ 50000)
    (hg : ∀ s H C cl fp x, x ∈ L → DG B (blkX X scope s H C cl fp) tg (wipeD δ (own.map (·.2))) (enc x) (bd x) (own.map (·.2)))
    (ht : ∀ s H C cl fp x, x ∈ L → DTs B (blkX X scope s H C cl fp) ifs (bd x) (f x))
    (he : ∀ s H C cl fp x, x ∈ L → f x = true → DX B (blkX X scope s H C cl fp) elt (bd x) (g x)) (hc : X.calm = true := by rfl) (hs : ∀ x, foldedSetIterable iter X.env x = pure x := by intro _; rfl) :
    DN B X (.ListComp elt [⟨tg, iter, ifs, 0⟩] scope pos) δ ((L.filter f).map g) := fun σ H S Q q =>
  (pe_lc (g := uTG X scope tg) (tt := uTT X scope ifs) (te := uTE X scope elt) hc hN pi_D ok (fun s H C cl fp => ⟨fun pins s' σ H v u Q I r h => h _ _ _ _ _ pins s' u I r⟩)
    (fun s H C cl fp => ⟨fun pins s' σ H Q I h => h _ _ _ _ _ pins s' I⟩) (fun s H C cl fp => ⟨fun pins s' σ H Q I h => h _ _ _ _ _ pins s' I⟩) hs).to (lc_readA L enc _ f g bd hi hz hg ht he S q)
end
end Kd
-- K68U1
set_option maxRecDepth 100000
set_option maxHeartbeats 4000000
/-! The urn: rules for what draws from it. -/
namespace Kd
open PySem PySem.Spec PyProof.Rows L2
def UrnAt (H : Hp) (u : Addr) (n : Nat) : Prop := ∃ a b c, H u = some (.lst [.int a, .int b, .int c]) ∧ UrnOk n a b c
/-- all but u stays -/
def Kp (u : Addr) (H H' : Hp) : Prop := ∀ b, b ≠ u → ∀ o, H b = some o → H' b = some o
/-- H without u -/
def Hm (u : Addr) (H : Hp) : Hp := fun b => if b = u then none else H b
section
variable {P : Program} {w : World} {K : PySem.W.Frag} {B H H' H2 : Hp} {u p : Addr} {n m : Nat} {σ : L2.St} {r : Dl}
theorem Kp.refl : Kp u H H := fun _ _ _ h => h
theorem Kp.trans (a : Kp u H H') (b : Kp u H' H2) : Kp u H H2 := fun x hx o h => b x hx o (a x hx o h)
theorem _root_.L2.Same.kp (e : Same H H') : Kp u H H' := fun b _ o h => e b o h
theorem Hm.none : Hm u H u = none := by unfold Hm; rw [if_pos rfl]
theorem Hm.ne {b : Addr} (h : b ≠ u) : Hm u H b = H b := by unfold Hm; rw [if_neg h]
theorem Hm.same : Same (Hm u H) H := fun b o h => by
  by_cases e : b = u
  · rw [e, Hm.none] at h; cases h
  · rw [Hm.ne e] at h; exact h
theorem Kp.same (k : Kp u H H') : Same (Hm u H) H' := fun b o h => by
  by_cases e : b = u
  · rw [e, Hm.none] at h; cases h
  · rw [Hm.ne e] at h; exact k b e o h
theorem Kp.of_same (k : Same (Hm u H) H') : Kp u H H' := fun b e o h => k b o (by rw [Hm.ne e]; exact h)
theorem UrnAt.to (h : UrnAt H u n) (e : Same H H') : UrnAt H' u n := by
  obtain ⟨a, b, c, h1, h2⟩ := h
  exact ⟨a, b, c, e _ _ h1, h2⟩
theorem UrnAt.mono (h : UrnAt H u n) (e : n ≤ m) : UrnAt H u m := by
  obtain ⟨a, b, c, h1, h2, h3, h4, h5, h6⟩ := h
  exact ⟨a, b, c, h1, h2, h3, h4, h5, by omega⟩
theorem UrnAt.some (h : UrnAt H u n) (hp : H p = none) : p ≠ u := fun e => by
  obtain ⟨a, b, c, h1, _⟩ := h
  rw [e, h1] at hp; cases hp
theorem UrnAt.upd (h : UrnAt H u n) {o : HO} (hp : p ≠ u) : UrnAt (upd H p o) u n := by
  obtain ⟨a, b, c, h1, h2⟩ := h
  exact ⟨a, b, c, by rw [upd_ne (Ne.symm hp)]; exact h1, h2⟩
theorem Kp.tex (k : Kp u H H') (h : UrnAt H u n) : TEx K H H' := fun a xs hs => by
  obtain ⟨x, y, z, h1, _⟩ := h
  rcases hs with (hs | ⟨ob, hs⟩) | hs
  · exact .inl (.inl (k a (fun e => by rw [e, h1] at hs; cases hs) _ hs))
  · exact .inl (.inr ⟨ob, k a (fun e => by rw [e, h1] at hs; cases hs) _ hs⟩)
  · exact .inr hs
theorem Kp.mut (k : Kp u H H') (hp : H p = none) {o : HO} : Kp u H (L2.upd H' p o) := fun b hb q h => by
  rw [upd_ne (fun e => by rw [e, hp] at h; cases h)]; exact k b hb q h
theorem Sto.urn0 (S : Sto P w K B H σ (.urn u n :: r)) : UrnAt H u n ∧ B u = none := by
  obtain ⟨_, h2, h3⟩ := S.ok 0 _ rfl
  exact ⟨h3, h2⟩
theorem Sto.drawn (S : Sto P w K B H σ (.urn u n :: r)) (k : Kp u H H') (h : UrnAt H' u m) : Sto P w K B H' σ (.urn u m :: r) :=
  S.write (i := 0) (s' := .urn u m) rfl rfl rfl (k.tex S.urn0.1) (fun b hb o ho => k b hb o ho) ⟨rfl, S.urn0.2, h⟩
end
section
variable (B : Hp) (X : Cx) (u : Addr) (n m : Nat)
/-- e draws: a datum comes -/
def DU (e : Expr) (r : Dl) (R : T → Prop) : Prop := ∀ σ H, St1 B X H σ (.urn u n :: r) → ∀ Q : VK, (∀ v x H', R x → Kp u H H' → UrnAt H' u m → Rep X.K H' v x → Q v H') → tD X e σ H Q
/-- e draws: a new list comes -/
def DUN (e : Expr) (r : Dl) (R : List T → Prop) : Prop := ∀ σ H, St1 B X H σ (.urn u n :: r) → ∀ Q : VK, (∀ p ws xs H', R xs → H p = none → Kp u H H' → UrnAt H' u m → H' p = some (.lst ws) → Reps X.K H' ws xs → Q (.ref p) H') → tD X e σ H Q
/-- arguments that draw -/
def DUA (es : List Expr) (r : Dl) (R : List Ad → Prop) : Prop := ∀ σ H, St1 B X H σ (.urn u n :: r) → ∀ Q : List V → Hp → Prop, (∀ vs as H', R as → Kp u H H' → UrnAt H' u m → RepAs X.K (Hm u H') vs as → Q vs H') → tDA X es σ H Q
/-- elements that draw -/
def DUD (es : List Expr) (r : Dl) (R : List T → Prop) : Prop := ∀ σ H, St1 B X H σ (.urn u n :: r) → ∀ Q : List V → Hp → Prop, (∀ vs xs H', R xs → Kp u H H' → UrnAt H' u m → Reps X.K H' vs xs → Q vs H') → tDA X es σ H Q
/-- what is walked while it is drawn -/
def DItU (tg iter : Expr) (r : Dl) (xs : List T) : Prop := ∀ σ H, St1 B X H σ (.urn u n :: r) → ∀ R : It → Hp → Prop, (∀ J H', Same H H' → (∀ H2, Kp u H' H2 → Wk X.K J H2 xs) → R J H') → tDI X tg iter σ H R
end
section
variable {B : Hp} {X : Cx} {u : Addr} {n m l k : Nat} {r r1 : Dl} {a b e elt tg iter : Expr} {es : List Expr} {x y : Str} {p pos p2 pos' : Pos} {d : T} {xs : List T} {ad : Ad} {R R' : T → Prop} {RL RL' : List T → Prop} {RA : List Ad → Prop} {Rt : VK}
theorem DX.du (h : DX B X e (.urn u n :: r) d) : DU B X u n n e r (· = d) := fun σ H S Q q => h σ H S Q fun v H' e r' => q v d H' rfl e.kp (S.urn0.1.to e) r'.dat
theorem DN.dun (h : DN B X e (.urn u n :: r) xs) : DUN B X u n n e r (· = xs) := fun σ H S Q q => h σ H S Q fun p ws H' hn e h1 r1 => q p ws xs H' rfl hn e.kp (S.urn0.1.to e) h1 r1
theorem DU.imp (h : DU B X u n m e r R) (hR : ∀ x, R x → R' x) (hm : m ≤ l := by omega) : DU B X u n l e r R' := fun σ H S Q q => h σ H S Q fun v x H' hr k g r' => q v x H' (hR x hr) k (g.mono hm) r'
theorem DUN.imp (h : DUN B X u n m e r RL) (hR : ∀ x, RL x → RL' x) (hm : m ≤ l := by omega) : DUN B X u n l e r RL' := fun σ H S Q q => h σ H S Q fun p ws x H' hr hn k g h1 r1 => q p ws x H' (hR x hr) hn k (g.mono hm) h1 r1
/-- a + b .. of ints, the right one draws -/
theorem u_addR {i : Int} {g : Int → Prop} (ha : DI B X a (.urn u n :: r) i) (hb : DU B X u n m b r (fun x => ∃ j, x = .i j ∧ g j)) : DU B X u n m (.BinOp a .Add b pos) r (fun x => ∃ j, x = .i (i + j) ∧ g j) := fun σ H S Q q =>
  (pe_op op_add pe_D pe_D).to (ha σ H S _ fun v H1 e1 r1 => hb σ H1 (S.to e1) _ fun w x H2 ⟨j, ej, hg⟩ k2 g2 r2 => by
    subst ej
    exact ⟨i, j, r1.int, r2.int, q _ _ H2 ⟨j, rfl, hg⟩ (e1.kp.trans k2) g2 (.i _)⟩)
/-! ### stores -/
/-- x = e -/
theorem s_setU (i : Nat) (hN : X.N.Nodup) (h : DU B X u n m e r R) (hi : X.N[i + 1]? = some x := by rfl) (hx : Loc X.env.scope x := by first | exact .inl rfl | exact .inr rfl)
    (hs : swapsWith e (some (.Name x pos')) pos.line X.env = pure false := by rfl) (hf : X.fn x = true ∨ X.env.scope.names.lookup x = some .local := by first | exact .inl rfl | exact .inr rfl | assumption) :
    DS B X (.Assign [.Name x pos'] e pos) (.urn u n :: r) (fun δ' => ∃ d, R d ∧ δ' = .urn u m :: r.set i (.d d)) Rt := fun σ H S D q1 q2 =>
  (ps_set hN hi hx pe_D hs hf).to (h σ H S _ fun v d H' hr k g r' => q1 _ _ _ ⟨d, hr, rfl⟩ ((S.drawn k g).set0 (i := i + 1) (v := some v) (s := .d d) ⟨v, rfl, r'⟩ rfl) (k.tex S.urn0.1))
/-- an object that is new takes the slot -/
theorem Sto.setNU {P : Program} {w : World} {K : PySem.W.Frag} {H H' : Hp} {σ : L2.St} {q : Addr} {s : Sd} (S : Sto P w K B H σ (.urn u n :: r)) (kp : Kp u H H') (g : UrnAt H' u m) (hn : H q = none) (i : Nat) (h : SdOk P w K B H' (some (some (.ref q))) s) (hs : s.adr = some q) :
    Sto P w K B H' (σ.set (i + 1) (some (.ref q))) (.urn u m :: r.set i s) := by
  -- the urn is drawn first, with the new object out of sight
  have hq : q ≠ u := S.urn0.1.some hn
  have k1 : Kp u H (Hm q H') := fun b hb o ho => by
    rw [Hm.ne (fun z => by rw [z, hn] at ho; cases ho)]; exact kp b hb o ho
  have g1 : UrnAt (Hm q H') u m := by
    obtain ⟨a, b, c, h1, h2⟩ := g
    exact ⟨a, b, c, by rw [Hm.ne (Ne.symm hq)]; exact h1, h2⟩
  exact (S.drawn k1 g1).setN (i := i + 1) Hm.same Hm.none h hs
/-- x = a new list -/
theorem s_setUN (i : Nat) (hN : X.N.Nodup) (h : DUN B X u n m e r RL) (hi : X.N[i + 1]? = some x := by rfl) (hx : Loc X.env.scope x := by first | exact .inl rfl | exact .inr rfl)
    (hs : swapsWith e (some (.Name x pos')) pos.line X.env = pure false := by rfl) (hf : X.fn x = true ∨ X.env.scope.names.lookup x = some .local := by first | exact .inl rfl | exact .inr rfl | assumption) :
    DS B X (.Assign [.Name x pos'] e pos) (.urn u n :: r) (fun δ' => ∃ q xs, RL xs ∧ δ' = .urn u m :: r.set i (.own q xs)) Rt := fun σ H S D q1 q2 =>
  (ps_set hN hi hx pe_D hs hf).to (h σ H S _ fun q ws xs H' hr hn k g h1 r1 => by
    have hB : B q = none := by
      cases z : B q with
      | none => rfl
      | some o => rw [S.ex q o z] at hn; cases hn
    exact q1 _ _ _ ⟨q, xs, hr, rfl⟩ (S.setNU k g hn i (s := .own q xs) ⟨rfl, hB, ws, h1, r1⟩ rfl) (k.tex S.urn0.1))
/-- return e -/
theorem s_retU {M : Dl → Prop} (h : DU B X u n m e r R) (hR : ∀ v d H', R d → Same B H' → UrnAt H' u m → Rep X.K H' v d → Rt v H') : DS B X (.Return (some e) pos) (.urn u n :: r) M Rt := fun σ H S D q1 q2 =>
  (ps_ret pe_D).to (h σ H S _ fun v d H' hr k g r' => q2 _ _ (hR v d H' hr (S.drawn k g).ex g r'))
/-! ### arguments, elements -/
theorem ud_nil : DUD B X u n n [] r (· = []) := fun σ H S Q q => dd_nil σ H S Q fun vs H' e r' => q vs [] H' rfl e.kp (S.urn0.1.to e) r'
theorem ud_cons (ha : DU B X u n m a r R) (hr : DUD B X u m l es r RL) (hs : starEach (a :: es) X.env = (false, eval a X.env) :: starEach es X.env := by rfl) : DUD B X u n l (a :: es) r (fun xs => ∃ d ds, xs = d :: ds ∧ R d ∧ RL ds) := fun σ H S Q q =>
  (pa_cons pe_D pa_D hs).to (ha σ H S _ fun v d H1 hd k1 g1 r1 => hr σ H1 (S.drawn k1 g1) _ fun vs ds H2 hds k2 g2 r2 => q _ _ H2 ⟨d, ds, rfl, hd, hds⟩ (k1.trans k2) g2 (.cons (Rep.tex (k2.tex g1) _ r1) r2))
/-- [a, b, ..] -/
theorem un_lst (h : DUD B X u n m es r RL) (hl : ∀ xs, RL xs → xs.length ≤ 100000) : DUN B X u n m (.List es pos) r RL := fun σ H S Q q =>
  (pe_lst pa_D).to (h σ H S _ fun vs xs H1 hr k g r1 => ⟨sz_of (by rw [r1.length]; exact hl xs hr), fun p hp => by
    have hu : p ≠ u := g.some hp
    have hp0 : H p = none := by
      cases z : H p with
      | none => rfl
      | some o => rw [k p hu o z] at hp; cases hp
    exact q p vs xs _ hr hp0 (k.trans (Same.kp (Evl.Ex.new hp))) (g.upd hu) (upd_same ..) (r1.ex (Evl.Ex.new hp))⟩)
theorem Rep.hm {K : PySem.W.Frag} {H : Hp} {v : V} (g : UrnAt H u n) (h : Rep K H v d) : Rep K (Hm u H) v d := Rep.tex (fun a xs hs => by
  obtain ⟨x, y, z, h1, _⟩ := g
  rcases hs with (hs | ⟨ob, hs⟩) | hs
  · exact .inl (.inl (by rw [Hm.ne (fun e => by rw [e, h1] at hs; cases hs)]; exact hs))
  · exact .inl (.inr ⟨ob, by rw [Hm.ne (fun e => by rw [e, h1] at hs; cases hs)]; exact hs⟩)
  · exact .inr hs) _ h
theorem Reps.hm {K : PySem.W.Frag} {H : Hp} {vs : List V} (g : UrnAt H u n) (h : Reps K H vs xs) : Reps K (Hm u H) vs xs := Reps.tex (fun a xs hs => by
  obtain ⟨x, y, z, h1, _⟩ := g
  rcases hs with (hs | ⟨ob, hs⟩) | hs
  · exact .inl (.inl (by rw [Hm.ne (fun e => by rw [e, h1] at hs; cases hs)]; exact hs))
  · exact .inl (.inr ⟨ob, by rw [Hm.ne (fun e => by rw [e, h1] at hs; cases hs)]; exact hs⟩)
  · exact .inr hs) _ h
theorem ua_nil : DUA B X u n n [] r (· = []) := fun σ H S Q q => da_nil σ H S Q fun vs H' e r' => q vs [] H' rfl e.kp (S.urn0.1.to e) (by cases r'; exact .nil)

theorem ua_X (ha : DX B X a (.urn u n :: r) d) (hr : DUA B X u n m es r RA) (hs : starEach (a :: es) X.env = (false, eval a X.env) :: starEach es X.env := by rfl) : DUA B X u n m (a :: es) r (fun as => ∃ bs, as = .d d :: bs ∧ RA bs) := fun σ H S Q q =>
  (pa_cons pe_D pa_D hs).to (ha σ H S _ fun v H1 e1 r1 => hr σ H1 (S.to e1) _ fun vs as H2 has k2 g2 r2 => q _ _ H2 ⟨as, rfl, has⟩ (e1.kp.trans k2) g2 (.cons (.d (Rep.hm g2 (Rep.tex (k2.tex (S.urn0.1.to e1)) _ r1.dat))) r2))
theorem ua_U (ha : DU B X u n m a r R) (hr : DUA B X u m l es r RA) (hs : starEach (a :: es) X.env = (false, eval a X.env) :: starEach es X.env := by rfl) : DUA B X u n l (a :: es) r (fun as => ∃ d bs, as = .d d :: bs ∧ R d ∧ RA bs) := fun σ H S Q q =>
  (pa_cons pe_D pa_D hs).to (ha σ H S _ fun v d H1 hd k1 g1 r1 => hr σ H1 (S.drawn k1 g1) _ fun vs as H2 has k2 g2 r2 => q _ _ H2 ⟨d, as, rfl, hd, has⟩ (k1.trans k2) g2 (.cons (.d (Rep.hm g2 (Rep.tex (k2.tex g1) _ r1))) r2))
/-- a new list, the last -/
theorem ua_L (ha : DUN B X u n m a r RL) (hs : starEach [a] X.env = (false, eval a X.env) :: starEach [] X.env := by rfl) : DUA B X u n m [a] r (fun as => ∃ xs, as = [.l xs] ∧ RL xs) := fun σ H S Q q =>
  (pa_cons pe_D pa_nil hs).to (ha σ H S _ fun p ws xs H1 hr hn k1 g1 h1 r1 => q _ _ H1 ⟨xs, rfl, hr⟩ k1 g1 (.cons (.l (SqL.of (by rw [Hm.ne (S.urn0.1.some hn)]; exact h1)) (r1.hm g1)) .nil))
/-- a list of one's own, the last -/
theorem ua_own (i : Nat) {q : Addr} (h : r[i]? = some (.own q xs)) (hN : X.N[i + 1]? = some x := by rfl)
    (hv : Vis X.env.scope x := by first | exact Or.inl rfl | exact Or.inr (Or.inl rfl) | exact Or.inr (Or.inr rfl))
    (hd : (x == ("__debug__" : Str)) = false := by decide) (hcd : (x == ("__classdict__" : Str)) = false := by decide) (hs : starEach [.Name x p] X.env = (false, eval (.Name x p) X.env) :: starEach [] X.env := by rfl) : DUA B X u n n [.Name x p] r (fun as => as = [.l xs]) := fun σ H S Q q' =>
  (pa_cons (pe_var hN hv hd hcd) pa_nil hs).to (by
    obtain ⟨h1, h2, vs, h3, h4⟩ := S.ok (i + 1) _ (by simpa using h)
    have hq : q ≠ u := fun e => absurd (S.sep 0 (i + 1) (.urn u n) (.own q xs) u rfl (by simpa using h) rfl (by rw [e]; rfl)) (by omega)
    exact ⟨_, h1, q' _ _ H rfl Kp.refl S.urn0.1 (.cons (.l (SqL.of (by rw [Hm.ne hq]; exact h3)) (h4.hm S.urn0.1)) .nil)⟩)
/-! ### a def that draws -/
def spU (K : PySem.W.Frag) (k : Nat) (C : List Ad → (T → Prop) → Prop) : Sp := fun vs H Q _ => ∃ u n ws as R, vs = .ref u :: ws ∧ UrnAt H u n ∧ n + k ≤ 1000000 ∧ RepAs K (Hm u H) ws as ∧ C as R ∧ ∀ v d H', R d → Kp u H H' → UrnAt H' u (n + k) → Rep K H' v d → Q v H'
theorem u_call {C : List Ad → (T → Prop) → Prop} {kk : Nat} {ps : List Str} {p0 : Pos} {y0 : Str} (G : FnAt X.prog X.w X.K X.mg X.base kk x ps (spU X.K k C)) (hr : Room kk X.A) (ha : DUA B X u n m es r RA) (hC : ∀ as, RA as → C as R) (hn : m + k ≤ 1000000) (h0 : X.N[0]? = some y0 := by rfl)
    (hv : Vis X.env.scope y0 := by first | exact Or.inl rfl | exact Or.inr (Or.inl rfl) | exact Or.inr (Or.inr rfl))
    (hd0 : (y0 == ("__debug__" : Str)) = false := by decide) (hcd0 : (y0 == ("__classdict__" : Str)) = false := by decide)
    (hg : Gl X x := by rfl) (hdb : (x == ("__debug__" : Str)) = false := by decide) (he : starEach (.Name y0 p0 :: es) X.env = (false, eval (.Name y0 p0) X.env) :: starEach es X.env := by rfl) (hpl : (backTo pos (starEach es X.env)).any (·.1) = false := by rfl) :
    DU B X u n (m + k) (.Call (.Name x p) (.Name y0 p0 :: es) [] pos) r R := fun σ H S Q q => by
  obtain ⟨f, fd, G, gm, kp, bd⟩ := G.ex
  refine (pe_call G hr hg gm kp bd .nil pass0 pa_D hdb he hpl).to ((pa_cons (pe_var h0 hv hd0 hcd0) pa_D he).to ⟨_, (S.ok 0 _ rfl).1, ha σ H S _ fun vs as H1 has k1 g1 r1 => ?_⟩)
  show spU X.K k C ((V.ref u :: vs) ++ []) H1 Q E0
  rw [List.append_nil]
  exact ⟨u, m, vs, as, R, rfl, g1, hn, r1, hC as has, fun v d H' hd k2 g2 r2 => q v d H' hd (k1.trans k2) g2 r2⟩
/-- tuple(a new list) -/
theorem u_tup (hm : X.mg "tuple" = none) (ha : DUN B X u n m a r RL) (hg : Gl X "tuple" := by rfl) (hs : starEach [a] X.env = (false, eval a X.env) :: starEach [] X.env := by rfl) (hpl : (backTo pos (starEach [] X.env)).any (·.1) = false := by rfl) :
    DU B X u n m (.Call (.Name "tuple" p) [a] [] pos) r (fun x => ∃ xs, x = .t xs ∧ RL xs) := fun σ H S Q q =>
  (pe_callTy call_tuple_of hg hm (by decide +kernel) (pa_cons pe_D pa_nil hs) (by decide) (by decide) hs hpl).to (ha σ H S _ fun q0 ws xs H1 hr hn k1 g1 h1 r1 => by
    refine ⟨q0, ws, rfl, .inl ⟨SqL.of h1, fun l hl => ?_⟩⟩
    exact q _ (.t xs) _ ⟨xs, rfl, hr⟩ (k1.trans (Same.kp (Evl.Ex.new hl))) (g1.upd (g1.some hl)) (.t (SqT.of upd_same) (r1.ex (Evl.Ex.new hl))))
/-! ### walks -/
theorem DItT.iu (h : DItT B X tg iter (.urn u n :: r) xs) : DItU B X u n tg iter r xs := fun σ H S R q => h σ H S R fun J H' e k => q J H' e fun H2 k2 =>
  k H2 (fun b o ho => k2 b (fun z => by rw [z, S.urn0.2] at ho; cases ho) o (e b o (S.ex b o ho))) (k2.tex (S.urn0.1.to e))
/-- a list of one's own -/
theorem iu_own (i : Nat) {q : Addr} (h : r[i]? = some (.own q xs)) (hN : X.N[i + 1]? = some x := by rfl)
    (hv : Vis X.env.scope x := by first | exact Or.inl rfl | exact Or.inr (Or.inl rfl) | exact Or.inr (Or.inr rfl))
    (hd : (x == ("__debug__" : Str)) = false := by decide) (hcd : (x == ("__classdict__" : Str)) = false := by decide) : DItU B X u n tg (.Name x p) r xs := fun σ H S R k => by
  obtain ⟨h1, h2, vs, h3, h4⟩ := S.ok (i + 1) _ (by simpa using h)
  have hq : q ≠ u := fun e => absurd (S.sep 0 (i + 1) (.urn u n) (.own q xs) u rfl (by simpa using h) rfl (by rw [e]; rfl)) (by omega)
  exact (pi_list (pe_var hN hv hd hcd)).to ⟨_, h1, q, rfl, ⟨vs, SqL.of h3⟩, k _ H (Same.refl H) fun H2 k2 => wk_list (SqL.of (k2 q hq _ h3)) (Reps.tex (k2.tex S.urn0.1) _ h4)⟩
variable {scope : Scope} {own : List (Str × Nat)} {Rel : T → T → Prop} {bd : T → Dl}
theorem lc_readU (vs : List Nat) (k : Nat) (hi : DItU B X u n tg iter r xs) (hz : xs.length ≤ 50000)
    (hg : ∀ s H C cl fp x m, x ∈ xs → DG B (blkX X scope s H C cl fp) tg (wipeD (.urn u m :: r) vs) x (.urn u m :: bd x) vs)
    (he : ∀ s H C cl fp (i : Nat) x, xs[i]? = some x → DU B (blkX X scope s H C cl fp) u (n + k * i) (n + k * (i + 1)) elt (bd x) (Rel x))
    {σ : L2.St} {H : Hp} (S : St1 B X H σ (.urn u n :: r)) {Q : VK} (q : ∀ p ws ys H', H p = none → Kp u H H' → UrnAt H' u (n + k * xs.length) → H' p = some (.lst ws) → Reps X.K H' ws ys → Paired Rel xs ys → Q (.ref p) H') :
    tLc (tDI X tg iter) (uTG X scope tg) (uTT X scope []) (uTE X scope elt) vs σ H Q := by
  refine hi σ H S _ fun J H1 e1 wk D hD => ?_
  have gu : UrnAt H1 u n := S.urn0.1.to e1
  have hDu : D ≠ u := gu.some hD
  refine ⟨fun i m H' => m = xs.length - i ∧ i ≤ xs.length ∧ Kp u H1 H' ∧ UrnAt H' u (n + k * i) ∧ ∃ ws ys, H' D = some (.lst ws) ∧ Reps X.K H' ws ys ∧ Paired Rel (xs.take i) ys, ⟨xs.length, by simp, Nat.zero_le _, Same.kp (Evl.Ex.new hD), gu.upd hDu, [], [], upd_same, .nil, .nil⟩, ?_⟩
  rintro i m H' ⟨rfl, hle, k1, g1, ws, ys, h1, h2, h3⟩
  have wk' := wk H' k1
  by_cases hlt : i < xs.length
  · have hx : xs[i]? = some xs[i] := List.getElem?_eq_getElem hlt
    have hmem : xs[i] ∈ xs := List.getElem_mem hlt
    refine .inr ⟨(wk'.1 i _ hx).1, fun H2 => Kp u H1 H2 ∧ UrnAt H2 u (n + k * (i + 1)) ∧ ∃ ws ys, H2 D = some (.lst ws) ∧ Reps X.K H2 ws ys ∧ Paired Rel (xs.take (i + 1)) ys, fun H2 h => ⟨xs.length - (i + 1), by omega, rfl, hlt, h⟩, fun v H2 hy => ?_⟩
    obtain ⟨s2, r2⟩ := (wk'.1 i _ hx).2 v H2 hy
    intro s0 H0 C cl fp
    have S1 : St1 B X H2 σ (.urn u (n + k * i) :: r) := (((S.to e1).drawn k1 g1).to s2)
    refine hg s0 H0 C cl fp _ (n + k * i) hmem (wipe σ vs) H2 v (S1.wipe vs) r2 _ fun σ2 S3 o => ⟨?_, ?_⟩
    · rw [wipe_ext o, wipe_ext wipe_out1]
    · intro s0 H0 C cl fp pins s I
      refine ts_nil (B := B) (X := blkX X scope s0 H0 C cl fp) (δ := .urn u (n + k * i) :: bd xs[i]) σ2 H2 S3 _ (fun H3 s3 => ?_) pins s I
      have et : xs.take (i + 1) = xs.take i ++ [xs[i]] := by rw [List.take_add_one, hx]; rfl
      refine (if_pos rfl).mpr ?_
      intro s0 H0 C cl fp
      refine he s0 H0 C cl fp i _ hx σ2 H3 (S3.to s3) _ fun y d H4 hd k4 g4 r4 => ⟨ws, k4 _ hDu _ (s3 _ _ (s2 _ _ h1)), ?_, ?_, g4.upd hDu, ws ++ [y], ys ++ [d], upd_same, ?_, ?_⟩
      · have := h2.length
        have := Paired.length h3
        rw [List.length_take] at this
        exact sz_lt (by omega)
      · exact Kp.mut (((k1.trans (Same.kp s2)).trans (Same.kp s3)).trans k4) hD
      · have t3 : TEx X.K H' H4 := (s2.tex.trans s3.tex).trans (k4.tex (S3.to s3).urn0.1)
        have t4 : TEx X.K H4 (L2.upd H4 D (.lst (ws ++ [y]))) := TEx.lst (k4 _ hDu _ (s3 _ _ (s2 _ _ h1)))
        exact Reps.tex t4 _ ((Reps.tex t3 _ h2).snoc r4)
      · rw [et]
        exact Paired.snoc h3 hd
  · have ei : i = xs.length := by omega
    subst ei
    rw [List.take_length] at h3
    refine .inl ⟨wk'.2 _ (Nat.le_refl _), q D ws ys H' (e1.free hD) (e1.kp.trans k1) g1 h1 h2 h3⟩
/-- [e for .. in ..] -/
theorem un_lc (k : Nat) (hN : X.N.Nodup) (ok : BlkOk X.N X.env.scope scope own) (hi : DItU B X u n tg iter r xs) (hz : xs.length ≤ 50000)
    (hg : ∀ s H C cl fp x m, x ∈ xs → DG B (blkX X scope s H C cl fp) tg (wipeD (.urn u m :: r) (own.map (·.2))) x (.urn u m :: bd x) (own.map (·.2)))
    (he : ∀ s H C cl fp (i : Nat) x, xs[i]? = some x → DU B (blkX X scope s H C cl fp) u (n + k * i) (n + k * (i + 1)) elt (bd x) (Rel x))
    (hc : X.calm = true := by rfl) (hs : ∀ x, foldedSetIterable iter X.env x = pure x := by intro _; rfl) :
    DUN B X u n (n + k * xs.length) (.ListComp elt [⟨tg, iter, [], 0⟩] scope pos) r (fun ys => Paired Rel xs ys) := fun σ H S Q q =>
  (pe_lc (g := uTG X scope tg) (tt := uTT X scope []) (te := uTE X scope elt) hc hN pi_D ok (fun s H C cl fp => ⟨fun pins s' σ H v u Q I r h => h _ _ _ _ _ pins s' u I r⟩)
    (fun s H C cl fp => ⟨fun pins s' σ H Q I h => h _ _ _ _ _ pins s' I⟩) (fun s H C cl fp => ⟨fun pins s' σ H Q I h => h _ _ _ _ _ pins s' I⟩) hs).to (lc_readU _ k hi hz hg he S fun p ws ys H' h1 h2 h3 h4 h5 h6 => q p ws ys H' h6 h1 h2 h3 h4 h5)
end
end Kd
-- K68U2
set_option maxRecDepth 100000
set_option maxHeartbeats 4000000
/-! The urn: a def that draws; _law_take. -/
namespace Kd
open PySem PySem.Spec PyProof.Rows L2
section
variable {P : Program} {w : World} {K : PySem.W.Frag} {mg : Str → Option Value} {base : Heap} {x y0 : Str} {st : Stmt} {N' ps : List Str} {k kk : Nat}
theorem Sto.cons_urn {H : Hp} {u : Addr} {n : Nat} {σ : L2.St} {δ : Dl} (S : Sto P w K (Hm u H) (Hm u H) σ δ) (g : UrnAt H u n) : Sto P w K (Hm u H) H (some (.ref u) :: σ) (.urn u n :: δ) := by
  have S' := S.to (H' := H) Hm.same
  have ne : ∀ (i : Nat) (s : Sd), δ[i]? = some s → s.adr ≠ some u := fun i s hs ha => by
    obtain ⟨⟨o, ho⟩, _⟩ := (S.ok i s hs).adr_in ha
    rw [Hm.none] at ho; cases ho
  refine ⟨Hm.same, by rw [List.length_cons, List.length_cons, S.len], fun i s hs => ?_, fun i j s s' p h1 h2 h3 h4 => ?_⟩
  · cases i with
    | zero => simp at hs; subst hs; exact ⟨rfl, Hm.none, g⟩
    | succ i => simp at hs; simpa using S'.ok i s hs
  · cases i with
    | zero =>
      cases j with
      | zero => rfl
      | succ j => simp at h1 h2; subst h1; cases h3; exact absurd h4 (ne j s' h2)
    | succ i =>
      cases j with
      | zero => simp at h1 h2; subst h2; cases h4; exact absurd h3 (ne i s h1)
      | succ j => simp at h1 h2; rw [S.sep i j s s' p h1 h2 h3 h4]
theorem sto_startU {H : Hp} {u : Addr} {n : Nat} {vs : List V} {as : List Ad} (g : UrnAt H u n) (r : RepAs K (Hm u H) vs as) (hl : as.length ≤ N'.length) :
    ∃ δ1, Paired Given as δ1 ∧ Sto P w K (Hm u H) H (L2.start (y0 :: N') (.ref u :: vs)) (.urn u n :: (δ1 ++ List.replicate (N'.length - as.length) .no)) := by
  obtain ⟨δ1, g1, S1⟩ := sto_start (P := P) (w := w) (N := N') r hl
  refine ⟨δ1, g1, ?_⟩
  have e : L2.start (y0 :: N') (.ref u :: vs) = some (.ref u) :: L2.start N' vs := by
    unfold L2.start
    simp
  rw [e]
  exact S1.cons_urn g
theorem Def.u {C : List Ad → (T → Prop) → Prop} (D : Def K mg x st ps) (S : FnScope (y0 :: N') ps (defScope st)) (hl : ps.length ≤ N'.length + 1) (len : ∀ as R, C as R → as.length + 1 = ps.length)
    (hb : ∀ (f : Addr) (cdv : Value) (A : Around) (outer : List Env) (s : Shared) (H : Hp) (E : XK), Room k (bdX P w K mg base (y0 :: N') x st f cdv A outer s H E).A → ∀ u n as R δ1, C as R → n + kk ≤ 1000000 → Paired Given as δ1 →
      DSs (Hm u H) (bdX P w K mg base (y0 :: N') x st f cdv A outer s H E) (defBody st) (.urn u n :: (δ1 ++ List.replicate (N'.length - as.length) .no)) (fun _ => False) (fun v H' => ∃ d, R d ∧ Rep K H' v d ∧ Same (Hm u H) H' ∧ UrnAt H' u (n + kk))) : FnAt P w K mg base (k + 1) x ps (spU K kk C) := by
  obtain ⟨f, fd, Fn, gm, bd⟩ := D.ex
  refine ⟨f, fd, Fn.ok S (fun vs H Q E h => ?_) (fun cdv A outer s H vs Q E hr h => ?_), gm, Fn.kp, bd⟩
  · obtain ⟨u, n, ws, as, R, rfl, _, _, r, hC, _⟩ := h
    rw [List.length_cons, Paired.length r, len as R hC]
  · obtain ⟨u, n, ws, as, R, rfl, g, hn, r, hC, q⟩ := h
    have hlen := len as R hC
    obtain ⟨δ1, g1, S1⟩ := sto_startU (P := P) (w := w) (N' := N') (y0 := y0) g r (by omega)
    exact ⟨_, pss_D, hb f cdv A outer s H E hr u n as R δ1 hC hn g1 (L2.start (y0 :: N') (.ref u :: ws)) H S1 _ (fun _ _ _ z => z.elim) fun v H' ⟨d, h1, h2, h3, h4⟩ => q v d H' h1 (Kp.of_same h3) h4 h2⟩
end
section
variable {B : Hp} {X : Cx} {u : Addr} {n m : Nat} {r : Dl} {sts : List Stmt} {M : Dl → Prop} {Rt : VK}
/-- the urn as a list of one's own -/
theorem ss_urn (h : ∀ a b c, UrnOk n a b c → DSs B X sts (.own u [.i a, .i b, .i c] :: r) M Rt) : DSs B X sts (.urn u n :: r) M Rt := fun σ H S => by
  obtain ⟨q1, q2, a, b, c, q3, q4⟩ := S.ok 0 _ rfl
  refine h a b c q4 σ H ⟨S.ex, S.len, fun i s hs => ?_, fun i j s s' p h1 h2 h3 h4 => ?_⟩
  · cases i with
    | zero => simp at hs; subst hs; exact ⟨q1, q2, _, q3, .cons (.i _) (.cons (.i _) (.cons (.i _) .nil))⟩
    | succ i => exact S.ok (i + 1) s (by simpa using hs)
  · have f : ∀ (i : Nat) (s : Sd), (Sd.own u [.i a, .i b, .i c] :: r)[i]? = some s → s.adr = some p → ∃ s', (Sd.urn u n :: r)[i]? = some s' ∧ s'.adr = some p := fun i s hs ha => by
      cases i with
      | zero => simp at hs; subst hs; exact ⟨_, rfl, ha⟩
      | succ i => exact ⟨s, by simpa using hs, ha⟩
    obtain ⟨t, a1, a2⟩ := f i s h1 h3
    obtain ⟨t', b1, b2⟩ := f j s' h2 h4
    exact S.sep i j t t' p a1 b1 a2 b2
/-- .. at a return -/
theorem s_retC {e : Expr} {pos : Pos} {v : T} {a b c : Int} (h : DX B X e (.own u [.i a, .i b, .i c] :: r) v) (hu : UrnOk m a b c) (hR : ∀ w H', Same B H' → UrnAt H' u m → Rep X.K H' w v → Rt w H') : DS B X (.Return (some e) pos) (.own u [.i a, .i b, .i c] :: r) M Rt := fun σ H S D q1 q2 =>
  (ps_ret pe_D).to (h σ H S _ fun w H' e r' => q2 _ _ (by
    have S' := S.to e
    obtain ⟨g1, g2, vs, g3, g4⟩ := S'.ok 0 _ rfl
    refine hR w H' S'.ex ⟨a, b, c, ?_, hu⟩ r'.dat
    cases g4 with
    | cons x1 t => cases t with
      | cons x2 t => cases t with
        | cons x3 t => cases t; rw [x1.int, x2.int, x3.int] at g3; exact g3))
end
def FTake (as : List Ad) (R : T → Prop) : Prop := ∃ low : Nat, 0 < low ∧ low ≤ 1000 ∧ as = [.d (.i (low : Nat))] ∧ R = fun d => ∃ t : Nat, d = .i (t : Nat) ∧ t < low
abbrev sTake : Stmt := topS 40
theorem scTake : FnScope ["_law_urn", "_law_low_so", "_law_taken_so", "_law_once", "_law_far", "_law_twice"] ["_law_urn", "_law_low_so"] (defScope sTake) := ⟨rfl, rfl, rfl, by decide +kernel, rfl, by decide +kernel, by decide +kernel⟩
section
variable {P : Program} {w : World} {K : PySem.W.Frag} {mg : Str → Option Value} {base : Heap}
theorem ok_take (D : Def K mg "_law_take" sTake ["_law_urn", "_law_low_so"]) (mi : mg "int" = none) : FnAt P w K mg base 1 "_law_take" ["_law_urn", "_law_low_so"] (spU K 1 FTake) := by
  refine D.u scTake (by decide) (fun as R h => ?_) fun f cdv A outer s H E hr u n as R δ1 hC hn g => ?_
  · obtain ⟨_, _, _, rfl, _⟩ := h; rfl
  · obtain ⟨low, h1, h2, rfl, rfl⟩ := hC
    cases g with
    | cons g t =>
    cases t
    cases g
    refine ss_urn fun a b c hu => ?_
    obtain ⟨u1, u2, u3, u4, u5⟩ := hu
    have mod_lt : ∀ z : Int, ∃ t : Nat, z % (low : Int) = t ∧ t < low := fun z => by
      have g1 := Int.emod_nonneg z (b := (low : Int)) (by omega)
      have g2 := Int.emod_lt_of_pos z (b := (low : Int)) (by omega)
      exact ⟨(z % (low : Int)).toNat, by omega, by omega⟩
    refine ss_set (s_if (M := fun δ' => δ' = _) (t_gt (r_ixL (r_var 0) r_int rfl) r_int) (fun _ => ?_) (fun _ => ss_nil rfl)) ?_
    · refine ss_set (s_set 2 scTake.nd (r_mod (r_intI mi (r_ixL (r_var 0) r_int rfl)) (r_var 1) (by omega))) ?_
      refine ss_set (s_put 0 (j := 0) rfl (r_divW (r_ixL (r_var 0) r_int rfl) (r_var 1) (wide_div (b := 10) (by omega) (by omega) (by decide) (by decide))) r_int (by simp)) ?_
      obtain ⟨t, ht, hl⟩ := mod_lt a
      refine ss_one (s_retC (m := n + 1) (v := .i (a % (low : Int))) (a := a / (low : Int)) (b := b) (c := c) (r_var 2) ⟨Int.ediv_nonneg u1 (by omega), u2, u3, u4, by omega⟩ fun w H' e g r => ⟨_, ⟨t, by rw [ht], hl⟩, r, e, g⟩)
    · refine ss_set (s_put 0 (j := 2) rfl (r_add (r_ixL (r_var 0) r_int rfl) r_int) r_int (by simp)) ?_
      refine ss_set (s_set 3 scTake.nd (r_mod (r_intI mi (r_mul (r_add (r_ixL (r_var 0) r_int rfl) (r_mul r_int (r_ixL (r_var 0) r_int rfl) (.inl (by decide)))) (r_add r_int (r_ixL (r_var 0) r_int rfl)) (.inr ?_))) r_int (by decide))) ?_
      · omega
      refine ss_set (s_set 4 scTake.nd (r_add (r_mod (r_intI mi (r_var 3)) r_int (by decide)) r_int)) ?_
      refine ss_set (s_set 5 scTake.nd (r_mod (r_intI mi (r_mul (r_add (r_add (r_var 3) (r_ixL (r_var 0) r_int rfl)) (r_divW (r_ixL (r_var 0) r_int rfl) r_int (wide_div (b := 30) (by decide) (by decide) (by decide) (by decide)))) (r_var 4) (.inr ?_))) r_int (by decide))) ?_
      · omega
      refine ss_one (s_retC (m := n + 1) (a := a) (b := b) (c := c + 1) (r_mod (r_intI mi (r_divW (r_mod (r_intI mi (r_add (r_mul (r_var 5) r_int (.inr (by decide))) (r_var 3))) r_int (by decide)) r_int (wide_div (b := 30) (by decide) (by decide) (by decide) (by decide)))) (r_var 1) (by omega)) ⟨u1, u2, u3, by omega, by omega⟩ fun w H' e g r => ?_)
      obtain ⟨t, ht, hl⟩ := mod_lt (_ / 64)
      exact ⟨_, ⟨t, by rw [ht], hl⟩, r, e, g⟩
end
end Kd
-- K68U3
set_option maxRecDepth 100000
set_option maxHeartbeats 4000000
/-! The urn: _law_of; sets; loops. -/
namespace Kd
open PySem PySem.Spec PyProof.Rows L2
section
variable {B : Hp} {X : Cx} {u : Addr} {n m l k : Nat} {r r1 : Dl} {a b e elt tg iter : Expr} {es : List Expr} {body : List Stmt} {x y : Str} {p p2 pos pos2 pos' : Pos} {d : T} {xs : List T} {R R' : T → Prop} {RL RL' : List T → Prop} {Rt : VK}
theorem atI_nat {α : Type} {xs : List α} {t : Nat} (h : t < xs.length) : L2.atI xs (t : Int) = some xs[t] := atI_map (ixN_nat h) (List.getElem?_eq_getElem h)
/-- a list of the entry, the place is drawn -/
theorem u_ixB (i : Nat) {q : Addr} (h : r[i]? = some (.bas q xs)) (hb : DU B X u n m b r (fun x => ∃ t : Nat, x = .i (t : Nat) ∧ t < xs.length)) (hN : X.N[i + 1]? = some x := by rfl)
    (hv : Vis X.env.scope x := by first | exact Or.inl rfl | exact Or.inr (Or.inl rfl) | exact Or.inr (Or.inr rfl))
    (hd : (x == ("__debug__" : Str)) = false := by decide) (hcd : (x == ("__classdict__" : Str)) = false := by decide) (hs : PlainIx b := by exact fun _ _ => rfl) : DU B X u n m (.Subscript (.Name x p) b pos) r (· ∈ xs) := fun σ H S Q q' =>
  (pe_ix ix_list (pe_var hN hv hd hcd) pe_D hs).to (by
    obtain ⟨h1, vs, h3, h4⟩ := S.ok (i + 1) _ (by simpa using h)
    refine ⟨_, h1, hb σ H S _ fun w z H2 ⟨t, ht, hl⟩ k2 g2 r2 => ?_⟩
    subst ht
    have S2 := S.drawn k2 g2
    obtain ⟨z, h5, h6⟩ := (h4.ex S2.ex).atI (atI_nat hl)
    exact ⟨q, vs, (t : Int), z, rfl, r2.int, S2.ex.seq h3, h5, q' _ _ H2 (List.getElem_mem hl) k2 g2 h6⟩)
/-- for tg in range(a), a drawn -/
theorem s_forU {N : Nat} (I : Nat → Dl → Prop) (hm : X.mg "range" = none) (ha : DU B X u n m a r (fun x => ∃ c : Nat, x = .i (c : Nat) ∧ c ≤ N)) (hNN : N < 1000000) (h0 : I 0 (.urn u m :: r)) (hb : ∀ (i : Nat) δ1, i < N → I i δ1 → ∃ δ2 js, DG B X tg δ1 (.i (i : Nat)) δ2 js ∧ DSs B X body δ2 (I (i + 1)) Rt)
    (hg : Gl X "range" := by rfl) (hs : starEach [a] X.env = [(false, eval a X.env)] := by rfl) (hs1 : starEach [a] X.env = (false, eval a X.env) :: starEach [] X.env := by rfl)
    (hp : PassesOwn (model X.prog X.w) X.A X.env X.xe := by exact PassesOwn.never) (hc : X.calm = true := by rfl) (hsf : ∀ x, foldedSetIterable (.Call (.Name "range" p) [a] [] pos) X.env x = pure x := by intro _; rfl) :
    DS B X (.For tg (.Call (.Name "range" p) [a] [] pos) body [] p2) (.urn u n :: r) (fun δ' => ∃ c, c ≤ N ∧ I c δ') Rt := fun σ H S D q1 q2 =>
  (ps_for hp hc pi_D pg_D pss_D hsf).to ((pi_range1 hg hm (pa_cons pe_D pa_nil hs1) hs).to (ha σ H S _ fun v z H1 ⟨c, hz, hcl⟩ k1 g1 r1 => by
    subst hz
    refine ⟨c, by rw [r1.int], by omega, by omega, ?_⟩
    have S1 := S.drawn k1 g1
    have wk := fun H2 => wk_range (K := X.K) (H := H2) (lo := 0) (n := c)
    have hlen : ((List.range c).map fun i => T.i (0 + (i : Nat) : Int)).length = c := by simp
    refine for_core (xs := (List.range c).map fun i => T.i (0 + (i : Nat) : Int)) I (fun i x δ1 hx hI => ?_) (fun i δ' σ' H' _ S' t' => wk H') h0 S1 (fun σ' H' δ' mm S' t' => q1 σ' H' δ' ⟨c, hcl, by rw [hlen] at mm; exact mm⟩ S' ((k1.tex S.urn0.1).trans t')) q2
    have hi : i < c := by
      have := (List.getElem?_eq_some_iff.mp hx).1
      simpa using this
    have ex : x = .i (i : Nat) := by
      rw [List.getElem?_map, List.getElem?_range hi] at hx
      cases hx
      simp
    subst ex
    exact hb i δ1 (by omega) hI))
end
def FOf (as : List Ad) (R : T → Prop) : Prop := ∃ xs : List T, as = [.l xs] ∧ 0 < xs.length ∧ xs.length ≤ 1000 ∧ R = (· ∈ xs)
abbrev sOf : Stmt := topS 42
theorem scOf : FnScope ["_law_urn", "_law_some_so"] ["_law_urn", "_law_some_so"] (defScope sOf) := ⟨rfl, rfl, rfl, by decide +kernel, rfl, by decide +kernel, by decide +kernel⟩
section
variable {P : Program} {w : World} {K : PySem.W.Frag} {mg : Str → Option Value} {base : Heap}
theorem ok_of (D : Def K mg "_law_of" sOf ["_law_urn", "_law_some_so"]) (ml : mg "len" = none) (GT : FnAt P w K mg base 1 "_law_take" ["_law_urn", "_law_low_so"] (spU K 1 FTake)) : FnAt P w K mg base 2 "_law_of" ["_law_urn", "_law_some_so"] (spU K 1 FOf) := by
  refine D.u scOf (by decide) (fun as R h => ?_) fun f cdv A outer s H E hr u n as R δ1 hC hn g => ?_
  · obtain ⟨_, rfl, _⟩ := h; rfl
  · obtain ⟨xs, rfl, h1, h2, rfl⟩ := hC
    cases g with
    | cons g t =>
    cases t
    cases g with
    | l q =>
    refine ss_one (s_retU (m := n + 1) (u_ixB 0 rfl (u_call GT hr (ua_X (r_lenL ml (r_var 1)) ua_nil) (R := fun x => ∃ t : Nat, x = .i (t : Nat) ∧ t < xs.length) (fun as has => by obtain ⟨bs, h3, h4⟩ := has; subst h4; exact ⟨xs.length, h1, h2, h3, rfl⟩) hn)) fun v d H' hd e g r => ⟨d, hd, r, e, g⟩)
end
end Kd
-- K68U4
set_option maxRecDepth 100000
set_option maxHeartbeats 4000000
/-! The urn: sorted(set(..)). -/
namespace Kd
open PySem PySem.Spec PyProof.Rows L2
def tI (ns : List Int) : T := .t (ns.map T.i)
theorem reps_ints {K : PySem.W.Frag} {H : Hp} {ws : List V} {xs : List T} (r : Reps K H ws xs) (h : ∀ x ∈ xs, ∃ ns, x = tI ns) :
    ∃ ks : List (Addr × List Int), ws = ks.map (fun p => V.ref p.1) ∧ xs = ks.map (fun p => tI p.2) ∧ ∀ p ∈ ks, SqT K H p.1 (p.2.map V.int) := by
  induction ws generalizing xs with
  | nil => cases r; exact ⟨[], rfl, rfl, fun _ h => by cases h⟩
  | cons w ws ih =>
    cases r with
    | @cons _ _ d ds r1 r2 =>
      obtain ⟨ks, h1, h2, h3⟩ := ih r2 fun x hx => h x (List.mem_cons_of_mem _ hx)
      obtain ⟨ns, rfl⟩ := h d (List.mem_cons_self ..)
      obtain ⟨a, vs, rfl, g1, g2⟩ := r1.tup
      refine ⟨(a, ns) :: ks, by rw [h1]; rfl, by rw [h2]; rfl, fun p hp => ?_⟩
      rcases List.mem_cons.mp hp with rfl | hp
      · show SqT K H a (ns.map V.int)
        rw [← g2.ints]; exact g1
      · exact h3 p hp
theorem ints_reps {K : PySem.W.Frag} {H : Hp} : ∀ ns : List Int, Reps K H (ns.map V.int) (ns.map T.i)
  | [] => .nil
  | n :: r => .cons (.i n) (ints_reps r)
theorem reps_of {K : PySem.W.Frag} {H : Hp} : ∀ ks : List (Addr × List Int), (∀ p ∈ ks, SqT K H p.1 (p.2.map V.int)) → Reps K H (ks.map fun p => V.ref p.1) (ks.map fun p => tI p.2)
  | [], _ => .nil
  | p :: r, h => .cons (.t (h p (List.mem_cons_self ..)) (ints_reps _)) (reps_of r fun q hq => h q (List.mem_cons_of_mem _ hq))
theorem nodup_len {α : Type} [DecidableEq α] : ∀ {l r : List α}, l.Nodup → (∀ x ∈ l, x ∈ r) → l.length ≤ r.length
  | [], _, _, _ => Nat.zero_le _
  | x :: l, r, h, hs => by
    rw [List.nodup_cons] at h
    have hx := hs x (List.mem_cons_self ..)
    have := nodup_len (l := l) (r := r.erase x) h.2 fun y hy => (List.mem_erase_of_ne (fun (e : y = x) => h.1 (e ▸ hy))).mpr (hs y (List.mem_cons_of_mem _ hy))
    rw [List.length_erase_of_mem hx] at this
    have := List.length_pos_of_mem hx
    rw [List.length_cons]; omega
theorem tI_inj {a b : List Int} (h : tI a = tI b) : a = b := by
  unfold tI at h
  injection h with h
  have go : ∀ {a b : List Int}, a.map T.i = b.map T.i → a = b := by
    intro a
    induction a with
    | nil => intro b h; cases b with
      | nil => rfl
      | cons _ _ => cases h
    | cons x r ih => intro b h; cases b with
      | nil => cases h
      | cons y t =>
        rw [List.map_cons, List.map_cons] at h
        injection h with h1 h2
        injection h1 with h1
        rw [h1, ih h2]
  exact go h
theorem nodup_tI : ∀ {l : List (List Int)}, l.Nodup → (l.map tI).Nodup
  | [], _ => List.nodup_nil
  | x :: r, h => by
    rw [List.nodup_cons] at h
    rw [List.map_cons, List.nodup_cons]
    refine ⟨fun z => ?_, nodup_tI h.2⟩
    obtain ⟨y, h1, h2⟩ := List.mem_map.mp z
    exact h.1 (by rw [← tI_inj h2]; exact h1)
section
variable {B : Hp} {X : Cx} {u : Addr} {n m l k : Nat} {r r1 : Dl} {a b e : Expr} {x y : Str} {p p2 pos pos2 : Pos} {RL : List T → Prop}
/-- sorted(set(e)), tuples of d ints -/
theorem un_sset {d N : Nat} {Bd : Int} (hc : X.calm = true) (hu : X.A.units + 64 < cLine) (hm : X.mg "sorted" = none) (hm2 : X.mg "set" = none) (hd : 1 ≤ d) (hN : N < 64) (ha : DUN B X u n m a r (fun xs => xs.length ≤ N ∧ xs ≠ [] ∧ ∀ x ∈ xs, ∃ ns, x = tI ns ∧ ns.length = d ∧ TS.Bd Bd ns ∧ RL (ns.map T.i)))
    (hg : Gl X "sorted" := by rfl) (hg2 : Gl X "set" := by rfl) (hs : starEach [.Call (.Name "set" p2) [a] [] pos2] X.env = (false, eval (.Call (.Name "set" p2) [a] [] pos2) X.env) :: starEach [] X.env := by rfl) (hs2 : starEach [a] X.env = (false, eval a X.env) :: starEach [] X.env := by rfl)
    (hpl : (backTo pos (starEach [] X.env)).any (·.1) = false := by rfl) (hpl2 : (backTo pos2 (starEach [] X.env)).any (·.1) = false := by rfl) :
    DUN B X u n m (.Call (.Name "sorted" p) [.Call (.Name "set" p2) [a] [] pos2] [] pos) r (fun ys => ys.length ≤ N ∧ ys ≠ [] ∧ ys.Nodup ∧ ∀ x ∈ ys, ∃ ns, x = tI ns ∧ ns.length = d ∧ RL (ns.map T.i)) := fun σ H S Q q =>
  (pe_callB (cr_sortedT hc) hg hm (by rfl) (pa_cons (pe_callTy (cr_setOfT hc hu) hg2 hm2 (by decide +kernel) (pa_cons pe_D pa_nil hs2) (by decide) (by decide) hs2 hpl2) pa_nil hs) (he := hs) (hpl := hpl)).to
    (ha σ H S _ fun q0 ws xs H1 ⟨hlen, hne, hr⟩ hn k1 g1 h1 r1 => by
      obtain ⟨ks, rfl, rfl, h3⟩ := reps_ints r1 fun x hx => let ⟨ns, e, _⟩ := hr x hx; ⟨ns, e⟩
      rw [List.length_map] at hlen
      refine ⟨q0, ks, rfl, SqL.of h1, h3, by omega, fun c L hcn hL1 hL2 => ?_⟩
      have e2 : Same H1 (L2.upd H1 c (SetTO X.prog X.w c L)) := Evl.Ex.new hcn
      have hk : ∀ p ∈ L, ∃ ns, tI p.2 = tI ns ∧ ns.length = d ∧ TS.Bd Bd ns ∧ RL (ns.map T.i) := fun p hp => hr _ (List.mem_map_of_mem (hL1 p hp))
      refine ⟨c, L, d, Bd, rfl, upd_same .., fun p hp => same_t e2 (h3 p (hL1 p hp)), hd, fun p hp => ?_, fun L' b hpm hnd h64 _ hbn => ?_⟩
      · obtain ⟨ns, e, g1, g2, _⟩ := hk p hp
        rw [tI_inj e]; exact ⟨g1, g2⟩
      · have hcu : c ≠ u := g1.some hcn
        have g2 := g1.upd (o := SetTO X.prog X.w c L) hcu
        have hb : H b = none := by
          cases z : H b with
          | none => rfl
          | some o =>
            have := e2 b o (k1 b (fun e => by rw [e] at hbn; obtain ⟨_, _, _, w1, _⟩ := g2; rw [w1] at hbn; cases hbn) o z)
            rw [this] at hbn; cases hbn
        have e3 := Evl.Ex.new (o := .lst (L'.map fun q => V.ref q.1)) hbn
        have mem : ∀ p ∈ L', p ∈ ks := fun p hp => hL1 p (hpm.mem_iff.mp hp)
        refine q b _ (L'.map fun p => tI p.2) _ ⟨?_, ?_, ?_, fun x hx => ?_⟩ hb ((k1.trans (Same.kp e2)).trans (Same.kp e3)) (g2.upd (g2.some hbn)) (upd_same ..) (reps_of L' fun p hp => same_t e3 (same_t e2 (h3 p (mem p hp))))
        · rw [List.length_map]
          have := nodup_len (r := ks.map (·.2)) hnd fun x hx => by
            obtain ⟨p, hp, rfl⟩ := List.mem_map.mp hx
            exact List.mem_map_of_mem (mem p hp)
          rw [List.length_map, List.length_map] at this
          omega
        · intro e
          have hL : L' = [] := List.map_eq_nil_iff.mp e
          subst hL
          have hL0 : L = [] := List.nil_perm.mp hpm
          subst hL0
          cases ks with
          | nil => exact hne rfl
          | cons p t => exact absurd (hL2 p (List.mem_cons_self ..)) (by simp)
        · have : (L'.map fun p => tI p.2) = (L'.map (·.2)).map tI := by rw [List.map_map]; rfl
          rw [this]
          exact nodup_tI hnd
        · obtain ⟨p, hp, rfl⟩ := List.mem_map.mp hx
          obtain ⟨ns, e, g1, _, g3⟩ := hk p (hpm.mem_iff.mp hp)
          exact ⟨ns, e, g1, g3⟩)
variable {δ : Dl} {tg iter elt : Expr} {ifs : List Expr} {xs : List T} {Rel : T → T → Prop} {bd : T → Dl} {Rt : VK}
/-- x = [..], a comprehension over data read off a list -/
theorem s_setLcA {α : Type} {scope : Scope} {own : List (Str × Nat)} {py spos : Pos} (i : Nat) (L : List α) (enc : α → T) (f : α → Bool) (g : α → T) (bd : α → Dl) (hN : X.N.Nodup) (ok : BlkOk X.N X.env.scope scope own) (hsw : swapsWith (.ListComp elt [⟨tg, iter, ifs, 0⟩] scope pos) (some (.Name y py)) spos.line X.env = pure true)
    (hi : DItS B X tg iter δ (L.map enc)) (hz : L.length ≤ 50000)
    (hg : ∀ s H C cl fp x, x ∈ L → DG B (blkX X scope s H C cl fp) tg (wipeD δ (own.map (·.2))) (enc x) (bd x) (own.map (·.2)))
    (ht : ∀ s H C cl fp x, x ∈ L → DTs B (blkX X scope s H C cl fp) ifs (bd x) (f x))
    (he : ∀ s H C cl fp x, x ∈ L → f x = true → DX B (blkX X scope s H C cl fp) elt (bd x) (g x))
    (hy : X.N[i]? = some y := by rfl) (hyl : X.env.scope.names.lookup y = some .local := by rfl) (hc : X.calm = true := by rfl) (hs : ∀ x, foldedSetIterable iter X.env x = pure x := by intro _; rfl) :
    DS B X (.Assign [.Name y py] (.ListComp elt [⟨tg, iter, ifs, 0⟩] scope pos) spos) δ (fun δ' => ∃ p, δ' = δ.set i (.own p ((L.filter f).map g))) Rt := fun σ H S D q1 q2 =>
  (ps_setLc (g := uTG X scope tg) (tt := uTT X scope ifs) (te := uTE X scope elt) hc hN hy hyl hsw pi_D ok (fun s H C cl fp => ⟨fun pins s' σ H v u Q I r h => h _ _ _ _ _ pins s' u I r⟩)
    (fun s H C cl fp => ⟨fun pins s' σ H Q I h => h _ _ _ _ _ pins s' I⟩) (fun s H C cl fp => ⟨fun pins s' σ H Q I h => h _ _ _ _ _ pins s' I⟩) hs).to
    (lc_readA L enc _ f g bd hi hz hg ht he S fun p ws H1 hn e1 h1 r1 => by
      obtain ⟨s, k1, S1⟩ := S.setA e1 (FrA.l hn h1 r1) i
      obtain ⟨p', rfl⟩ := k1.l'
      exact q1 _ H1 _ ⟨p', rfl⟩ S1 e1.tex)
/-- x = [..], drawn -/
theorem s_setLcU {scope : Scope} {own : List (Str × Nat)} {py spos : Pos} (i k : Nat) (hN : X.N.Nodup) (ok : BlkOk X.N X.env.scope scope own) (hsw : swapsWith (.ListComp elt [⟨tg, iter, [], 0⟩] scope pos) (some (.Name y py)) spos.line X.env = pure true)
    (hi : DItU B X u n tg iter r xs) (hz : xs.length ≤ 50000)
    (hg : ∀ s H C cl fp x m, x ∈ xs → DG B (blkX X scope s H C cl fp) tg (wipeD (.urn u m :: r) (own.map (·.2))) x (.urn u m :: bd x) (own.map (·.2)))
    (he : ∀ s H C cl fp (i : Nat) x, xs[i]? = some x → DU B (blkX X scope s H C cl fp) u (n + k * i) (n + k * (i + 1)) elt (bd x) (Rel x))
    (hy : X.N[i + 1]? = some y := by rfl) (hyl : X.env.scope.names.lookup y = some .local := by rfl) (hc : X.calm = true := by rfl) (hs : ∀ x, foldedSetIterable iter X.env x = pure x := by intro _; rfl) :
    DS B X (.Assign [.Name y py] (.ListComp elt [⟨tg, iter, [], 0⟩] scope pos) spos) (.urn u n :: r) (fun δ' => ∃ q ys, Paired Rel xs ys ∧ δ' = .urn u (n + k * xs.length) :: r.set i (.own q ys)) Rt := fun σ H S D q1 q2 =>
  (ps_setLc (g := uTG X scope tg) (tt := uTT X scope []) (te := uTE X scope elt) hc hN hy hyl hsw pi_D ok (fun s H C cl fp => ⟨fun pins s' σ H v u Q I r h => h _ _ _ _ _ pins s' u I r⟩)
    (fun s H C cl fp => ⟨fun pins s' σ H Q I h => h _ _ _ _ _ pins s' I⟩) (fun s H C cl fp => ⟨fun pins s' σ H Q I h => h _ _ _ _ _ pins s' I⟩) hs).to
    (lc_readU _ k hi hz hg he S fun q ws ys H1 hn k1 g1 h1 r1 hp => by
      have hB : B q = none := by
        cases z : B q with
        | none => rfl
        | some o => rw [S.ex q o z] at hn; cases hn
      exact q1 _ _ _ ⟨q, ys, hp, rfl⟩ (S.setNU k1 g1 hn i (s := .own q ys) ⟨rfl, hB, ws, h1, r1⟩ rfl) (k1.tex S.urn0.1))
end
end Kd
-- K68I1
set_option maxRecDepth 100000
set_option maxHeartbeats 4000000
/-! itertools.permutations, itertools.combinations of a short range: at the library's level. -/
namespace KdIt
open PySem PySem.Spec PyProof.Rows L2
open Sem (wp)
theorem mro_p : mroOf (.type "itertools.permutations") = pure [.type "itertools.permutations", .type "object"] := by rw [mroOf_type]; kernel_rfl
theorem mro_c : mroOf (.type "itertools.combinations") = pure [.type "itertools.combinations", .type "object"] := by rw [mroOf_type]; kernel_rfl
theorem new_p : typeLookup (.type "itertools.permutations") "__new__" = pure (some (.builtin "itertools.permutations.__new__")) := by rw [typeLookup_type, builtinLookup_eq_fast]; kernel_rfl
theorem new_c : typeLookup (.type "itertools.combinations") "__new__" = pure (some (.builtin "itertools.combinations.__new__")) := by rw [typeLookup_type, builtinLookup_eq_fast]; kernel_rfl
theorem init_p : Slot "itertools.permutations" "__init__" "object.__init__" :=
  .of (owner := "object") (n := "__init__") (by rw [typeLookup_type, builtinLookup_eq_fast]; kernel_rfl) (by decide +kernel) (by decide +kernel) (by decide +kernel)
    (by first | exact .inl (by decide +kernel) | exact .inr (by decide +kernel)) (by rw [isSubtype_type]; kernel_rfl)
theorem init_c : Slot "itertools.combinations" "__init__" "object.__init__" :=
  .of (owner := "object") (n := "__init__") (by rw [typeLookup_type, builtinLookup_eq_fast]; kernel_rfl) (by decide +kernel) (by decide +kernel) (by decide +kernel)
    (by first | exact .inl (by decide +kernel) | exact .inr (by decide +kernel)) (by rw [isSubtype_type]; kernel_rfl)
theorem sub_p : isSubtype (.type "itertools.permutations") (.type "itertools.permutations") = pure true := by rw [isSubtype_type]; kernel_rfl
theorem sub_c : isSubtype (.type "itertools.combinations") (.type "itertools.combinations") = pure true := by rw [isSubtype_type]; kernel_rfl
theorem called_p : TypeCalled "itertools.permutations" "itertools.permutations.__new__" "object.__init__" :=
  ⟨by decide +kernel, by decide +kernel, ⟨_, _, mro_p⟩, madeBy_type mro_p new_p (by decide +kernel), by decide +kernel, sub_p, init_p⟩
theorem called_c : TypeCalled "itertools.combinations" "itertools.combinations.__new__" "object.__init__" :=
  ⟨by decide +kernel, by decide +kernel, ⟨_, _, mro_c⟩, madeBy_type mro_c new_c (by decide +kernel), by decide +kernel, sub_c, init_c⟩
theorem tcall_p (a b : Value) : checkTypeCall "itertools.permutations" ⟨[a, b], []⟩ = pure () := by kernel_rfl
theorem tcall_c (a b : Value) : checkTypeCall "itertools.combinations" ⟨[a, b], []⟩ = pure () := by kernel_rfl
theorem ncall_p (a b : Value) : checkBuiltinCall "itertools.permutations.__new__" ⟨[.type "itertools.permutations", a, b], []⟩ = pure () := by kernel_rfl
theorem ncall_c (a b : Value) : checkBuiltinCall "itertools.combinations.__new__" ⟨[.type "itertools.combinations", a, b], []⟩ = pure () := by kernel_rfl
theorem enew_p : entryFor table "itertools.permutations.__new__" = some Builtin.«itertools.permutations.__new__» := entryFor_of_tree (by kernel_rfl)
theorem enew_c : entryFor table "itertools.combinations.__new__" = some Builtin.«itertools.combinations.__new__» := entryFor_of_tree (by kernel_rfl)
theorem siter_p : Slot "itertools.permutations" "__iter__" "itertools.permutations.__iter__" :=
  .of (owner := "itertools.permutations") (n := "__iter__") (by rw [typeLookup_type, builtinLookup_eq_fast]; kernel_rfl) (by decide +kernel) (by decide +kernel) (by decide +kernel)
    (by first | exact .inl (by decide +kernel) | exact .inr (by decide +kernel)) sub_p
theorem siter_c : Slot "itertools.combinations" "__iter__" "itertools.combinations.__iter__" :=
  .of (owner := "itertools.combinations") (n := "__iter__") (by rw [typeLookup_type, builtinLookup_eq_fast]; kernel_rfl) (by decide +kernel) (by decide +kernel) (by decide +kernel)
    (by first | exact .inl (by decide +kernel) | exact .inr (by decide +kernel)) sub_c
theorem snext_p : Slot "itertools.permutations" "__next__" "itertools.permutations.__next__" :=
  .of (owner := "itertools.permutations") (n := "__next__") (by rw [typeLookup_type, builtinLookup_eq_fast]; kernel_rfl) (by decide +kernel) (by decide +kernel) (by decide +kernel)
    (by first | exact .inl (by decide +kernel) | exact .inr (by decide +kernel)) sub_p
theorem snext_c : Slot "itertools.combinations" "__next__" "itertools.combinations.__next__" :=
  .of (owner := "itertools.combinations") (n := "__next__") (by rw [typeLookup_type, builtinLookup_eq_fast]; kernel_rfl) (by decide +kernel) (by decide +kernel) (by decide +kernel)
    (by first | exact .inl (by decide +kernel) | exact .inr (by decide +kernel)) sub_c
theorem eiter_p : entryFor table "itertools.permutations.__iter__" = some Builtin.«dict_keyiterator.__iter__» :=
  entryFor_alias (id' := "dict_keyiterator.__iter__") (by kernel_rfl) (by first | rfl | decide +kernel | (unfold String.splitOn; simp +decide [String.splitOnAux])) (by decide +kernel) (by kernel_rfl)
theorem eiter_c : entryFor table "itertools.combinations.__iter__" = some Builtin.«dict_keyiterator.__iter__» :=
  entryFor_alias (id' := "dict_keyiterator.__iter__") (by kernel_rfl) (by first | rfl | decide +kernel | (unfold String.splitOn; simp +decide [String.splitOnAux])) (by decide +kernel) (by kernel_rfl)
theorem enext_p : entryFor table "itertools.permutations.__next__" = some Builtin.«itertools.permutations.__next__» := entryFor_of_tree (by kernel_rfl)
theorem enext_c : entryFor table "itertools.combinations.__next__" = some Builtin.«itertools.combinations.__next__» := entryFor_of_tree (by kernel_rfl)
theorem owner_p : Manifest.owners.lookup (String.ofList ['s', 'n', 'o', 'i', 't', 'a', 't', 'u', 'm', 'r', 'e', 'p', '.', 's', 'l', 'o', 'o', 't', 'r', 'e', 't', 'i'].reverse) = some Manifest.sig_itertools_permutations := by kernel_rfl
theorem owner_c : Manifest.owners.lookup (String.ofList ['s', 'n', 'o', 'i', 't', 'a', 'n', 'i', 'b', 'm', 'o', 'c', '.', 's', 'l', 'o', 'o', 't', 'r', 'e', 't', 'i'].reverse) = some Manifest.sig_itertools_combinations := by kernel_rfl
theorem aiter_p (a : Value) : argsOk "itertools.permutations.__iter__" ⟨[a], []⟩ := by
  unfold argsOk; rw [signature?_of (id := "itertools.permutations.__iter__") (n := ['_', '_', 'r', 'e', 't', 'i', '_', '_']) (o := ['s', 'n', 'o', 'i', 't', 'a', 't', 'u', 'm', 'r', 'e', 'p', '.', 's', 'l', 'o', 'o', 't', 'r', 'e', 't', 'i']) (by kernel_rfl) owner_p]; kernel_rfl
theorem aiter_c (a : Value) : argsOk "itertools.combinations.__iter__" ⟨[a], []⟩ := by
  unfold argsOk; rw [signature?_of (id := "itertools.combinations.__iter__") (n := ['_', '_', 'r', 'e', 't', 'i', '_', '_']) (o := ['s', 'n', 'o', 'i', 't', 'a', 'n', 'i', 'b', 'm', 'o', 'c', '.', 's', 'l', 'o', 'o', 't', 'r', 'e', 't', 'i']) (by kernel_rfl) owner_c]; kernel_rfl
theorem anext_p (a : Value) : argsOk "itertools.permutations.__next__" ⟨[a], []⟩ := by
  unfold argsOk; rw [signature?_of (id := "itertools.permutations.__next__") (n := ['_', '_', 't', 'x', 'e', 'n', '_', '_']) (o := ['s', 'n', 'o', 'i', 't', 'a', 't', 'u', 'm', 'r', 'e', 'p', '.', 's', 'l', 'o', 'o', 't', 'r', 'e', 't', 'i']) (by kernel_rfl) owner_p]; kernel_rfl
theorem anext_c (a : Value) : argsOk "itertools.combinations.__next__" ⟨[a], []⟩ := by
  unfold argsOk; rw [signature?_of (id := "itertools.combinations.__next__") (n := ['_', '_', 't', 'x', 'e', 'n', '_', '_']) (o := ['s', 'n', 'o', 'i', 't', 'a', 'n', 'i', 'b', 'm', 'o', 'c', '.', 's', 'l', 'o', 'o', 't', 'r', 'e', 't', 'i']) (by kernel_rfl) owner_c]; kernel_rfl
theorem nodict_p : typeHasDict (.type "itertools.permutations") = false := by decide +kernel
theorem nodict_c : typeHasDict (.type "itertools.combinations") = false := by decide +kernel
theorem plain_new_p : plainId "itertools.permutations.__new__" = true := by decide +kernel
theorem plain_new_c : plainId "itertools.combinations.__new__" = true := by decide +kernel
theorem boot_ok : True := trivial
section
variable {prog : Program} {w : World} {A : Around} {E : Value → Shared → Prop} {s : Shared}
/-- an iterator's object -/
abbrev ItObj (T : String) (fs : Array Value) : Obj := { cls := .type T, dict := none, data := .fields fs, slots := #[] }
theorem newRecord {T : String} {fs : List Value} {Q : Value → Shared → Prop} (hd : typeHasDict (.type T) = false) (hs : fs.length ≤ 100)
    (h : Q (.ref s.heap.objs.size) { s with heap := s.heap.push (ItObj T fs.toArray) }) : wpAny (model prog w) A (Builtin.Itertools.itNewRecord (.type T) fs) Q E s := by
  unfold Builtin.Itertools.itNewRecord
  rw [hd]
  exact wpAny_newObj_type h (by show fs.toArray.size ≤ sizeLine + 2; rw [List.size_toArray]; have : sizeLine = 16777216 := sizeLine_eq; omega)
end
end KdIt
-- K68I2
set_option maxRecDepth 100000
set_option maxHeartbeats 4000000
/-! itertools.permutations, itertools.combinations: they are made. -/
namespace KdIt
open PySem PySem.Spec PyProof.Rows L2
open Sem (wp)
section
variable {prog : Program} {w : World} {A : Around} {E : Value → Shared → Prop} {s : Shared} {r : Addr} {a b c : Int} {t u v : Tok} {n : Nat}
def fldP (pool : Addr) (n k : Nat) : List Value := [.ref pool, rawInt (if k > n then 2 else 0), rawInt k, .none] ++ (List.range n).map (fun (i : Nat) => rawInt i) ++ (List.range k).map fun (i : Nat) => rawInt ((n : Int) - i)
def fldC (pool : Addr) (n k : Nat) : List Value := [.ref pool, rawInt (if k > n then 2 else 0), .none] ++ (List.range k).map fun (i : Nat) => rawInt i
theorem code_new_p {Q₁ : Value → Shared → Prop} {k : Nat} {tk : Tok} (hk : k ≤ 10) (hh : A.handled = none) (hr : IsRange s.heap r a b c t u v) (hsmall : Builtin.Range.small a b c = true) (hn : Builtin.Range.rangeSize a b c = n) (hlen : n ≤ 10)
    (h : ∀ (h' : Heap) (tk : Nat) (got : Array Value), (∀ b o, s.heap.get? b = some o → h'.get? b = some o) → ItemsOf (fun i v => ∃ t, v = .int (a + i * c) t) got n →
      Q₁ (.ref (h'.push (seqObj "tuple" got 0)).objs.size) { s with heap := (h'.push (seqObj "tuple" got 0)).push (ItObj "itertools.permutations" (fldP h'.objs.size n k).toArray), toks := tk }) :
    codeAny (model prog w) A (.call (.builtin "itertools.permutations.__new__") ⟨[.type "itertools.permutations", .ref r, .int k tk], []⟩) (wants Q₁ E) s := by
  refine codeAny_of_tree ?_
  show wpAny _ A.in1 (do checkBuiltinCall "itertools.permutations.__new__" ⟨[.type "itertools.permutations", .ref r, .int k tk], []⟩; again (.builtin "itertools.permutations.__new__" ⟨[.type "itertools.permutations", .ref r, .int k tk], []⟩)) _ _ s
  refine wpAny_bind (wpAny_of_eq (ncall_p _ _) (wpAny_pure ⟨plainId_quiet plain_new_p _, codeAny_builtin enew_p ?_⟩))
  rw [Around.under_plainId plain_new_p _]
  have hsub : isSubtype (.type "itertools.permutations") (.type ("itertools." ++ "permutations")) = pure true := by rw [show "itertools." ++ "permutations" = "itertools.permutations" by decide]; exact sub_p
  have hh1 : A.in1.handled = none := hh
  have hlt1 : ¬ ((k : Int) < -(2 ^ 63 : Int)) := by omega
  have hlt2 : ¬ ((k : Int) ≥ 2 ^ 63) := by omega
  wp_walk using collect_range (A := A.in1) hh1 hr hsmall hn (by omega)
  intro h' tk got hkp all
  have hal : got.toList.length = n := by rw [Array.length_toList]; exact all.1
  show wpAny _ _ (holding got.toList _ >>= _) _ _ _
  refine wpAny_bind (wpAny_holding ?_)
  show wpAny _ _ (pure (some (k : Int)) >>= _) _ _ _
  refine wpAny_bind (wpAny_pure ?_)
  have hlt : (decide ((k : Int) < -2 ^ 63) || decide ((k : Int) ≥ 2 ^ 63)) = false := by rw [decide_eq_false hlt1, decide_eq_false hlt2]; rfl
  show wpAny _ _ (if (decide ((k : Int) < -2 ^ 63) || decide ((k : Int) ≥ 2 ^ 63)) = true then _ else _) _ _ _
  rw [if_neg (by rw [hlt]; exact Bool.false_ne_true)]
  refine wpAny_pure ?_
  show wpAny _ _ (if (k : Int) < 0 then _ else _) _ _ _
  rw [if_neg (by omega)]
  show wpAny _ _ (if Builtin.Itertools.itTooMany (k : Int) = true then _ else _) _ _ _
  have htm : Builtin.Itertools.itTooMany (k : Int) = false := by unfold Builtin.Itertools.itTooMany; exact decide_eq_false (by omega)
  rw [if_neg (by rw [htm]; exact Bool.false_ne_true)]
  show wpAny _ _ (newTuple got.toList >>= _) _ _ _
  refine wpAny_bind (wpAny_newTuple ?_ (by rw [hal, sizeLine_eq]; omega))
  refine wpAny_bind (newRecord nodict_p ?_ ?_)
  · simp only [List.length_append, List.length_map, List.length_range, List.length_cons, List.length_nil, hal, Int.toNat_natCast]
    omega
  · have e : got.toList.toArray = got := by simp
    have e2 : (k : Int).toNat = k := Int.toNat_natCast k
    simp only [e2, hal, e]
    exact wpAny_pure (h h' tk got hkp all)
theorem code_new_c {Q₁ : Value → Shared → Prop} {k : Nat} {tk : Tok} (hk : k ≤ 10) (hh : A.handled = none) (hr : IsRange s.heap r a b c t u v) (hsmall : Builtin.Range.small a b c = true) (hn : Builtin.Range.rangeSize a b c = n) (hlen : n ≤ 10)
    (h : ∀ (h' : Heap) (tk : Nat) (got : Array Value), (∀ b o, s.heap.get? b = some o → h'.get? b = some o) → ItemsOf (fun i v => ∃ t, v = .int (a + i * c) t) got n →
      Q₁ (.ref (h'.push (seqObj "tuple" got 0)).objs.size) { s with heap := (h'.push (seqObj "tuple" got 0)).push (ItObj "itertools.combinations" (fldC h'.objs.size n k).toArray), toks := tk }) :
    codeAny (model prog w) A (.call (.builtin "itertools.combinations.__new__") ⟨[.type "itertools.combinations", .ref r, .int k tk], []⟩) (wants Q₁ E) s := by
  refine codeAny_of_tree ?_
  show wpAny _ A.in1 (do checkBuiltinCall "itertools.combinations.__new__" ⟨[.type "itertools.combinations", .ref r, .int k tk], []⟩; again (.builtin "itertools.combinations.__new__" ⟨[.type "itertools.combinations", .ref r, .int k tk], []⟩)) _ _ s
  refine wpAny_bind (wpAny_of_eq (ncall_c _ _) (wpAny_pure ⟨plainId_quiet plain_new_c _, codeAny_builtin enew_c ?_⟩))
  rw [Around.under_plainId plain_new_c _]
  have hsub : isSubtype (.type "itertools.combinations") (.type ("itertools." ++ "combinations")) = pure true := by rw [show "itertools." ++ "combinations" = "itertools.combinations" by decide]; exact sub_c
  have hh1 : A.in1.handled = none := hh
  have hlt1 : ¬ ((k : Int) < -(2 ^ 63 : Int)) := by omega
  have hlt2 : ¬ ((k : Int) ≥ 2 ^ 63) := by omega
  have hlt : (decide ((k : Int) < -2 ^ 63) || decide ((k : Int) ≥ 2 ^ 63)) = false := by rw [decide_eq_false hlt1, decide_eq_false hlt2]; rfl
  unfold Builtin.«itertools.combinations.__new__»
  wp_walk using collect_range (A := A.in1) hh1 hr hsmall hn (by omega)
  rw [if_neg (by rw [hlt]; exact Bool.false_ne_true)]
  refine wpAny_pure ?_
  dsimp only
  refine wpAny_bind (collect_range (A := A.in1) hh1 hr hsmall hn (by omega) fun h' tk got hkp all => ?_)
  have hal : got.toList.length = n := by rw [Array.length_toList]; exact all.1
  show wpAny _ _ (if (k : Int) < 0 then _ else _) _ _ _
  rw [if_neg (by omega)]
  show wpAny _ _ (if Builtin.Itertools.itTooMany (k : Int) = true then _ else _) _ _ _
  have htm : Builtin.Itertools.itTooMany (k : Int) = false := by unfold Builtin.Itertools.itTooMany; exact decide_eq_false (by omega)
  rw [if_neg (by rw [htm]; exact Bool.false_ne_true)]
  show wpAny _ _ (newTuple got.toList >>= _) _ _ _
  refine wpAny_bind (wpAny_newTuple ?_ (by rw [hal, sizeLine_eq]; omega))
  refine wpAny_pure ?_
  dsimp only
  refine wpAny_bind (newRecord nodict_c ?_ ?_)
  · simp only [List.length_append, List.length_map, List.length_range, List.length_cons, List.length_nil, hal, Int.toNat_natCast]
    omega
  · have e : got.toList.toArray = got := by simp
    have e2 : (k : Int).toNat = k := Int.toNat_natCast k
    simp only [e2, hal, e]
    exact wpAny_pure (h h' tk got hkp all)
theorem call_p {Q : Value → Shared → Prop} {k : Nat} {tk : Tok} (hk : k ≤ 10) (hh : A.handled = none) (hr : IsRange s.heap r a b c t u v) (hsmall : Builtin.Range.small a b c = true) (hn : Builtin.Range.rangeSize a b c = n) (hlen : n ≤ 10)
    (h : ∀ (h' : Heap) (tk : Nat) (got : Array Value), (∀ b o, s.heap.get? b = some o → h'.get? b = some o) → ItemsOf (fun i v => ∃ t, v = .int (a + i * c) t) got n →
      Q (.ref (h'.push (seqObj "tuple" got 0)).objs.size) { s with heap := (h'.push (seqObj "tuple" got 0)).push (ItObj "itertools.permutations" (fldP h'.objs.size n k).toArray), toks := tk }) :
    wpAny (model prog w) A (call (.type "itertools.permutations") [.ref r, .int k tk]) Q E s := by
  refine callType_codes (Q₁ := fun obj s₁ => s₁.TypeIs obj "itertools.permutations" ∧ Q obj s₁) called_p (tcall_p _ _) F.entry_object_init
    (code_new_p (A := A.in1) hk hh hr hsmall hn hlen fun h' tk got hk all => ⟨⟨_, Heap.get?_push_size _ rfl, rfl⟩, h h' tk got hk all⟩) fun obj s₁ h₁ => ?_
  exact ⟨h₁.1, F.args_object_init_3 obj _ _, object_init_meets called_p.init.lookup called_p.made (by decide) prog w A.in1 _ s₁ ⟨h₁.1, rfl, h₁.2⟩⟩
theorem call_c {Q : Value → Shared → Prop} {k : Nat} {tk : Tok} (hk : k ≤ 10) (hh : A.handled = none) (hr : IsRange s.heap r a b c t u v) (hsmall : Builtin.Range.small a b c = true) (hn : Builtin.Range.rangeSize a b c = n) (hlen : n ≤ 10)
    (h : ∀ (h' : Heap) (tk : Nat) (got : Array Value), (∀ b o, s.heap.get? b = some o → h'.get? b = some o) → ItemsOf (fun i v => ∃ t, v = .int (a + i * c) t) got n →
      Q (.ref (h'.push (seqObj "tuple" got 0)).objs.size) { s with heap := (h'.push (seqObj "tuple" got 0)).push (ItObj "itertools.combinations" (fldC h'.objs.size n k).toArray), toks := tk }) :
    wpAny (model prog w) A (call (.type "itertools.combinations") [.ref r, .int k tk]) Q E s := by
  refine callType_codes (Q₁ := fun obj s₁ => s₁.TypeIs obj "itertools.combinations" ∧ Q obj s₁) called_c (tcall_c _ _) F.entry_object_init
    (code_new_c (A := A.in1) hk hh hr hsmall hn hlen fun h' tk got hk all => ⟨⟨_, Heap.get?_push_size _ rfl, rfl⟩, h h' tk got hk all⟩) fun obj s₁ h₁ => ?_
  exact ⟨h₁.1, F.args_object_init_3 obj _ _, object_init_meets called_c.init.lookup called_c.made (by decide) prog w A.in1 _ s₁ ⟨h₁.1, rfl, h₁.2⟩⟩
end
end KdIt
-- K68I3
set_option maxRecDepth 100000
set_option maxHeartbeats 4000000
/-! itertools.permutations, itertools.combinations: their steps. -/
namespace KdIt
open PySem PySem.Spec PyProof.Rows L2
open Sem (wp)
section
variable {prog : Program} {w : World} {A : Around} {E : Value → Shared → Prop} {s : Shared}
/-- permutations: the flag, the last tuple, the numbers -/
def objP (pool : Addr) (r flag : Nat) (z : Value) (nums : List Nat) : Obj := ItObj "itertools.permutations" ([.ref pool, rawInt flag, rawInt r, z] ++ nums.map fun (i : Nat) => rawInt i).toArray
def objC (pool : Addr) (flag : Nat) (z : Value) (nums : List Nat) : Obj := ItObj "itertools.combinations" ([.ref pool, rawInt flag, z] ++ nums.map fun (i : Nat) => rawInt i).toArray
theorem nums_back (l : List Nat) : (l.map fun (i : Nat) => rawInt i).map (fun v => match v with | .int n _ => n.toNat | _ => 0) = l := by
  rw [List.map_map]
  conv => rhs; rw [← List.map_id l]
  exact List.map_congr_left fun i _ => by simp [rawInt]
theorem set1_p {pool : Addr} {r f k : Nat} {z : Value} {nums : List Nat} : Obj.mapFields (fun x => x.setIfInBounds 1 (rawInt (k : Int))) (objP pool r f z nums) = objP pool r k z nums := rfl
theorem set3_p {pool : Addr} {r f : Nat} {z v : Value} {nums : List Nat} : Obj.mapFields (fun x => x.setIfInBounds 3 v) (objP pool r f z nums) = objP pool r f v nums := rfl
theorem set1_c {pool : Addr} {f k : Nat} {z : Value} {nums : List Nat} : Obj.mapFields (fun x => x.setIfInBounds 1 (rawInt (k : Int))) (objC pool f z nums) = objC pool k z nums := rfl
theorem set2_c {pool : Addr} {f : Nat} {z v : Value} {nums : List Nat} : Obj.mapFields (fun x => x.setIfInBounds 2 v) (objC pool f z nums) = objC pool f v nums := rfl
theorem setN_p {pool : Addr} {r f : Nat} {z : Value} {nums nums' : List Nat} : Obj.mapFields (fun fs => fs.extract 0 4 ++ (nums'.map fun (n : Nat) => rawInt n).toArray) (objP pool r f z nums) = objP pool r f z nums' := by
  unfold objP Obj.mapFields
  simp
theorem setN_c {pool : Addr} {f : Nat} {z : Value} {nums nums' : List Nat} : Obj.mapFields (fun fs => fs.extract 0 3 ++ (nums'.map fun (n : Nat) => rawInt n).toArray) (objC pool f z nums) = objC pool f z nums' := by
  unfold objC Obj.mapFields
  simp
theorem isF_p {pool : Addr} {r f : Nat} {z : Value} {nums : List Nat} : (objP pool r f z nums).isFreed = false := rfl
theorem up1 {h : Heap} {it : Addr} {o : Obj} {f : Obj → Obj} (hit : h.get? it = some o) (hf : (f o).isFreed = false) : (h.update it f).get? it = some (f o) := Heap.get?_update_self _ hit hf
theorem oth {h : Heap} {it b : Addr} {f : Obj → Obj} {o : Obj} (hb : b ≠ it) (e : h.get? b = some o) : (h.update it f).get? b = some o := (Heap.get?_update_ne _ _ _ _ hb).trans e
theorem ne_pool {h : Heap} {it pool : Addr} {p : Addr} {f : Nat} {z : Value} {nums : List Nat} {acc : Array Value} {n : Nat} (hit : h.get? it = some (objC p f z nums)) (hp : h.get? pool = some (seqObj "tuple" acc n)) : pool ≠ it := fun e => by
  rw [e, hit] at hp
  have := congrArg (fun o => o.map Obj.cls) hp
  simp [objC, seqObj] at this
theorem ne_poolP {h : Heap} {it pool : Addr} {p : Addr} {r f : Nat} {z : Value} {nums : List Nat} {acc : Array Value} {n : Nat} (hit : h.get? it = some (objP p r f z nums)) (hp : h.get? pool = some (seqObj "tuple" acc n)) : pool ≠ it := fun e => by
  rw [e, hit] at hp
  have := congrArg (fun o => o.map Obj.cls) hp
  simp [objP, seqObj] at this
theorem p_first_0_0 {it pool : Addr} {z : Value} {t0 t1 : Tok} {Q : Option Value → Shared → Prop} (hit : s.heap.get? it = some (objP pool 0 0 z [])) (hp : s.heap.get? pool = some (seqObj "tuple" #[] 0))
    (h : ∀ h' a, s.heap.get? a = none → a ≠ it → h'.get? it = some (objP pool 0 1 (.ref a) []) → h'.get? a = some (seqObj "tuple" #[] 0) → (∀ b o, b ≠ it → s.heap.get? b = some o → h'.get? b = some o) → s.heap.objs.size ≤ a → Q (some (.ref a)) { s with heap := h' }) :
    wpAny (model prog w) A (pyNext (.ref it)) Q E s := by
  have hT : s.TypeIs (.ref it) "itertools.permutations" := ⟨_, hit, rfl⟩
  unfold pyNext
  refine wpAny_bind (wpAny_attempt (wpAny_callSpecial?_slot (name := Str.ofString "__next__") hT snext_p (wpAny_call_entry snext_p hT enext_p ?_ (anext_p _))))
  show wpAny _ _ (field (.ref it) 0 >>= _) _ _ s
  refine wpAny_bind (wpAny_field hit rfl (x := .ref pool) rfl ?_)
  unfold Builtin.Itertools.itPoolItems
  refine wpAny_bind (wpAny_bind (wpAny_seqItems hp rfl ?_))
  refine wpAny_pure ?_
  unfold Builtin.Itertools.itIntField
  refine wpAny_bind (wpAny_bind (wpAny_field hit rfl (x := rawInt (0 : Nat)) rfl ?_))
  refine wpAny_pure ?_
  unfold Builtin.Itertools.itNumbersFrom
  refine wpAny_bind (wpAny_bind (wpAny_load hit ?_))
  refine wpAny_pure ?_
  refine wpAny_bind (wpAny_bind (wpAny_field hit rfl (x := rawInt (0 : Nat)) rfl ?_))
  refine wpAny_pure ?_
  refine wpAny_bind (wpAny_setField hit rfl (by simp [objP]) ?_)
  have hit2 : (s.heap.update it (Obj.mapFields fun x => x.setIfInBounds 1 (rawInt 1))).get? it = some (objP pool 0 1 z []) := up1 hit rfl
  show wpAny _ _ (newTuple [] >>= _) _ _ _
  refine wpAny_bind (wpAny_newTuple ?_ (by simp only [List.length_cons, List.length_nil]; decide))
  refine wpAny_bind (wpAny_field (Heap.get?_push_of_some _ hit2) rfl (x := z) rfl ?_)
  refine wpAny_bind (wpAny_setField (Heap.get?_push_of_some _ hit2) rfl (by simp [objP]) ?_)
  refine wpAny_bind (wpAny_letGo ?_)
  have hlt := Heap.lt_size hit2
  refine wpAny_pure ⟨_, rfl, wpAny_pure (h _ _ ?_ (Nat.ne_of_gt hlt) (up1 (Heap.get?_push_of_some _ hit2) rfl) (oth (Nat.ne_of_gt hlt) (Heap.get?_push_size _ rfl)) (fun b ob hb e => oth hb (Heap.get?_push_of_some _ (oth hb e))) ?_)⟩
  · cases q : s.heap.get? ((s.heap.update it _).objs.size) with
    | none => rfl
    | some ob => exact absurd (Heap.lt_size q) (by rw [Heap.size_update]; exact Nat.lt_irrefl _)
  · show s.heap.objs.size ≤ (s.heap.update it _).objs.size
    rw [Heap.size_update]; exact Nat.le_refl _
theorem p_first_1_0 {it pool : Addr} {z : Value} {t0 t1 : Tok} {Q : Option Value → Shared → Prop} (hit : s.heap.get? it = some (objP pool 0 0 z [0])) (hp : s.heap.get? pool = some (seqObj "tuple" #[.int 0 t0] 0))
    (h : ∀ h' a, s.heap.get? a = none → a ≠ it → h'.get? it = some (objP pool 0 1 (.ref a) [0]) → h'.get? a = some (seqObj "tuple" #[] 0) → (∀ b o, b ≠ it → s.heap.get? b = some o → h'.get? b = some o) → s.heap.objs.size ≤ a → Q (some (.ref a)) { s with heap := h' }) :
    wpAny (model prog w) A (pyNext (.ref it)) Q E s := by
  have hT : s.TypeIs (.ref it) "itertools.permutations" := ⟨_, hit, rfl⟩
  unfold pyNext
  refine wpAny_bind (wpAny_attempt (wpAny_callSpecial?_slot (name := Str.ofString "__next__") hT snext_p (wpAny_call_entry snext_p hT enext_p ?_ (anext_p _))))
  show wpAny _ _ (field (.ref it) 0 >>= _) _ _ s
  refine wpAny_bind (wpAny_field hit rfl (x := .ref pool) rfl ?_)
  unfold Builtin.Itertools.itPoolItems
  refine wpAny_bind (wpAny_bind (wpAny_seqItems hp rfl ?_))
  refine wpAny_pure ?_
  unfold Builtin.Itertools.itIntField
  refine wpAny_bind (wpAny_bind (wpAny_field hit rfl (x := rawInt (0 : Nat)) rfl ?_))
  refine wpAny_pure ?_
  unfold Builtin.Itertools.itNumbersFrom
  refine wpAny_bind (wpAny_bind (wpAny_load hit ?_))
  refine wpAny_pure ?_
  refine wpAny_bind (wpAny_bind (wpAny_field hit rfl (x := rawInt (0 : Nat)) rfl ?_))
  refine wpAny_pure ?_
  refine wpAny_bind (wpAny_setField hit rfl (by simp [objP]) ?_)
  have hit2 : (s.heap.update it (Obj.mapFields fun x => x.setIfInBounds 1 (rawInt 1))).get? it = some (objP pool 0 1 z [0]) := up1 hit rfl
  show wpAny _ _ (newTuple [] >>= _) _ _ _
  refine wpAny_bind (wpAny_newTuple ?_ (by simp only [List.length_cons, List.length_nil]; decide))
  refine wpAny_bind (wpAny_field (Heap.get?_push_of_some _ hit2) rfl (x := z) rfl ?_)
  refine wpAny_bind (wpAny_setField (Heap.get?_push_of_some _ hit2) rfl (by simp [objP]) ?_)
  refine wpAny_bind (wpAny_letGo ?_)
  have hlt := Heap.lt_size hit2
  refine wpAny_pure ⟨_, rfl, wpAny_pure (h _ _ ?_ (Nat.ne_of_gt hlt) (up1 (Heap.get?_push_of_some _ hit2) rfl) (oth (Nat.ne_of_gt hlt) (Heap.get?_push_size _ rfl)) (fun b ob hb e => oth hb (Heap.get?_push_of_some _ (oth hb e))) ?_)⟩
  · cases q : s.heap.get? ((s.heap.update it _).objs.size) with
    | none => rfl
    | some ob => exact absurd (Heap.lt_size q) (by rw [Heap.size_update]; exact Nat.lt_irrefl _)
  · show s.heap.objs.size ≤ (s.heap.update it _).objs.size
    rw [Heap.size_update]; exact Nat.le_refl _
theorem p_first_1_1 {it pool : Addr} {z : Value} {t0 t1 : Tok} {Q : Option Value → Shared → Prop} (hit : s.heap.get? it = some (objP pool 1 0 z [0, 1])) (hp : s.heap.get? pool = some (seqObj "tuple" #[.int 0 t0] 0))
    (h : ∀ h' a, s.heap.get? a = none → a ≠ it → h'.get? it = some (objP pool 1 1 (.ref a) [0, 1]) → h'.get? a = some (seqObj "tuple" #[.int 0 t0] 0) → (∀ b o, b ≠ it → s.heap.get? b = some o → h'.get? b = some o) → s.heap.objs.size ≤ a → Q (some (.ref a)) { s with heap := h' }) :
    wpAny (model prog w) A (pyNext (.ref it)) Q E s := by
  have hT : s.TypeIs (.ref it) "itertools.permutations" := ⟨_, hit, rfl⟩
  unfold pyNext
  refine wpAny_bind (wpAny_attempt (wpAny_callSpecial?_slot (name := Str.ofString "__next__") hT snext_p (wpAny_call_entry snext_p hT enext_p ?_ (anext_p _))))
  show wpAny _ _ (field (.ref it) 0 >>= _) _ _ s
  refine wpAny_bind (wpAny_field hit rfl (x := .ref pool) rfl ?_)
  unfold Builtin.Itertools.itPoolItems
  refine wpAny_bind (wpAny_bind (wpAny_seqItems hp rfl ?_))
  refine wpAny_pure ?_
  unfold Builtin.Itertools.itIntField
  refine wpAny_bind (wpAny_bind (wpAny_field hit rfl (x := rawInt (1 : Nat)) rfl ?_))
  refine wpAny_pure ?_
  unfold Builtin.Itertools.itNumbersFrom
  refine wpAny_bind (wpAny_bind (wpAny_load hit ?_))
  refine wpAny_pure ?_
  refine wpAny_bind (wpAny_bind (wpAny_field hit rfl (x := rawInt (0 : Nat)) rfl ?_))
  refine wpAny_pure ?_
  refine wpAny_bind (wpAny_setField hit rfl (by simp [objP]) ?_)
  have hit2 : (s.heap.update it (Obj.mapFields fun x => x.setIfInBounds 1 (rawInt 1))).get? it = some (objP pool 1 1 z [0, 1]) := up1 hit rfl
  show wpAny _ _ (newTuple [.int 0 t0] >>= _) _ _ _
  refine wpAny_bind (wpAny_newTuple ?_ (by simp only [List.length_cons, List.length_nil]; decide))
  refine wpAny_bind (wpAny_field (Heap.get?_push_of_some _ hit2) rfl (x := z) rfl ?_)
  refine wpAny_bind (wpAny_setField (Heap.get?_push_of_some _ hit2) rfl (by simp [objP]) ?_)
  refine wpAny_bind (wpAny_letGo ?_)
  have hlt := Heap.lt_size hit2
  refine wpAny_pure ⟨_, rfl, wpAny_pure (h _ _ ?_ (Nat.ne_of_gt hlt) (up1 (Heap.get?_push_of_some _ hit2) rfl) (oth (Nat.ne_of_gt hlt) (Heap.get?_push_size _ rfl)) (fun b ob hb e => oth hb (Heap.get?_push_of_some _ (oth hb e))) ?_)⟩
  · cases q : s.heap.get? ((s.heap.update it _).objs.size) with
    | none => rfl
    | some ob => exact absurd (Heap.lt_size q) (by rw [Heap.size_update]; exact Nat.lt_irrefl _)
  · show s.heap.objs.size ≤ (s.heap.update it _).objs.size
    rw [Heap.size_update]; exact Nat.le_refl _
theorem p_first_2_0 {it pool : Addr} {z : Value} {t0 t1 : Tok} {Q : Option Value → Shared → Prop} (hit : s.heap.get? it = some (objP pool 0 0 z [0, 1])) (hp : s.heap.get? pool = some (seqObj "tuple" #[.int 0 t0, .int 1 t1] 0))
    (h : ∀ h' a, s.heap.get? a = none → a ≠ it → h'.get? it = some (objP pool 0 1 (.ref a) [0, 1]) → h'.get? a = some (seqObj "tuple" #[] 0) → (∀ b o, b ≠ it → s.heap.get? b = some o → h'.get? b = some o) → s.heap.objs.size ≤ a → Q (some (.ref a)) { s with heap := h' }) :
    wpAny (model prog w) A (pyNext (.ref it)) Q E s := by
  have hT : s.TypeIs (.ref it) "itertools.permutations" := ⟨_, hit, rfl⟩
  unfold pyNext
  refine wpAny_bind (wpAny_attempt (wpAny_callSpecial?_slot (name := Str.ofString "__next__") hT snext_p (wpAny_call_entry snext_p hT enext_p ?_ (anext_p _))))
  show wpAny _ _ (field (.ref it) 0 >>= _) _ _ s
  refine wpAny_bind (wpAny_field hit rfl (x := .ref pool) rfl ?_)
  unfold Builtin.Itertools.itPoolItems
  refine wpAny_bind (wpAny_bind (wpAny_seqItems hp rfl ?_))
  refine wpAny_pure ?_
  unfold Builtin.Itertools.itIntField
  refine wpAny_bind (wpAny_bind (wpAny_field hit rfl (x := rawInt (0 : Nat)) rfl ?_))
  refine wpAny_pure ?_
  unfold Builtin.Itertools.itNumbersFrom
  refine wpAny_bind (wpAny_bind (wpAny_load hit ?_))
  refine wpAny_pure ?_
  refine wpAny_bind (wpAny_bind (wpAny_field hit rfl (x := rawInt (0 : Nat)) rfl ?_))
  refine wpAny_pure ?_
  refine wpAny_bind (wpAny_setField hit rfl (by simp [objP]) ?_)
  have hit2 : (s.heap.update it (Obj.mapFields fun x => x.setIfInBounds 1 (rawInt 1))).get? it = some (objP pool 0 1 z [0, 1]) := up1 hit rfl
  show wpAny _ _ (newTuple [] >>= _) _ _ _
  refine wpAny_bind (wpAny_newTuple ?_ (by simp only [List.length_cons, List.length_nil]; decide))
  refine wpAny_bind (wpAny_field (Heap.get?_push_of_some _ hit2) rfl (x := z) rfl ?_)
  refine wpAny_bind (wpAny_setField (Heap.get?_push_of_some _ hit2) rfl (by simp [objP]) ?_)
  refine wpAny_bind (wpAny_letGo ?_)
  have hlt := Heap.lt_size hit2
  refine wpAny_pure ⟨_, rfl, wpAny_pure (h _ _ ?_ (Nat.ne_of_gt hlt) (up1 (Heap.get?_push_of_some _ hit2) rfl) (oth (Nat.ne_of_gt hlt) (Heap.get?_push_size _ rfl)) (fun b ob hb e => oth hb (Heap.get?_push_of_some _ (oth hb e))) ?_)⟩
  · cases q : s.heap.get? ((s.heap.update it _).objs.size) with
    | none => rfl
    | some ob => exact absurd (Heap.lt_size q) (by rw [Heap.size_update]; exact Nat.lt_irrefl _)
  · show s.heap.objs.size ≤ (s.heap.update it _).objs.size
    rw [Heap.size_update]; exact Nat.le_refl _
theorem p_first_2_1 {it pool : Addr} {z : Value} {t0 t1 : Tok} {Q : Option Value → Shared → Prop} (hit : s.heap.get? it = some (objP pool 1 0 z [0, 1, 2])) (hp : s.heap.get? pool = some (seqObj "tuple" #[.int 0 t0, .int 1 t1] 0))
    (h : ∀ h' a, s.heap.get? a = none → a ≠ it → h'.get? it = some (objP pool 1 1 (.ref a) [0, 1, 2]) → h'.get? a = some (seqObj "tuple" #[.int 0 t0] 0) → (∀ b o, b ≠ it → s.heap.get? b = some o → h'.get? b = some o) → s.heap.objs.size ≤ a → Q (some (.ref a)) { s with heap := h' }) :
    wpAny (model prog w) A (pyNext (.ref it)) Q E s := by
  have hT : s.TypeIs (.ref it) "itertools.permutations" := ⟨_, hit, rfl⟩
  unfold pyNext
  refine wpAny_bind (wpAny_attempt (wpAny_callSpecial?_slot (name := Str.ofString "__next__") hT snext_p (wpAny_call_entry snext_p hT enext_p ?_ (anext_p _))))
  show wpAny _ _ (field (.ref it) 0 >>= _) _ _ s
  refine wpAny_bind (wpAny_field hit rfl (x := .ref pool) rfl ?_)
  unfold Builtin.Itertools.itPoolItems
  refine wpAny_bind (wpAny_bind (wpAny_seqItems hp rfl ?_))
  refine wpAny_pure ?_
  unfold Builtin.Itertools.itIntField
  refine wpAny_bind (wpAny_bind (wpAny_field hit rfl (x := rawInt (1 : Nat)) rfl ?_))
  refine wpAny_pure ?_
  unfold Builtin.Itertools.itNumbersFrom
  refine wpAny_bind (wpAny_bind (wpAny_load hit ?_))
  refine wpAny_pure ?_
  refine wpAny_bind (wpAny_bind (wpAny_field hit rfl (x := rawInt (0 : Nat)) rfl ?_))
  refine wpAny_pure ?_
  refine wpAny_bind (wpAny_setField hit rfl (by simp [objP]) ?_)
  have hit2 : (s.heap.update it (Obj.mapFields fun x => x.setIfInBounds 1 (rawInt 1))).get? it = some (objP pool 1 1 z [0, 1, 2]) := up1 hit rfl
  show wpAny _ _ (newTuple [.int 0 t0] >>= _) _ _ _
  refine wpAny_bind (wpAny_newTuple ?_ (by simp only [List.length_cons, List.length_nil]; decide))
  refine wpAny_bind (wpAny_field (Heap.get?_push_of_some _ hit2) rfl (x := z) rfl ?_)
  refine wpAny_bind (wpAny_setField (Heap.get?_push_of_some _ hit2) rfl (by simp [objP]) ?_)
  refine wpAny_bind (wpAny_letGo ?_)
  have hlt := Heap.lt_size hit2
  refine wpAny_pure ⟨_, rfl, wpAny_pure (h _ _ ?_ (Nat.ne_of_gt hlt) (up1 (Heap.get?_push_of_some _ hit2) rfl) (oth (Nat.ne_of_gt hlt) (Heap.get?_push_size _ rfl)) (fun b ob hb e => oth hb (Heap.get?_push_of_some _ (oth hb e))) ?_)⟩
  · cases q : s.heap.get? ((s.heap.update it _).objs.size) with
    | none => rfl
    | some ob => exact absurd (Heap.lt_size q) (by rw [Heap.size_update]; exact Nat.lt_irrefl _)
  · show s.heap.objs.size ≤ (s.heap.update it _).objs.size
    rw [Heap.size_update]; exact Nat.le_refl _
theorem p_first_2_2 {it pool : Addr} {z : Value} {t0 t1 : Tok} {Q : Option Value → Shared → Prop} (hit : s.heap.get? it = some (objP pool 2 0 z [0, 1, 2, 1])) (hp : s.heap.get? pool = some (seqObj "tuple" #[.int 0 t0, .int 1 t1] 0))
    (h : ∀ h' a, s.heap.get? a = none → a ≠ it → h'.get? it = some (objP pool 2 1 (.ref a) [0, 1, 2, 1]) → h'.get? a = some (seqObj "tuple" #[.int 0 t0, .int 1 t1] 0) → (∀ b o, b ≠ it → s.heap.get? b = some o → h'.get? b = some o) → s.heap.objs.size ≤ a → Q (some (.ref a)) { s with heap := h' }) :
    wpAny (model prog w) A (pyNext (.ref it)) Q E s := by
  have hT : s.TypeIs (.ref it) "itertools.permutations" := ⟨_, hit, rfl⟩
  unfold pyNext
  refine wpAny_bind (wpAny_attempt (wpAny_callSpecial?_slot (name := Str.ofString "__next__") hT snext_p (wpAny_call_entry snext_p hT enext_p ?_ (anext_p _))))
  show wpAny _ _ (field (.ref it) 0 >>= _) _ _ s
  refine wpAny_bind (wpAny_field hit rfl (x := .ref pool) rfl ?_)
  unfold Builtin.Itertools.itPoolItems
  refine wpAny_bind (wpAny_bind (wpAny_seqItems hp rfl ?_))
  refine wpAny_pure ?_
  unfold Builtin.Itertools.itIntField
  refine wpAny_bind (wpAny_bind (wpAny_field hit rfl (x := rawInt (2 : Nat)) rfl ?_))
  refine wpAny_pure ?_
  unfold Builtin.Itertools.itNumbersFrom
  refine wpAny_bind (wpAny_bind (wpAny_load hit ?_))
  refine wpAny_pure ?_
  refine wpAny_bind (wpAny_bind (wpAny_field hit rfl (x := rawInt (0 : Nat)) rfl ?_))
  refine wpAny_pure ?_
  refine wpAny_bind (wpAny_setField hit rfl (by simp [objP]) ?_)
  have hit2 : (s.heap.update it (Obj.mapFields fun x => x.setIfInBounds 1 (rawInt 1))).get? it = some (objP pool 2 1 z [0, 1, 2, 1]) := up1 hit rfl
  show wpAny _ _ (newTuple [.int 0 t0, .int 1 t1] >>= _) _ _ _
  refine wpAny_bind (wpAny_newTuple ?_ (by simp only [List.length_cons, List.length_nil]; decide))
  refine wpAny_bind (wpAny_field (Heap.get?_push_of_some _ hit2) rfl (x := z) rfl ?_)
  refine wpAny_bind (wpAny_setField (Heap.get?_push_of_some _ hit2) rfl (by simp [objP]) ?_)
  refine wpAny_bind (wpAny_letGo ?_)
  have hlt := Heap.lt_size hit2
  refine wpAny_pure ⟨_, rfl, wpAny_pure (h _ _ ?_ (Nat.ne_of_gt hlt) (up1 (Heap.get?_push_of_some _ hit2) rfl) (oth (Nat.ne_of_gt hlt) (Heap.get?_push_size _ rfl)) (fun b ob hb e => oth hb (Heap.get?_push_of_some _ (oth hb e))) ?_)⟩
  · cases q : s.heap.get? ((s.heap.update it _).objs.size) with
    | none => rfl
    | some ob => exact absurd (Heap.lt_size q) (by rw [Heap.size_update]; exact Nat.lt_irrefl _)
  · show s.heap.objs.size ≤ (s.heap.update it _).objs.size
    rw [Heap.size_update]; exact Nat.le_refl _
theorem p_move_2_1 {it pool : Addr} {z : Value} {t0 t1 : Tok} {Q : Option Value → Shared → Prop} (hit : s.heap.get? it = some (objP pool 1 1 z [0, 1, 2])) (hp : s.heap.get? pool = some (seqObj "tuple" #[.int 0 t0, .int 1 t1] 0))
    (h : ∀ h' a, s.heap.get? a = none → a ≠ it → h'.get? it = some (objP pool 1 1 (.ref a) [1, 0, 1]) → h'.get? a = some (seqObj "tuple" #[.int 1 t1] 0) → (∀ b o, b ≠ it → s.heap.get? b = some o → h'.get? b = some o) → s.heap.objs.size ≤ a → Q (some (.ref a)) { s with heap := h' }) :
    wpAny (model prog w) A (pyNext (.ref it)) Q E s := by
  have hT : s.TypeIs (.ref it) "itertools.permutations" := ⟨_, hit, rfl⟩
  unfold pyNext
  refine wpAny_bind (wpAny_attempt (wpAny_callSpecial?_slot (name := Str.ofString "__next__") hT snext_p (wpAny_call_entry snext_p hT enext_p ?_ (anext_p _))))
  show wpAny _ _ (field (.ref it) 0 >>= _) _ _ s
  refine wpAny_bind (wpAny_field hit rfl (x := .ref pool) rfl ?_)
  unfold Builtin.Itertools.itPoolItems
  refine wpAny_bind (wpAny_bind (wpAny_seqItems hp rfl ?_))
  refine wpAny_pure ?_
  unfold Builtin.Itertools.itIntField
  refine wpAny_bind (wpAny_bind (wpAny_field hit rfl (x := rawInt (1 : Nat)) rfl ?_))
  refine wpAny_pure ?_
  unfold Builtin.Itertools.itNumbersFrom
  refine wpAny_bind (wpAny_bind (wpAny_load hit ?_))
  refine wpAny_pure ?_
  refine wpAny_bind (wpAny_bind (wpAny_field hit rfl (x := rawInt (1 : Nat)) rfl ?_))
  refine wpAny_pure ?_
  show wpAny _ _ (Builtin.Itertools.itSetNumbersFrom (.ref it) 4 [1, 0, 1] >>= _) _ _ _
  unfold Builtin.Itertools.itSetNumbersFrom
  refine wpAny_bind (wpAny_updateFields hit rfl ?_ (by show _ ≤ sizeLine + 3; rw [sizeLine_eq]; simp))
  have hit2 : (s.heap.update it (Obj.mapFields fun fs => fs.extract 0 4 ++ (([1, 0, 1] : List Nat).map fun (n : Nat) => rawInt n).toArray)).get? it = some (objP pool 1 1 z [1, 0, 1]) := (up1 hit (by rw [setN_p]; rfl)).trans (congrArg some setN_p)
  show wpAny _ _ (newTuple [.int 1 t1] >>= _) _ _ _
  refine wpAny_bind (wpAny_newTuple ?_ (by simp only [List.length_cons, List.length_nil]; decide))
  refine wpAny_bind (wpAny_field (Heap.get?_push_of_some _ hit2) rfl (x := z) rfl ?_)
  refine wpAny_bind (wpAny_setField (Heap.get?_push_of_some _ hit2) rfl (by simp [objP]) ?_)
  refine wpAny_bind (wpAny_letGo ?_)
  have hlt := Heap.lt_size hit2
  refine wpAny_pure ⟨_, rfl, wpAny_pure (h _ _ ?_ (Nat.ne_of_gt hlt) (up1 (Heap.get?_push_of_some _ hit2) rfl) (oth (Nat.ne_of_gt hlt) (Heap.get?_push_size _ rfl)) (fun b ob hb e => oth hb (Heap.get?_push_of_some _ (oth hb e))) ?_)⟩
  · cases q : s.heap.get? ((s.heap.update it _).objs.size) with
    | none => rfl
    | some ob => exact absurd (Heap.lt_size q) (by rw [Heap.size_update]; exact Nat.lt_irrefl _)
  · show s.heap.objs.size ≤ (s.heap.update it _).objs.size
    rw [Heap.size_update]; exact Nat.le_refl _
theorem p_move_2_2 {it pool : Addr} {z : Value} {t0 t1 : Tok} {Q : Option Value → Shared → Prop} (hit : s.heap.get? it = some (objP pool 2 1 z [0, 1, 2, 1])) (hp : s.heap.get? pool = some (seqObj "tuple" #[.int 0 t0, .int 1 t1] 0))
    (h : ∀ h' a, s.heap.get? a = none → a ≠ it → h'.get? it = some (objP pool 2 1 (.ref a) [1, 0, 1, 1]) → h'.get? a = some (seqObj "tuple" #[.int 1 t1, .int 0 t0] 0) → (∀ b o, b ≠ it → s.heap.get? b = some o → h'.get? b = some o) → s.heap.objs.size ≤ a → Q (some (.ref a)) { s with heap := h' }) :
    wpAny (model prog w) A (pyNext (.ref it)) Q E s := by
  have hT : s.TypeIs (.ref it) "itertools.permutations" := ⟨_, hit, rfl⟩
  unfold pyNext
  refine wpAny_bind (wpAny_attempt (wpAny_callSpecial?_slot (name := Str.ofString "__next__") hT snext_p (wpAny_call_entry snext_p hT enext_p ?_ (anext_p _))))
  show wpAny _ _ (field (.ref it) 0 >>= _) _ _ s
  refine wpAny_bind (wpAny_field hit rfl (x := .ref pool) rfl ?_)
  unfold Builtin.Itertools.itPoolItems
  refine wpAny_bind (wpAny_bind (wpAny_seqItems hp rfl ?_))
  refine wpAny_pure ?_
  unfold Builtin.Itertools.itIntField
  refine wpAny_bind (wpAny_bind (wpAny_field hit rfl (x := rawInt (2 : Nat)) rfl ?_))
  refine wpAny_pure ?_
  unfold Builtin.Itertools.itNumbersFrom
  refine wpAny_bind (wpAny_bind (wpAny_load hit ?_))
  refine wpAny_pure ?_
  refine wpAny_bind (wpAny_bind (wpAny_field hit rfl (x := rawInt (1 : Nat)) rfl ?_))
  refine wpAny_pure ?_
  show wpAny _ _ (Builtin.Itertools.itSetNumbersFrom (.ref it) 4 [1, 0, 1, 1] >>= _) _ _ _
  unfold Builtin.Itertools.itSetNumbersFrom
  refine wpAny_bind (wpAny_updateFields hit rfl ?_ (by show _ ≤ sizeLine + 3; rw [sizeLine_eq]; simp))
  have hit2 : (s.heap.update it (Obj.mapFields fun fs => fs.extract 0 4 ++ (([1, 0, 1, 1] : List Nat).map fun (n : Nat) => rawInt n).toArray)).get? it = some (objP pool 2 1 z [1, 0, 1, 1]) := (up1 hit (by rw [setN_p]; rfl)).trans (congrArg some setN_p)
  show wpAny _ _ (newTuple [.int 1 t1, .int 0 t0] >>= _) _ _ _
  refine wpAny_bind (wpAny_newTuple ?_ (by simp only [List.length_cons, List.length_nil]; decide))
  refine wpAny_bind (wpAny_field (Heap.get?_push_of_some _ hit2) rfl (x := z) rfl ?_)
  refine wpAny_bind (wpAny_setField (Heap.get?_push_of_some _ hit2) rfl (by simp [objP]) ?_)
  refine wpAny_bind (wpAny_letGo ?_)
  have hlt := Heap.lt_size hit2
  refine wpAny_pure ⟨_, rfl, wpAny_pure (h _ _ ?_ (Nat.ne_of_gt hlt) (up1 (Heap.get?_push_of_some _ hit2) rfl) (oth (Nat.ne_of_gt hlt) (Heap.get?_push_size _ rfl)) (fun b ob hb e => oth hb (Heap.get?_push_of_some _ (oth hb e))) ?_)⟩
  · cases q : s.heap.get? ((s.heap.update it _).objs.size) with
    | none => rfl
    | some ob => exact absurd (Heap.lt_size q) (by rw [Heap.size_update]; exact Nat.lt_irrefl _)
  · show s.heap.objs.size ≤ (s.heap.update it _).objs.size
    rw [Heap.size_update]; exact Nat.le_refl _
theorem p_end_0_0 {it pool : Addr} {z : Value} {t0 t1 : Tok} {Q : Option Value → Shared → Prop} (hit : s.heap.get? it = some (objP pool 0 1 z [])) (hp : s.heap.get? pool = some (seqObj "tuple" #[] 0))
    (hh : A.handled = none) (h : ∀ h', Heap.ExtBut it s.heap h' → Q none { s with heap := h' }) :
    wpAny (model prog w) A (pyNext (.ref it)) Q E s := by
  have hT : s.TypeIs (.ref it) "itertools.permutations" := ⟨_, hit, rfl⟩
  unfold pyNext
  refine wpAny_bind (wpAny_attempt (wpAny_callSpecial?_slot (name := Str.ofString "__next__") hT snext_p (wpAny_call_entry snext_p hT enext_p ?_ (anext_p _))))
  show wpAny _ _ (field (.ref it) 0 >>= _) _ _ s
  refine wpAny_bind (wpAny_field hit rfl (x := .ref pool) rfl ?_)
  unfold Builtin.Itertools.itPoolItems
  refine wpAny_bind (wpAny_bind (wpAny_seqItems hp rfl ?_))
  refine wpAny_pure ?_
  unfold Builtin.Itertools.itIntField
  refine wpAny_bind (wpAny_bind (wpAny_field hit rfl (x := rawInt (0 : Nat)) rfl ?_))
  refine wpAny_pure ?_
  unfold Builtin.Itertools.itNumbersFrom
  refine wpAny_bind (wpAny_bind (wpAny_load hit ?_))
  refine wpAny_pure ?_
  refine wpAny_bind (wpAny_bind (wpAny_field hit rfl (x := rawInt (1 : Nat)) rfl ?_))
  refine wpAny_pure ?_
  show wpAny _ _ (setField (.ref it) 1 (rawInt 2) >>= _) _ _ _
  refine wpAny_bind (wpAny_setField hit rfl (by simp [objP]) ?_)
  show wpAny _ _ (newExc (.type "StopIteration") [] >>= _) _ _ _
  refine wpAny_bind ?_
  simp only [newExc, newTuple]
  refine wpAny_bind (wpAny_newObj_type ?_ (by size_fits))
  refine wpAny_bind (m := firstArgMember _ _) (wpAny_of_eq (a := Value.none) (by first | rfl | (simp only [firstArgMember]; rfl)) ?_)
  refine wpAny_newObj_type ?_ (by size_fits)
  simp only [raiseNew]
  refine wpAny_bind (wpAny_handled ?_)
  rw [show A.in1.handled = none from hh]
  refine wpAny_bind (wpAny_pure (wpAny_throw ?_))
  refine wpAny_bind (wpAny_isInstance (T := "StopIteration") (b := true) ⟨_, Heap.get?_push_size _ rfl, rfl⟩ isSubtype_stop ?_)
  exact wpAny_pure (h _ (((Heap.SameBut.update ..).extBut.push _).push _))
theorem p_end_1_0 {it pool : Addr} {z : Value} {t0 t1 : Tok} {Q : Option Value → Shared → Prop} (hit : s.heap.get? it = some (objP pool 0 1 z [0])) (hp : s.heap.get? pool = some (seqObj "tuple" #[.int 0 t0] 0))
    (hh : A.handled = none) (h : ∀ h', Heap.ExtBut it s.heap h' → Q none { s with heap := h' }) :
    wpAny (model prog w) A (pyNext (.ref it)) Q E s := by
  have hT : s.TypeIs (.ref it) "itertools.permutations" := ⟨_, hit, rfl⟩
  unfold pyNext
  refine wpAny_bind (wpAny_attempt (wpAny_callSpecial?_slot (name := Str.ofString "__next__") hT snext_p (wpAny_call_entry snext_p hT enext_p ?_ (anext_p _))))
  show wpAny _ _ (field (.ref it) 0 >>= _) _ _ s
  refine wpAny_bind (wpAny_field hit rfl (x := .ref pool) rfl ?_)
  unfold Builtin.Itertools.itPoolItems
  refine wpAny_bind (wpAny_bind (wpAny_seqItems hp rfl ?_))
  refine wpAny_pure ?_
  unfold Builtin.Itertools.itIntField
  refine wpAny_bind (wpAny_bind (wpAny_field hit rfl (x := rawInt (0 : Nat)) rfl ?_))
  refine wpAny_pure ?_
  unfold Builtin.Itertools.itNumbersFrom
  refine wpAny_bind (wpAny_bind (wpAny_load hit ?_))
  refine wpAny_pure ?_
  refine wpAny_bind (wpAny_bind (wpAny_field hit rfl (x := rawInt (1 : Nat)) rfl ?_))
  refine wpAny_pure ?_
  show wpAny _ _ (setField (.ref it) 1 (rawInt 2) >>= _) _ _ _
  refine wpAny_bind (wpAny_setField hit rfl (by simp [objP]) ?_)
  show wpAny _ _ (newExc (.type "StopIteration") [] >>= _) _ _ _
  refine wpAny_bind ?_
  simp only [newExc, newTuple]
  refine wpAny_bind (wpAny_newObj_type ?_ (by size_fits))
  refine wpAny_bind (m := firstArgMember _ _) (wpAny_of_eq (a := Value.none) (by first | rfl | (simp only [firstArgMember]; rfl)) ?_)
  refine wpAny_newObj_type ?_ (by size_fits)
  simp only [raiseNew]
  refine wpAny_bind (wpAny_handled ?_)
  rw [show A.in1.handled = none from hh]
  refine wpAny_bind (wpAny_pure (wpAny_throw ?_))
  refine wpAny_bind (wpAny_isInstance (T := "StopIteration") (b := true) ⟨_, Heap.get?_push_size _ rfl, rfl⟩ isSubtype_stop ?_)
  exact wpAny_pure (h _ (((Heap.SameBut.update ..).extBut.push _).push _))
theorem p_end_1_1 {it pool : Addr} {z : Value} {t0 t1 : Tok} {Q : Option Value → Shared → Prop} (hit : s.heap.get? it = some (objP pool 1 1 z [0, 1])) (hp : s.heap.get? pool = some (seqObj "tuple" #[.int 0 t0] 0))
    (hh : A.handled = none) (h : ∀ h', Heap.ExtBut it s.heap h' → Q none { s with heap := h' }) :
    wpAny (model prog w) A (pyNext (.ref it)) Q E s := by
  have hT : s.TypeIs (.ref it) "itertools.permutations" := ⟨_, hit, rfl⟩
  unfold pyNext
  refine wpAny_bind (wpAny_attempt (wpAny_callSpecial?_slot (name := Str.ofString "__next__") hT snext_p (wpAny_call_entry snext_p hT enext_p ?_ (anext_p _))))
  show wpAny _ _ (field (.ref it) 0 >>= _) _ _ s
  refine wpAny_bind (wpAny_field hit rfl (x := .ref pool) rfl ?_)
  unfold Builtin.Itertools.itPoolItems
  refine wpAny_bind (wpAny_bind (wpAny_seqItems hp rfl ?_))
  refine wpAny_pure ?_
  unfold Builtin.Itertools.itIntField
  refine wpAny_bind (wpAny_bind (wpAny_field hit rfl (x := rawInt (1 : Nat)) rfl ?_))
  refine wpAny_pure ?_
  unfold Builtin.Itertools.itNumbersFrom
  refine wpAny_bind (wpAny_bind (wpAny_load hit ?_))
  refine wpAny_pure ?_
  refine wpAny_bind (wpAny_bind (wpAny_field hit rfl (x := rawInt (1 : Nat)) rfl ?_))
  refine wpAny_pure ?_
  show wpAny _ _ (setField (.ref it) 1 (rawInt 2) >>= _) _ _ _
  refine wpAny_bind (wpAny_setField hit rfl (by simp [objP]) ?_)
  show wpAny _ _ (newExc (.type "StopIteration") [] >>= _) _ _ _
  refine wpAny_bind ?_
  simp only [newExc, newTuple]
  refine wpAny_bind (wpAny_newObj_type ?_ (by size_fits))
  refine wpAny_bind (m := firstArgMember _ _) (wpAny_of_eq (a := Value.none) (by first | rfl | (simp only [firstArgMember]; rfl)) ?_)
  refine wpAny_newObj_type ?_ (by size_fits)
  simp only [raiseNew]
  refine wpAny_bind (wpAny_handled ?_)
  rw [show A.in1.handled = none from hh]
  refine wpAny_bind (wpAny_pure (wpAny_throw ?_))
  refine wpAny_bind (wpAny_isInstance (T := "StopIteration") (b := true) ⟨_, Heap.get?_push_size _ rfl, rfl⟩ isSubtype_stop ?_)
  exact wpAny_pure (h _ (((Heap.SameBut.update ..).extBut.push _).push _))
theorem p_end_2_0 {it pool : Addr} {z : Value} {t0 t1 : Tok} {Q : Option Value → Shared → Prop} (hit : s.heap.get? it = some (objP pool 0 1 z [0, 1])) (hp : s.heap.get? pool = some (seqObj "tuple" #[.int 0 t0, .int 1 t1] 0))
    (hh : A.handled = none) (h : ∀ h', Heap.ExtBut it s.heap h' → Q none { s with heap := h' }) :
    wpAny (model prog w) A (pyNext (.ref it)) Q E s := by
  have hT : s.TypeIs (.ref it) "itertools.permutations" := ⟨_, hit, rfl⟩
  unfold pyNext
  refine wpAny_bind (wpAny_attempt (wpAny_callSpecial?_slot (name := Str.ofString "__next__") hT snext_p (wpAny_call_entry snext_p hT enext_p ?_ (anext_p _))))
  show wpAny _ _ (field (.ref it) 0 >>= _) _ _ s
  refine wpAny_bind (wpAny_field hit rfl (x := .ref pool) rfl ?_)
  unfold Builtin.Itertools.itPoolItems
  refine wpAny_bind (wpAny_bind (wpAny_seqItems hp rfl ?_))
  refine wpAny_pure ?_
  unfold Builtin.Itertools.itIntField
  refine wpAny_bind (wpAny_bind (wpAny_field hit rfl (x := rawInt (0 : Nat)) rfl ?_))
  refine wpAny_pure ?_
  unfold Builtin.Itertools.itNumbersFrom
  refine wpAny_bind (wpAny_bind (wpAny_load hit ?_))
  refine wpAny_pure ?_
  refine wpAny_bind (wpAny_bind (wpAny_field hit rfl (x := rawInt (1 : Nat)) rfl ?_))
  refine wpAny_pure ?_
  show wpAny _ _ (setField (.ref it) 1 (rawInt 2) >>= _) _ _ _
  refine wpAny_bind (wpAny_setField hit rfl (by simp [objP]) ?_)
  show wpAny _ _ (newExc (.type "StopIteration") [] >>= _) _ _ _
  refine wpAny_bind ?_
  simp only [newExc, newTuple]
  refine wpAny_bind (wpAny_newObj_type ?_ (by size_fits))
  refine wpAny_bind (m := firstArgMember _ _) (wpAny_of_eq (a := Value.none) (by first | rfl | (simp only [firstArgMember]; rfl)) ?_)
  refine wpAny_newObj_type ?_ (by size_fits)
  simp only [raiseNew]
  refine wpAny_bind (wpAny_handled ?_)
  rw [show A.in1.handled = none from hh]
  refine wpAny_bind (wpAny_pure (wpAny_throw ?_))
  refine wpAny_bind (wpAny_isInstance (T := "StopIteration") (b := true) ⟨_, Heap.get?_push_size _ rfl, rfl⟩ isSubtype_stop ?_)
  exact wpAny_pure (h _ (((Heap.SameBut.update ..).extBut.push _).push _))
theorem p_end_2_1 {it pool : Addr} {z : Value} {t0 t1 : Tok} {Q : Option Value → Shared → Prop} (hit : s.heap.get? it = some (objP pool 1 1 z [1, 0, 1])) (hp : s.heap.get? pool = some (seqObj "tuple" #[.int 0 t0, .int 1 t1] 0))
    (hh : A.handled = none) (h : ∀ h', Heap.ExtBut it s.heap h' → Q none { s with heap := h' }) :
    wpAny (model prog w) A (pyNext (.ref it)) Q E s := by
  have hT : s.TypeIs (.ref it) "itertools.permutations" := ⟨_, hit, rfl⟩
  unfold pyNext
  refine wpAny_bind (wpAny_attempt (wpAny_callSpecial?_slot (name := Str.ofString "__next__") hT snext_p (wpAny_call_entry snext_p hT enext_p ?_ (anext_p _))))
  show wpAny _ _ (field (.ref it) 0 >>= _) _ _ s
  refine wpAny_bind (wpAny_field hit rfl (x := .ref pool) rfl ?_)
  unfold Builtin.Itertools.itPoolItems
  refine wpAny_bind (wpAny_bind (wpAny_seqItems hp rfl ?_))
  refine wpAny_pure ?_
  unfold Builtin.Itertools.itIntField
  refine wpAny_bind (wpAny_bind (wpAny_field hit rfl (x := rawInt (1 : Nat)) rfl ?_))
  refine wpAny_pure ?_
  unfold Builtin.Itertools.itNumbersFrom
  refine wpAny_bind (wpAny_bind (wpAny_load hit ?_))
  refine wpAny_pure ?_
  refine wpAny_bind (wpAny_bind (wpAny_field hit rfl (x := rawInt (1 : Nat)) rfl ?_))
  refine wpAny_pure ?_
  show wpAny _ _ (setField (.ref it) 1 (rawInt 2) >>= _) _ _ _
  refine wpAny_bind (wpAny_setField hit rfl (by simp [objP]) ?_)
  show wpAny _ _ (newExc (.type "StopIteration") [] >>= _) _ _ _
  refine wpAny_bind ?_
  simp only [newExc, newTuple]
  refine wpAny_bind (wpAny_newObj_type ?_ (by size_fits))
  refine wpAny_bind (m := firstArgMember _ _) (wpAny_of_eq (a := Value.none) (by first | rfl | (simp only [firstArgMember]; rfl)) ?_)
  refine wpAny_newObj_type ?_ (by size_fits)
  simp only [raiseNew]
  refine wpAny_bind (wpAny_handled ?_)
  rw [show A.in1.handled = none from hh]
  refine wpAny_bind (wpAny_pure (wpAny_throw ?_))
  refine wpAny_bind (wpAny_isInstance (T := "StopIteration") (b := true) ⟨_, Heap.get?_push_size _ rfl, rfl⟩ isSubtype_stop ?_)
  exact wpAny_pure (h _ (((Heap.SameBut.update ..).extBut.push _).push _))
theorem p_end_2_2 {it pool : Addr} {z : Value} {t0 t1 : Tok} {Q : Option Value → Shared → Prop} (hit : s.heap.get? it = some (objP pool 2 1 z [1, 0, 1, 1])) (hp : s.heap.get? pool = some (seqObj "tuple" #[.int 0 t0, .int 1 t1] 0))
    (hh : A.handled = none) (h : ∀ h', Heap.ExtBut it s.heap h' → Q none { s with heap := h' }) :
    wpAny (model prog w) A (pyNext (.ref it)) Q E s := by
  have hT : s.TypeIs (.ref it) "itertools.permutations" := ⟨_, hit, rfl⟩
  unfold pyNext
  refine wpAny_bind (wpAny_attempt (wpAny_callSpecial?_slot (name := Str.ofString "__next__") hT snext_p (wpAny_call_entry snext_p hT enext_p ?_ (anext_p _))))
  show wpAny _ _ (field (.ref it) 0 >>= _) _ _ s
  refine wpAny_bind (wpAny_field hit rfl (x := .ref pool) rfl ?_)
  unfold Builtin.Itertools.itPoolItems
  refine wpAny_bind (wpAny_bind (wpAny_seqItems hp rfl ?_))
  refine wpAny_pure ?_
  unfold Builtin.Itertools.itIntField
  refine wpAny_bind (wpAny_bind (wpAny_field hit rfl (x := rawInt (2 : Nat)) rfl ?_))
  refine wpAny_pure ?_
  unfold Builtin.Itertools.itNumbersFrom
  refine wpAny_bind (wpAny_bind (wpAny_load hit ?_))
  refine wpAny_pure ?_
  refine wpAny_bind (wpAny_bind (wpAny_field hit rfl (x := rawInt (1 : Nat)) rfl ?_))
  refine wpAny_pure ?_
  show wpAny _ _ (setField (.ref it) 1 (rawInt 2) >>= _) _ _ _
  refine wpAny_bind (wpAny_setField hit rfl (by simp [objP]) ?_)
  show wpAny _ _ (newExc (.type "StopIteration") [] >>= _) _ _ _
  refine wpAny_bind ?_
  simp only [newExc, newTuple]
  refine wpAny_bind (wpAny_newObj_type ?_ (by size_fits))
  refine wpAny_bind (m := firstArgMember _ _) (wpAny_of_eq (a := Value.none) (by first | rfl | (simp only [firstArgMember]; rfl)) ?_)
  refine wpAny_newObj_type ?_ (by size_fits)
  simp only [raiseNew]
  refine wpAny_bind (wpAny_handled ?_)
  rw [show A.in1.handled = none from hh]
  refine wpAny_bind (wpAny_pure (wpAny_throw ?_))
  refine wpAny_bind (wpAny_isInstance (T := "StopIteration") (b := true) ⟨_, Heap.get?_push_size _ rfl, rfl⟩ isSubtype_stop ?_)
  exact wpAny_pure (h _ (((Heap.SameBut.update ..).extBut.push _).push _))
theorem c_first_0_0 {it pool : Addr} {z : Value} {t0 t1 : Tok} {Q : Option Value → Shared → Prop} (hit : s.heap.get? it = some (objC pool 0 z [])) (hp : s.heap.get? pool = some (seqObj "tuple" #[] 0))
    (h : ∀ h' a, s.heap.get? a = none → a ≠ it → h'.get? it = some (objC pool 1 (.ref a) []) → h'.get? a = some (seqObj "tuple" #[] 0) → (∀ b o, b ≠ it → s.heap.get? b = some o → h'.get? b = some o) → s.heap.objs.size ≤ a → Q (some (.ref a)) { s with heap := h' }) :
    wpAny (model prog w) A (pyNext (.ref it)) Q E s := by
  have hT : s.TypeIs (.ref it) "itertools.combinations" := ⟨_, hit, rfl⟩
  unfold pyNext
  refine wpAny_bind (wpAny_attempt (wpAny_callSpecial?_slot (name := Str.ofString "__next__") hT snext_c (wpAny_call_entry snext_c hT enext_c ?_ (anext_c _))))
  show wpAny _ _ (field (.ref it) 0 >>= _) _ _ s
  refine wpAny_bind (wpAny_field hit rfl (x := .ref pool) rfl ?_)
  unfold Builtin.Itertools.itNumbersFrom
  refine wpAny_bind (wpAny_bind (wpAny_load hit ?_))
  refine wpAny_pure ?_
  unfold Builtin.Itertools.itIntField
  refine wpAny_bind (wpAny_bind (wpAny_field hit rfl (x := rawInt (0 : Nat)) rfl ?_))
  refine wpAny_pure ?_
  refine wpAny_bind (wpAny_setField hit rfl (by simp [objC]) ?_)
  have hit2 : (s.heap.update it (Obj.mapFields fun x => x.setIfInBounds 1 (rawInt 1))).get? it = some (objC pool 1 z []) := up1 hit rfl
  have hp2 : (s.heap.update it (Obj.mapFields fun x => x.setIfInBounds 1 (rawInt 1))).get? pool = some (seqObj "tuple" #[] 0) := oth (ne_pool hit hp) hp
  show wpAny _ _ ((Builtin.Itertools.itPoolItems (.ref pool) >>= _) >>= _) _ _ _
  unfold Builtin.Itertools.itPoolItems
  refine wpAny_bind (wpAny_bind (wpAny_bind (wpAny_seqItems hp2 rfl ?_)))
  refine wpAny_pure ?_
  show wpAny _ _ (newTuple []) _ _ _
  refine wpAny_newTuple ?_ (by simp only [List.length_cons, List.length_nil]; decide)
  refine wpAny_bind (wpAny_field (Heap.get?_push_of_some _ hit2) rfl (x := z) rfl ?_)
  refine wpAny_bind (wpAny_setField (Heap.get?_push_of_some _ hit2) rfl (by simp [objC]) ?_)
  refine wpAny_bind (wpAny_letGo ?_)
  have hlt := Heap.lt_size hit2
  refine wpAny_pure ⟨_, rfl, wpAny_pure (h _ _ ?_ (Nat.ne_of_gt hlt) (up1 (Heap.get?_push_of_some _ hit2) rfl) (oth (Nat.ne_of_gt hlt) (Heap.get?_push_size _ rfl)) (fun b ob hb e => oth hb (Heap.get?_push_of_some _ (oth hb e))) ?_)⟩
  · cases q : s.heap.get? ((s.heap.update it _).objs.size) with
    | none => rfl
    | some ob => exact absurd (Heap.lt_size q) (by rw [Heap.size_update]; exact Nat.lt_irrefl _)
  · show s.heap.objs.size ≤ (s.heap.update it _).objs.size
    rw [Heap.size_update]; exact Nat.le_refl _
theorem c_first_1_0 {it pool : Addr} {z : Value} {t0 t1 : Tok} {Q : Option Value → Shared → Prop} (hit : s.heap.get? it = some (objC pool 0 z [])) (hp : s.heap.get? pool = some (seqObj "tuple" #[.int 0 t0] 0))
    (h : ∀ h' a, s.heap.get? a = none → a ≠ it → h'.get? it = some (objC pool 1 (.ref a) []) → h'.get? a = some (seqObj "tuple" #[] 0) → (∀ b o, b ≠ it → s.heap.get? b = some o → h'.get? b = some o) → s.heap.objs.size ≤ a → Q (some (.ref a)) { s with heap := h' }) :
    wpAny (model prog w) A (pyNext (.ref it)) Q E s := by
  have hT : s.TypeIs (.ref it) "itertools.combinations" := ⟨_, hit, rfl⟩
  unfold pyNext
  refine wpAny_bind (wpAny_attempt (wpAny_callSpecial?_slot (name := Str.ofString "__next__") hT snext_c (wpAny_call_entry snext_c hT enext_c ?_ (anext_c _))))
  show wpAny _ _ (field (.ref it) 0 >>= _) _ _ s
  refine wpAny_bind (wpAny_field hit rfl (x := .ref pool) rfl ?_)
  unfold Builtin.Itertools.itNumbersFrom
  refine wpAny_bind (wpAny_bind (wpAny_load hit ?_))
  refine wpAny_pure ?_
  unfold Builtin.Itertools.itIntField
  refine wpAny_bind (wpAny_bind (wpAny_field hit rfl (x := rawInt (0 : Nat)) rfl ?_))
  refine wpAny_pure ?_
  refine wpAny_bind (wpAny_setField hit rfl (by simp [objC]) ?_)
  have hit2 : (s.heap.update it (Obj.mapFields fun x => x.setIfInBounds 1 (rawInt 1))).get? it = some (objC pool 1 z []) := up1 hit rfl
  have hp2 : (s.heap.update it (Obj.mapFields fun x => x.setIfInBounds 1 (rawInt 1))).get? pool = some (seqObj "tuple" #[.int 0 t0] 0) := oth (ne_pool hit hp) hp
  show wpAny _ _ ((Builtin.Itertools.itPoolItems (.ref pool) >>= _) >>= _) _ _ _
  unfold Builtin.Itertools.itPoolItems
  refine wpAny_bind (wpAny_bind (wpAny_bind (wpAny_seqItems hp2 rfl ?_)))
  refine wpAny_pure ?_
  show wpAny _ _ (newTuple []) _ _ _
  refine wpAny_newTuple ?_ (by simp only [List.length_cons, List.length_nil]; decide)
  refine wpAny_bind (wpAny_field (Heap.get?_push_of_some _ hit2) rfl (x := z) rfl ?_)
  refine wpAny_bind (wpAny_setField (Heap.get?_push_of_some _ hit2) rfl (by simp [objC]) ?_)
  refine wpAny_bind (wpAny_letGo ?_)
  have hlt := Heap.lt_size hit2
  refine wpAny_pure ⟨_, rfl, wpAny_pure (h _ _ ?_ (Nat.ne_of_gt hlt) (up1 (Heap.get?_push_of_some _ hit2) rfl) (oth (Nat.ne_of_gt hlt) (Heap.get?_push_size _ rfl)) (fun b ob hb e => oth hb (Heap.get?_push_of_some _ (oth hb e))) ?_)⟩
  · cases q : s.heap.get? ((s.heap.update it _).objs.size) with
    | none => rfl
    | some ob => exact absurd (Heap.lt_size q) (by rw [Heap.size_update]; exact Nat.lt_irrefl _)
  · show s.heap.objs.size ≤ (s.heap.update it _).objs.size
    rw [Heap.size_update]; exact Nat.le_refl _
theorem c_first_1_1 {it pool : Addr} {z : Value} {t0 t1 : Tok} {Q : Option Value → Shared → Prop} (hit : s.heap.get? it = some (objC pool 0 z [0])) (hp : s.heap.get? pool = some (seqObj "tuple" #[.int 0 t0] 0))
    (h : ∀ h' a, s.heap.get? a = none → a ≠ it → h'.get? it = some (objC pool 1 (.ref a) [0]) → h'.get? a = some (seqObj "tuple" #[.int 0 t0] 0) → (∀ b o, b ≠ it → s.heap.get? b = some o → h'.get? b = some o) → s.heap.objs.size ≤ a → Q (some (.ref a)) { s with heap := h' }) :
    wpAny (model prog w) A (pyNext (.ref it)) Q E s := by
  have hT : s.TypeIs (.ref it) "itertools.combinations" := ⟨_, hit, rfl⟩
  unfold pyNext
  refine wpAny_bind (wpAny_attempt (wpAny_callSpecial?_slot (name := Str.ofString "__next__") hT snext_c (wpAny_call_entry snext_c hT enext_c ?_ (anext_c _))))
  show wpAny _ _ (field (.ref it) 0 >>= _) _ _ s
  refine wpAny_bind (wpAny_field hit rfl (x := .ref pool) rfl ?_)
  unfold Builtin.Itertools.itNumbersFrom
  refine wpAny_bind (wpAny_bind (wpAny_load hit ?_))
  refine wpAny_pure ?_
  unfold Builtin.Itertools.itIntField
  refine wpAny_bind (wpAny_bind (wpAny_field hit rfl (x := rawInt (0 : Nat)) rfl ?_))
  refine wpAny_pure ?_
  refine wpAny_bind (wpAny_setField hit rfl (by simp [objC]) ?_)
  have hit2 : (s.heap.update it (Obj.mapFields fun x => x.setIfInBounds 1 (rawInt 1))).get? it = some (objC pool 1 z [0]) := up1 hit rfl
  have hp2 : (s.heap.update it (Obj.mapFields fun x => x.setIfInBounds 1 (rawInt 1))).get? pool = some (seqObj "tuple" #[.int 0 t0] 0) := oth (ne_pool hit hp) hp
  show wpAny _ _ ((Builtin.Itertools.itPoolItems (.ref pool) >>= _) >>= _) _ _ _
  unfold Builtin.Itertools.itPoolItems
  refine wpAny_bind (wpAny_bind (wpAny_bind (wpAny_seqItems hp2 rfl ?_)))
  refine wpAny_pure ?_
  show wpAny _ _ (newTuple [.int 0 t0]) _ _ _
  refine wpAny_newTuple ?_ (by simp only [List.length_cons, List.length_nil]; decide)
  refine wpAny_bind (wpAny_field (Heap.get?_push_of_some _ hit2) rfl (x := z) rfl ?_)
  refine wpAny_bind (wpAny_setField (Heap.get?_push_of_some _ hit2) rfl (by simp [objC]) ?_)
  refine wpAny_bind (wpAny_letGo ?_)
  have hlt := Heap.lt_size hit2
  refine wpAny_pure ⟨_, rfl, wpAny_pure (h _ _ ?_ (Nat.ne_of_gt hlt) (up1 (Heap.get?_push_of_some _ hit2) rfl) (oth (Nat.ne_of_gt hlt) (Heap.get?_push_size _ rfl)) (fun b ob hb e => oth hb (Heap.get?_push_of_some _ (oth hb e))) ?_)⟩
  · cases q : s.heap.get? ((s.heap.update it _).objs.size) with
    | none => rfl
    | some ob => exact absurd (Heap.lt_size q) (by rw [Heap.size_update]; exact Nat.lt_irrefl _)
  · show s.heap.objs.size ≤ (s.heap.update it _).objs.size
    rw [Heap.size_update]; exact Nat.le_refl _
theorem c_first_2_0 {it pool : Addr} {z : Value} {t0 t1 : Tok} {Q : Option Value → Shared → Prop} (hit : s.heap.get? it = some (objC pool 0 z [])) (hp : s.heap.get? pool = some (seqObj "tuple" #[.int 0 t0, .int 1 t1] 0))
    (h : ∀ h' a, s.heap.get? a = none → a ≠ it → h'.get? it = some (objC pool 1 (.ref a) []) → h'.get? a = some (seqObj "tuple" #[] 0) → (∀ b o, b ≠ it → s.heap.get? b = some o → h'.get? b = some o) → s.heap.objs.size ≤ a → Q (some (.ref a)) { s with heap := h' }) :
    wpAny (model prog w) A (pyNext (.ref it)) Q E s := by
  have hT : s.TypeIs (.ref it) "itertools.combinations" := ⟨_, hit, rfl⟩
  unfold pyNext
  refine wpAny_bind (wpAny_attempt (wpAny_callSpecial?_slot (name := Str.ofString "__next__") hT snext_c (wpAny_call_entry snext_c hT enext_c ?_ (anext_c _))))
  show wpAny _ _ (field (.ref it) 0 >>= _) _ _ s
  refine wpAny_bind (wpAny_field hit rfl (x := .ref pool) rfl ?_)
  unfold Builtin.Itertools.itNumbersFrom
  refine wpAny_bind (wpAny_bind (wpAny_load hit ?_))
  refine wpAny_pure ?_
  unfold Builtin.Itertools.itIntField
  refine wpAny_bind (wpAny_bind (wpAny_field hit rfl (x := rawInt (0 : Nat)) rfl ?_))
  refine wpAny_pure ?_
  refine wpAny_bind (wpAny_setField hit rfl (by simp [objC]) ?_)
  have hit2 : (s.heap.update it (Obj.mapFields fun x => x.setIfInBounds 1 (rawInt 1))).get? it = some (objC pool 1 z []) := up1 hit rfl
  have hp2 : (s.heap.update it (Obj.mapFields fun x => x.setIfInBounds 1 (rawInt 1))).get? pool = some (seqObj "tuple" #[.int 0 t0, .int 1 t1] 0) := oth (ne_pool hit hp) hp
  show wpAny _ _ ((Builtin.Itertools.itPoolItems (.ref pool) >>= _) >>= _) _ _ _
  unfold Builtin.Itertools.itPoolItems
  refine wpAny_bind (wpAny_bind (wpAny_bind (wpAny_seqItems hp2 rfl ?_)))
  refine wpAny_pure ?_
  show wpAny _ _ (newTuple []) _ _ _
  refine wpAny_newTuple ?_ (by simp only [List.length_cons, List.length_nil]; decide)
  refine wpAny_bind (wpAny_field (Heap.get?_push_of_some _ hit2) rfl (x := z) rfl ?_)
  refine wpAny_bind (wpAny_setField (Heap.get?_push_of_some _ hit2) rfl (by simp [objC]) ?_)
  refine wpAny_bind (wpAny_letGo ?_)
  have hlt := Heap.lt_size hit2
  refine wpAny_pure ⟨_, rfl, wpAny_pure (h _ _ ?_ (Nat.ne_of_gt hlt) (up1 (Heap.get?_push_of_some _ hit2) rfl) (oth (Nat.ne_of_gt hlt) (Heap.get?_push_size _ rfl)) (fun b ob hb e => oth hb (Heap.get?_push_of_some _ (oth hb e))) ?_)⟩
  · cases q : s.heap.get? ((s.heap.update it _).objs.size) with
    | none => rfl
    | some ob => exact absurd (Heap.lt_size q) (by rw [Heap.size_update]; exact Nat.lt_irrefl _)
  · show s.heap.objs.size ≤ (s.heap.update it _).objs.size
    rw [Heap.size_update]; exact Nat.le_refl _
theorem c_first_2_1 {it pool : Addr} {z : Value} {t0 t1 : Tok} {Q : Option Value → Shared → Prop} (hit : s.heap.get? it = some (objC pool 0 z [0])) (hp : s.heap.get? pool = some (seqObj "tuple" #[.int 0 t0, .int 1 t1] 0))
    (h : ∀ h' a, s.heap.get? a = none → a ≠ it → h'.get? it = some (objC pool 1 (.ref a) [0]) → h'.get? a = some (seqObj "tuple" #[.int 0 t0] 0) → (∀ b o, b ≠ it → s.heap.get? b = some o → h'.get? b = some o) → s.heap.objs.size ≤ a → Q (some (.ref a)) { s with heap := h' }) :
    wpAny (model prog w) A (pyNext (.ref it)) Q E s := by
  have hT : s.TypeIs (.ref it) "itertools.combinations" := ⟨_, hit, rfl⟩
  unfold pyNext
  refine wpAny_bind (wpAny_attempt (wpAny_callSpecial?_slot (name := Str.ofString "__next__") hT snext_c (wpAny_call_entry snext_c hT enext_c ?_ (anext_c _))))
  show wpAny _ _ (field (.ref it) 0 >>= _) _ _ s
  refine wpAny_bind (wpAny_field hit rfl (x := .ref pool) rfl ?_)
  unfold Builtin.Itertools.itNumbersFrom
  refine wpAny_bind (wpAny_bind (wpAny_load hit ?_))
  refine wpAny_pure ?_
  unfold Builtin.Itertools.itIntField
  refine wpAny_bind (wpAny_bind (wpAny_field hit rfl (x := rawInt (0 : Nat)) rfl ?_))
  refine wpAny_pure ?_
  refine wpAny_bind (wpAny_setField hit rfl (by simp [objC]) ?_)
  have hit2 : (s.heap.update it (Obj.mapFields fun x => x.setIfInBounds 1 (rawInt 1))).get? it = some (objC pool 1 z [0]) := up1 hit rfl
  have hp2 : (s.heap.update it (Obj.mapFields fun x => x.setIfInBounds 1 (rawInt 1))).get? pool = some (seqObj "tuple" #[.int 0 t0, .int 1 t1] 0) := oth (ne_pool hit hp) hp
  show wpAny _ _ ((Builtin.Itertools.itPoolItems (.ref pool) >>= _) >>= _) _ _ _
  unfold Builtin.Itertools.itPoolItems
  refine wpAny_bind (wpAny_bind (wpAny_bind (wpAny_seqItems hp2 rfl ?_)))
  refine wpAny_pure ?_
  show wpAny _ _ (newTuple [.int 0 t0]) _ _ _
  refine wpAny_newTuple ?_ (by simp only [List.length_cons, List.length_nil]; decide)
  refine wpAny_bind (wpAny_field (Heap.get?_push_of_some _ hit2) rfl (x := z) rfl ?_)
  refine wpAny_bind (wpAny_setField (Heap.get?_push_of_some _ hit2) rfl (by simp [objC]) ?_)
  refine wpAny_bind (wpAny_letGo ?_)
  have hlt := Heap.lt_size hit2
  refine wpAny_pure ⟨_, rfl, wpAny_pure (h _ _ ?_ (Nat.ne_of_gt hlt) (up1 (Heap.get?_push_of_some _ hit2) rfl) (oth (Nat.ne_of_gt hlt) (Heap.get?_push_size _ rfl)) (fun b ob hb e => oth hb (Heap.get?_push_of_some _ (oth hb e))) ?_)⟩
  · cases q : s.heap.get? ((s.heap.update it _).objs.size) with
    | none => rfl
    | some ob => exact absurd (Heap.lt_size q) (by rw [Heap.size_update]; exact Nat.lt_irrefl _)
  · show s.heap.objs.size ≤ (s.heap.update it _).objs.size
    rw [Heap.size_update]; exact Nat.le_refl _
theorem c_first_2_2 {it pool : Addr} {z : Value} {t0 t1 : Tok} {Q : Option Value → Shared → Prop} (hit : s.heap.get? it = some (objC pool 0 z [0, 1])) (hp : s.heap.get? pool = some (seqObj "tuple" #[.int 0 t0, .int 1 t1] 0))
    (h : ∀ h' a, s.heap.get? a = none → a ≠ it → h'.get? it = some (objC pool 1 (.ref a) [0, 1]) → h'.get? a = some (seqObj "tuple" #[.int 0 t0, .int 1 t1] 0) → (∀ b o, b ≠ it → s.heap.get? b = some o → h'.get? b = some o) → s.heap.objs.size ≤ a → Q (some (.ref a)) { s with heap := h' }) :
    wpAny (model prog w) A (pyNext (.ref it)) Q E s := by
  have hT : s.TypeIs (.ref it) "itertools.combinations" := ⟨_, hit, rfl⟩
  unfold pyNext
  refine wpAny_bind (wpAny_attempt (wpAny_callSpecial?_slot (name := Str.ofString "__next__") hT snext_c (wpAny_call_entry snext_c hT enext_c ?_ (anext_c _))))
  show wpAny _ _ (field (.ref it) 0 >>= _) _ _ s
  refine wpAny_bind (wpAny_field hit rfl (x := .ref pool) rfl ?_)
  unfold Builtin.Itertools.itNumbersFrom
  refine wpAny_bind (wpAny_bind (wpAny_load hit ?_))
  refine wpAny_pure ?_
  unfold Builtin.Itertools.itIntField
  refine wpAny_bind (wpAny_bind (wpAny_field hit rfl (x := rawInt (0 : Nat)) rfl ?_))
  refine wpAny_pure ?_
  refine wpAny_bind (wpAny_setField hit rfl (by simp [objC]) ?_)
  have hit2 : (s.heap.update it (Obj.mapFields fun x => x.setIfInBounds 1 (rawInt 1))).get? it = some (objC pool 1 z [0, 1]) := up1 hit rfl
  have hp2 : (s.heap.update it (Obj.mapFields fun x => x.setIfInBounds 1 (rawInt 1))).get? pool = some (seqObj "tuple" #[.int 0 t0, .int 1 t1] 0) := oth (ne_pool hit hp) hp
  show wpAny _ _ ((Builtin.Itertools.itPoolItems (.ref pool) >>= _) >>= _) _ _ _
  unfold Builtin.Itertools.itPoolItems
  refine wpAny_bind (wpAny_bind (wpAny_bind (wpAny_seqItems hp2 rfl ?_)))
  refine wpAny_pure ?_
  show wpAny _ _ (newTuple [.int 0 t0, .int 1 t1]) _ _ _
  refine wpAny_newTuple ?_ (by simp only [List.length_cons, List.length_nil]; decide)
  refine wpAny_bind (wpAny_field (Heap.get?_push_of_some _ hit2) rfl (x := z) rfl ?_)
  refine wpAny_bind (wpAny_setField (Heap.get?_push_of_some _ hit2) rfl (by simp [objC]) ?_)
  refine wpAny_bind (wpAny_letGo ?_)
  have hlt := Heap.lt_size hit2
  refine wpAny_pure ⟨_, rfl, wpAny_pure (h _ _ ?_ (Nat.ne_of_gt hlt) (up1 (Heap.get?_push_of_some _ hit2) rfl) (oth (Nat.ne_of_gt hlt) (Heap.get?_push_size _ rfl)) (fun b ob hb e => oth hb (Heap.get?_push_of_some _ (oth hb e))) ?_)⟩
  · cases q : s.heap.get? ((s.heap.update it _).objs.size) with
    | none => rfl
    | some ob => exact absurd (Heap.lt_size q) (by rw [Heap.size_update]; exact Nat.lt_irrefl _)
  · show s.heap.objs.size ≤ (s.heap.update it _).objs.size
    rw [Heap.size_update]; exact Nat.le_refl _
theorem c_move_2_1 {it pool : Addr} {z : Value} {t0 t1 : Tok} {Q : Option Value → Shared → Prop} (hit : s.heap.get? it = some (objC pool 1 z [0])) (hp : s.heap.get? pool = some (seqObj "tuple" #[.int 0 t0, .int 1 t1] 0))
    (h : ∀ h' a, s.heap.get? a = none → a ≠ it → h'.get? it = some (objC pool 1 (.ref a) [1]) → h'.get? a = some (seqObj "tuple" #[.int 1 t1] 0) → (∀ b o, b ≠ it → s.heap.get? b = some o → h'.get? b = some o) → s.heap.objs.size ≤ a → Q (some (.ref a)) { s with heap := h' }) :
    wpAny (model prog w) A (pyNext (.ref it)) Q E s := by
  have hT : s.TypeIs (.ref it) "itertools.combinations" := ⟨_, hit, rfl⟩
  unfold pyNext
  refine wpAny_bind (wpAny_attempt (wpAny_callSpecial?_slot (name := Str.ofString "__next__") hT snext_c (wpAny_call_entry snext_c hT enext_c ?_ (anext_c _))))
  show wpAny _ _ (field (.ref it) 0 >>= _) _ _ s
  refine wpAny_bind (wpAny_field hit rfl (x := .ref pool) rfl ?_)
  unfold Builtin.Itertools.itNumbersFrom
  refine wpAny_bind (wpAny_bind (wpAny_load hit ?_))
  refine wpAny_pure ?_
  unfold Builtin.Itertools.itIntField
  refine wpAny_bind (wpAny_bind (wpAny_field hit rfl (x := rawInt (1 : Nat)) rfl ?_))
  refine wpAny_pure ?_
  show wpAny _ _ (Builtin.Itertools.itPoolItems (.ref pool) >>= _) _ _ _
  conv => arg 3; arg 1; unfold Builtin.Itertools.itPoolItems
  refine wpAny_bind (wpAny_bind (wpAny_seqItems hp rfl ?_))
  refine wpAny_pure ?_
  show wpAny _ _ (Builtin.Itertools.itSetNumbersFrom (.ref it) 3 [1] >>= _) _ _ _
  conv => arg 3; arg 1; unfold Builtin.Itertools.itSetNumbersFrom
  refine wpAny_bind (wpAny_updateFields hit rfl ?_ (by show _ ≤ sizeLine + 3; rw [sizeLine_eq]; simp))
  have hit2 : (s.heap.update it (Obj.mapFields fun fs => fs.extract 0 3 ++ (([1] : List Nat).map fun (n : Nat) => rawInt n).toArray)).get? it = some (objC pool 1 z [1]) := (up1 hit (by rw [setN_c]; rfl)).trans (congrArg some setN_c)
  have hp2 : (s.heap.update it (Obj.mapFields fun fs => fs.extract 0 3 ++ (([1] : List Nat).map fun (n : Nat) => rawInt n).toArray)).get? pool = some (seqObj "tuple" #[.int 0 t0, .int 1 t1] 0) := oth (ne_pool hit hp) hp
  show wpAny _ _ ((Builtin.Itertools.itPoolItems (.ref pool) >>= _) >>= _) _ _ _
  unfold Builtin.Itertools.itPoolItems
  refine wpAny_bind (wpAny_bind (wpAny_bind (wpAny_seqItems hp2 rfl ?_)))
  refine wpAny_pure ?_
  show wpAny _ _ (newTuple [.int 1 t1]) _ _ _
  refine wpAny_newTuple ?_ (by simp only [List.length_cons, List.length_nil]; decide)
  refine wpAny_bind (wpAny_field (Heap.get?_push_of_some _ hit2) rfl (x := z) rfl ?_)
  refine wpAny_bind (wpAny_setField (Heap.get?_push_of_some _ hit2) rfl (by simp [objC]) ?_)
  refine wpAny_bind (wpAny_letGo ?_)
  have hlt := Heap.lt_size hit2
  refine wpAny_pure ⟨_, rfl, wpAny_pure (h _ _ ?_ (Nat.ne_of_gt hlt) (up1 (Heap.get?_push_of_some _ hit2) rfl) (oth (Nat.ne_of_gt hlt) (Heap.get?_push_size _ rfl)) (fun b ob hb e => oth hb (Heap.get?_push_of_some _ (oth hb e))) ?_)⟩
  · cases q : s.heap.get? ((s.heap.update it _).objs.size) with
    | none => rfl
    | some ob => exact absurd (Heap.lt_size q) (by rw [Heap.size_update]; exact Nat.lt_irrefl _)
  · show s.heap.objs.size ≤ (s.heap.update it _).objs.size
    rw [Heap.size_update]; exact Nat.le_refl _
theorem c_end_0_0 {it pool : Addr} {z : Value} {t0 t1 : Tok} {Q : Option Value → Shared → Prop} (hit : s.heap.get? it = some (objC pool 1 z [])) (hp : s.heap.get? pool = some (seqObj "tuple" #[] 0))
    (hh : A.handled = none) (h : ∀ h', Heap.ExtBut it s.heap h' → Q none { s with heap := h' }) :
    wpAny (model prog w) A (pyNext (.ref it)) Q E s := by
  have hT : s.TypeIs (.ref it) "itertools.combinations" := ⟨_, hit, rfl⟩
  unfold pyNext
  refine wpAny_bind (wpAny_attempt (wpAny_callSpecial?_slot (name := Str.ofString "__next__") hT snext_c (wpAny_call_entry snext_c hT enext_c ?_ (anext_c _))))
  show wpAny _ _ (field (.ref it) 0 >>= _) _ _ s
  refine wpAny_bind (wpAny_field hit rfl (x := .ref pool) rfl ?_)
  unfold Builtin.Itertools.itNumbersFrom
  refine wpAny_bind (wpAny_bind (wpAny_load hit ?_))
  refine wpAny_pure ?_
  unfold Builtin.Itertools.itIntField
  refine wpAny_bind (wpAny_bind (wpAny_field hit rfl (x := rawInt (1 : Nat)) rfl ?_))
  refine wpAny_pure ?_
  show wpAny _ _ (Builtin.Itertools.itPoolItems (.ref pool) >>= _) _ _ _
  unfold Builtin.Itertools.itPoolItems
  refine wpAny_bind (wpAny_bind (wpAny_seqItems hp rfl ?_))
  refine wpAny_pure ?_
  show wpAny _ _ (setField (.ref it) 1 (rawInt 2) >>= _) _ _ _
  refine wpAny_bind (wpAny_setField hit rfl (by simp [objC]) ?_)
  show wpAny _ _ (newExc (.type "StopIteration") [] >>= _) _ _ _
  refine wpAny_bind ?_
  simp only [newExc, newTuple]
  refine wpAny_bind (wpAny_newObj_type ?_ (by size_fits))
  refine wpAny_bind (m := firstArgMember _ _) (wpAny_of_eq (a := Value.none) (by first | rfl | (simp only [firstArgMember]; rfl)) ?_)
  refine wpAny_newObj_type ?_ (by size_fits)
  simp only [raiseNew]
  refine wpAny_bind (wpAny_handled ?_)
  rw [show A.in1.handled = none from hh]
  refine wpAny_bind (wpAny_pure (wpAny_throw ?_))
  refine wpAny_bind (wpAny_isInstance (T := "StopIteration") (b := true) ⟨_, Heap.get?_push_size _ rfl, rfl⟩ isSubtype_stop ?_)
  exact wpAny_pure (h _ (((Heap.SameBut.update ..).extBut.push _).push _))
theorem c_end_1_0 {it pool : Addr} {z : Value} {t0 t1 : Tok} {Q : Option Value → Shared → Prop} (hit : s.heap.get? it = some (objC pool 1 z [])) (hp : s.heap.get? pool = some (seqObj "tuple" #[.int 0 t0] 0))
    (hh : A.handled = none) (h : ∀ h', Heap.ExtBut it s.heap h' → Q none { s with heap := h' }) :
    wpAny (model prog w) A (pyNext (.ref it)) Q E s := by
  have hT : s.TypeIs (.ref it) "itertools.combinations" := ⟨_, hit, rfl⟩
  unfold pyNext
  refine wpAny_bind (wpAny_attempt (wpAny_callSpecial?_slot (name := Str.ofString "__next__") hT snext_c (wpAny_call_entry snext_c hT enext_c ?_ (anext_c _))))
  show wpAny _ _ (field (.ref it) 0 >>= _) _ _ s
  refine wpAny_bind (wpAny_field hit rfl (x := .ref pool) rfl ?_)
  unfold Builtin.Itertools.itNumbersFrom
  refine wpAny_bind (wpAny_bind (wpAny_load hit ?_))
  refine wpAny_pure ?_
  unfold Builtin.Itertools.itIntField
  refine wpAny_bind (wpAny_bind (wpAny_field hit rfl (x := rawInt (1 : Nat)) rfl ?_))
  refine wpAny_pure ?_
  show wpAny _ _ (Builtin.Itertools.itPoolItems (.ref pool) >>= _) _ _ _
  unfold Builtin.Itertools.itPoolItems
  refine wpAny_bind (wpAny_bind (wpAny_seqItems hp rfl ?_))
  refine wpAny_pure ?_
  show wpAny _ _ (setField (.ref it) 1 (rawInt 2) >>= _) _ _ _
  refine wpAny_bind (wpAny_setField hit rfl (by simp [objC]) ?_)
  show wpAny _ _ (newExc (.type "StopIteration") [] >>= _) _ _ _
  refine wpAny_bind ?_
  simp only [newExc, newTuple]
  refine wpAny_bind (wpAny_newObj_type ?_ (by size_fits))
  refine wpAny_bind (m := firstArgMember _ _) (wpAny_of_eq (a := Value.none) (by first | rfl | (simp only [firstArgMember]; rfl)) ?_)
  refine wpAny_newObj_type ?_ (by size_fits)
  simp only [raiseNew]
  refine wpAny_bind (wpAny_handled ?_)
  rw [show A.in1.handled = none from hh]
  refine wpAny_bind (wpAny_pure (wpAny_throw ?_))
  refine wpAny_bind (wpAny_isInstance (T := "StopIteration") (b := true) ⟨_, Heap.get?_push_size _ rfl, rfl⟩ isSubtype_stop ?_)
  exact wpAny_pure (h _ (((Heap.SameBut.update ..).extBut.push _).push _))
theorem c_end_1_1 {it pool : Addr} {z : Value} {t0 t1 : Tok} {Q : Option Value → Shared → Prop} (hit : s.heap.get? it = some (objC pool 1 z [0])) (hp : s.heap.get? pool = some (seqObj "tuple" #[.int 0 t0] 0))
    (hh : A.handled = none) (h : ∀ h', Heap.ExtBut it s.heap h' → Q none { s with heap := h' }) :
    wpAny (model prog w) A (pyNext (.ref it)) Q E s := by
  have hT : s.TypeIs (.ref it) "itertools.combinations" := ⟨_, hit, rfl⟩
  unfold pyNext
  refine wpAny_bind (wpAny_attempt (wpAny_callSpecial?_slot (name := Str.ofString "__next__") hT snext_c (wpAny_call_entry snext_c hT enext_c ?_ (anext_c _))))
  show wpAny _ _ (field (.ref it) 0 >>= _) _ _ s
  refine wpAny_bind (wpAny_field hit rfl (x := .ref pool) rfl ?_)
  unfold Builtin.Itertools.itNumbersFrom
  refine wpAny_bind (wpAny_bind (wpAny_load hit ?_))
  refine wpAny_pure ?_
  unfold Builtin.Itertools.itIntField
  refine wpAny_bind (wpAny_bind (wpAny_field hit rfl (x := rawInt (1 : Nat)) rfl ?_))
  refine wpAny_pure ?_
  show wpAny _ _ (Builtin.Itertools.itPoolItems (.ref pool) >>= _) _ _ _
  unfold Builtin.Itertools.itPoolItems
  refine wpAny_bind (wpAny_bind (wpAny_seqItems hp rfl ?_))
  refine wpAny_pure ?_
  show wpAny _ _ (setField (.ref it) 1 (rawInt 2) >>= _) _ _ _
  refine wpAny_bind (wpAny_setField hit rfl (by simp [objC]) ?_)
  show wpAny _ _ (newExc (.type "StopIteration") [] >>= _) _ _ _
  refine wpAny_bind ?_
  simp only [newExc, newTuple]
  refine wpAny_bind (wpAny_newObj_type ?_ (by size_fits))
  refine wpAny_bind (m := firstArgMember _ _) (wpAny_of_eq (a := Value.none) (by first | rfl | (simp only [firstArgMember]; rfl)) ?_)
  refine wpAny_newObj_type ?_ (by size_fits)
  simp only [raiseNew]
  refine wpAny_bind (wpAny_handled ?_)
  rw [show A.in1.handled = none from hh]
  refine wpAny_bind (wpAny_pure (wpAny_throw ?_))
  refine wpAny_bind (wpAny_isInstance (T := "StopIteration") (b := true) ⟨_, Heap.get?_push_size _ rfl, rfl⟩ isSubtype_stop ?_)
  exact wpAny_pure (h _ (((Heap.SameBut.update ..).extBut.push _).push _))
theorem c_end_2_0 {it pool : Addr} {z : Value} {t0 t1 : Tok} {Q : Option Value → Shared → Prop} (hit : s.heap.get? it = some (objC pool 1 z [])) (hp : s.heap.get? pool = some (seqObj "tuple" #[.int 0 t0, .int 1 t1] 0))
    (hh : A.handled = none) (h : ∀ h', Heap.ExtBut it s.heap h' → Q none { s with heap := h' }) :
    wpAny (model prog w) A (pyNext (.ref it)) Q E s := by
  have hT : s.TypeIs (.ref it) "itertools.combinations" := ⟨_, hit, rfl⟩
  unfold pyNext
  refine wpAny_bind (wpAny_attempt (wpAny_callSpecial?_slot (name := Str.ofString "__next__") hT snext_c (wpAny_call_entry snext_c hT enext_c ?_ (anext_c _))))
  show wpAny _ _ (field (.ref it) 0 >>= _) _ _ s
  refine wpAny_bind (wpAny_field hit rfl (x := .ref pool) rfl ?_)
  unfold Builtin.Itertools.itNumbersFrom
  refine wpAny_bind (wpAny_bind (wpAny_load hit ?_))
  refine wpAny_pure ?_
  unfold Builtin.Itertools.itIntField
  refine wpAny_bind (wpAny_bind (wpAny_field hit rfl (x := rawInt (1 : Nat)) rfl ?_))
  refine wpAny_pure ?_
  show wpAny _ _ (Builtin.Itertools.itPoolItems (.ref pool) >>= _) _ _ _
  unfold Builtin.Itertools.itPoolItems
  refine wpAny_bind (wpAny_bind (wpAny_seqItems hp rfl ?_))
  refine wpAny_pure ?_
  show wpAny _ _ (setField (.ref it) 1 (rawInt 2) >>= _) _ _ _
  refine wpAny_bind (wpAny_setField hit rfl (by simp [objC]) ?_)
  show wpAny _ _ (newExc (.type "StopIteration") [] >>= _) _ _ _
  refine wpAny_bind ?_
  simp only [newExc, newTuple]
  refine wpAny_bind (wpAny_newObj_type ?_ (by size_fits))
  refine wpAny_bind (m := firstArgMember _ _) (wpAny_of_eq (a := Value.none) (by first | rfl | (simp only [firstArgMember]; rfl)) ?_)
  refine wpAny_newObj_type ?_ (by size_fits)
  simp only [raiseNew]
  refine wpAny_bind (wpAny_handled ?_)
  rw [show A.in1.handled = none from hh]
  refine wpAny_bind (wpAny_pure (wpAny_throw ?_))
  refine wpAny_bind (wpAny_isInstance (T := "StopIteration") (b := true) ⟨_, Heap.get?_push_size _ rfl, rfl⟩ isSubtype_stop ?_)
  exact wpAny_pure (h _ (((Heap.SameBut.update ..).extBut.push _).push _))
theorem c_end_2_1 {it pool : Addr} {z : Value} {t0 t1 : Tok} {Q : Option Value → Shared → Prop} (hit : s.heap.get? it = some (objC pool 1 z [1])) (hp : s.heap.get? pool = some (seqObj "tuple" #[.int 0 t0, .int 1 t1] 0))
    (hh : A.handled = none) (h : ∀ h', Heap.ExtBut it s.heap h' → Q none { s with heap := h' }) :
    wpAny (model prog w) A (pyNext (.ref it)) Q E s := by
  have hT : s.TypeIs (.ref it) "itertools.combinations" := ⟨_, hit, rfl⟩
  unfold pyNext
  refine wpAny_bind (wpAny_attempt (wpAny_callSpecial?_slot (name := Str.ofString "__next__") hT snext_c (wpAny_call_entry snext_c hT enext_c ?_ (anext_c _))))
  show wpAny _ _ (field (.ref it) 0 >>= _) _ _ s
  refine wpAny_bind (wpAny_field hit rfl (x := .ref pool) rfl ?_)
  unfold Builtin.Itertools.itNumbersFrom
  refine wpAny_bind (wpAny_bind (wpAny_load hit ?_))
  refine wpAny_pure ?_
  unfold Builtin.Itertools.itIntField
  refine wpAny_bind (wpAny_bind (wpAny_field hit rfl (x := rawInt (1 : Nat)) rfl ?_))
  refine wpAny_pure ?_
  show wpAny _ _ (Builtin.Itertools.itPoolItems (.ref pool) >>= _) _ _ _
  unfold Builtin.Itertools.itPoolItems
  refine wpAny_bind (wpAny_bind (wpAny_seqItems hp rfl ?_))
  refine wpAny_pure ?_
  show wpAny _ _ (setField (.ref it) 1 (rawInt 2) >>= _) _ _ _
  refine wpAny_bind (wpAny_setField hit rfl (by simp [objC]) ?_)
  show wpAny _ _ (newExc (.type "StopIteration") [] >>= _) _ _ _
  refine wpAny_bind ?_
  simp only [newExc, newTuple]
  refine wpAny_bind (wpAny_newObj_type ?_ (by size_fits))
  refine wpAny_bind (m := firstArgMember _ _) (wpAny_of_eq (a := Value.none) (by first | rfl | (simp only [firstArgMember]; rfl)) ?_)
  refine wpAny_newObj_type ?_ (by size_fits)
  simp only [raiseNew]
  refine wpAny_bind (wpAny_handled ?_)
  rw [show A.in1.handled = none from hh]
  refine wpAny_bind (wpAny_pure (wpAny_throw ?_))
  refine wpAny_bind (wpAny_isInstance (T := "StopIteration") (b := true) ⟨_, Heap.get?_push_size _ rfl, rfl⟩ isSubtype_stop ?_)
  exact wpAny_pure (h _ (((Heap.SameBut.update ..).extBut.push _).push _))
theorem c_end_2_2 {it pool : Addr} {z : Value} {t0 t1 : Tok} {Q : Option Value → Shared → Prop} (hit : s.heap.get? it = some (objC pool 1 z [0, 1])) (hp : s.heap.get? pool = some (seqObj "tuple" #[.int 0 t0, .int 1 t1] 0))
    (hh : A.handled = none) (h : ∀ h', Heap.ExtBut it s.heap h' → Q none { s with heap := h' }) :
    wpAny (model prog w) A (pyNext (.ref it)) Q E s := by
  have hT : s.TypeIs (.ref it) "itertools.combinations" := ⟨_, hit, rfl⟩
  unfold pyNext
  refine wpAny_bind (wpAny_attempt (wpAny_callSpecial?_slot (name := Str.ofString "__next__") hT snext_c (wpAny_call_entry snext_c hT enext_c ?_ (anext_c _))))
  show wpAny _ _ (field (.ref it) 0 >>= _) _ _ s
  refine wpAny_bind (wpAny_field hit rfl (x := .ref pool) rfl ?_)
  unfold Builtin.Itertools.itNumbersFrom
  refine wpAny_bind (wpAny_bind (wpAny_load hit ?_))
  refine wpAny_pure ?_
  unfold Builtin.Itertools.itIntField
  refine wpAny_bind (wpAny_bind (wpAny_field hit rfl (x := rawInt (1 : Nat)) rfl ?_))
  refine wpAny_pure ?_
  show wpAny _ _ (Builtin.Itertools.itPoolItems (.ref pool) >>= _) _ _ _
  unfold Builtin.Itertools.itPoolItems
  refine wpAny_bind (wpAny_bind (wpAny_seqItems hp rfl ?_))
  refine wpAny_pure ?_
  show wpAny _ _ (setField (.ref it) 1 (rawInt 2) >>= _) _ _ _
  refine wpAny_bind (wpAny_setField hit rfl (by simp [objC]) ?_)
  show wpAny _ _ (newExc (.type "StopIteration") [] >>= _) _ _ _
  refine wpAny_bind ?_
  simp only [newExc, newTuple]
  refine wpAny_bind (wpAny_newObj_type ?_ (by size_fits))
  refine wpAny_bind (m := firstArgMember _ _) (wpAny_of_eq (a := Value.none) (by first | rfl | (simp only [firstArgMember]; rfl)) ?_)
  refine wpAny_newObj_type ?_ (by size_fits)
  simp only [raiseNew]
  refine wpAny_bind (wpAny_handled ?_)
  rw [show A.in1.handled = none from hh]
  refine wpAny_bind (wpAny_pure (wpAny_throw ?_))
  refine wpAny_bind (wpAny_isInstance (T := "StopIteration") (b := true) ⟨_, Heap.get?_push_size _ rfl, rfl⟩ isSubtype_stop ?_)
  exact wpAny_pure (h _ (((Heap.SameBut.update ..).extBut.push _).push _))
end
end KdIt
-- K68I4
set_option maxRecDepth 100000
set_option maxHeartbeats 4000000
/-! list(..) of an iterator that hands out new tuples. -/
namespace KdIt
open PySem PySem.Spec PyProof.Rows L2
open Sem (wp)
/-- an iterator of new tuples of ints -/
structure FIt (prog : Program) (w : World) (I : Addr) (fp : List Addr) (outs : List (List Nat)) (St : Nat → Heap → Prop) : Prop where
  mem : I ∈ fp
  there : ∀ i h, St i h → ∀ b ∈ fp, ∃ o, h.get? b = some o ∧ ∀ v, o.data ≠ .cell v
  frame : ∀ i h h', St i h → (∀ b ∈ fp, ∀ o, h.get? b = some o → h'.get? b = some o) → St i h'
  item : ∀ (A : Around) (i : Nat) (s : Shared) (Q : Option Value → Shared → Prop) (E : Value → Shared → Prop) (xs : List Nat), outs[i]? = some xs → St i s.heap →
    (∀ h' a its, s.heap.get? a = none → s.heap.objs.size ≤ a → a ∉ fp → St (i + 1) h' → IntsAre its (xs.map fun (n : Nat) => (n : Int)) → h'.get? a = some (seqObj "tuple" its.toArray 0) → (∀ b o, b ≠ I → s.heap.get? b = some o → h'.get? b = some o) → Q (some (.ref a)) { s with heap := h' }) →
    wpAny (model prog w) A (pyNext (.ref I)) Q E s
  done : ∀ (A : Around) (s : Shared) (Q : Option Value → Shared → Prop) (E : Value → Shared → Prop), A.handled = none → St outs.length s.heap → (∀ h', Heap.ExtBut I s.heap h' → Q none { s with heap := h' }) → wpAny (model prog w) A (pyNext (.ref I)) Q E s
  self : ∀ (A : Around) (i : Nat) (s : Shared) (Q : Value → Shared → Prop) (E : Value → Shared → Prop), St i s.heap → Q (.ref I) s → wpAny (model prog w) A (pyIter (.ref I)) Q E s
/-- the tuples made so far -/
def MadeF (outs : List (List Nat)) (bad : List Addr) (h0 h : Heap) (as : List Addr) : Prop := ∀ (j : Nat) (a : Addr), as[j]? = some a → (a ∉ bad ∧ h0.get? a = none) ∧ ∃ xs its, outs[j]? = some xs ∧ IntsAre its (xs.map fun (n : Nat) => (n : Int)) ∧ h.get? a = some (seqObj "tuple" its.toArray 0)
section
variable {prog : Program} {w : World} {A : Around} {s : Shared} {R : Result → Shared → Prop} {I : Addr} {fp : List Addr} {outs : List (List Nat)} {St : Nat → Heap → Prop}
theorem MadeF.low {outs : List (List Nat)} {bad : List Addr} {h0 h1 h : Heap} {as : List Addr} (g : MadeF outs bad h0 h as) (k : ∀ b o, b ∉ bad → h1.get? b = some o → h0.get? b = some o) : MadeF outs bad h1 h as := fun j a hj => by
  obtain ⟨⟨e0, e00⟩, r⟩ := g j a hj
  refine ⟨⟨e0, ?_⟩, r⟩
  cases q : h1.get? a with
  | none => rfl
  | some o => rw [k a o e0 q] at e00; cases e00
theorem loopF (F : FIt prog w I fp outs St) {S : Addr} (calm : A.handled = none) (offS : S ∉ fp) (few : outs.length ≤ sizeLine) (res : Value) {start : Heap}
    (fin : ∀ h' tk got c as, (∀ b o, b ≠ S → b ≠ I → start.get? b = some o → h'.get? b = some o) → h'.get? S = some { cls := .type "list", dict := none, data := .seq got c, slots := #[] } → as.length = outs.length → MadeF outs [S, I] start h' as →
      got.toList = as.map Value.ref → R (.ok (.ret res)) { s with heap := h', toks := tk }) :
    ∀ (k i : Nat) (h : Heap) (tk c : Nat) (got : Array Value) (as : List Addr), outs.length - i = k → i ≤ outs.length → St i h → (∀ b o, b ≠ S → b ≠ I → start.get? b = some o → h.get? b = some o) →
      h.get? S = some { cls := .type "list", dict := none, data := .seq got c, slots := #[] } → got.toList = as.map Value.ref → as.length = i → MadeF outs [S, I] start h as →
      codeAny (model prog w) A (.builtin "list.extend.loop" ⟨[.ref S, .ref I, res], []⟩) R { s with heap := h, toks := tk } := by
  have neSI : S ≠ I := fun e => offS (by rw [e]; exact F.mem)
  intro k
  induction k with
  | zero =>
    intro i h tk c got as stays hi stI keeps atS accs asLen made
    refine codeAny_builtin PySem.F.entry_extend_loop ?_
    rw [Around.under_plainId PySem.F.plain_extend_loop _]
    show wpAny _ A.in1 (pyNext (.ref I) >>= _) _ _ _
    have ei : i = outs.length := by omega
    subst ei
    refine wpAny_bind (F.done A.in1 { s with heap := h, toks := tk } _ _ calm stI fun h' he => ?_)
    refine wpAny_pure (fin h' tk got c as (fun b o q1 q2 e => he b o q2 (keeps b o q1 q2 e)) (he S _ neSI atS) asLen (fun j a atJ => ?_) accs)
    obtain ⟨e0, xs, its, e1, e2, e3⟩ := made j a atJ
    exact ⟨e0, xs, its, e1, e2, he a _ (fun z => e0.1 (by simp [z])) e3⟩
  | succ k ih =>
    intro i h tk c got as stays hi stI keeps atS accs asLen made
    have lt : i < outs.length := by omega
    have accLen : got.size = i := by rw [← Array.length_toList, accs, List.length_map, asLen]
    refine codeAny_builtin PySem.F.entry_extend_loop ?_
    rw [Around.under_plainId PySem.F.plain_extend_loop _]
    show wpAny _ A.in1 (pyNext (.ref I) >>= _) _ _ _
    refine wpAny_bind (F.item A.in1 i { s with heap := h, toks := tk } _ _ outs[i] (List.getElem?_eq_getElem lt) stI fun h' a its noA hsza haf stI' hints ht hkp => ?_)
    dsimp only at noA ht hkp ⊢
    have atS' := hkp S _ neSI atS
    have up : ∀ b o, b ≠ S → h'.get? b = some o → (h'.update S (Obj.mapSeq (·.push (Value.ref a)))).get? b = some o := fun b o off e => (Heap.get?_update_other _ _ (Ne.symm off)).trans e
    have haS : a ≠ S := fun e => by rw [e, atS] at noA; cases noA
    have haI : a ≠ I := fun e => haf (by rw [e]; exact F.mem)
    have hn1 : start.get? a = none := by
      cases q : start.get? a with
      | none => rfl
      | some o => rw [keeps a o haS haI q] at noA; cases noA
    show wpAny _ A.in1 (updateSeq S (·.push (Value.ref a)) >>= _) _ _ _
    refine wpAny_bind ?_
    refine wpAny_updateSeq atS' rfl (wpAny_pure ⟨plainId_quiet PySem.F.plain_extend_loop _, ih (i + 1) _ tk _ (got.push (Value.ref a)) (as ++ [a]) (by omega) lt (F.frame _ _ _ stI' fun b off o e => up b o (fun z => offS (by rw [← z]; exact off)) e)
      (fun b o q1 q2 e => up b o q1 (hkp b o q2 (keeps b o q1 q2 e))) (Heap.get?_update_self _ atS' rfl) (by rw [Array.toList_push, accs, List.map_append]; rfl) (by rw [List.length_append, asLen]; rfl) ?_⟩) (by rw [accLen]; omega) (by show (got.push (Value.ref a)).size ≤ sizeLine + 1; rw [Array.size_push, accLen]; omega)
    intro j b atJ
    rcases Nat.lt_trichotomy j as.length with q1 | q1 | q1
    · rw [List.getElem?_append_left q1] at atJ
      obtain ⟨e0, xs, its', e1, e2, e3⟩ := made j b atJ
      exact ⟨e0, xs, its', e1, e2, up b _ (fun z => e0.1 (by simp [z])) (hkp b _ (fun z => e0.1 (by simp [z])) e3)⟩
    · subst q1
      have off : a = b := by simpa using atJ
      subst off
      exact ⟨⟨by simp [haS, haI], hn1⟩, outs[i], its, by rw [asLen]; exact List.getElem?_eq_getElem lt, hints, up _ _ haS ht⟩
    · have noA : (as ++ [a])[j]? = none := List.getElem?_eq_none (by rw [List.length_append, List.length_singleton]; omega)
      rw [noA] at atJ; cases atJ
end
section
variable {prog : Program} {w : World} {A : Around} {E : Value → Shared → Prop} {s : Shared} {I : Addr} {fp : List Addr} {outs : List (List Nat)} {St : Nat → Heap → Prop}
theorem nolen_p : typeLookup (.type "itertools.permutations") "__len__" = pure none := by rw [typeLookup_type, builtinLookup_eq_fast]; kernel_rfl
theorem nohint_p : typeLookup (.type "itertools.permutations") "__length_hint__" = pure none := by rw [typeLookup_type, builtinLookup_eq_fast]; kernel_rfl
theorem hint_p {r : Addr} {Q : Bool → Shared → Prop} (cls : s.TypeIs (.ref r) "itertools.permutations") (h : Q true s) : wpAny (model prog w) A (Builtin.List.listLengthHint (.ref r)) Q E s := by
  unfold Builtin.List.listLengthHint
  refine wpAny_bind (wpAny_specialOf cls nolen_p ?_)
  show wpAny _ _ (specialOf (.ref r) "__length_hint__" >>= _) _ _ _
  refine wpAny_bind (wpAny_specialOf cls nohint_p ?_)
  exact wpAny_pure h
theorem extF (F : FIt prog w I fp outs St) {R : Result → Shared → Prop} (cls : ∀ i h, St i h → ∃ o, h.get? I = some o ∧ o.cls = .type "itertools.permutations") (calm : A.handled = none) (st0 : St 0 s.heap) (S : Addr) (offS : S ∉ fp) (res : Value) (c₀ : Nat) (atS : s.heap.get? S = some { cls := .type "list", data := .seq #[] c₀ })
    (fin : ∀ h' tk got c as, (∀ b o, b ≠ S → b ≠ I → s.heap.get? b = some o → h'.get? b = some o) → h'.get? S = some { cls := .type "list", dict := none, data := .seq got c, slots := #[] } → as.length = outs.length → MadeF outs [S, I] s.heap h' as →
      got.toList = as.map Value.ref → R (.ok (.ret res)) { s with heap := h', toks := tk }) (few : outs.length ≤ sizeLine) :
    wpAny (model prog w) A.in1 (Builtin.List.listExtendWith (.ref S) (.ref I) res)
      (fun fin s' => match fin with | .done f => R (.ok f) s' | .again c' => c'.quiet = true ∧ codeAny (model prog w) A c' R s') (fun e s' => R (.error e) s') s := by
  have neS : S ≠ I := fun e => offS (by rw [e]; exact F.mem)
  have go : ∀ (h : Heap) (c₁ tk : Nat), St 0 h → (∀ b o, b ≠ S → s.heap.get? b = some o → h.get? b = some o) →
      h.get? S = some { cls := .type "list", data := .seq #[] c₁ } → codeAny (model prog w) A (.builtin "list.extend.loop" ⟨[.ref S, .ref I, res], []⟩) R { s with heap := h, toks := tk } := by
    intro h c₁ tk stI stays hS₁
    exact loopF F (s := s) (start := s.heap) calm offS few res fin outs.length 0 h tk c₁ #[] [] (Nat.sub_zero _) (Nat.zero_le _) stI (fun b o off _ e => stays b o off e) hS₁ rfl rfl (fun j a atJ => by simp at atJ)
  unfold Builtin.List.listExtendWith
  obtain ⟨o, ho, hc⟩ := cls 0 _ st0
  refine wpAny_bind (wpAny_typeOf (T := "itertools.permutations") ⟨o, ho, hc⟩ ?_)
  have q1 : Builtin.List.listSameRef (.ref S) (.ref I) = false := by simp [Builtin.List.listSameRef, neS]
  have q2 : (Value.type "itertools.permutations" == Value.type "list") = false := by decide
  have q3 : (Value.type "itertools.permutations" == Value.type "tuple") = false := by decide
  simp only [q1, q2, q3, Bool.or_false, Bool.false_eq_true, if_false]
  refine wpAny_bind (F.self _ 0 _ _ _ st0 ?_)
  refine wpAny_bind (wpAny_holding (hint_p ⟨o, ho, hc⟩ ?_))
  refine wpAny_ite_split (fun _ => ?_) (fun _ => wpAny_pure ⟨plainId_quiet PySem.F.plain_extend_loop _, go _ c₀ _ st0 (fun b o _ e => e) atS⟩)
  refine wpAny_bind (wpAny_rule ?_)
  refine wpAny_bind ?_
  show wpAny _ _ (updateSeq S (·.push .none) >>= fun _ => updateSeq S (·.pop)) _ _ _
  refine wpAny_bind (wpAny_updateSeq atS rfl ?_)
  have atS2 := Heap.get?_update_self (Obj.mapSeq (·.push Value.none)) atS rfl
  refine wpAny_updateSeq (hz := by seq_fits) atS2 rfl ?_
  have atS3 := Heap.get?_update_self (Obj.mapSeq (·.pop)) atS2 rfl
  have same : ∀ b o, b ≠ S → s.heap.get? b = some o → ((s.heap.update S (Obj.mapSeq (·.push Value.none))).update S (Obj.mapSeq (·.pop))).get? b = some o := fun b o off e =>
    (Heap.get?_update_other _ _ (Ne.symm off)).trans ((Heap.get?_update_other _ _ (Ne.symm off)).trans e)
  exact wpAny_pure ⟨plainId_quiet PySem.F.plain_extend_loop _, go _ _ _ (F.frame _ _ _ st0 fun b off o e => same b o (fun z => offS (by rw [← z]; exact off)) e) same atS3⟩
theorem initF (F : FIt prog w I fp outs St) {R : Result → Shared → Prop} (cls : ∀ i h, St i h → ∃ o, h.get? I = some o ∧ o.cls = .type "itertools.permutations") (calm : A.handled = none) (st0 : St 0 s.heap) (S : Addr) (offS : S ∉ fp) (atS : s.heap.get? S = some { cls := .type "list", data := .seq #[] })
    (fin : ∀ h' tk got c as, (∀ b o, b ≠ S → b ≠ I → s.heap.get? b = some o → h'.get? b = some o) → h'.get? S = some { cls := .type "list", dict := none, data := .seq got c, slots := #[] } → as.length = outs.length → MadeF outs [S, I] s.heap h' as →
      got.toList = as.map Value.ref → R (.ok (.ret .none)) { s with heap := h', toks := tk }) (few : outs.length ≤ sizeLine) :
    wpAny (model prog w) A.in1 (Builtin.«list.__init__» ⟨[.ref S, .ref I], []⟩)
      (fun fin s' => match fin with | .done f => R (.ok f) s' | .again c' => c'.quiet = true ∧ codeAny (model prog w) A c' R s') (fun e s' => R (.error e) s') s := by
  show wpAny _ _ (do let old ← Builtin.List.listItems (.ref S); Builtin.List.listUpdate (.ref S) (fun _ => #[]); letGo old.toList.reverse; Builtin.List.listExtendWith (.ref S) (.ref I) .none) _ _ s
  refine wpAny_bind ?_
  unfold Builtin.List.listItems
  refine wpAny_bind (wpAny_seqItems atS rfl (wpAny_pure ?_))
  show wpAny _ _ (updateSeq S (fun _ => #[]) >>= fun _ => letGo (#[] : Array Value).toList.reverse >>= fun _ => Builtin.List.listExtendWith (.ref S) (.ref I) .none) _ _ s
  refine wpAny_bind (wpAny_updateSeq atS rfl ?_)
  have atS2 := Heap.get?_update_self (Obj.mapSeq (fun _ => (#[] : Array Value))) atS rfl
  have other : ∀ b o, b ≠ S → s.heap.get? b = some o → (s.heap.update S (Obj.mapSeq (fun _ => (#[] : Array Value)))).get? b = some o :=
    fun b o off e => (Heap.get?_update_other _ _ (Ne.symm off)).trans e
  refine wpAny_bind (wpAny_letGo ?_)
  refine extF F cls calm (F.frame _ _ _ st0 fun b off o e => other b o (fun z => offS (by rw [← z]; exact off)) e) S offS .none _ atS2 (fun h' tk got c as stays atS' len made accs => ?_) few
  exact fin h' tk got c as (fun b o off hi e => stays b o off hi (other b o off e)) atS' len (made.low fun b o off e => other b o (fun z => off (by simp [z])) e) accs
theorem callF (F : FIt prog w I fp outs St) {Q : Value → Shared → Prop} (cls : ∀ i h, St i h → ∃ o, h.get? I = some o ∧ o.cls = .type "itertools.permutations") (calm : A.handled = none) (st0 : St 0 s.heap) (few : outs.length ≤ sizeLine)
    (hQ : ∀ S h' tk got c as, s.heap.get? S = none → s.heap.objs.size ≤ S → (∀ b o, b ≠ I → s.heap.get? b = some o → h'.get? b = some o) → h'.get? S = some { cls := .type "list", dict := none, data := .seq got c, slots := #[] } → as.length = outs.length → MadeF outs [S, I] s.heap h' as → got.toList = as.map Value.ref →
      Q (.ref S) { s with heap := h', toks := tk }) :
    wpAny (model prog w) A (call (.type "list") [.ref I]) Q E s := by
  refine callType_codes (Q₁ := fun obj s₁ => obj = .ref s.heap.objs.size ∧ s₁ = { s with heap := s.heap.push { cls := .type "list", data := .seq #[] } }) PySem.F.called_list (PySem.F.typeCall_list_1 _) PySem.F.entry_list_init
    (code_list_new _ ⟨rfl, rfl⟩) fun obj s₁ start => ?_
  obtain ⟨rfl, rfl⟩ := start
  have atS : (s.heap.push { cls := .type "list", data := .seq #[] }).get? s.heap.objs.size = some { cls := .type "list", data := .seq #[] } := Heap.get?_push_size _ rfl
  have noS : s.heap.get? s.heap.objs.size = none := by
    cases q : s.heap.get? s.heap.objs.size with
    | none => rfl
    | some o => exact absurd (Heap.lt_size q) (Nat.lt_irrefl _)
  have offS : s.heap.objs.size ∉ fp := fun hm => by
    obtain ⟨o, ho, _⟩ := F.there 0 _ st0 _ hm
    rw [noS] at ho; cases ho
  have st1 : St 0 (s.heap.push { cls := .type "list", data := .seq #[] }) := F.frame _ _ _ st0 fun b _ o e => Heap.get?_push_of_some _ e
  refine ⟨⟨_, atS, rfl⟩, PySem.F.args_list_init_2 _ _, ?_⟩
  exact initF (A := A.in1) (s := { s with heap := s.heap.push { cls := .type "list", data := .seq #[] } }) F cls calm st1 _ offS atS (fun h' tk got c as stays atS' len made accs => ⟨rfl, hQ _ h' tk got c as noS (Nat.le_refl _) (fun b o off e => stays b o (fun z => by rw [z, noS] at e; cases e) off (Heap.get?_push_of_some _ e)) atS' len (made.low fun b o _ e => Heap.get?_push_of_some _ e) accs⟩) few
end
end KdIt
-- K68I5
set_option maxRecDepth 100000
set_option maxHeartbeats 4000000
/-! permutations and combinations of range(0), range(1), range(2) as iterators of new tuples; the rules. -/
namespace KdIt
open PySem PySem.Spec PyProof.Rows L2
open Sem (wp)
def outsP : Nat → Nat → List (List Nat)
  | 0, 0 => [[]]
  | 1, 0 => [[]]
  | 1, 1 => [[0]]
  | 2, 0 => [[]]
  | 2, 1 => [[0], [1]]
  | 2, 2 => [[0, 1], [1, 0]]
  | _, _ => []
def numsP : Nat → Nat → Nat → List Nat
  | 0, 0, _ => []
  | 1, 0, _ => [0]
  | 1, 1, _ => [0, 1]
  | 2, 0, _ => [0, 1]
  | 2, 1, 0 => [0, 1, 2]
  | 2, 1, 1 => [0, 1, 2]
  | 2, 1, _ => [1, 0, 1]
  | 2, 2, 0 => [0, 1, 2, 1]
  | 2, 2, 1 => [0, 1, 2, 1]
  | 2, 2, _ => [1, 0, 1, 1]
  | _, _, _ => []
def outsC : Nat → Nat → List (List Nat)
  | 0, 0 => [[]]
  | 1, 0 => [[]]
  | 1, 1 => [[0]]
  | 2, 0 => [[]]
  | 2, 1 => [[0], [1]]
  | 2, 2 => [[0, 1]]
  | _, _ => []
def numsC : Nat → Nat → Nat → List Nat
  | 1, 1, _ => [0]
  | 2, 1, 0 => [0]
  | 2, 1, 1 => [0]
  | 2, 1, _ => [1]
  | 2, 2, _ => [0, 1]
  | _, _, _ => []
def poolV (t0 t1 : Tok) : Nat → Array Value
  | 0 => #[]
  | 1 => #[.int 0 t0]
  | _ => #[.int 0 t0, .int 1 t1]
def flg : Nat → Nat
  | 0 => 0
  | _ => 1
def StP (n k : Nat) (it pool : Addr) (i : Nat) (h : Heap) : Prop := ∃ z t0 t1, h.get? it = some (objP pool k (flg i) z (numsP n k i)) ∧ h.get? pool = some (seqObj "tuple" (poolV t0 t1 n) 0)
def StC (n k : Nat) (it pool : Addr) (i : Nat) (h : Heap) : Prop := ∃ z t0 t1, h.get? it = some (objC pool (flg i) z (numsC n k i)) ∧ h.get? pool = some (seqObj "tuple" (poolV t0 t1 n) 0)
theorem nk_cases {n k : Nat} (hn : n ≤ 2) (hk : k ≤ n) : (n = 0 ∧ k = 0) ∨ (n = 1 ∧ k = 0) ∨ (n = 1 ∧ k = 1) ∨ (n = 2 ∧ k = 0) ∨ (n = 2 ∧ k = 1) ∨ (n = 2 ∧ k = 2) := by omega
section
variable {prog : Program} {w : World}
theorem iter_self {s : Shared} {A : Around} {E : Value → Shared → Prop} {it : Addr} {T : String} {Q : Value → Shared → Prop} {idn idi : String} (hT : s.TypeIs (.ref it) T) (si : Slot T "__iter__" idi) (sn : Slot T "__next__" idn) (ei : entryFor table idi = some Builtin.«dict_keyiterator.__iter__») (ai : argsOk idi ⟨[.ref it], []⟩) (h : Q (.ref it) s) : wpAny (model prog w) A (pyIter (.ref it)) Q E s := by
  refine wpAny_pyIter_slot hT si (wpAny_call_entry si hT ei ?_ ai)
  show wpAny _ _ (ret (.ref it)) _ _ s
  exact wpAny_pure ⟨_, rfl, T, _, hT, sn.lookup, h⟩
theorem notin {it pool a : Addr} {h : Heap} (ha : h.get? a = none) {o1 o2 : Obj} (h1 : h.get? it = some o1) (h2 : h.get? pool = some o2) : a ∉ [it, pool] := fun hm => by
  rcases List.mem_cons.mp hm with e | hm
  · rw [e, h1] at ha; cases ha
  · rw [List.mem_singleton.mp hm, h2] at ha; cases ha
theorem fit_p {n k : Nat} (hn : n ≤ 2) (hk : k ≤ n) (it pool : Addr) : FIt prog w it [it, pool] (outsP n k) (StP n k it pool) where
  mem := by simp
  there := fun i h ⟨z, t0, t1, h1, h2⟩ b hb => by
    rcases List.mem_cons.mp hb with e | hb
    · rw [e]; exact ⟨_, h1, fun v q => nomatch q⟩
    · rw [List.mem_singleton.mp hb]; exact ⟨_, h2, fun v q => nomatch q⟩
  frame := fun i h h' ⟨z, t0, t1, h1, h2⟩ kp => ⟨z, t0, t1, kp it (by simp) _ h1, kp pool (by simp) _ h2⟩
  self := fun A i s Q E ⟨z, t0, t1, h1, h2⟩ h => iter_self ⟨_, h1, rfl⟩ siter_p snext_p eiter_p (aiter_p _) h
  item := by
    intro A i s Q E xs hx ⟨z, t0, t1, h1, h2⟩ q
    have hne : pool ≠ it := ne_poolP h1 h2
    rcases nk_cases hn hk with ⟨rfl, rfl⟩ | ⟨rfl, rfl⟩ | ⟨rfl, rfl⟩ | ⟨rfl, rfl⟩ | ⟨rfl, rfl⟩ | ⟨rfl, rfl⟩
    · match i, hx with
      | 0, hx => cases hx; exact p_first_0_0 h1 h2 (t0 := t0) (t1 := t1) fun h' a g1 g2 g3 g4 g5 g6 => q h' a [] g1 g6 (notin g1 h1 h2) ⟨_, t0, t1, g3, g5 _ _ hne h2⟩ .nil g4 g5
      | i + 1, hx => simp [outsP] at hx
    · match i, hx with
      | 0, hx => cases hx; exact p_first_1_0 h1 h2 (t1 := t1) fun h' a g1 g2 g3 g4 g5 g6 => q h' a [] g1 g6 (notin g1 h1 h2) ⟨_, t0, t1, g3, g5 _ _ hne h2⟩ .nil g4 g5
      | i + 1, hx => simp [outsP] at hx
    · match i, hx with
      | 0, hx => cases hx; exact p_first_1_1 h1 h2 (t1 := t1) fun h' a g1 g2 g3 g4 g5 g6 => q h' a [.int 0 t0] g1 g6 (notin g1 h1 h2) ⟨_, t0, t1, g3, g5 _ _ hne h2⟩ (.cons 0 t0 .nil) g4 g5
      | i + 1, hx => simp [outsP] at hx
    · match i, hx with
      | 0, hx => cases hx; exact p_first_2_0 h1 h2 fun h' a g1 g2 g3 g4 g5 g6 => q h' a [] g1 g6 (notin g1 h1 h2) ⟨_, t0, t1, g3, g5 _ _ hne h2⟩ .nil g4 g5
      | i + 1, hx => simp [outsP] at hx
    · match i, hx with
      | 0, hx => cases hx; exact p_first_2_1 h1 h2 fun h' a g1 g2 g3 g4 g5 g6 => q h' a [.int 0 t0] g1 g6 (notin g1 h1 h2) ⟨_, t0, t1, g3, g5 _ _ hne h2⟩ (.cons 0 t0 .nil) g4 g5
      | 1, hx => cases hx; exact p_move_2_1 h1 h2 fun h' a g1 g2 g3 g4 g5 g6 => q h' a [.int 1 t1] g1 g6 (notin g1 h1 h2) ⟨_, t0, t1, g3, g5 _ _ hne h2⟩ (.cons 1 t1 .nil) g4 g5
      | i + 2, hx => simp [outsP] at hx
    · match i, hx with
      | 0, hx => cases hx; exact p_first_2_2 h1 h2 fun h' a g1 g2 g3 g4 g5 g6 => q h' a [.int 0 t0, .int 1 t1] g1 g6 (notin g1 h1 h2) ⟨_, t0, t1, g3, g5 _ _ hne h2⟩ (.cons 0 t0 (.cons 1 t1 .nil)) g4 g5
      | 1, hx => cases hx; exact p_move_2_2 h1 h2 fun h' a g1 g2 g3 g4 g5 g6 => q h' a [.int 1 t1, .int 0 t0] g1 g6 (notin g1 h1 h2) ⟨_, t0, t1, g3, g5 _ _ hne h2⟩ (.cons 1 t1 (.cons 0 t0 .nil)) g4 g5
      | i + 2, hx => simp [outsP] at hx
  done := by
    intro A s Q E hh ⟨z, t0, t1, h1, h2⟩ q
    rcases nk_cases hn hk with ⟨rfl, rfl⟩ | ⟨rfl, rfl⟩ | ⟨rfl, rfl⟩ | ⟨rfl, rfl⟩ | ⟨rfl, rfl⟩ | ⟨rfl, rfl⟩
    · exact p_end_0_0 h1 h2 (t0 := t0) (t1 := t1) hh q
    · exact p_end_1_0 h1 h2 (t1 := t1) hh q
    · exact p_end_1_1 h1 h2 (t1 := t1) hh q
    · exact p_end_2_0 h1 h2 hh q
    · exact p_end_2_1 h1 h2 hh q
    · exact p_end_2_2 h1 h2 hh q
theorem fit_c {n k : Nat} (hn : n ≤ 2) (hk : k ≤ n) (it pool : Addr) : FIt prog w it [it, pool] (outsC n k) (StC n k it pool) where
  mem := by simp
  there := fun i h ⟨z, t0, t1, h1, h2⟩ b hb => by
    rcases List.mem_cons.mp hb with e | hb
    · rw [e]; exact ⟨_, h1, fun v q => nomatch q⟩
    · rw [List.mem_singleton.mp hb]; exact ⟨_, h2, fun v q => nomatch q⟩
  frame := fun i h h' ⟨z, t0, t1, h1, h2⟩ kp => ⟨z, t0, t1, kp it (by simp) _ h1, kp pool (by simp) _ h2⟩
  self := fun A i s Q E ⟨z, t0, t1, h1, h2⟩ h => iter_self ⟨_, h1, rfl⟩ siter_c snext_c eiter_c (aiter_c _) h
  item := by
    intro A i s Q E xs hx ⟨z, t0, t1, h1, h2⟩ q
    have hne : pool ≠ it := ne_pool h1 h2
    rcases nk_cases hn hk with ⟨rfl, rfl⟩ | ⟨rfl, rfl⟩ | ⟨rfl, rfl⟩ | ⟨rfl, rfl⟩ | ⟨rfl, rfl⟩ | ⟨rfl, rfl⟩
    · match i, hx with
      | 0, hx => cases hx; exact c_first_0_0 h1 h2 (t0 := t0) (t1 := t1) fun h' a g1 g2 g3 g4 g5 g6 => q h' a [] g1 g6 (notin g1 h1 h2) ⟨_, t0, t1, g3, g5 _ _ hne h2⟩ .nil g4 g5
      | i + 1, hx => simp [outsC] at hx
    · match i, hx with
      | 0, hx => cases hx; exact c_first_1_0 h1 h2 (t1 := t1) fun h' a g1 g2 g3 g4 g5 g6 => q h' a [] g1 g6 (notin g1 h1 h2) ⟨_, t0, t1, g3, g5 _ _ hne h2⟩ .nil g4 g5
      | i + 1, hx => simp [outsC] at hx
    · match i, hx with
      | 0, hx => cases hx; exact c_first_1_1 h1 h2 (t1 := t1) fun h' a g1 g2 g3 g4 g5 g6 => q h' a [.int 0 t0] g1 g6 (notin g1 h1 h2) ⟨_, t0, t1, g3, g5 _ _ hne h2⟩ (.cons 0 t0 .nil) g4 g5
      | i + 1, hx => simp [outsC] at hx
    · match i, hx with
      | 0, hx => cases hx; exact c_first_2_0 h1 h2 fun h' a g1 g2 g3 g4 g5 g6 => q h' a [] g1 g6 (notin g1 h1 h2) ⟨_, t0, t1, g3, g5 _ _ hne h2⟩ .nil g4 g5
      | i + 1, hx => simp [outsC] at hx
    · match i, hx with
      | 0, hx => cases hx; exact c_first_2_1 h1 h2 fun h' a g1 g2 g3 g4 g5 g6 => q h' a [.int 0 t0] g1 g6 (notin g1 h1 h2) ⟨_, t0, t1, g3, g5 _ _ hne h2⟩ (.cons 0 t0 .nil) g4 g5
      | 1, hx => cases hx; exact c_move_2_1 h1 h2 fun h' a g1 g2 g3 g4 g5 g6 => q h' a [.int 1 t1] g1 g6 (notin g1 h1 h2) ⟨_, t0, t1, g3, g5 _ _ hne h2⟩ (.cons 1 t1 .nil) g4 g5
      | i + 2, hx => simp [outsC] at hx
    · match i, hx with
      | 0, hx => cases hx; exact c_first_2_2 h1 h2 fun h' a g1 g2 g3 g4 g5 g6 => q h' a [.int 0 t0, .int 1 t1] g1 g6 (notin g1 h1 h2) ⟨_, t0, t1, g3, g5 _ _ hne h2⟩ (.cons 0 t0 (.cons 1 t1 .nil)) g4 g5
      | i + 1, hx => simp [outsC] at hx
  done := by
    intro A s Q E hh ⟨z, t0, t1, h1, h2⟩ q
    rcases nk_cases hn hk with ⟨rfl, rfl⟩ | ⟨rfl, rfl⟩ | ⟨rfl, rfl⟩ | ⟨rfl, rfl⟩ | ⟨rfl, rfl⟩ | ⟨rfl, rfl⟩
    · exact c_end_0_0 h1 h2 (t0 := t0) (t1 := t1) hh q
    · exact c_end_1_0 h1 h2 (t1 := t1) hh q
    · exact c_end_1_1 h1 h2 (t1 := t1) hh q
    · exact c_end_2_0 h1 h2 hh q
    · exact c_end_2_1 h1 h2 hh q
    · exact c_end_2_2 h1 h2 hh q
end
/-! ### as turns of a for -/
def ItF (outs : List (List Nat)) : It :=
  ⟨fun i _ => i < outs.length, fun i H v H' => ∃ T xs, v = .ref T ∧ H T = none ∧ outs[i]? = some xs ∧ H' = upd H T (.tup (xs.map fun (n : Nat) => V.int n)), fun i _ => outs.length ≤ i⟩
theorem ints_vals : ∀ {its : List Value} {xs : List Nat}, IntsAre its (xs.map fun (n : Nat) => (n : Int)) → Vals (xs.map fun (n : Nat) => V.int n) its
  | _, [], h => by cases h; exact .nil
  | _, x :: xs, h => by
    rw [List.map_cons] at h
    cases h with
    | cons _ t r => exact .cons ⟨t, rfl⟩ (ints_vals r)
theorem turnF {P : Program} {w : World} {K : PySem.W.Frag} {tg : Expr} {I : Addr} {fp : List Addr} {outs : List (List Nat)} {St : Nat → Heap → Prop} {T : String} (F : FIt P w I fp outs St) (hl : outs.length ≤ 100) (hx : ∀ xs ∈ outs, xs.length ≤ 100)
    (hT : ∀ i h, St i h → ∃ o vs, h.get? I = some o ∧ o.cls = .type T ∧ o.data = .fields vs) (hn : ["enumerate", "zip", "dict_itemiterator", "dict_reverseitemiterator", "odict_iterator", "itertools.zip_longest", "itertools.pairwise"].contains T = false) (hst : ∀ i h, St i h → i ≤ outs.length ∨ True) :
    Turn P w K tg (ItF outs) fp I (fun i h => St i h ∧ i ≤ outs.length) where
  mem := F.mem
  obj := fun i h st b hb => F.there i h st.1 b hb
  keep := fun i h h' st k => ⟨F.frame i h h' st.1 k, st.2⟩
  self := fun A i s Q E st h => F.self A i s Q E st.1 h
  item := by
    intro X hP hw hK hc i pins s σ H E I0 hf st hg
    subst hP hw hK
    have hlt : i < outs.length := hg
    have hxs : outs[i]? = some outs[i] := List.getElem?_eq_getElem hlt
    refine F.item X.A i s _ E outs[i] hxs st.1 fun h' a its hna hsz haf hst' hints ht hkp => ?_
    refine ⟨_, rfl, ?_⟩
    obtain ⟨o, vs, ho, hc1, hd1⟩ := hT _ _ hst'
    refine go_of ho hc1 hd1 hn ?_
    have hHa : H a = none := I0.hok.fresh hsz
    have new : ObjOk X.prog X.w (upd H a (.tup (outs[i].map fun (n : Nat) => V.int n))) h' a (.tup (outs[i].map fun (n : Nat) => V.int n)) :=
      ⟨by rw [List.length_map, sizeLine_eq]; have := hx _ (List.getElem_mem hlt); omega, its, ints_vals hints, ⟨_, ht, rfl, _, rfl⟩⟩
    have I1 : Inv X pins σ (upd H a (.tup (outs[i].map fun (n : Nat) => V.int n))) { s with heap := h' } :=
      I0.turnedNew (t' := s.toks) (ch := fp) (fun b ob hb q => hkp b ob (fun z => hb (by rw [z]; exact F.mem)) q) hf hsz new
    exact ⟨.ref a, _, I1, rfl, ⟨a, outs[i], rfl, hHa, hxs, rfl⟩, ⟨hst', hlt⟩, fun b hb => by rw [upd_ne (fun z => haf (by rw [← z]; exact hb))]; exact (hf b hb).1⟩
  done := by
    intro X hP hw hK hc i pins s σ H E I0 hf st hg
    subst hP hw hK
    have ei : i = outs.length := Nat.le_antisymm st.2 hg
    subst ei
    refine F.done X.A s _ E (I0.ok.hd hc) st.1 fun h' he => ⟨rfl, ?_⟩
    exact I0.turnedL (t' := s.toks) (ch := fp) (fun b o hb e => he b o (fun z => hb (by rw [z]; exact F.mem)) e) hf
end KdIt
-- K68N
set_option maxRecDepth 100000
set_option maxHeartbeats 4000000
/-! Numbers: fractions as Rat, their sizes, sums, products. -/
namespace Kd
/-! ### sizes -/
/-- below 2 ^ k above and below -/
def Lv (k : Nat) (q : Rat) : Prop := q.num.natAbs < 2 ^ k ∧ q.den < 2 ^ k
abbrev Sm (q : Rat) : Prop := Lv 200 q
/-- q is z / D, |z| at most M -/
def Bd (D M : Nat) (q : Rat) : Prop := ∃ z : Int, q * (D : Rat) = (z : Rat) ∧ z.natAbs ≤ M
theorem Lv.mono {a b : Nat} {q : Rat} (h : Lv a q) (hab : a ≤ b) : Lv b q := ⟨Nat.lt_of_lt_of_le h.1 (Nat.pow_le_pow_right (by omega) hab), Nat.lt_of_lt_of_le h.2 (Nat.pow_le_pow_right (by omega) hab)⟩
theorem natAbs_div_le (a : Int) (n : Nat) : (a / (n : Int)).natAbs ≤ a.natAbs := by
  rcases Nat.eq_zero_or_pos n with h | h
  · subst h; simp
  · rcases Int.le_total 0 a with ha | ha
    · have : 0 ≤ a / (n : Int) := Int.ediv_nonneg ha (by omega)
      have h2 : a / (n : Int) ≤ a := Int.ediv_le_self _ ha
      omega
    · have h1 : a / (n : Int) ≤ 0 := by
        by_cases z : a = 0
        · subst z; simp
        · have := Int.ediv_neg_of_neg_of_pos (show a < 0 by omega) (show (0 : Int) < n by omega)
          omega
      have h2 : a ≤ a / (n : Int) := by
        have := Int.le_ediv_of_mul_le (a := a) (b := a) (c := (n : Int)) (by omega) (by
          have : a * (n : Int) ≤ a * 1 := Int.mul_le_mul_of_nonpos_left ha (by omega)
          omega)
        exact this
      omega
theorem mk_num_le (a : Int) (b : Nat) : (mkRat a b).num.natAbs ≤ a.natAbs := by
  rw [Rat.num_mkRat]
  split
  · simp
  · exact natAbs_div_le _ _
theorem mk_den_le (a : Int) {b : Nat} (hb : 0 < b) : (mkRat a b).den ≤ b := by
  rw [Rat.den_mkRat, if_neg (by omega)]
  exact Nat.div_le_self _ _
theorem Lv.mul {a b : Nat} {x y : Rat} (hx : Lv a x) (hy : Lv b y) : Lv (a + b) (x * y) := by
  rw [Rat.mul_def']
  refine ⟨Nat.lt_of_le_of_lt (mk_num_le _ _) ?_, Nat.lt_of_le_of_lt (mk_den_le _ (Nat.mul_pos x.den_pos y.den_pos)) ?_⟩
  · rw [Int.natAbs_mul, Nat.pow_add]; exact Nat.mul_lt_mul'' hx.1 hy.1
  · rw [Nat.pow_add]; exact Nat.mul_lt_mul'' hx.2 hy.2
theorem Lv.pow {a : Nat} {x : Rat} (hx : Lv a x) (n : Nat) : Lv (a * n + 1) (x ^ n) := by
  induction n with
  | zero => rw [Rat.pow_zero, Nat.mul_zero]; exact ⟨by decide, by decide⟩
  | succ n ih =>
    rw [Rat.pow_succ]
    have := ih.mul hx
    exact this.mono (by rw [Nat.mul_succ]; omega)
theorem Lv.add {a b : Nat} {x y : Rat} (hx : Lv a x) (hy : Lv b y) : Lv (a + b + 1) (x + y) := by
  rw [Rat.add_def']
  refine ⟨Nat.lt_of_le_of_lt (mk_num_le _ _) ?_, Nat.lt_of_le_of_lt (mk_den_le _ (Nat.mul_pos x.den_pos y.den_pos)) ?_⟩
  · have h1 : (x.num * (y.den : Int)).natAbs < 2 ^ (a + b) := by
      rw [Int.natAbs_mul, Nat.pow_add]; exact Nat.mul_lt_mul'' hx.1 (by simpa using hy.2)
    have h2 : (y.num * (x.den : Int)).natAbs < 2 ^ (a + b) := by
      rw [Int.natAbs_mul, Nat.pow_add, Nat.mul_comm]; exact Nat.mul_lt_mul'' (by simpa using hx.2) hy.1
    have h3 := Int.natAbs_add_le (x.num * (y.den : Int)) (y.num * (x.den : Int))
    rw [Nat.pow_succ]; omega
  · rw [Nat.pow_succ]
    have : x.den * y.den < 2 ^ (a + b) := by rw [Nat.pow_add]; exact Nat.mul_lt_mul'' hx.2 hy.2
    omega
theorem Lv.zero : Lv 1 0 := ⟨by decide, by decide⟩
theorem Lv.one : Lv 1 1 := ⟨by decide, by decide⟩
theorem Bd.lv {D M k : Nat} {q : Rat} (h : Bd D M q) (hD : 0 < D) (h1 : D < 2 ^ k) (h2 : M < 2 ^ k) : Lv k q := by
  obtain ⟨z, h3, h4⟩ := h
  have e : q = mkRat z D := by
    rw [Rat.mkRat_eq_div, ← h3, Rat.mul_div_cancel]
    intro h
    have : D = 0 := by
      have := congrArg Rat.num h
      simpa using this
    omega
  rw [e]
  exact ⟨Nat.lt_of_le_of_lt (mk_num_le _ _) (by omega), Nat.lt_of_le_of_lt (mk_den_le _ hD) h1⟩
theorem Bd.add {D M N : Nat} {x y : Rat} (hx : Bd D M x) (hy : Bd D N y) : Bd D (M + N) (x + y) := by
  obtain ⟨z, h1, h2⟩ := hx
  obtain ⟨u, h3, h4⟩ := hy
  exact ⟨z + u, by rw [Rat.add_mul, h1, h3, Rat.intCast_add], by omega⟩
theorem Bd.mul {D M E N : Nat} {x y : Rat} (hx : Bd D M x) (hy : Bd E N y) : Bd (D * E) (M * N) (x * y) := by
  obtain ⟨z, h1, h2⟩ := hx
  obtain ⟨u, h3, h4⟩ := hy
  refine ⟨z * u, ?_, by rw [Int.natAbs_mul]; exact Nat.mul_le_mul h2 h4⟩
  rw [Rat.natCast_mul, Rat.intCast_mul, ← h1, ← h3]
  grind
theorem Bd.mono {D M N : Nat} {x : Rat} (h : Bd D M x) (hMN : M ≤ N) : Bd D N x := by
  obtain ⟨z, h1, h2⟩ := h
  exact ⟨z, h1, by omega⟩
theorem Bd.scale {D M : Nat} {x : Rat} (h : Bd D M x) (k : Nat) : Bd (D * k) (M * k) x := by
  obtain ⟨z, h1, h2⟩ := h
  refine ⟨z * k, ?_, by rw [Int.natAbs_mul]; exact Nat.mul_le_mul h2 (by simp)⟩
  rw [Rat.natCast_mul, Rat.intCast_mul, ← h1, Rat.intCast_natCast]
  grind
theorem Bd.zero {D M : Nat} : Bd D M 0 := ⟨0, by simp, by simp⟩
theorem Bd.int (z : Int) : Bd 1 z.natAbs (z : Rat) := ⟨z, by simp, by omega⟩
theorem Bd.one : Bd 1 1 1 := ⟨1, by decide +kernel, by decide⟩
/-! ### sums and products -/
def sumL (l : List Rat) : Rat := l.foldl (· + ·) 0
def prodL (l : List Rat) : Rat := l.foldl (· * ·) 1
theorem foldl_add (l : List Rat) : ∀ a : Rat, l.foldl (· + ·) a = a + l.foldl (· + ·) 0 := by
  induction l with
  | nil => intro a; simp [Rat.add_zero]
  | cons x r ih =>
    intro a
    rw [List.foldl_cons, List.foldl_cons, ih (a + x), ih (0 + x)]
    grind
theorem foldl_mul (l : List Rat) : ∀ a : Rat, l.foldl (· * ·) a = a * l.foldl (· * ·) 1 := by
  induction l with
  | nil => intro a; simp
  | cons x r ih =>
    intro a
    rw [List.foldl_cons, List.foldl_cons, ih (a * x), ih (1 * x)]
    grind
@[simp] theorem sumL_nil : sumL [] = 0 := rfl
@[simp] theorem prodL_nil : prodL [] = 1 := rfl
theorem sumL_cons (x : Rat) (l : List Rat) : sumL (x :: l) = x + sumL l := by
  unfold sumL; rw [List.foldl_cons, foldl_add]; grind
theorem prodL_cons (x : Rat) (l : List Rat) : prodL (x :: l) = x * prodL l := by
  unfold prodL; rw [List.foldl_cons, foldl_mul]; grind
theorem sumL_append (l r : List Rat) : sumL (l ++ r) = sumL l + sumL r := by
  induction l with
  | nil => simp [Rat.zero_add]
  | cons x l ih => rw [List.cons_append, sumL_cons, sumL_cons, ih]; grind
theorem prodL_append (l r : List Rat) : prodL (l ++ r) = prodL l * prodL r := by
  induction l with
  | nil => simp
  | cons x l ih => rw [List.cons_append, prodL_cons, prodL_cons, ih]; grind
theorem sumL_snoc (l : List Rat) (x : Rat) : sumL (l ++ [x]) = sumL l + x := by rw [sumL_append, sumL_cons]; simp [Rat.add_zero]
theorem prodL_snoc (l : List Rat) (x : Rat) : prodL (l ++ [x]) = prodL l * x := by rw [prodL_append, prodL_cons]; simp
theorem sumL_perm {l r : List Rat} (h : l.Perm r) : sumL l = sumL r := by
  induction h with
  | nil => rfl
  | cons x _ ih => rw [sumL_cons, sumL_cons, ih]
  | swap x y l => rw [sumL_cons, sumL_cons, sumL_cons, sumL_cons]; grind
  | trans _ _ ih1 ih2 => exact ih1.trans ih2
theorem sumL_map_add {α : Type} (f g : α → Rat) (l : List α) : sumL (l.map fun x => f x + g x) = sumL (l.map f) + sumL (l.map g) := by
  induction l with
  | nil => simp [Rat.zero_add]
  | cons x l ih => rw [List.map_cons, List.map_cons, List.map_cons, sumL_cons, sumL_cons, sumL_cons, ih]; grind
theorem sumL_map_mul {α : Type} (c : Rat) (f : α → Rat) (l : List α) : sumL (l.map fun x => c * f x) = c * sumL (l.map f) := by
  induction l with
  | nil => simp
  | cons x l ih => rw [List.map_cons, List.map_cons, sumL_cons, sumL_cons, ih]; grind
theorem sumL_map_zero {α : Type} (l : List α) : sumL (l.map fun _ => (0 : Rat)) = 0 := by
  induction l with
  | nil => rfl
  | cons x l ih => rw [List.map_cons, sumL_cons, ih]; grind
theorem sumL_flatMap {α β : Type} (l : List α) (h : α → List β) (f : β → Rat) : sumL ((l.flatMap h).map f) = sumL (l.map fun x => sumL ((h x).map f)) := by
  induction l with
  | nil => rfl
  | cons x l ih => rw [List.flatMap_cons, List.map_append, sumL_append, List.map_cons, sumL_cons, ih]
theorem Bd.sum {D M : Nat} : ∀ {l : List Rat}, (∀ x ∈ l, Bd D M x) → Bd D (l.length * M) (sumL l)
  | [], _ => Bd.zero
  | x :: l, h => by
    rw [sumL_cons]
    have h1 := (h x (List.mem_cons_self ..)).add (Bd.sum fun y hy => h y (List.mem_cons_of_mem _ hy))
    exact h1.mono (by rw [List.length_cons, Nat.succ_mul]; omega)
/-- all sums from the left are small -/
def SmSums (l : List Rat) : Prop := (∀ x ∈ l, Sm x) ∧ ∀ i, Sm (sumL (l.take i))
theorem SmSums.of {D M n : Nat} {l : List Rat} (h : ∀ x ∈ l, Bd D M x) (hD : 0 < D) (h1 : D < 2 ^ 200) (hl : l.length ≤ n) (h2 : n * M < 2 ^ 200) (hM : M < 2 ^ 200) : SmSums l := by
  refine ⟨fun x hx => (h x hx).lv hD h1 hM, fun i => ?_⟩
  have : Bd D ((l.take i).length * M) (sumL (l.take i)) := Bd.sum fun x hx => h x (List.mem_of_mem_take hx)
  refine this.lv hD h1 (Nat.lt_of_le_of_lt (Nat.mul_le_mul_right _ ?_) h2)
  rw [List.length_take]; omega
end Kd
-- K68W1
set_option maxRecDepth 100000
set_option maxHeartbeats 4000000
/-! Walks: the program's numbers. -/
namespace Kd
open PySem PySem.Spec PyProof.Rows L2
/-- a fraction in lowest terms -/
def fr (q : Rat) : T := .t [.i q.num, .i q.den]
theorem fr_mk (a : Int) (b : Nat) (hb : 0 < b) : fr (mkRat a b) = .t [.i (a / ((Nat.gcd a.natAbs b : Nat) : Int)), .i ((b : Int) / ((Nat.gcd a.natAbs b : Nat) : Int))] := by
  unfold fr
  rw [← Rat.normalize_eq_mkRat (by omega), Rat.normalize_eq]
  simp
theorem fr_inj {x y : Rat} (h : fr x = fr y) : x = y := by
  unfold fr at h
  injection h with h
  injection h with h1 h2
  injection h2 with h2 _
  injection h1 with h1
  injection h2 with h2
  exact Rat.ext h1 (by omega)
theorem fr_dec (x y : Rat) : decide (fr x = fr y) = decide (x = y) := by
  by_cases h : x = y
  · subst h; simp
  · rw [decide_eq_false h, decide_eq_false fun e => h (fr_inj e)]
theorem fr_depth (x : Rat) : (fr x).depth = 1 := by simp [fr, T.depth, T.depths]
theorem given1 {a : T} {δ1 : Dl} (g : Paired Given [.d a] δ1) : δ1 = [.d a] := by
  cases g with
  | cons h t => cases h; cases t; rfl
theorem given2 {a b : T} {δ1 : Dl} (g : Paired Given [.d a, .d b] δ1) : δ1 = [.d a, .d b] := by
  cases g with
  | cons h t => cases h; rw [given1 t]
theorem given3 {a b c : T} {δ1 : Dl} (g : Paired Given [.d a, .d b, .d c] δ1) : δ1 = [.d a, .d b, .d c] := by
  cases g with
  | cons h t => cases h; rw [given2 t]
theorem given5 {a b c d e : T} {δ1 : Dl} (g : Paired Given [.d a, .d b, .d c, .d d, .d e] δ1) : δ1 = [.d a, .d b, .d c, .d d, .d e] := by
  cases g with
  | cons h t =>
    cases h
    cases t with
    | cons h t => cases h; rw [given3 t]
theorem givenL {xs : List T} {δ1 : Dl} (g : Paired Given [.l xs] δ1) : ∃ p, δ1 = [.bas p xs] := by
  cases g with
  | cons h t => cases h; cases t; exact ⟨_, rfl⟩
theorem FnAt.mono {P : Program} {w : World} {K : PySem.W.Frag} {mg : Str → Option Value} {base : Heap} {j k : Nat} {x : Str} {ps : List Str} {sp : Sp} (F : FnAt P w K mg base j x ps sp) (h : j ≤ k) : FnAt P w K mg base k x ps sp := by
  obtain ⟨f, fd, G, r⟩ := F.ex
  exact ⟨f, fd, G.mono h, r⟩
/-- a module's constant -/
structure Cst (K : PySem.W.Frag) (mg : Str → Option Value) (x : Str) (u : T) : Prop where
  ex : ∃ q, mg x = some (.ref q) ∧ ∀ H, Rep K H (.ref q) u
theorem r_cst {B : Hp} {X : Cx} {δ : Dl} {x : Str} {u : T} {pos : Pos} (c : Cst X.K X.mg x u) (hg : Gl X x := by rfl) (hd : (x == ("__debug__" : Str)) = false := by decide) : DX B X (.Name x pos) δ u := by
  obtain ⟨q, h1, h2⟩ := c.ex
  exact r_glob hg h1 h2 hd
theorem nat_pow_log {n : Nat} : (n : Int).natAbs = n := by simp
theorem wide_nat {a b : Nat} (h1 : a < 2 ^ 200) (h2 : b < 2 ^ 200) : CMulW (a : Int) (b : Int) := wide_mul (a := 200) (b := 200) (by simpa using h1) (by simpa using h2) (by decide) (by decide) (by decide)
theorem wide_Sm {x y : Int} (h1 : x.natAbs < 2 ^ 200) (h2 : y.natAbs < 2 ^ 200) : CMulW x y := wide_mul h1 h2 (by decide) (by decide) (by decide)

def FFrac (as : List Ad) (d : T) : Prop := ∃ (a : Int) (b : Nat), 0 < b ∧ b < 2 ^ 400 ∧ as = [.d (.i a), .d (.i b)] ∧ d = fr (mkRat a b)
def FPlus (as : List Ad) (d : T) : Prop := ∃ x y : Rat, Sm x ∧ Sm y ∧ as = [.d (fr x), .d (fr y)] ∧ d = fr (x + y)
def FTimes (as : List Ad) (d : T) : Prop := ∃ x y : Rat, Sm x ∧ Sm y ∧ as = [.d (fr x), .d (fr y)] ∧ d = fr (x * y)
def FPow0 (as : List Ad) (d : T) : Prop := ∃ (n : Int) (k : Nat), n.natAbs < 2 ^ 10 ∧ k ≤ 4 ∧ as = [.d (.i n), .d (.i k)] ∧ d = .i (n ^ k)
def FPow (as : List Ad) (d : T) : Prop := ∃ (q : Rat) (k : Nat), Lv 10 q ∧ k ≤ 4 ∧ as = [.d (fr q), .d (.i k)] ∧ d = fr (q ^ k)
def FSum (as : List Ad) (d : T) : Prop := ∃ xs : List Rat, SmSums xs ∧ as = [.l (xs.map fr)] ∧ d = fr (sumL xs)
abbrev sFrac : Stmt := topS 9
abbrev sPlus : Stmt := topS 10
abbrev sTimes : Stmt := topS 11
abbrev sPow0 : Stmt := topS 12
abbrev sPow : Stmt := topS 13
abbrev sSum : Stmt := topS 24
theorem scFrac : FnScope ["top", "bottom", "common"] ["top", "bottom"] (defScope sFrac) := ⟨rfl, rfl, rfl, by decide +kernel, rfl, by decide +kernel, by decide +kernel⟩
theorem scPlus : FnScope ["x", "y"] ["x", "y"] (defScope sPlus) := ⟨rfl, rfl, rfl, by decide +kernel, rfl, by decide +kernel, by decide +kernel⟩
theorem scTimes : FnScope ["x", "y"] ["x", "y"] (defScope sTimes) := ⟨rfl, rfl, rfl, by decide +kernel, rfl, by decide +kernel, by decide +kernel⟩
theorem scPow0 : FnScope ["number", "many", "found", "square", "left"] ["number", "many"] (defScope sPow0) := ⟨rfl, rfl, rfl, by decide +kernel, rfl, by decide +kernel, by decide +kernel⟩
theorem scPow : FnScope ["x", "many"] ["x", "many"] (defScope sPow) := ⟨rfl, rfl, rfl, by decide +kernel, rfl, by decide +kernel, by decide +kernel⟩
theorem scSum : FnScope ["fractions", "total", "x"] ["fractions"] (defScope sSum) := ⟨rfl, rfl, rfl, by decide +kernel, rfl, by decide +kernel, by decide +kernel⟩
section
variable {P : Program} {w : World} {K : PySem.W.Frag} {mg : Str → Option Value} {base : Heap}
theorem ok_fraction (D : Def K mg "fraction" sFrac ["top", "bottom"]) (gg : mg "gcd" = some (.builtin "math.gcd")) : FnAt P w K mg base 1 "fraction" ["top", "bottom"] (spF K FFrac) := by
  refine D.d scFrac (by decide) (fun as d h => ?_) fun f cdv A outer s H E hr as d δ1 hF g => ?_
  · obtain ⟨a, b, _, _, rfl, _⟩ := h; rfl
  · obtain ⟨a, b, hb, hb2, rfl, rfl⟩ := hF
    rw [given2 g]
    have hg0 : 0 < Nat.gcd a.natAbs b := Nat.gcd_pos_of_pos_right _ hb
    have hgb : Nat.gcd a.natAbs b ≤ b := Nat.gcd_le_right _ hb
    have hw : ∀ m, CDivW m (((Nat.gcd a.natAbs (b : Int).natAbs : Nat) : Int)) := fun m => wide_div (b := 400) (by simp; exact .inr hb) (by simp only [Int.natAbs_natCast]; omega) (by decide) (by decide)
    refine ss_set (s_skip (t_eq (r_var 1) r_int) (decide_eq_false (by omega))) ?_
    refine ss_set (s_set 2 scFrac.nd (r_gcd gg (r_var 0) (r_var 1))) ?_
    refine ss_set (s_skip (t_lt (r_var 1) r_int) (decide_eq_false (by omega))) ?_
    refine ss_one (s_ret (r_tup (dd_cons (r_divW (r_var 0) (r_var 2) (hw _)) (dd_cons (r_divW (r_var 1) (r_var 2) (hw _)) dd_nil))) fun v H' e r => ⟨e, ?_⟩)
    rw [fr_mk a b hb]; exact r
theorem fr0 {q : Rat} : L2.atI [T.i q.num, T.i q.den] 0 = some (T.i q.num) := rfl
theorem fr1 {q : Rat} : L2.atI [T.i q.num, T.i q.den] 1 = some (T.i q.den) := rfl
theorem den400 {x y : Rat} (hx : Sm x) (hy : Sm y) : x.den * y.den < 2 ^ 400 := by
  have := Nat.mul_lt_mul'' hx.2 hy.2
  rw [← Nat.pow_add] at this
  exact Nat.lt_of_lt_of_le this (Nat.pow_le_pow_right (by decide) (by decide))
theorem ok_times (D : Def K mg "times" sTimes ["x", "y"]) (GF : FnAt P w K mg base 1 "fraction" ["top", "bottom"] (spF K FFrac)) : FnAt P w K mg base 2 "times" ["x", "y"] (spF K FTimes) := by
  refine D.d scTimes (by decide) (fun as d h => ?_) fun f cdv A outer s H E hr as d δ1 hF g => ?_
  · obtain ⟨a, b, _, _, rfl, _⟩ := h; rfl
  · obtain ⟨x, y, hx, hy, rfl, rfl⟩ := hF
    rw [given2 g]
    refine ss_one (s_ret (r_call GF hr (da_cons (r_mulW (r_ixT (r_var 0) r_int fr0) (r_ixT (r_var 1) r_int fr0) (wide_Sm hx.1 hy.1)) (da_1 (r_mulW (r_ixT (r_var 0) r_int fr1) (r_ixT (r_var 1) r_int fr1) (wide_nat hx.2 hy.2))))
      ⟨x.num * y.num, x.den * y.den, Nat.mul_pos x.den_pos y.den_pos, den400 hx hy, by simp, rfl⟩) fun v H' e r => ⟨e, ?_⟩)
    rw [Rat.mul_def']; exact r
theorem ok_plus (D : Def K mg "plus" sPlus ["x", "y"]) (GF : FnAt P w K mg base 1 "fraction" ["top", "bottom"] (spF K FFrac)) : FnAt P w K mg base 2 "plus" ["x", "y"] (spF K FPlus) := by
  refine D.d scPlus (by decide) (fun as d h => ?_) fun f cdv A outer s H E hr as d δ1 hF g => ?_
  · obtain ⟨a, b, _, _, rfl, _⟩ := h; rfl
  · obtain ⟨x, y, hx, hy, rfl, rfl⟩ := hF
    rw [given2 g]
    refine ss_one (s_ret (r_call GF hr (da_cons (r_add (r_mulW (r_ixT (r_var 0) r_int fr0) (r_ixT (r_var 1) r_int fr1) (wide_Sm hx.1 (by simpa using hy.2))) (r_mulW (r_ixT (r_var 1) r_int fr0) (r_ixT (r_var 0) r_int fr1) (wide_Sm hy.1 (by simpa using hx.2)))) (da_1 (r_mulW (r_ixT (r_var 0) r_int fr1) (r_ixT (r_var 1) r_int fr1) (wide_nat hx.2 hy.2))))
      ⟨x.num * y.den + y.num * x.den, x.den * y.den, Nat.mul_pos x.den_pos y.den_pos, den400 hx hy, by simp, rfl⟩) fun v H' e r => ⟨e, ?_⟩)
    rw [Rat.add_def']; exact r
theorem npow_lt {n : Int} (h : n.natAbs < 2 ^ 10) (e : Nat) : (n ^ e).natAbs < 2 ^ (10 * e + 1) := by
  induction e with
  | zero => simp
  | succ e ih =>
    rw [Int.pow_succ, Int.natAbs_mul]
    have := Nat.mul_lt_mul'' ih h
    rw [← Nat.pow_add] at this
    exact Nat.lt_of_lt_of_le this (Nat.pow_le_pow_right (by decide) (by omega))
theorem ok_pow0 (D : Def K mg "_power" sPow0 ["number", "many"]) : FnAt P w K mg base 1 "_power" ["number", "many"] (spF K FPow0) := by
  refine D.d scPow0 (by decide) (fun as d h => ?_) fun f cdv A outer s H E hr as d δ1 hF g => ?_
  · obtain ⟨a, b, _, _, rfl, _⟩ := h; rfl
  · obtain ⟨n, k, hn, hk, rfl, rfl⟩ := hF
    rw [given2 g]
    refine ss_cons (s_par3 2 3 4 scPow0.nd (DR.fd r_int) (DR.fd (r_var 0)) (DR.fd (r_var 1))) ?_
    rintro δ' ⟨s1, s2, s3, k1, k2, k3, rfl⟩
    rw [k1.d', k2.d', k3.d']
    refine ss_cons (M := fun δ' => ∃ a b, δ' = [.d (.i n), .d (.i k), .d (.i (n ^ k)), a, b]) (s_while (fun m δ' => ∃ j e : Nat, δ' = [.d (.i n), .d (.i k), .d (.i (n ^ e)), .d (.i (n ^ (2 ^ j))), .d (.i m)] ∧ e + m * 2 ^ j = k) ⟨k, 0, 0, by
      have e1 : n ^ (2 ^ 0) = n := Int.pow_one n
      rw [e1, Int.pow_zero]; rfl, by simp⟩ ?_) ?_
    · rintro m δ' ⟨j, e, rfl, hs⟩
      refine ⟨_, t_gt (r_var 4) r_int, fun hm => ?_, fun hm => ?_⟩
      · have hm : 0 < m := by simpa using of_decide_eq_true hm
        have hj : 2 ^ j ≤ 4 := by
          have : 1 * 2 ^ j ≤ m * 2 ^ j := Nat.mul_le_mul_right _ hm
          omega
        have he : e ≤ 4 := by omega
        have b1 : (n ^ e).natAbs < 2 ^ 50 := Nat.lt_of_lt_of_le (npow_lt hn e) (Nat.pow_le_pow_right (by decide) (by omega))
        have b2 : (n ^ (2 ^ j)).natAbs < 2 ^ 50 := Nat.lt_of_lt_of_le (npow_lt hn _) (Nat.pow_le_pow_right (by decide) (by omega))
        refine ss_cons (M := fun δ' => ∃ e' : Nat, e' + (m / 2) * 2 ^ (j + 1) = k ∧ δ' = [.d (.i n), .d (.i k), .d (.i (n ^ e')), .d (.i (n ^ (2 ^ j))), .d (.i m)]) (s_if (t_eq (r_mod (r_var 4) r_int (by decide)) r_int) (fun h1 => ?_) fun h1 => ?_) ?_
        · have h1 : (m : Int) % 2 = 1 := of_decide_eq_true h1
          refine ss_one ((s_augMul 2 scPow0.nd rfl (r_var 3) (wide_mul b1 b2 (by decide) (by decide) (by decide))).imp ?_)
          rintro δ' rfl
          refine ⟨e + 2 ^ j, ?_, ?_⟩
          · have h3 : m = 2 * (m / 2) + 1 := by omega
            have : m * 2 ^ j = (m / 2) * 2 ^ (j + 1) + 2 ^ j := by
              conv => lhs; rw [h3]
              rw [Nat.pow_succ, Nat.add_mul, Nat.mul_comm 2, Nat.mul_assoc, Nat.mul_comm 2]; omega
            omega
          · rw [Int.pow_add]; rfl
        · have h1 : ¬ (m : Int) % 2 = 1 := of_decide_eq_false h1
          refine ss_nil ⟨e, ?_, rfl⟩
          have h3 : m = 2 * (m / 2) := by omega
          have : m * 2 ^ j = (m / 2) * 2 ^ (j + 1) := by
            conv => lhs; rw [h3]
            rw [Nat.pow_succ, Nat.mul_comm 2, Nat.mul_assoc, Nat.mul_comm 2]
          omega
        · rintro δ' ⟨e', he', rfl⟩
          refine ss_one ((s_par 3 4 scPow0.nd (DR.fd (r_mulW (r_var 3) (r_var 3) (wide_mul b2 b2 (by decide) (by decide) (by decide)))) (DR.fd (r_divW (r_var 4) r_int ⟨by decide, by decide⟩))).imp ?_)
          rintro δ' ⟨s1, s2, k1, k2, rfl⟩
          rw [k1.d', k2.d']
          refine ⟨m / 2, by omega, j + 1, e', ?_, he'⟩
          rw [← Int.pow_add]
          have e1 : 2 ^ j + 2 ^ j = 2 ^ (j + 1) := by rw [Nat.pow_succ]; omega
          rw [e1]
          have e2 : ((m : Nat) : Int) / 2 = ((m / 2 : Nat) : Int) := by omega
          rw [e2]; rfl
      · have hm : m = 0 := by
          have := of_decide_eq_false hm
          omega
        subst hm
        have : e = k := by omega
        subst this; exact ⟨_, _, rfl⟩
    · rintro δ' ⟨a, b, rfl⟩
      exact ss_one (s_ret (r_var 2) fun v H' e r => ⟨e, r⟩)
theorem Lv.nat {k : Nat} {q : Rat} (h : Lv k q) : (q.den : Int).natAbs < 2 ^ k := by simpa using h.2
theorem ok_pow (D : Def K mg "power_of" sPow ["x", "many"]) (GP : FnAt P w K mg base 1 "_power" ["number", "many"] (spF K FPow0)) : FnAt P w K mg base 2 "power_of" ["x", "many"] (spF K FPow) := by
  refine D.d scPow (by decide) (fun as d h => ?_) fun f cdv A outer s H E hr as d δ1 hF g => ?_
  · obtain ⟨a, b, _, _, rfl, _⟩ := h; rfl
  · obtain ⟨q, k, hq, hk, rfl, rfl⟩ := hF
    rw [given2 g]
    refine ss_cons (M := fun _ => False) (s_if (t_ge (r_var 1) r_int) (fun _ => ?_) fun h => ?_) fun _ z => z.elim
    · refine ss_one (s_ret (r_tup (dd_cons (r_call GP hr (da_cons (r_ixT (r_var 0) r_int fr0) (da_1 (r_var 1))) ⟨q.num, k, hq.1, hk, rfl, rfl⟩) (dd_cons (r_call GP hr (da_cons (r_ixT (r_var 0) r_int fr1) (da_1 (r_var 1))) ⟨q.den, k, hq.nat, hk, rfl, rfl⟩) dd_nil))) fun v H' e r => ⟨e, ?_⟩)
      have e1 : (q.den : Int) ^ k = ((q ^ k).den : Int) := by rw [Rat.den_pow]; simp
      rw [e1] at r
      exact r
    · exact absurd (of_decide_eq_false h) (by omega)
theorem ok_sum (D : Def K mg "sum_of" sSum ["fractions"]) (cz : Cst K mg "ZERO_sources" (fr 0)) (GP : FnAt P w K mg base 2 "plus" ["x", "y"] (spF K FPlus)) : FnAt P w K mg base 3 "sum_of" ["fractions"] (spF K FSum) := by
  refine D.d scSum (by decide) (fun as d h => ?_) fun f cdv A outer s H E hr as d δ1 hF g => ?_
  · obtain ⟨xs, _, rfl, _⟩ := h; rfl
  · obtain ⟨xs, hs, rfl, rfl⟩ := hF
    obtain ⟨p, rfl⟩ := givenL g
    refine ss_set (s_set 1 scSum.nd (r_cst cz)) ?_
    refine ss_cons (s_for (xs := xs.map fr) (fun i δ' => ∃ a, δ' = [.bas p (xs.map fr), .d (fr (sumL (xs.take i))), a]) (it_bas 0) ⟨.no, rfl⟩ ?_) ?_
    · rintro i x δ1 hx ⟨a, rfl⟩
      rw [List.getElem?_map] at hx
      cases hq : xs[i]? with
      | none => rw [hq] at hx; cases hx
      | some q =>
        rw [hq] at hx; cases hx
        have hm : q ∈ xs := List.mem_of_getElem? hq
        refine ⟨_, [2], g_name 2 scSum.nd, ss_one ((s_set 1 scSum.nd (r_call GP hr (da_cons (r_var 1) (da_1 (r_var 2))) ⟨_, q, hs.2 i, hs.1 q hm, rfl, rfl⟩)).imp ?_)⟩
        rintro δ' rfl
        refine ⟨.d (fr q), ?_⟩
        rw [List.take_add_one, hq, Option.toList_some, sumL_snoc]
        rfl
    · rintro δ' ⟨a, rfl⟩
      refine ss_one (s_ret (r_var 1) fun v H' e r => ⟨e, ?_⟩)
      rw [List.length_map, List.take_length] at r
      exact r
end
end Kd
-- K68W2
set_option maxRecDepth 100000
set_option maxHeartbeats 4000000
/-! Walks: gathered. -/
namespace Kd
open PySem PySem.Spec PyProof.Rows L2
/-! ### tables -/
section
variable {α : Type}
def gA (kvs : List (T × α)) (k : T) : Option α := (kvs.find? fun kv => decide (kv.1 = k)).map (·.2)
def pA (kvs : List (T × α)) (k : T) (v : α) : List (T × α) := if (gA kvs k).isSome then kvs.map (fun kv => if kv.1 = k then (kv.1, v) else kv) else kvs ++ [(k, v)]
theorem gA_cons_pos {p : T × α} {r : List (T × α)} {k : T} (e : p.1 = k) : gA (p :: r) k = some p.2 := by simp [gA, List.find?_cons, e]
theorem gA_cons_neg {p : T × α} {r : List (T × α)} {k : T} (e : ¬ p.1 = k) : gA (p :: r) k = gA r k := by simp [gA, List.find?_cons, e]
theorem gA_mem {kvs : List (T × α)} {k : T} {v : α} (h : gA kvs k = some v) : (k, v) ∈ kvs := by
  unfold gA at h
  obtain ⟨p, h1, h2⟩ := Option.map_eq_some_iff.mp h
  have h3 := List.find?_some h1
  have h4 := List.mem_of_find?_eq_some h1
  obtain ⟨a, b⟩ := p
  have : a = k := by simpa using h3
  subst this; cases h2; exact h4
theorem gA_some {kvs : List (T × α)} {k : T} (h : k ∈ kvs.map (·.1)) : ∃ v, gA kvs k = some v := by
  induction kvs with
  | nil => cases h
  | cons p r ih =>
    by_cases e : p.1 = k
    · exact ⟨_, gA_cons_pos e⟩
    · rw [gA_cons_neg e]
      rw [List.map_cons] at h
      rcases List.mem_cons.mp h with h | h
      · exact absurd h.symm e
      · exact ih h
theorem gA_none {kvs : List (T × α)} {k : T} (h : gA kvs k = none) : k ∉ kvs.map (·.1) := fun hm => by
  obtain ⟨v, e⟩ := gA_some hm
  rw [e] at h; cases h
theorem gA_in {kvs : List (T × α)} (hn : (kvs.map (·.1)).Nodup) {p : T × α} (hp : p ∈ kvs) : gA kvs p.1 = some p.2 := by
  induction kvs with
  | nil => cases hp
  | cons q r ih =>
    rw [List.map_cons, List.nodup_cons] at hn
    rcases List.mem_cons.mp hp with rfl | hp
    · exact gA_cons_pos rfl
    · rw [gA_cons_neg (fun e => hn.1 (by rw [e]; exact List.mem_map.mpr ⟨p, hp, rfl⟩)), ih hn.2 hp]
theorem pA_keys (kvs : List (T × α)) (k : T) (v : α) : (pA kvs k v).map (·.1) = if (gA kvs k).isSome then kvs.map (·.1) else kvs.map (·.1) ++ [k] := by
  unfold pA
  split
  · rw [List.map_map]
    refine List.map_congr_left fun kv _ => ?_
    simp only [Function.comp]
    split <;> rfl
  · rw [List.map_append]; rfl
theorem pA_nodup {kvs : List (T × α)} {k : T} {v : α} (h : (kvs.map (·.1)).Nodup) : ((pA kvs k v).map (·.1)).Nodup := by
  rw [pA_keys]
  cases q : gA kvs k with
  | some _ => exact h
  | none =>
    refine List.nodup_append.mpr ⟨h, by simp, fun a ha b hb => ?_⟩
    rw [List.mem_singleton] at hb
    intro e
    rw [e, hb] at ha
    exact gA_none q ha
theorem pA_mem {kvs : List (T × α)} {k : T} {v : α} {p : T × α} (h : p ∈ pA kvs k v) : p = (k, v) ∨ p ∈ kvs := by
  unfold pA at h
  split at h
  · obtain ⟨q, h1, h2⟩ := List.mem_map.mp h
    split at h2
    · rename_i e
      exact .inl (by rw [← h2, ← e])
    · exact .inr (by rw [← h2]; exact h1)
  · rcases List.mem_append.mp h with h | h
    · exact .inr h
    · exact .inl (by simpa using h)
theorem pA_length (kvs : List (T × α)) (k : T) (v : α) : (pA kvs k v).length ≤ kvs.length + 1 := by
  unfold pA
  split
  · rw [List.length_map]; omega
  · simp
/-- the table of the machine -/
def tabT (f : α → T) (kvs : List (T × α)) : List (T × T) := kvs.map fun p => (p.1, f p.2)
theorem tab_get (f : α → T) (kvs : List (T × α)) (k : T) : gT (tabT f kvs) k = (gA kvs k).map f := by
  induction kvs with
  | nil => rfl
  | cons p r ih =>
    by_cases e : p.1 = k
    · rw [gA_cons_pos e]; simp [gT, tabT, List.find?_cons, e]
    · rw [gA_cons_neg e, ← ih]; simp [gT, tabT, List.find?_cons, e]
theorem tab_put (f : α → T) (kvs : List (T × α)) (k : T) (v : α) : pT (tabT f kvs) k (f v) = tabT f (pA kvs k v) := by
  unfold pT pA
  rw [tab_get, Option.isSome_map]
  split
  · unfold tabT
    rw [List.map_map, List.map_map]
    refine List.map_congr_left fun p _ => ?_
    simp only [Function.comp]
    split <;> rfl
  · unfold tabT; rw [List.map_append]; rfl
theorem tab_keys (f : α → T) (kvs : List (T × α)) : (tabT f kvs).map (·.1) = kvs.map (·.1) := by unfold tabT; rw [List.map_map]; rfl
end
/-! ### gathered, said plainly -/
def gStep (tab : List (T × Rat)) (p : T × Rat) : List (T × Rat) := pA tab p.1 ((gA tab p.1).getD 0 + p.2)
def gTab (ps : List (T × Rat)) : List (T × Rat) := ps.foldl gStep []
def gVal (ps : List (T × Rat)) (k : T) : Rat := (gA (gTab ps) k).getD 0
noncomputable def gatF (ps : List (T × Rat)) : List (T × Rat) := ((srtT ((gTab ps).map (·.1))).filter fun k => !decide (gVal ps k = 0)).map fun k => (k, gVal ps k)
/-- a pair of a form -/
def prT (p : T × Rat) : T := .t [p.1, fr p.2]
def formT (ps : List (T × Rat)) : T := .t (ps.map prT)
theorem gTab_snoc (ps : List (T × Rat)) (p : T × Rat) : gTab (ps ++ [p]) = gStep (gTab ps) p := by unfold gTab; rw [List.foldl_append]; rfl
theorem gTab_nodup (ps : List (T × Rat)) : ((gTab ps).map (·.1)).Nodup := by
  unfold gTab
  have : ∀ (ps acc : List (T × Rat)), (acc.map (·.1)).Nodup → ((ps.foldl gStep acc).map (·.1)).Nodup := by
    intro ps
    induction ps with
    | nil => intro acc h; exact h
    | cons p r ih => intro acc h; exact ih _ (pA_nodup h)
  exact this ps [] List.nodup_nil
theorem gTab_keys (ps : List (T × Rat)) : ∀ k ∈ (gTab ps).map (·.1), k ∈ ps.map (·.1) := by
  have : ∀ (ps acc : List (T × Rat)) (k : T), k ∈ (ps.foldl gStep acc).map (·.1) → k ∈ acc.map (·.1) ∨ k ∈ ps.map (·.1) := by
    intro ps
    induction ps with
    | nil => intro acc k h; exact .inl h
    | cons p r ih =>
      intro acc k h
      rcases ih (gStep acc p) k h with h | h
      · unfold gStep at h
        rw [pA_keys] at h
        split at h
        · exact .inl h
        · rcases List.mem_append.mp h with h | h
          · exact .inl h
          · exact .inr (by rw [List.map_cons]; exact List.mem_cons.mpr (.inl (by simpa using h)))
      · exact .inr (by rw [List.map_cons]; exact List.mem_cons_of_mem _ h)
  intro k h
  rcases this ps [] k h with h | h
  · cases h
  · exact h
theorem gTab_bd {D M : Nat} {ps : List (T × Rat)} (h : ∀ p ∈ ps, Bd D M p.2) : ∀ (n : Nat), n ≤ ps.length → ∀ p ∈ gTab (ps.take n), Bd D (n * M) p.2 := by
  intro n
  induction n with
  | zero => intro _ p hp; simp [gTab] at hp
  | succ n ih =>
    intro hn p hp
    have hlt : n < ps.length := hn
    rw [List.take_succ, List.getElem?_eq_getElem hlt, Option.toList_some, gTab_snoc] at hp
    have ih := ih (Nat.le_of_lt hlt)
    have e : (n + 1) * M = n * M + M := Nat.succ_mul n M
    rcases pA_mem hp with rfl | hp
    · show Bd D _ ((gA _ _).getD 0 + _)
      rw [e]
      refine Bd.add ?_ (h _ (List.getElem_mem hlt))
      cases q : gA (gTab (ps.take n)) ps[n].1 with
      | none => exact Bd.zero
      | some v => exact ih _ (gA_mem q)
    · exact (ih p hp).mono (by omega)
/-- what gathered asks for -/
structure GOk (ps : List (T × Rat)) : Prop where
  ex : ∃ n D M, shps (n + 1) (ps.map (·.1)) = true ∧ n ≤ 7 ∧ ps.length ≤ 5000 ∧ 0 < D ∧ D < 2 ^ 200 ∧ 5000 * M < 2 ^ 200 ∧ ∀ p ∈ ps, Bd D M p.2
def FGat (as : List Ad) (d : T) : Prop := ∃ ps, GOk ps ∧ as = [.l (ps.map prT)] ∧ d = formT (gatF ps)
abbrev sGat : Stmt := topS 16
theorem scGat : FnScope ["pairs", "sums", "powers", "x"] ["pairs"] (defScope sGat) := ⟨rfl, rfl, rfl, by decide +kernel, rfl, by decide +kernel, by decide +kernel⟩
theorem shps_sub {n : Nat} {l r : List T} (h : shps n l = true) (hs : ∀ x ∈ r, x ∈ l) : shps n r = true := shps_all.mpr fun x hx => shps_all.mp h x (hs x hx)
theorem gTab_length (ps : List (T × Rat)) : (gTab ps).length ≤ ps.length := by
  have : ∀ (ps acc : List (T × Rat)), (ps.foldl gStep acc).length ≤ acc.length + ps.length := by
    intro ps
    induction ps with
    | nil => intro acc; simp
    | cons p r ih =>
      intro acc
      have h1 := ih (gStep acc p)
      have h2 : (gStep acc p).length ≤ acc.length + 1 := pA_length _ _ _
      simp only [List.foldl_cons, List.length_cons]; omega
  have := this ps []
  simpa [gTab] using this
section
variable {P : Program} {w : World} {K : PySem.W.Frag} {mg : Str → Option Value} {base : Heap}
theorem ok_gathered (D : Def K mg "gathered" sGat ["pairs"]) (ms : mg "sorted" = none) (mt : mg "tuple" = none) (cz : Cst K mg "ZERO_forms" (fr 0)) (GP : FnAt P w K mg base 2 "plus" ["x", "y"] (spF K FPlus)) : FnAt P w K mg base 3 "gathered" ["pairs"] (spF K FGat) := by
  refine D.d scGat (by decide) (fun as d h => ?_) fun f cdv A outer s H E hr as d δ1 hF g => ?_
  · obtain ⟨xs, _, rfl, _⟩ := h; rfl
  · obtain ⟨ps, ⟨n, Dn, M, hsh, hn, hlen, hD, hD2, hM, hb⟩, rfl, rfl⟩ := hF
    obtain ⟨p, rfl⟩ := givenL g
    have hM1 : M < 2 ^ 200 := by omega
    have hu := hr.units
    refine ss_cons (s_dnew 1 scGat.nd) ?_
    rintro δ' ⟨q, rfl⟩
    refine ss_cons (s_for (xs := ps.map prT) (fun i δ' => ∃ a b, δ' = [.bas p (ps.map prT), .dct q (tabT fr (gTab (ps.take i))), a, b]) (it_bas 0) ⟨.no, .no, rfl⟩ ?_) ?_
    · rintro i x δ1 hx ⟨a, b, rfl⟩
      rw [List.getElem?_map] at hx
      cases hq : ps[i]? with
      | none => rw [hq] at hx; cases hx
      | some kx =>
        rw [hq] at hx; cases hx
        obtain ⟨k, z⟩ := kx
        have hm : (k, z) ∈ ps := List.mem_of_getElem? hq
        have hi : i < ps.length := (List.getElem?_eq_some_iff.mp hq).1
        have hk := shps_all.mp hsh k (List.mem_map.mpr ⟨_, hm, rfl⟩)
        have hkd : k.depth ≤ 8 := by have := shp_depth _ k hk; omega
        have hbz := hb _ hm
        have hi2 : i * M < 2 ^ 200 := Nat.lt_of_le_of_lt (Nat.mul_le_mul_right M (by omega : i ≤ 5000)) hM
        have hold : Sm ((gA (gTab (ps.take i)) k).getD 0) := by
          cases q : gA (gTab (ps.take i)) k with
          | none => exact Lv.mono Lv.zero (by decide)
          | some v => exact (gTab_bd hb i (Nat.le_of_lt hi) _ (gA_mem q)).lv hD hD2 hi2
        refine ⟨_, [2, 3], g_two (i := 2) (j := 3) scGat.nd, ss_one ((s_dput 1 hu rfl (r_call GP hr (da_cons (r_dgetOr 1 hu rfl (r_var 2) (r_cst cz) hkd (shp_tup hk)) (da_1 (r_var 3))) ⟨_, z, hold, hbz.lv hD hD2 hM1, ?_, rfl⟩).de (r_var 2) hkd (shp_tup hk) ?_).imp ?_)⟩
        · show (tabT fr (gTab (ps.take i))).length < 100000
          unfold tabT
          rw [List.length_map]
          have := gTab_length (ps.take i)
          rw [List.length_take] at this; omega
        · rintro δ' ⟨d, rfl, rfl⟩
          refine ⟨.d k, .d (fr z), ?_⟩
          rw [tab_put, List.take_succ, hq, Option.toList_some, gTab_snoc]
          rfl
        · rw [tab_get]
          cases gA (gTab (ps.take i)) k <;> rfl
    · rintro δ' ⟨a, b, rfl⟩
      rw [List.length_map, List.take_length]
      have hks : shps (n + 1) ((tabT fr (gTab ps)).map (·.1)) = true := by rw [tab_keys]; exact shps_sub hsh (gTab_keys ps)
      have hmem : ∀ x, x ∈ srtT ((tabT fr (gTab ps)).map (·.1)) → x ∈ (gTab ps).map (·.1) := fun x hx => by rw [tab_keys] at hx; exact (srtT_perm _).mem_iff.mp hx
      have hget : ∀ x, x ∈ srtT ((tabT fr (gTab ps)).map (·.1)) → gT (tabT fr (gTab ps)) x = some (fr (gVal ps x)) ∧ x.depth ≤ 8 ∧ ∃ l, x = .t l := fun x hx => by
        obtain ⟨v, hv⟩ := gA_some (hmem x hx)
        have hk := shps_all.mp hsh x (gTab_keys ps x (hmem x hx))
        have hd := shp_depth _ x hk
        refine ⟨?_, by omega, shp_tup hk⟩
        rw [tab_get, hv]
        unfold gVal
        rw [hv]; rfl
      refine ss_one (s_ret (r_tupL mt (n_lc (own := [("powers", 2)]) (fun k => !decide (gVal ps k = 0)) (fun k => .t [k, fr (gVal ps k)]) (fun k => [.bas p (ps.map prT), .dct q (tabT fr (gTab ps)), .d k, b]) scGat.nd (blkOk_by (by rfl)) (it_lst (n_sortedK 1 rfl hu ms rfl hks (by omega)).dl) ?_ ?_ ?_ ?_).dl) fun v H' e r => ⟨e, ?_⟩)
      · rw [(srtT_perm _).length_eq, tab_keys, List.length_map]
        have := gTab_length ps; omega
      · intro s H C cl fp x hx
        exact g_name 2 scGat.nd
      · intro s H C cl fp x hx
        obtain ⟨h1, h2, h3⟩ := hget x hx
        rw [← fr_dec]
        exact ts_one (t_neD hu (r_dget 1 hu rfl (r_var 2) h1 h2 h3) (r_cst cz) (by rw [fr_depth]; decide) (by rw [fr_depth]; decide))
      · intro s H C cl fp x hx hf
        obtain ⟨h1, h2, h3⟩ := hget x hx
        exact r_tup (dd_cons (r_var 2) (dd_cons (r_dget 1 hu rfl (r_var 2) h1 h2 h3) dd_nil))
      · unfold formT gatF
        rw [List.map_map]
        rw [tab_keys] at r
        exact r
end
end Kd
-- K68W3
set_option maxRecDepth 100000
set_option maxHeartbeats 4000000
/-! Walks: tuple_of, scaled_form, moved_powers, orders_of, evened. -/
namespace Kd
open PySem PySem.Spec PyProof.Rows L2
namespace T
mutual
/-- no tuple is long -/
def wd : T → Bool
  | .i _ => true
  | .t l => decide (l.length ≤ 50000) && wds l
def wds : List T → Bool
  | [] => true
  | x :: r => wd x && wds r
end
theorem wds_all : ∀ {l : List T}, wds l = true ↔ ∀ x ∈ l, wd x = true
  | [] => by simp [wds]
  | x :: r => by rw [wds, Bool.and_eq_true, wds_all (l := r)]; simp
theorem depths_le {n : Nat} : ∀ {l : List T}, depths l ≤ n ↔ ∀ x ∈ l, x.depth ≤ n
  | [] => by simp [depths]
  | x :: r => by
    rw [depths, Nat.max_le, depths_le (l := r)]; simp
end T
def tl : T → List T
  | .t l => l
  | _ => []
def natsT (l : List Nat) : T := .t (l.map fun (n : Nat) => T.i n)
def FTup (n : Nat) (as : List Ad) (d : T) : Prop := d.depth ≤ n ∧ d.wd = true ∧ as = [.d d]
abbrev sTup : Stmt := topS 7
theorem scTup : FnScope ["thing", "part"] ["thing"] (defScope sTup) := ⟨rfl, rfl, rfl, by decide +kernel, rfl, by decide +kernel, by decide +kernel⟩
section
variable {P : Program} {w : World} {K : PySem.W.Frag} {mg : Str → Option Value} {base : Heap}
theorem ok_tuple_of (D : Def K mg "tuple_of" sTup ["thing"]) (mi : mg "isinstance" = none) (ml : mg "list" = none) (mt : mg "tuple" = none) : ∀ n, FnAt P w K mg base (n + 1) "tuple_of" ["thing"] (spF K (FTup n)) := by
  have leaf : ∀ {k : Nat} {f : Addr} {cdv : Value} {A : Around} {outer : List Env} {s : Shared} {H : Hp} {E : XK} {z : Int} {a : Sd}, DSs H (bdX P w K mg base ["thing", "part"] "tuple_of" sTup f cdv A outer s H E) (defBody sTup) [.d (.i z), a] (fun _ => False) (fun v H' => Same H H' ∧ Rep K H' v (.i z)) := by
    intro k f cdv A outer s H E z a
    refine ss_cons (M := fun δ' => δ' = [.d (.i z), a]) (s_if (t_val (r_isLT mi (r_var 0) (fun _ => by simp) ml mt)) (fun h => by cases h) fun _ => ss_nil rfl) ?_
    rintro δ' rfl
    exact ss_one (s_ret (r_var 0) fun v H' e r => ⟨e, r⟩)
  intro n
  induction n with
  | zero =>
    refine D.d scTup (by decide) (fun as d h => ?_) fun f cdv A outer s H E hr as d δ1 hF g => ?_
    · obtain ⟨_, _, rfl⟩ := h; rfl
    · obtain ⟨h1, h2, rfl⟩ := hF
      rw [given1 g]
      cases d with
      | i z => exact leaf (k := 0)
      | t l => simp [T.depth] at h1
  | succ n ih =>
    refine D.d scTup (by decide) (fun as d h => ?_) fun f cdv A outer s H E hr as d δ1 hF g => ?_
    · obtain ⟨_, _, rfl⟩ := h; rfl
    · obtain ⟨h1, h2, rfl⟩ := hF
      rw [given1 g]
      cases d with
      | i z => exact leaf (k := 0)
      | t l =>
        have hd : ∀ x ∈ l, x.depth ≤ n := T.depths_le.mp (by simp only [T.depth] at h1; omega)
        rw [T.wd, Bool.and_eq_true] at h2
        have hw := T.wds_all.mp h2.2
        refine ss_cons (M := fun _ => False) (s_if (t_val (r_isLT mi (r_var 0) (fun _ => by simp) ml mt)) (fun _ => ?_) fun h => by cases h) fun _ z => z.elim
        refine ss_one (s_ret (u := .t ((l.filter fun _ => true).map fun x => x)) (r_tupL mt (DN.dl ?_)) fun v H' e r => ⟨e, ?_⟩)
        · exact n_lc (own := [("part", 1)]) (fun _ => true) (fun x => x) (fun x => [.d (.t l), .d x]) scTup.nd (blkOk_by (by rfl)) (it_tup (r_var 0)).s (of_decide_eq_true h2.1) (fun s H C cl fp x hx => g_name 1 scTup.nd) (fun s H C cl fp x hx => ts_nil) (fun s H C cl fp x hx _ => r_call ih hr (da_1 (r_var 1)) ⟨hd x hx, hw x hx, rfl⟩)
        · rw [List.filter_eq_self.mpr (fun _ _ => rfl), List.map_id'] at r
          exact r
end
/-! ### scaled_form -/
def scP (z : Rat) (ps : List (T × Rat)) : List (T × Rat) := ps.map fun p => (p.1, p.2 * z)
structure FormOk (ps : List (T × Rat)) : Prop where
  sh : ∃ n, shps (n + 1) (ps.map (·.1)) = true ∧ n ≤ 7
  wd : ∀ p ∈ ps, p.1.wd = true
  len : ps.length ≤ 5000
theorem fr_wd (q : Rat) : (fr q).wd = true := by simp [fr, T.wd, T.wds]
theorem prT_wd {p : T × Rat} (h : p.1.wd = true) : (prT p).wd = true := by
  simp [prT, T.wd, T.wds, h, fr_wd]
theorem formT_ok {ps : List (T × Rat)} (h : FormOk ps) : (formT ps).depth ≤ 10 ∧ (formT ps).wd = true := by
  obtain ⟨n, h1, h2⟩ := h.sh
  constructor
  · have : T.depths (ps.map prT) ≤ 9 := T.depths_le.mpr fun x hx => by
      obtain ⟨p, hp, rfl⟩ := List.mem_map.mp hx
      have := shp_depth _ p.1 (shps_all.mp h1 p.1 (List.mem_map.mpr ⟨p, hp, rfl⟩))
      have e := fr_depth p.2
      simp only [prT, T.depth, T.depths, e]; omega
    simp only [formT, T.depth]; omega
  · simp only [formT, T.wd, Bool.and_eq_true]
    refine ⟨decide_eq_true (by rw [List.length_map]; have := h.len; omega), T.wds_all.mpr fun x hx => ?_⟩
    obtain ⟨p, hp, rfl⟩ := List.mem_map.mp hx
    exact prT_wd (h.wd p hp)
def FScaled (as : List Ad) (d : T) : Prop := ∃ ps z, FormOk ps ∧ (∀ p ∈ ps, Sm p.2) ∧ Sm z ∧ GOk (scP z ps) ∧ as = [.d (formT ps), .d (fr z)] ∧ d = formT (gatF (scP z ps))
abbrev sScaled : Stmt := topS 17
theorem scScaled : FnScope ["form", "x", "powers", "y"] ["form", "x"] (defScope sScaled) := ⟨rfl, rfl, rfl, by decide +kernel, rfl, by decide +kernel, by decide +kernel⟩
theorem wd_set4 {a b c d : Sd} : wipeD [a, b, c, d] [2, 3] = [a, b, .no, .no] := rfl
section
variable {P : Program} {w : World} {K : PySem.W.Frag} {mg : Str → Option Value} {base : Heap}
theorem ok_scaled (D : Def K mg "scaled_form" sScaled ["form", "x"]) (GT : FnAt P w K mg base 13 "tuple_of" ["thing"] (spF K (FTup 12))) (GM : FnAt P w K mg base 13 "times" ["x", "y"] (spF K FTimes)) (GG : FnAt P w K mg base 13 "gathered" ["pairs"] (spF K FGat)) :
    FnAt P w K mg base 14 "scaled_form" ["form", "x"] (spF K FScaled) := by
  refine D.d scScaled (by decide) (fun as d h => ?_) fun f cdv A outer s H E hr as d δ1 hF g => ?_
  · obtain ⟨_, _, _, _, _, _, rfl, _⟩ := h; rfl
  · obtain ⟨ps, z, hf, hs, hz, hg, rfl, rfl⟩ := hF
    rw [given2 g]
    obtain ⟨f1, f2⟩ := formT_ok hf
    refine ss_set (s_set 1 scScaled.nd (r_call GT hr (da_1 (r_var 1)) ⟨by rw [fr_depth]; decide, fr_wd z, rfl⟩)) ?_
    refine ss_one (s_ret (r_call GG hr (da_1 (n_lc (own := [("powers", 2), ("y", 3)]) (fun _ => true) (fun x => match x with | .t [k, .t [.i a, .i b]] => .t [k, fr (mkRat a b.toNat * z)] | x => x) (fun x => match x with | .t [k, q] => [.d (formT ps), .d (fr z), .d k, .d q] | _ => []) scScaled.nd (blkOk_by (by rfl)) (it_tup (r_call GT hr (da_1 (r_var 0)) ⟨Nat.le_trans f1 (by decide), f2, rfl⟩)).s ?_ ?_ ?_ ?_).dl) ⟨_, hg, ?_, rfl⟩) fun v H' e r => ⟨e, r⟩)
    · rw [List.length_map]; have := hf.len; omega
    · intro s H C cl fp x hx
      obtain ⟨p, hp, rfl⟩ := List.mem_map.mp hx
      exact g_two (i := 2) (j := 3) scScaled.nd
    · intro s H C cl fp x hx; exact ts_nil
    · intro s H C cl fp x hx _
      obtain ⟨p, hp, rfl⟩ := List.mem_map.mp hx
      have e : mkRat p.2.num (p.2.den : Int).toNat = p.2 := by rw [Int.toNat_natCast]; exact Rat.mkRat_self p.2
      show DX _ _ _ _ (.t [p.1, fr (mkRat p.2.num (p.2.den : Int).toNat * z)])
      rw [e]
      exact r_tup (dd_cons (r_var 2) (dd_cons (r_call GM hr (da_cons (r_var 3) (da_1 (r_var 1))) ⟨p.2, z, hs p hp, hz, rfl, rfl⟩) dd_nil))
    · rw [List.filter_eq_self.mpr (fun _ _ => rfl), List.map_map]
      unfold scP
      rw [List.map_map]
      congr 2
      refine List.map_congr_left fun p hp => ?_
      show T.t [p.1, fr (mkRat p.2.num (p.2.den : Int).toNat * z)] = T.t [p.1, fr (p.2 * z)]
      rw [Int.toNat_natCast, Rat.mkRat_self]
end
/-! ### moved_powers -/
def movedL (ks : List T) (o : List Nat) : List T := (ks.zip o).foldl (fun f p => f.set p.2 p.1) (List.replicate o.length (.t []))
def FMoved (as : List Ad) (d : T) : Prop := ∃ (ks : List T) (o : List Nat), o.length ≤ 1000 ∧ (∀ p ∈ o, p < o.length) ∧ as = [.d (.t ks), .d (natsT o)] ∧ d = .t (movedL ks o)
abbrev sMoved : Stmt := topS 18
theorem scMoved : FnScope ["powers", "order", "found", "own", "place"] ["powers", "order"] (defScope sMoved) := ⟨rfl, rfl, rfl, by decide +kernel, rfl, by decide +kernel, by decide +kernel⟩
theorem fold_set_length (ps : List (T × Nat)) : ∀ f : List T, (ps.foldl (fun f p => f.set p.2 p.1) f).length = f.length := by
  induction ps with
  | nil => intro f; rfl
  | cons p r ih => intro f; rw [List.foldl_cons, ih, List.length_set]
theorem zipT_get {ks : List T} {o : List Nat} {i : Nat} {x : T} (h : (zipT ks (o.map fun (n : Nat) => T.i n))[i]? = some x) : ∃ k p, (ks.zip o)[i]? = some (k, p) ∧ x = .t [k, .i (p : Nat)] := by
  unfold zipT at h
  rw [List.getElem?_map] at h
  have e : ks.zip (o.map fun (n : Nat) => T.i n) = (ks.zip o).map fun p => (p.1, T.i (p.2 : Nat)) := by rw [List.zip_map_right]; rfl
  rw [e, List.getElem?_map] at h
  cases q : (ks.zip o)[i]? with
  | none => rw [q] at h; cases h
  | some p => rw [q] at h; exact ⟨p.1, p.2, rfl, (Option.some.inj h).symm⟩
theorem zipT_len (ks : List T) (o : List Nat) : (zipT ks (o.map fun (n : Nat) => T.i n)).length = (ks.zip o).length := by
  unfold zipT; simp
section
variable {P : Program} {w : World} {K : PySem.W.Frag} {mg : Str → Option Value} {base : Heap}
theorem ok_moved (D : Def K mg "moved_powers" sMoved ["powers", "order"]) (ml : mg "len" = none) (mz : mg "zip" = none) (mt : mg "tuple" = none) : FnAt P w K mg base 1 "moved_powers" ["powers", "order"] (spF K FMoved) := by
  refine D.d scMoved (by decide) (fun as d h => ?_) fun f cdv A outer s H E hr as d δ1 hF g => ?_
  · obtain ⟨_, _, _, _, rfl, _⟩ := h; rfl
  · obtain ⟨ks, o, ho, hp, rfl, rfl⟩ := hF
    rw [given2 g]
    have e0 : (o.map fun (n : Nat) => T.i n).length = o.length := List.length_map _
    refine ss_cons (s_setN 2 scMoved.nd (n_rep1 (k := o.length) (n_lst (dd_cons (r_tup dd_nil) dd_nil)) (by rw [← e0]; exact r_lenT ml (r_var 1)) ho)) ?_
    rintro δ' ⟨q, rfl⟩
    refine ss_cons (s_for (xs := zipT ks (o.map fun (n : Nat) => T.i n)) (fun i δ' => ∃ a b, δ' = [.d (.t ks), .d (natsT o), .own q (((ks.zip o).take i).foldl (fun f p => f.set p.2 p.1) (List.replicate o.length (.t []))), a, b]) (it_zipT mz (r_var 0) (r_var 1)) ⟨.no, .no, rfl⟩ ?_) ?_
    · rintro i x δ1 hx ⟨a, b, rfl⟩
      obtain ⟨k, p, hkp, rfl⟩ := zipT_get hx
      have hpm : p < o.length := hp p (List.of_mem_zip (List.mem_of_getElem? hkp)).2
      refine ⟨_, [3, 4], g_two (i := 3) (j := 4) scMoved.nd, ss_one ((s_put 2 rfl (r_var 3) (r_var 4) ?_).imp ?_)⟩
      · rw [fold_set_length, List.length_replicate]; exact hpm
      · rintro δ' rfl
        refine ⟨.d k, .d (.i p), ?_⟩
        rw [List.take_succ, hkp, Option.toList_some, List.foldl_append]
        rfl
    · rintro δ' ⟨a, b, rfl⟩
      rw [zipT_len, List.take_length]
      exact ss_one (s_ret (r_tupL mt (r_var 2)) fun v H' e r => ⟨e, r⟩)
end
end Kd
-- K68W4
set_option maxRecDepth 100000
set_option maxHeartbeats 4000000
/-! Walks: orders_of, evened. -/
namespace Kd
open PySem PySem.Spec PyProof.Rows L2
theorem cut_to {xs : List T} {p : Nat} (h : p ≤ xs.length) : cutT xs none (some (p : Int)) = xs.take p := by
  unfold cutT
  rw [HT.sIx_nat, HT.sIx_none, Nat.min_eq_left h]; simp
theorem cut_from {xs : List T} {p : Nat} (h : p ≤ xs.length) : cutT xs (some (p : Int)) none = xs.drop p := by
  unfold cutT
  rw [HT.sIx_nat, HT.sIx_none, Nat.min_eq_left h]
  rw [List.take_of_length_le (by simp)]
/-! ### orders_of -/
def insL (s : Nat) (own : List Nat) : List (List Nat) := (List.range (own.length + 1)).map fun p => own.take p ++ [s] ++ own.drop p
def ordL : Nat → List (List Nat)
  | 0 => [[]]
  | s + 1 => (ordL s).flatMap (insL s)
noncomputable def ordT (n : Nat) : List T := srtT ((ordL n).map natsT)
def FOrd (as : List Ad) (ds : List T) : Prop := ∃ n : Nat, n ≤ 4 ∧ as = [.d (.i n)] ∧ ds = ordT n
abbrev sOrd : Stmt := topS 19
theorem scOrd : FnScope ["n", "found", "sample", "more", "own", "place"] ["n"] (defScope sOrd) := ⟨rfl, rfl, rfl, by decide +kernel, rfl, by decide +kernel, by decide +kernel⟩
theorem ordL_len : ∀ n, n ≤ 4 → (ordL n).length ≤ 24 := by decide
theorem ordL_ok : ∀ n, n ≤ 4 → ∀ o ∈ ordL n, o.length = n ∧ ∀ p ∈ o, p < n := by decide
theorem flat_take_le {α β : Type} (l : List α) (f : α → List β) (i : Nat) : ((l.take i).flatMap f).length ≤ (l.flatMap f).length := by
  conv => rhs; rw [← List.take_append_drop i l, List.flatMap_append, List.length_append]
  omega
theorem shp_nats (l : List Nat) : shp 1 (natsT l) = true := by
  unfold natsT
  rw [shp]
  exact shps_all.mpr fun x hx => by
    obtain ⟨n, _, rfl⟩ := List.mem_map.mp hx
    rfl
def insT (s : Nat) (own : List Nat) (x : T) : T := match x with
  | .i p => natsT (own.take p.toNat ++ [s] ++ own.drop p.toNat)
  | x => x
section
variable {P : Program} {w : World} {K : PySem.W.Frag} {mg : Str → Option Value} {base : Heap}
theorem ok_orders (D : Def K mg "orders_of" sOrd ["n"]) (ml : mg "len" = none) (mr : mg "range" = none) (ms : mg "sorted" = none) : FnAt P w K mg base 1 "orders_of" ["n"] (spN K FOrd) := by
  refine D.n scOrd (by decide) (fun as d h => ?_) fun f cdv A outer s H E hr as d δ1 hF g => ?_
  · obtain ⟨_, _, rfl, _⟩ := h; rfl
  · obtain ⟨n, hn, rfl, rfl⟩ := hF
    rw [given1 g]
    have hu := hr.units
    refine ss_cons (s_setN 1 scOrd.nd (n_lst (dd_cons (r_tup dd_nil) dd_nil))) ?_
    rintro δ' ⟨q, rfl⟩
    refine ss_cons (s_for (xs := (List.range n).map fun (i : Nat) => T.i i) (fun i δ' => ∃ a b c q, δ' = [.d (.i n), .own q ((ordL i).map natsT), a, b, c, .no]) (it_range1 mr (r_var 0) (by omega)) ⟨.no, .no, .no, q, rfl⟩ ?_) ?_
    · rintro i x δ1 hx ⟨a, b, c, q, rfl⟩
      have hi : i < n := by
        have := (List.getElem?_eq_some_iff.mp hx).1
        simpa using this
      have hxi : x = .i i := by
        rw [List.getElem?_map, List.getElem?_range hi] at hx
        exact (Option.some.inj hx).symm
      subst hxi
      have hl := ordL_len i (by omega)
      have hl' := ordL_len (i + 1) (by omega)
      refine ⟨_, [2], g_name 2 scOrd.nd, ?_⟩
      refine ss_cons (s_setN 3 scOrd.nd (n_lst dd_nil)) ?_
      rintro δ' ⟨q2, rfl⟩
      refine ss_cons (s_forO (xs := (ordL i).map natsT) 1 (q := q) (fun j δ' => ∃ c, δ' = [.d (.i n), .own q ((ordL i).map natsT), .d (.i i), .own q2 ((((ordL i).take j).flatMap (insL i)).map natsT), c, .no]) (by rintro j δ' ⟨c, rfl⟩; rfl) ⟨c, rfl⟩ ?_) ?_
      · rintro j x δ1 hx ⟨c, rfl⟩
        rw [List.getElem?_map] at hx
        cases ho : (ordL i)[j]? with
        | none => rw [ho] at hx; cases hx
        | some o =>
          rw [ho] at hx; cases hx
          have hom : o ∈ ordL i := List.mem_of_getElem? ho
          obtain ⟨ol, _⟩ := ordL_ok i (by omega) o hom
          have ht := flat_take_le (ordL i) (insL i) j
          have e1 : ((ordL i).flatMap (insL i)).length ≤ 24 := hl'
          have hol : (o.map fun (n : Nat) => T.i n).length = o.length := List.length_map _
          refine ⟨_, [4], g_name 4 scOrd.nd, ss_one ((s_extend 3 rfl (ys := (((List.range (o.length + 1)).map fun (i : Nat) => T.i i).filter fun _ => true).map (insT i o)) (n_lc (own := [("place", 5)]) (fun _ => true) (insT i o) (fun x => [.d (.i n), .own q ((ordL i).map natsT), .d (.i i), .own q2 ((((ordL i).take j).flatMap (insL i)).map natsT), .d (natsT o), .d x]) scOrd.nd (blkOk_by (by rfl)) (it_range1 (n := o.length + 1) mr (r_add (m := (o.length : Int)) (n := 1) (DR.is (r_lenT ml (r_var 4)) (by rw [hol])) r_int) (by omega)).s (by simp; omega) (fun s H C cl fp x hx => g_name 5 scOrd.nd) (fun s H C cl fp x hx => ts_nil) ?_) ?_).imp ?_)⟩
          · intro s H C cl fp x hx _
            obtain ⟨p, hp, rfl⟩ := List.mem_map.mp hx
            have hp : p ≤ o.length := by have := List.mem_range.mp hp; omega
            have c1 := cut_to (xs := o.map fun (n : Nat) => T.i n) (p := p) (by rw [hol]; exact hp)
            have c2 := cut_from (xs := o.map fun (n : Nat) => T.i n) (p := p) (by rw [hol]; exact hp)
            have e : insT i o (.i p) = .t (cutT (o.map fun (n : Nat) => T.i n) none (some (p : Int)) ++ [.i i] ++ cutT (o.map fun (n : Nat) => T.i n) (some (p : Int)) none) := by
              rw [c1, c2]
              simp [insT, natsT, List.map_take, List.map_drop]
            rw [e]
            refine r_cat (r_cat (r_cut (r_var 4) o_none (o_some (r_var 5))) (r_tup (dd_cons (r_var 2) dd_nil)) ?_) (r_cut (r_var 4) (o_some (r_var 5)) o_none) ?_
            · rw [c1, List.length_take]; simp; omega
            · rw [c1, c2, List.length_append, List.length_take, List.length_drop]; simp; omega
          · simp only [List.length_map, List.filter_eq_self.mpr (fun _ _ => rfl), List.length_range]
            omega
          · rintro δ' rfl
            refine ⟨.d (natsT o), ?_⟩
            rw [List.take_add_one, ho, Option.toList_some, List.flatMap_append, List.flatMap_cons, List.flatMap_nil, List.append_nil, List.map_append, List.filter_eq_self.mpr (fun _ _ => rfl)]
            show [Sd.d (.i n), .own q ((ordL i).map natsT), .d (.i i), .own q2 (_ ++ _), .d (natsT o), .no] = _
            congr 5
            unfold insL
            rw [List.map_map, List.map_map]
            rfl
      · rintro δ' ⟨c, rfl⟩
        rw [List.length_map, List.take_length]
        refine ss_one ((s_move 1 3 scOrd.nd).imp ?_)
        rintro δ' rfl
        exact ⟨.d (.i i), .no, c, q2, rfl⟩
    · rintro δ' ⟨a, b, c, q, rfl⟩
      rw [List.length_map, List.length_range]
      exact ss_one (s_retN (n_sortedL (n := 0) (xs := (ordL n).map natsT) hu ms (r_var 1) (shps_all.mpr fun x hx => by
        obtain ⟨o, _, rfl⟩ := List.mem_map.mp hx
        exact shp_nats o) (by decide)) fun p ws H' hn e h r => ⟨p, ws, rfl, hn, e, h, r⟩)
end
end Kd
-- K68W5
set_option maxRecDepth 100000
set_option maxHeartbeats 4000000
/-! Walks: evened. -/
namespace Kd
open PySem PySem.Spec PyProof.Rows L2
/-! ### gathered's sizes -/
theorem gVal_mem {ps : List (T × Rat)} {k : T} (h : k ∈ (gTab ps).map (·.1)) : (k, gVal ps k) ∈ gTab ps := by
  obtain ⟨v, hv⟩ := gA_some h
  have e : gVal ps k = v := by unfold gVal; rw [hv]; rfl
  rw [e]; exact gA_mem hv
theorem gatF_mem {ps : List (T × Rat)} {p : T × Rat} (h : p ∈ gatF ps) : p ∈ gTab ps ∧ p.2 ≠ 0 := by
  unfold gatF at h
  obtain ⟨k, h1, rfl⟩ := List.mem_map.mp h
  obtain ⟨h1, h2⟩ := List.mem_filter.mp h1
  exact ⟨gVal_mem ((srtT_perm _).mem_iff.mp h1), by simpa using h2⟩
theorem gatF_key {ps : List (T × Rat)} {p : T × Rat} (h : p ∈ gatF ps) : p.1 ∈ ps.map (·.1) := gTab_keys ps _ (List.mem_map.mpr ⟨p, (gatF_mem h).1, rfl⟩)
theorem gatF_len (ps : List (T × Rat)) : (gatF ps).length ≤ ps.length := by
  unfold gatF
  rw [List.length_map]
  refine Nat.le_trans (List.length_filter_le _ _) ?_
  rw [(srtT_perm _).length_eq, List.length_map]
  exact gTab_length ps
theorem gatF_bd {D M : Nat} {ps : List (T × Rat)} (h : ∀ p ∈ ps, Bd D M p.2) : ∀ p ∈ gatF ps, Bd D (ps.length * M) p.2 := fun p hp => by
  have := gTab_bd h ps.length (Nat.le_refl _) p (by rw [List.take_length]; exact (gatF_mem hp).1)
  exact this
/-! ### evened -/
def natL (x : T) : List Nat := (tl x).map fun | .i n => n.toNat | _ => 0
theorem natL_nats (o : List Nat) : natL (natsT o) = o := by
  unfold natL natsT tl
  rw [List.map_map]
  have : ((fun x => match x with | .i n => n.toNat | _ => 0) ∘ fun (n : Nat) => T.i n) = id := by funext n; simp
  rw [this, List.map_id]
def mvT (o k : T) : T := .t (movedL (tl k) (natL o))
noncomputable def evP (n : Nat) (ps : List (T × Rat)) : List (T × Rat) := (ordT n).flatMap fun o => ps.map fun p => (mvT o p.1, p.2)
noncomputable def evF (n : Nat) (ps : List (T × Rat)) : List (T × Rat) := if ps = [] then [] else gatF (scP (mkRat 1 (ordL n).length) (gatF (evP n ps)))
/-- forms with keys of n rows of numbers -/
structure KeyOk (n : Nat) (k : T) : Prop where
  ex : ∃ ks, k = .t ks ∧ ks.length = n ∧ shps 1 ks = true ∧ ∀ x ∈ ks, x.wd = true
structure EvOk (n D M N : Nat) (ps : List (T × Rat)) : Prop where
  key : ∀ p ∈ ps, KeyOk n p.1
  bd : ∀ p ∈ ps, Bd D M p.2
  len : ps.length ≤ N
theorem KeyOk.sh {n : Nat} {k : T} (h : KeyOk n k) : shp 2 k = true := by
  obtain ⟨ks, rfl, _, h, _⟩ := h.ex
  rw [shp]; exact h
theorem KeyOk.wd {n : Nat} {k : T} (h : KeyOk n k) (hn : n ≤ 50000) : k.wd = true := by
  obtain ⟨ks, rfl, h1, _, h2⟩ := h.ex
  rw [T.wd, Bool.and_eq_true]
  exact ⟨decide_eq_true (by omega), T.wds_all.mpr h2⟩
theorem EvOk.sh {n D M N : Nat} {ps : List (T × Rat)} (h : EvOk n D M N ps) : shps 2 (ps.map (·.1)) = true := shps_all.mpr fun x hx => by
  obtain ⟨p, hp, rfl⟩ := List.mem_map.mp hx
  exact (h.key p hp).sh
theorem EvOk.form {n D M N : Nat} {ps : List (T × Rat)} (h : EvOk n D M N ps) (hn : n ≤ 50000) (hN : N ≤ 5000) : FormOk ps := ⟨⟨1, h.sh, by decide⟩, fun p hp => (h.key p hp).wd hn, Nat.le_trans h.len hN⟩
theorem EvOk.gat {n D M N : Nat} {ps : List (T × Rat)} (h : EvOk n D M N ps) (hN : N ≤ 5000) (hD : 0 < D) (hD2 : D < 2 ^ 200) (hM : M < 2 ^ 180) : GOk ps :=
  ⟨1, D, M, h.sh, by decide, Nat.le_trans h.len hN, hD, hD2, Nat.lt_of_lt_of_le (Nat.mul_lt_mul_of_pos_left hM (by decide : 0 < 5000)) (by decide), h.bd⟩
theorem EvOk.gatF {n D M N : Nat} {ps : List (T × Rat)} (h : EvOk n D M N ps) : EvOk n D (N * M) N (gatF ps) :=
  ⟨fun p hp => by
    obtain ⟨q, hq, e⟩ := List.mem_map.mp (gatF_key hp)
    have e : q.1 = p.1 := e
    rw [← e]; exact h.key q hq, fun p hp => (gatF_bd h.bd p hp).mono (Nat.mul_le_mul_right _ h.len), Nat.le_trans (gatF_len ps) h.len⟩
theorem EvOk.sc {n D M N E L : Nat} {ps : List (T × Rat)} {z : Rat} (h : EvOk n D M N ps) (hz : Bd E L z) : EvOk n (D * E) (M * L) N (scP z ps) :=
  ⟨fun p hp => by obtain ⟨q, hq, rfl⟩ := List.mem_map.mp hp; exact h.key q hq, fun p hp => by obtain ⟨q, hq, rfl⟩ := List.mem_map.mp hp; exact (h.bd q hq).mul hz, by unfold scP; rw [List.length_map]; exact h.len⟩
theorem mem_foldset {x : T} : ∀ (l : List (T × Nat)) (f : List T), x ∈ l.foldl (fun f p => f.set p.2 p.1) f → x ∈ f ∨ ∃ p ∈ l, x = p.1
  | [], f, h => .inl h
  | p :: r, f, h => by
    rw [List.foldl_cons] at h
    rcases mem_foldset r _ h with h | ⟨q, h1, h2⟩
    · rcases List.mem_or_eq_of_mem_set h with h | h
      · exact .inl h
      · exact .inr ⟨p, List.mem_cons_self .., h⟩
    · exact .inr ⟨q, List.mem_cons_of_mem _ h1, h2⟩
theorem movedL_ok {n : Nat} {ks : List T} {o : List Nat} (h1 : o.length = n) (h2 : shps 1 ks = true) (h3 : ∀ x ∈ ks, x.wd = true) : KeyOk n (.t (movedL ks o)) := by
  have hm : ∀ x ∈ movedL ks o, x ∈ ks ∨ x = .t [] := fun x hx => by
    unfold movedL at hx
    rcases mem_foldset _ _ hx with h | ⟨p, h, e⟩
    · exact .inr (List.eq_of_mem_replicate h)
    · exact .inl (by rw [e]; exact (List.of_mem_zip h).1)
  refine ⟨_, rfl, ?_, shps_all.mpr fun x hx => ?_, fun x hx => ?_⟩
  · unfold movedL; rw [fold_set_length, List.length_replicate, h1]
  · rcases hm x hx with h | rfl
    · exact shps_all.mp h2 x h
    · rfl
  · rcases hm x hx with h | rfl
    · exact h3 x h
    · rfl
theorem ordT_mem {n : Nat} (hn : n ≤ 4) {o : T} (h : o ∈ ordT n) : ∃ l, o = natsT l ∧ l.length = n ∧ ∀ p ∈ l, p < n := by
  have := (srtT_perm _).mem_iff.mp h
  obtain ⟨l, h1, rfl⟩ := List.mem_map.mp this
  exact ⟨l, rfl, ordL_ok n hn l h1⟩
theorem ordT_len (n : Nat) : (ordT n).length = (ordL n).length := by unfold ordT; rw [(srtT_perm _).length_eq, List.length_map]
theorem flat_len_le {α β : Type} {l : List α} {f : α → List β} {m : Nat} (h : ∀ x ∈ l, (f x).length ≤ m) : (l.flatMap f).length ≤ l.length * m := by
  induction l with
  | nil => simp
  | cons x r ih =>
    rw [List.flatMap_cons, List.length_append, List.length_cons, Nat.succ_mul]
    have h1 := h x (List.mem_cons_self ..)
    have h2 := ih fun y hy => h y (List.mem_cons_of_mem _ hy)
    omega
theorem EvOk.ev {n D M N : Nat} {ps : List (T × Rat)} (h : EvOk n D M N ps) (hn : n ≤ 4) : EvOk n D M (24 * N) (evP n ps) := by
  refine ⟨fun p hp => ?_, fun p hp => ?_, ?_⟩
  · obtain ⟨o, ho, hp⟩ := List.mem_flatMap.mp hp
    obtain ⟨q, hq, rfl⟩ := List.mem_map.mp hp
    obtain ⟨l, rfl, h1, h2⟩ := ordT_mem hn ho
    obtain ⟨ks, e, _, h4, h5⟩ := (h.key q hq).ex
    show KeyOk n (mvT (natsT l) q.1)
    rw [e, mvT, natL_nats]
    exact movedL_ok h1 h4 h5
  · obtain ⟨o, ho, hp⟩ := List.mem_flatMap.mp hp
    obtain ⟨q, hq, rfl⟩ := List.mem_map.mp hp
    exact h.bd q hq
  · unfold evP
    refine Nat.le_trans (flat_len_le (m := N) fun x _ => by rw [List.length_map]; exact h.len) ?_
    rw [ordT_len]
    exact Nat.mul_le_mul_right _ (ordL_len n hn)
def FEv (as : List Ad) (d : T) : Prop := ∃ n D M N ps, n ≤ 4 ∧ EvOk n D M N ps ∧ N ≤ 100 ∧ 0 < D ∧ D < 2 ^ 150 ∧ M < 2 ^ 150 ∧ as = [.d (formT ps)] ∧ d = formT (evF n ps)
abbrev sEv : Stmt := topS 20
theorem scEv : FnScope ["form", "pairs", "orders", "order", "powers", "x"] ["form"] (defScope sEv) := ⟨rfl, rfl, rfl, by decide +kernel, rfl, by decide +kernel, by decide +kernel⟩
theorem ordL_pos : ∀ n, n ≤ 4 → 0 < (ordL n).length := by decide
theorem bd_inv (k : Nat) (hk : 0 < k) : Bd k 1 (mkRat 1 k) := ⟨1, by
  rw [Rat.mkRat_eq_div]
  have : (k : Rat) ≠ 0 := by
    intro h
    have : k = 0 := by exact_mod_cast h
    omega
  grind, by decide⟩
theorem atI_0 {α : Type} {x : α} {l : List α} : L2.atI (x :: l) 0 = some x := by
  refine atI_map (j := 0) ?_ rfl
  exact ixN_nat (j := 0) (by simp)
theorem atI_1 {α : Type} {x y : α} {l : List α} : L2.atI (x :: y :: l) 1 = some y := by
  refine atI_map (j := 1) ?_ rfl
  exact ixN_nat (j := 1) (by simp)
section
variable {P : Program} {w : World} {K : PySem.W.Frag} {mg : Str → Option Value} {base : Heap}
theorem ok_evened (D : Def K mg "evened" sEv ["form"]) (ml : mg "len" = none) (GT : FnAt P w K mg base 14 "tuple_of" ["thing"] (spF K (FTup 12))) (GO : FnAt P w K mg base 14 "orders_of" ["n"] (spN K FOrd)) (GM : FnAt P w K mg base 14 "moved_powers" ["powers", "order"] (spF K FMoved))
    (GG : FnAt P w K mg base 14 "gathered" ["pairs"] (spF K FGat)) (GF : FnAt P w K mg base 14 "fraction" ["top", "bottom"] (spF K FFrac)) (GS : FnAt P w K mg base 14 "scaled_form" ["form", "x"] (spF K FScaled)) :
    FnAt P w K mg base 15 "evened" ["form"] (spF K FEv) := by
  refine D.d scEv (by decide) (fun as d h => ?_) fun f cdv A outer s H E hr as d δ1 hF g => ?_
  · obtain ⟨_, _, _, _, _, _, _, _, _, _, _, rfl, _⟩ := h; rfl
  · obtain ⟨n, Dn, M, N, ps, hn, he, hN, hD, hD2, hM, rfl, rfl⟩ := hF
    rw [given1 g]
    have hform := he.form (by omega) (by omega)
    obtain ⟨f1, f2⟩ := formT_ok hform
    refine ss_set (s_set 0 scEv.nd (r_call GT hr (da_1 (r_var 0)) ⟨Nat.le_trans f1 (by decide), f2, rfl⟩)) ?_
    cases ps with
    | nil =>
      refine ss_cons (M := fun _ => False) (s_if (t_eq (r_lenT ml (r_var 0)) r_int) (fun _ => ss_one (s_ret (r_tup dd_nil) fun v H' e r => ⟨e, r⟩)) fun h => ?_) fun _ z => z.elim
      exact absurd (of_decide_eq_false h) (by simp [formT])
    | cons p0 ps' =>
      obtain ⟨ks, hk, hkl, hk1, hk2⟩ := (he.key p0 (List.mem_cons_self ..)).ex
      generalize hps : p0 :: ps' = ps at *
      have hne : ps ≠ [] := by rw [← hps]; simp
      refine ss_set (s_skip (t_eq (r_lenT ml (r_var 0)) r_int) ?_) ?_
      · rw [← hps]; exact decide_eq_false (by simp; omega)
      have e0 : L2.atI (ps.map prT) 0 = some (prT p0) := by rw [← hps]; exact atI_0
      have e1 : L2.atI [p0.1, fr p0.2] 0 = some p0.1 := rfl
      refine ss_cons (s_par 1 2 scEv.nd (n_lst dd_nil).fn (n_call GO hr (da_1 (by rw [← hkl]; exact r_lenT ml (by rw [← hk]; exact r_ixT (r_ixT (r_var 0) r_int e0) r_int e1))) ⟨n, hn, rfl, rfl⟩).fn) ?_
      rintro δ' ⟨s1, s2, k1, k2, rfl⟩
      obtain ⟨q1, rfl⟩ := k1.l'
      obtain ⟨q2, rfl⟩ := k2.l'
      refine ss_cons (s_forO (xs := ordT n) 2 (q := q2) (fun j δ' => ∃ a, δ' = [.d (formT ps), .own q1 ((((ordT n).take j).flatMap fun o => ps.map fun p => (mvT o p.1, p.2)).map prT), .own q2 (ordT n), a, .no, .no]) (by rintro j δ' ⟨a, rfl⟩; rfl) ⟨.no, rfl⟩ ?_) ?_
      · rintro j x δ1 hx ⟨a, rfl⟩
        have hxm : x ∈ ordT n := List.mem_of_getElem? hx
        obtain ⟨l, hl, hll, hlp⟩ := ordT_mem hn hxm
        have hf1 := flat_take_le (ordT n) (fun o => ps.map fun p => (mvT o p.1, p.2)) j
        have hf2 := (he.ev hn).len
        unfold evP at hf2
        refine ⟨_, [3], g_name 3 scEv.nd, ss_one ((s_extend 1 rfl (ys := ((ps.map prT).filter fun _ => true).map fun y => match y with | .t [k, q] => .t [mvT x k, q] | y => y) (n_lc (own := [("powers", 4), ("x", 5)]) (fun _ => true) (fun y => match y with | .t [k, q] => .t [mvT x k, q] | y => y) (fun y => match y with | .t [k, q] => [.d (formT ps), .own q1 ((((ordT n).take j).flatMap fun o => ps.map fun p => (mvT o p.1, p.2)).map prT), .own q2 (ordT n), .d x, .d k, .d q] | _ => []) scEv.nd (blkOk_by (by rfl)) (it_tup (r_var 0)).s (by rw [List.length_map]; have := he.len; omega) ?_ (fun s H C cl fp y hy => ts_nil) ?_) ?_).imp ?_)⟩
        · intro s H C cl fp y hy
          obtain ⟨p, hp, rfl⟩ := List.mem_map.mp hy
          exact g_two (i := 4) (j := 5) scEv.nd
        · intro s H C cl fp y hy _
          obtain ⟨p, hp, rfl⟩ := List.mem_map.mp hy
          obtain ⟨ks', e', _, _, _⟩ := (he.key p hp).ex
          refine r_tup (dd_cons (r_call GM hr (da_cons (r_var 4) (da_1 (r_var 3))) ⟨ks', l, by omega, by rw [hll]; exact hlp, by rw [hl, e'], ?_⟩) (dd_cons (r_var 5) dd_nil))
          rw [hl, e', mvT, natL_nats]; rfl
        · simp only [List.length_map, List.filter_eq_self.mpr (fun _ _ => rfl)]
          have := he.len
          have e : (fun o => List.map (fun p => (mvT o p.1, p.2)) ps) = fun o => List.map (fun (p : T × Rat) => (mvT o p.fst, p.snd)) ps := rfl
          omega
        · rintro δ' rfl
          refine ⟨.d x, ?_⟩
          rw [List.take_add_one, hx, Option.toList_some, List.flatMap_append, List.flatMap_cons, List.flatMap_nil, List.append_nil, List.map_append, List.filter_eq_self.mpr (fun _ _ => rfl), List.map_map, List.map_map]
          rfl
      · rintro δ' ⟨a, rfl⟩
        rw [List.take_length]
        have g1 := he.ev hn
        have g2 := g1.gatF
        have hb := bd_inv (ordL n).length (ordL_pos n hn)
        have hl24 := ordL_len n hn
        have g3 := g2.sc hb
        have hM2 : 24 * N * M < 2 ^ 170 := by
          have : 24 * N ≤ 2400 := by omega
          exact Nat.lt_of_le_of_lt (Nat.mul_le_mul this (Nat.le_of_lt hM)) (by decide)
        have hD3 : Dn * (ordL n).length < 2 ^ 200 := Nat.lt_of_le_of_lt (Nat.mul_le_mul (Nat.le_of_lt hD2) hl24) (by decide)
        have ez : (1 : Int) = 1 := rfl
        refine ss_one (s_ret (r_call GS hr (da_cons (r_call GG hr (da_1 (r_var 1)) ⟨evP n ps, g1.gat (by omega) hD (by omega) (by omega), rfl, rfl⟩) (da_1 (r_call GF hr (da_cons r_int (da_1 (by rw [← ordT_len]; exact r_lenL ml (r_var 2)))) ⟨1, (ordL n).length, ordL_pos n hn, by omega, rfl, rfl⟩)))
          ⟨gatF (evP n ps), mkRat 1 (ordL n).length, g2.form (by omega) (by omega), fun p hp => (g2.bd p hp).lv hD (by omega) (by omega), hb.lv (ordL_pos n hn) (by omega) (by decide), g3.gat (by omega) (Nat.mul_pos hD (ordL_pos n hn)) hD3 (by omega), rfl, rfl⟩) fun v H' e r => ⟨e, ?_⟩)
        unfold evF
        rw [if_neg hne]; exact r
end
end Kd
-- K68W6
set_option maxRecDepth 100000
set_option maxHeartbeats 4000000
/-! Walks: row_moment, moment_at, wish_degree, best_program, _filled. -/
namespace Kd
open PySem PySem.Spec PyProof.Rows L2
/-! ### the data -/
def rowT (r : List Rat) : T := .t (r.map fr)
abbrev Src := List (List Rat × Rat)
abbrev Wish := List (List (List Nat) × Rat)
def srP (p : List Rat × Rat) : T := .t [rowT p.1, fr p.2]
def srcT (S : Src) : T := .t (S.map srP)
def facT (fs : List (List Nat)) : T := .t (fs.map natsT)
def wf (W : Wish) : List (T × Rat) := W.map fun p => (facT p.1, p.2)
def wishT (W : Wish) : T := formT (wf W)
def numR (r : List Rat) (a : List Nat) : Rat := prodL ((r.zip a).map fun p => p.1 ^ p.2)
def meanR (S : Src) (a : List Nat) : Rat := sumL (S.map fun p => p.2 * numR p.1 a)
def degW (W : Wish) : Nat := (W.map fun p => p.1.length).foldl max 0
structure RowOk (r : List Rat) : Prop where
  len : r.length ≤ 2
  bd : ∀ x ∈ r, Bd 2 10 x
def MomOk (a : List Nat) : Prop := a.length ≤ 2 ∧ ∀ n ∈ a, n ≤ 2
structure SrcOk (S : Src) : Prop where
  len : S.length ≤ 3
  row : ∀ p ∈ S, RowOk p.1
  bd : ∀ p ∈ S, Bd 2520 2520 p.2
structure WishOk (c : Nat) (W : Wish) : Prop where
  len : W.length ≤ 3
  c2 : c ≤ 2
  fac : ∀ p ∈ W, p.1.length ≤ 2 ∧ ∀ a ∈ p.1, a.length = c ∧ ∀ n ∈ a, n ≤ 2
  bd : ∀ p ∈ W, Bd 1 9 p.2
theorem pow_bd {x : Rat} (h : Bd 2 10 x) : ∀ {n : Nat}, n ≤ 2 → Bd 4 100 (x ^ n)
  | 0, _ => by rw [Rat.pow_zero]; exact (Bd.one.scale 4).mono (by decide)
  | 1, _ => by rw [Rat.pow_one]; exact (h.scale 2).mono (by decide)
  | 2, _ => by
    have e : x ^ 2 = x * x := by grind
    rw [e]; exact (h.mul h).mono (by decide)
  | n + 3, h => absurd h (by omega)
theorem numR_bd {r : List Rat} {a : List Nat} (h : RowOk r) (ha : MomOk a) : Bd 16 10000 (numR r a) := by
  obtain ⟨h1, h2⟩ := h
  obtain ⟨h3, h4⟩ := ha
  match r, a with
  | [], a => exact (Bd.one.scale 16).mono (by decide)
  | r, [] => unfold numR; rw [List.zip_nil_right]; exact (Bd.one.scale 16).mono (by decide)
  | [x], n :: a =>
    have e : numR [x] (n :: a) = 1 * (x ^ n) := rfl
    rw [e, Rat.one_mul]
    exact ((pow_bd (h2 x (by simp)) (h4 n (by simp))).scale 4).mono (by decide)
  | x :: y :: r, [n] =>
    have e : numR (x :: y :: r) [n] = 1 * (x ^ n) := rfl
    rw [e, Rat.one_mul]
    exact ((pow_bd (h2 x (by simp)) (h4 n (by simp))).scale 4).mono (by decide)
  | [x, y], [n, m] =>
    have e : numR [x, y] [n, m] = 1 * (x ^ n) * (y ^ m) := rfl
    rw [e, Rat.one_mul]
    exact ((pow_bd (h2 x (by simp)) (h4 n (by simp))).mul (pow_bd (h2 y (by simp)) (h4 m (by simp)))).mono (by decide)
  | x :: y :: z :: r, a => simp at h1
  | r, n :: m :: k :: a => simp at h3
theorem bd_Lv10 {x : Rat} (h : Bd 2 10 x) : Lv 10 x := h.lv (by decide) (by decide) (by decide)
theorem pow_lv {x : Rat} (h : Bd 2 10 x) {n : Nat} (hn : n ≤ 2) : Lv 10 (x ^ n) := (pow_bd h hn).lv (by decide) (by decide) (by decide)
theorem prodL_lv {l : List Rat} (h : ∀ x ∈ l, Lv 10 x) : Lv (10 * l.length + 1) (prodL l) := by
  induction l with
  | nil => exact Lv.one
  | cons x r ih =>
    rw [prodL_cons]
    have := (h x (List.mem_cons_self ..)).mul (ih fun y hy => h y (List.mem_cons_of_mem _ hy))
    exact this.mono (by rw [List.length_cons]; omega)
theorem rowT_ok {r : List Rat} (h : RowOk r) : (rowT r).depth ≤ 2 ∧ (rowT r).wd = true := by
  constructor
  · have : T.depths (r.map fr) ≤ 1 := T.depths_le.mpr fun x hx => by obtain ⟨q, _, rfl⟩ := List.mem_map.mp hx; rw [fr_depth]; exact Nat.le_refl _
    simp only [rowT, T.depth]; omega
  · simp only [rowT, T.wd, Bool.and_eq_true]
    refine ⟨decide_eq_true (by rw [List.length_map]; have := h.len; omega), T.wds_all.mpr fun x hx => ?_⟩
    obtain ⟨q, _, rfl⟩ := List.mem_map.mp hx
    exact fr_wd q
theorem srcT_ok {S : Src} (h : SrcOk S) : (srcT S).depth ≤ 4 ∧ (srcT S).wd = true := by
  constructor
  · have : T.depths (S.map srP) ≤ 3 := T.depths_le.mpr fun x hx => by
      obtain ⟨q, hq, rfl⟩ := List.mem_map.mp hx
      have := (rowT_ok (h.row q hq)).1
      have e := fr_depth q.2
      simp only [srP, T.depth, T.depths, e]; omega
    simp only [srcT, T.depth]; omega
  · simp only [srcT, T.wd, Bool.and_eq_true]
    refine ⟨decide_eq_true (by rw [List.length_map]; have := h.len; omega), T.wds_all.mpr fun x hx => ?_⟩
    obtain ⟨q, hq, rfl⟩ := List.mem_map.mp hx
    have := (rowT_ok (h.row q hq)).2
    simp [srP, T.wd, T.wds, this, fr_wd]
theorem nats_wd {a : List Nat} (h : a.length ≤ 2) : (natsT a).wd = true := by
  simp only [natsT, T.wd, Bool.and_eq_true]
  refine ⟨decide_eq_true (by rw [List.length_map]; omega), T.wds_all.mpr fun x hx => ?_⟩
  obtain ⟨q, _, rfl⟩ := List.mem_map.mp hx
  rfl
theorem WishOk.form {c : Nat} {W : Wish} (h : WishOk c W) : FormOk (wf W) := by
  refine ⟨⟨1, shps_all.mpr fun x hx => ?_, by decide⟩, fun p hp => ?_, by unfold wf; rw [List.length_map]; have := h.len; omega⟩
  · obtain ⟨q, hq, rfl⟩ := List.mem_map.mp hx
    obtain ⟨z, hz, rfl⟩ := List.mem_map.mp hq
    show shp 2 (facT z.1) = true
    unfold facT
    rw [shp]
    exact shps_all.mpr fun y hy => by obtain ⟨a, _, rfl⟩ := List.mem_map.mp hy; exact shp_nats a
  · obtain ⟨z, hz, rfl⟩ := List.mem_map.mp hp
    obtain ⟨h1, h2⟩ := h.fac z hz
    show (facT z.1).wd = true
    simp only [facT, T.wd, Bool.and_eq_true]
    refine ⟨decide_eq_true (by rw [List.length_map]; omega), T.wds_all.mpr fun x hx => ?_⟩
    obtain ⟨a, ha, rfl⟩ := List.mem_map.mp hx
    have := (h2 a ha).1
    have := h.c2
    exact nats_wd (by omega)
/-! ### row_moment, moment_at -/
def FRow (as : List Ad) (d : T) : Prop := ∃ r a, RowOk r ∧ MomOk a ∧ as = [.d (rowT r), .d (natsT a)] ∧ d = fr (numR r a)
def FMean (as : List Ad) (d : T) : Prop := ∃ S a, SrcOk S ∧ MomOk a ∧ as = [.d (srcT S), .d (natsT a)] ∧ d = fr (meanR S a)
abbrev sRow : Stmt := topS 25
abbrev sMean : Stmt := topS 26
theorem scRow : FnScope ["row", "moment", "total", "x", "power"] ["row", "moment"] (defScope sRow) := ⟨rfl, rfl, rfl, by decide +kernel, rfl, by decide +kernel, by decide +kernel⟩
theorem scMean : FnScope ["source", "moment", "row", "chance"] ["source", "moment"] (defScope sMean) := ⟨rfl, rfl, rfl, by decide +kernel, rfl, by decide +kernel, by decide +kernel⟩
theorem zipT_row {r : List Rat} {a : List Nat} {i : Nat} {x : T} (h : (zipT (r.map fr) (a.map fun (n : Nat) => T.i n))[i]? = some x) : ∃ q n, (r.zip a)[i]? = some (q, n) ∧ x = .t [fr q, .i (n : Nat)] := by
  obtain ⟨k, p, h1, rfl⟩ := zipT_get h
  rw [List.zip_map_left, List.getElem?_map] at h1
  cases hz : (r.zip a)[i]? with
  | none => rw [hz] at h1; cases h1
  | some z =>
    rw [hz] at h1
    obtain ⟨q, n⟩ := z
    cases h1
    exact ⟨q, _, rfl, rfl⟩
theorem zip_sub {r : List Rat} {a : List Nat} (h : RowOk r) (ha : MomOk a) {q : Rat} {n : Nat} (hm : (q, n) ∈ r.zip a) : Bd 2 10 q ∧ n ≤ 2 := ⟨h.bd q (List.of_mem_zip hm).1, ha.2 n (List.of_mem_zip hm).2⟩
section
variable {P : Program} {w : World} {K : PySem.W.Frag} {mg : Str → Option Value} {base : Heap}
theorem ok_row (D : Def K mg "row_moment" sRow ["row", "moment"]) (mz : mg "zip" = none) (c1 : Cst K mg "ONE_sources" (fr 1)) (GM : FnAt P w K mg base 2 "times" ["x", "y"] (spF K FTimes)) (GP : FnAt P w K mg base 2 "power_of" ["x", "many"] (spF K FPow)) :
    FnAt P w K mg base 3 "row_moment" ["row", "moment"] (spF K FRow) := by
  refine D.d scRow (by decide) (fun as d h => ?_) fun f cdv A outer s H E hr as d δ1 hF g => ?_
  · obtain ⟨_, _, _, _, rfl, _⟩ := h; rfl
  · obtain ⟨r, a, hr1, ha, rfl, rfl⟩ := hF
    rw [given2 g]
    refine ss_set (s_set 2 scRow.nd (r_cst c1)) ?_
    refine ss_cons (s_for (xs := zipT (r.map fr) (a.map fun (n : Nat) => T.i n)) (fun i δ' => ∃ b c, δ' = [.d (rowT r), .d (natsT a), .d (fr (prodL (((r.zip a).take i).map fun p => p.1 ^ p.2))), b, c]) (it_zipT mz (r_var 0) (r_var 1)) ⟨.no, .no, rfl⟩ ?_) ?_
    · rintro i x δ1 hx ⟨b, c, rfl⟩
      obtain ⟨q, n, hq, rfl⟩ := zipT_row hx
      have hm := List.mem_of_getElem? hq
      obtain ⟨b1, b2⟩ := zip_sub hr1 ha hm
      have hi : i < 2 := by
        have h1 := (List.getElem?_eq_some_iff.mp hq).1
        rw [List.length_zip] at h1
        have := hr1.len; omega
      have e1 : ((r.zip a).take (i + 1)).map (fun p => p.1 ^ p.2) = ((r.zip a).take i).map (fun p => p.1 ^ p.2) ++ [q ^ n] := by
        rw [List.take_add_one, hq, Option.toList_some, List.map_append]; rfl
      refine ⟨_, [3, 4], g_two (i := 3) (j := 4) scRow.nd, ss_one (s_if (t_gt (r_var 4) r_int) (fun h => ?_) fun h => ?_)⟩
      · have hs : Sm (prodL (((r.zip a).take i).map fun p => p.1 ^ p.2)) := by
          refine (prodL_lv (l := ((r.zip a).take i).map fun p => p.1 ^ p.2) fun y hy => ?_).mono ?_
          · obtain ⟨p, hp, rfl⟩ := List.mem_map.mp hy
            have := zip_sub hr1 ha (q := p.1) (n := p.2) (List.mem_of_mem_take hp)
            exact pow_lv this.1 this.2
          · rw [List.length_map, List.length_take]; omega
        refine ss_one ((s_set 2 scRow.nd (r_call GM hr (da_cons (r_var 2) (da_1 (r_call GP hr (da_cons (r_var 3) (da_1 (r_var 4))) ⟨q, n, bd_Lv10 b1, by omega, rfl, rfl⟩))) ⟨_, q ^ n, hs, (pow_lv b1 b2).mono (by decide), rfl, rfl⟩)).imp ?_)
        rintro δ' rfl
        refine ⟨.d (fr q), .d (.i n), ?_⟩
        rw [e1, prodL_snoc]; rfl
      · have hn : n = 0 := by have := of_decide_eq_false h; omega
        subst hn
        refine ss_nil ⟨.d (fr q), .d (.i 0), ?_⟩
        rw [e1, prodL_snoc, Rat.pow_zero, Rat.mul_one]; rfl
    · rintro δ' ⟨b, c, rfl⟩
      refine ss_one (s_ret (r_var 2) fun v H' e r => ⟨e, ?_⟩)
      rw [zipT_len, List.zip_map_left, List.length_map, List.take_length] at r
      exact r
theorem ok_mean (D : Def K mg "moment_at" sMean ["source", "moment"]) (GT : FnAt P w K mg base 13 "tuple_of" ["thing"] (spF K (FTup 12))) (GM : FnAt P w K mg base 13 "times" ["x", "y"] (spF K FTimes)) (GS : FnAt P w K mg base 13 "sum_of" ["fractions"] (spF K FSum)) (GR : FnAt P w K mg base 13 "row_moment" ["row", "moment"] (spF K FRow)) :
    FnAt P w K mg base 14 "moment_at" ["source", "moment"] (spF K FMean) := by
  refine D.d scMean (by decide) (fun as d h => ?_) fun f cdv A outer s H E hr as d δ1 hF g => ?_
  · obtain ⟨_, _, _, _, rfl, _⟩ := h; rfl
  · obtain ⟨S, a, hS, ha, rfl, rfl⟩ := hF
    rw [given2 g]
    obtain ⟨f1, f2⟩ := srcT_ok hS
    have hb : ∀ p ∈ S, Bd (2520 * 16) (2520 * 10000) (p.2 * numR p.1 a) := fun p hp => (hS.bd p hp).mul (numR_bd (hS.row p hp) ha)
    have hsm : SmSums (S.map fun p => p.2 * numR p.1 a) := SmSums.of (n := 3) (fun x hx => by
      obtain ⟨p, hp, rfl⟩ := List.mem_map.mp hx; exact hb p hp) (by decide) (by decide) (by rw [List.length_map]; exact hS.len) (by decide) (by decide)
    have hgn : ∀ x ∈ S.map srP, ∃ p ∈ S, x = .t [rowT p.1, fr p.2] := fun x hx => by
      obtain ⟨p, hp, rfl⟩ := List.mem_map.mp hx; exact ⟨p, hp, rfl⟩
    -- the value of an element
    have hval : ∃ gv : T → T, ∀ p ∈ S, gv (srP p) = fr (p.2 * numR p.1 a) := by
      classical
      refine ⟨fun x => if h : ∃ p ∈ S, x = srP p then fr (h.choose.2 * numR h.choose.1 a) else x, fun p hp => ?_⟩
      have hx : ∃ p' ∈ S, srP p = srP p' := ⟨p, hp, rfl⟩
      simp only [dif_pos hx]
      have h2 := hx.choose_spec.2
      have e : rowT p.1 = rowT hx.choose.1 ∧ fr p.2 = fr hx.choose.2 := by
        unfold srP at h2
        injection h2 with h2
        injection h2 with h3 h4
        injection h4 with h4 _
        exact ⟨h3, h4⟩
      have e2 := fr_inj e.2
      have inj : ∀ l m : List Rat, l.map fr = m.map fr → l = m := by
        intro l
        induction l with
        | nil => intro m h; cases m with | nil => rfl | cons _ _ => simp at h
        | cons x l ih =>
          intro m h
          cases m with
          | nil => simp at h
          | cons y m =>
            rw [List.map_cons, List.map_cons] at h
            injection h with h1 h2
            rw [fr_inj h1, ih m h2]
      have e1 : p.1 = hx.choose.1 := by
        have := e.1
        unfold rowT at this
        injection this with this
        exact inj _ _ this
      rw [← e1, ← e2]
    obtain ⟨gv, hgv⟩ := hval
    refine ss_one (s_ret (r_call GS hr (da_1 (DN.dl (xs := (((S.map srP).filter fun _ => true).map gv)) ?_)) ⟨_, hsm, ?_, rfl⟩) fun v H' e r => ⟨e, r⟩)
    · refine n_lc (own := [("row", 2), ("chance", 3)]) (fun _ => true) gv (fun x => match x with | .t [k, q] => [.d (srcT S), .d (natsT a), .d k, .d q] | _ => []) scMean.nd (blkOk_by (by rfl)) (it_tup (r_call GT hr (da_1 (r_var 0)) ⟨Nat.le_trans f1 (by decide), f2, rfl⟩)).s ?_ ?_ (fun s H C cl fp x hx => ts_nil) ?_
      · rw [List.length_map]; have := hS.len; omega
      · intro s H C cl fp x hx
        obtain ⟨p, hp, rfl⟩ := hgn x hx
        exact g_two (i := 2) (j := 3) scMean.nd
      · intro s H C cl fp x hx _
        obtain ⟨p, hp, rfl⟩ := hgn x hx
        rw [show T.t [rowT p.1, fr p.2] = srP p from rfl, hgv p hp]
        exact r_call GM hr (da_cons (r_var 3) (da_1 (r_call GR hr (da_cons (r_var 2) (da_1 (r_var 1))) ⟨p.1, a, hS.row p hp, ha, rfl, rfl⟩))) ⟨p.2, numR p.1 a, (hS.bd p hp).lv (by decide) (by decide) (by decide), (numR_bd (hS.row p hp) ha).lv (by decide) (by decide) (by decide), rfl, rfl⟩
    · rw [List.filter_eq_self.mpr (fun _ _ => rfl), List.map_map, List.map_map]
      congr 2
      refine List.map_congr_left fun p hp => ?_
      exact hgv p hp
end
end Kd
-- K68W7
set_option maxRecDepth 100000
set_option maxHeartbeats 4000000
/-! Walks: wish_degree, best_program, _filled. -/
namespace Kd
open PySem PySem.Spec PyProof.Rows L2
def wP (p : List (List Nat) × Rat) : T := .t [facT p.1, fr p.2]
theorem wishT_eq (W : Wish) : wishT W = .t (W.map wP) := by
  unfold wishT formT wf
  rw [List.map_map]; rfl
theorem foldmax (l : List Nat) : ∀ a, l.foldl max a ∈ a :: l ∧ ∀ y ∈ a :: l, y ≤ l.foldl max a := by
  induction l with
  | nil => intro a; simp
  | cons x r ih =>
    intro a
    rw [List.foldl_cons]
    obtain ⟨h1, h2⟩ := ih (max a x)
    constructor
    · rcases List.mem_cons.mp h1 with h | h
      · rw [h]
        rcases Nat.le_total a x with hh | hh
        · rw [Nat.max_eq_right hh]; simp
        · rw [Nat.max_eq_left hh]; simp
      · exact List.mem_cons_of_mem _ (List.mem_cons_of_mem _ h)
    · intro y hy
      have h3 := h2 (max a x) (List.mem_cons_self ..)
      rcases List.mem_cons.mp hy with rfl | hy
      · omega
      · rcases List.mem_cons.mp hy with rfl | hy
        · omega
        · exact h2 y (List.mem_cons_of_mem _ hy)
theorem deg_le {W : Wish} {p : List (List Nat) × Rat} (h : p ∈ W) : p.1.length ≤ degW W := (foldmax (W.map fun p => p.1.length) 0).2 _ (List.mem_cons_of_mem _ (List.mem_map.mpr ⟨p, h, rfl⟩))
theorem deg_two {c : Nat} {W : Wish} (h : WishOk c W) : degW W ≤ 2 := by
  rcases List.mem_cons.mp (foldmax (W.map fun p => p.1.length) 0).1 with e | e
  · unfold degW; omega
  · obtain ⟨p, hp, e⟩ := List.mem_map.mp e
    have := (h.fac p hp).1
    unfold degW
    omega
def FDeg (as : List Ad) (d : T) : Prop := ∃ c W, WishOk c W ∧ as = [.d (wishT W)] ∧ d = .i (degW W)
abbrev sDeg : Stmt := topS 28
abbrev sBest : Stmt := topS 30
abbrev sFill : Stmt := topS 35
theorem scDeg : FnScope ["wish", "factors", "_"] ["wish"] (defScope sDeg) := ⟨rfl, rfl, rfl, by decide +kernel, rfl, by decide +kernel, by decide +kernel⟩
theorem scBest : FnScope ["wish", "n", "c", "own", "pairs", "factors", "x"] ["wish", "n", "c"] (defScope sBest) := ⟨rfl, rfl, rfl, by decide +kernel, rfl, by decide +kernel, by decide +kernel⟩
theorem scFill : FnScope ["factors", "degree"] ["factors", "degree"] (defScope sFill) := ⟨rfl, rfl, rfl, by decide +kernel, rfl, by decide +kernel, by decide +kernel⟩
/-- the best program's pairs -/
def bpK (n c : Nat) (fs : List (List Nat)) : T := .t (fs.map natsT ++ List.replicate (n - fs.length) (natsT (List.replicate c 0)))
def bpP (n c : Nat) (W : Wish) : List (T × Rat) := W.map fun p => (bpK n c p.1, p.2)
noncomputable def bpF (n c : Nat) (W : Wish) : List (T × Rat) := evF n (gatF (bpP n c W))
def FBest (as : List Ad) (d : T) : Prop := ∃ W n c, WishOk c W ∧ degW W ≤ n ∧ n ≤ 4 ∧ as = [.d (wishT W), .d (.i (n : Nat)), .d (.i (c : Nat))] ∧ d = formT (bpF n c W)
/-- filled up -/
def filL (m : Nat) (fs : List (List Nat)) : List T := fs.map natsT ++ List.replicate (m - fs.length) (.t [])
def FFill (as : List Ad) (d : T) : Prop := ∃ fs m, fs.length ≤ m ∧ m ≤ 2 ∧ as = [.d (facT fs), .d (.i (m : Nat))] ∧ d = .t (filL m fs)
theorem natsT_rep (c k : Nat) : natsT (List.replicate c k) = .t (List.replicate c (.i k)) := by unfold natsT; rw [List.map_replicate]
theorem bpP_ok {n c : Nat} {W : Wish} (h : WishOk c W) (hn : degW W ≤ n) : EvOk n 1 9 3 (bpP n c W) := by
  refine ⟨fun p hp => ?_, fun p hp => ?_, by unfold bpP; rw [List.length_map]; exact h.len⟩
  · obtain ⟨q, hq, rfl⟩ := List.mem_map.mp hp
    obtain ⟨h1, h2⟩ := h.fac q hq
    have h3 := deg_le hq
    have hm : ∀ x ∈ q.1.map natsT ++ List.replicate (n - q.1.length) (natsT (List.replicate c 0)), ∃ a : List Nat, x = natsT a ∧ a.length = c := fun x hx => by
      rcases List.mem_append.mp hx with hx | hx
      · obtain ⟨a, ha, rfl⟩ := List.mem_map.mp hx
        exact ⟨a, rfl, (h2 a ha).1⟩
      · exact ⟨_, List.eq_of_mem_replicate hx, by simp⟩
    refine ⟨_, rfl, ?_, shps_all.mpr fun x hx => ?_, fun x hx => ?_⟩
    · rw [List.length_append, List.length_map, List.length_replicate]; omega
    · obtain ⟨a, rfl, _⟩ := hm x hx; exact shp_nats a
    · obtain ⟨a, rfl, ha⟩ := hm x hx
      have := h.c2
      exact nats_wd (by omega)
  · obtain ⟨q, hq, rfl⟩ := List.mem_map.mp hp
    exact h.bd q hq
section
variable {P : Program} {w : World} {K : PySem.W.Frag} {mg : Str → Option Value} {base : Heap}
theorem ok_deg (D : Def K mg "wish_degree" sDeg ["wish"]) (mm : mg "max" = none) (ml : mg "len" = none) : FnAt P w K mg base 1 "wish_degree" ["wish"] (spF K FDeg) := by
  refine D.d scDeg (by decide) (fun as d h => ?_) fun f cdv A outer s H E hr as d δ1 hF g => ?_
  · obtain ⟨_, _, _, rfl, _⟩ := h; rfl
  · obtain ⟨c, W, hW, rfl, rfl⟩ := hF
    rw [given1 g]
    have hlen := hW.len
    have e : ([T.i 0] ++ ((W.filter fun _ => true).map fun p => T.i p.1.length)) = (((0 :: W.map fun p => p.1.length) : List Nat).map fun (n : Nat) => (n : Int)).map T.i := by
      rw [List.filter_eq_self.mpr (fun _ _ => rfl)]
      simp
    have hm := foldmax (W.map fun p => p.1.length) 0
    refine ss_one (s_ret (r_max (ns := ((0 :: W.map fun p => p.1.length) : List Nat).map fun (n : Nat) => (n : Int)) mm (DN.dl ?_) (List.mem_map.mpr ⟨_, hm.1, rfl⟩) ?_) fun v H' e r => ⟨e, r⟩)
    · rw [← e]
      refine n_cat (n_lst (dd_cons r_int dd_nil)) (n_lcA (own := [("factors", 1), ("_", 2)]) W wP (fun _ => true) (fun p => .i p.1.length) (fun p => [.d (wishT W), .d (facT p.1), .d (fr p.2)]) scDeg.nd (blkOk_by (by rfl)) ?_ (by omega) (fun s H C cl fp p hp => g_two (i := 1) (j := 2) scDeg.nd) (fun s H C cl fp x hx => ts_nil) ?_) ?_
      · rw [← List.append_nil (W.map wP)] 
        rw [List.append_nil]
        exact (it_tup (by rw [← wishT_eq]; exact r_var 0)).s
      · intro s H C cl fp p hp _
        have e1 : (p.1.map natsT).length = p.1.length := List.length_map _
        rw [← e1]
        exact r_lenT ml (r_var 1)
      · simp only [List.length_map, List.filter_eq_self.mpr (fun _ _ => rfl), List.length_cons, List.length_nil]; omega
    · intro y hy
      obtain ⟨n, hn, rfl⟩ := List.mem_map.mp hy
      exact Int.ofNat_le.mpr (hm.2 n hn)
theorem wish_ok {c : Nat} {W : Wish} (h : WishOk c W) : (wishT W).depth ≤ 10 ∧ (wishT W).wd = true := formT_ok h.form
theorem ok_best (D : Def K mg "best_program" sBest ["wish", "n", "c"]) (ml : mg "len" = none) (GT : FnAt P w K mg base 15 "tuple_of" ["thing"] (spF K (FTup 12))) (GD : FnAt P w K mg base 15 "wish_degree" ["wish"] (spF K FDeg)) (GG : FnAt P w K mg base 15 "gathered" ["pairs"] (spF K FGat)) (GE : FnAt P w K mg base 15 "evened" ["form"] (spF K FEv)) :
    FnAt P w K mg base 16 "best_program" ["wish", "n", "c"] (spF K FBest) := by
  refine D.d scBest (by decide) (fun as d h => ?_) fun f cdv A outer s H E hr as d δ1 hF g => ?_
  · obtain ⟨_, _, _, _, _, _, rfl, _⟩ := h; rfl
  · obtain ⟨W, n, c, hW, hn, hn4, rfl, rfl⟩ := hF
    rw [given3 g]
    obtain ⟨f1, f2⟩ := wish_ok hW
    refine ss_cons (s_par 3 4 scBest.nd (DR.fd (r_call GT hr (da_1 (r_var 0)) ⟨Nat.le_trans f1 (by decide), f2, rfl⟩)) (n_lst dd_nil).fn) ?_
    rintro δ' ⟨s1, s2, k1, k2, rfl⟩
    rw [k1.d']
    obtain ⟨q, rfl⟩ := k2.l'
    refine ss_set (s_skip (t_gt (r_call GD hr (da_1 (r_var 3)) ⟨c, W, hW, rfl, rfl⟩) (r_var 1)) (decide_eq_false (by omega))) ?_
    refine ss_cons (s_for (xs := W.map wP) (fun i δ' => ∃ a b, δ' = [.d (wishT W), .d (.i n), .d (.i c), .d (wishT W), .own q ((bpP n c (W.take i)).map prT), a, b]) (it_tup (by rw [← wishT_eq]; exact r_var 3)) ⟨.no, .no, rfl⟩ ?_) ?_
    · rintro i x δ1 hx ⟨a, b, rfl⟩
      rw [List.getElem?_map] at hx
      cases hp : W[i]? with
      | none => rw [hp] at hx; cases hx
      | some p =>
        rw [hp] at hx; cases hx
        have hpm : p ∈ W := List.mem_of_getElem? hp
        have hd := deg_le hpm
        have e1 : (p.1.map natsT).length = p.1.length := List.length_map _
        have hc2 := hW.c2
        refine ⟨_, [5, 6], g_two (i := 5) (j := 6) scBest.nd, ss_one ((s_append 4 rfl (u := prT (bpK n c p.1, p.2)) (r_tup (dd_cons (v := bpK n c p.1) ?_ (dd_cons (r_var 6) dd_nil))) ?_).imp ?_)⟩
        · have e2 : ((n : Int) - (p.1.length : Int)) = ((n - p.1.length : Nat) : Int) := by omega
          refine r_cat (r_var 5) (r_rep1 (k := n - p.1.length) (r_tup (dd_cons (v := natsT (List.replicate c 0)) ?_ dd_nil)) ?_ (by omega)) ?_
          · rw [natsT_rep]
            exact r_rep1 (k := c) (r_tup (dd_cons r_int dd_nil)) (r_var 2) (by omega)
          · rw [← e2]
            exact r_sub (r_var 1) (DR.is (r_lenT ml (r_var 5)) (by rw [e1]))
          · rw [e1, List.length_replicate]; omega
        · unfold bpP
          rw [List.length_map, List.length_map, List.length_take]; have := hW.len; omega
        · rintro δ' rfl
          refine ⟨.d (facT p.1), .d (fr p.2), ?_⟩
          rw [List.take_add_one, hp]
          unfold bpP
          rw [Option.toList_some, List.map_append, List.map_append]
          rfl
    · rintro δ' ⟨a, b, rfl⟩
      rw [List.length_map, List.take_length]
      have g1 := bpP_ok hW hn
      exact ss_one (s_ret (r_call GE hr (da_1 (r_call GG hr (da_1 (r_var 4)) ⟨bpP n c W, g1.gat (by decide) (by decide) (by decide) (by decide), rfl, rfl⟩)) ⟨n, 1, 3 * 9, 3, gatF (bpP n c W), hn4, g1.gatF, by decide, by decide, by decide, by decide, rfl, rfl⟩) fun v H' e r => ⟨e, r⟩)
theorem ok_fill (D : Def K mg "_filled" sFill ["factors", "degree"]) (ml : mg "len" = none) (cb : Cst K mg "BLANK" (.t [])) : FnAt P w K mg base 1 "_filled" ["factors", "degree"] (spF K FFill) := by
  refine D.d scFill (by decide) (fun as d h => ?_) fun f cdv A outer s H E hr as d δ1 hF g => ?_
  · obtain ⟨_, _, _, _, rfl, _⟩ := h; rfl
  · obtain ⟨fs, m, h1, h2, rfl, rfl⟩ := hF
    rw [given2 g]
    have e1 : (fs.map natsT).length = fs.length := List.length_map _
    have e2 : ((m : Int) - (fs.length : Int)) = ((m - fs.length : Nat) : Int) := by omega
    refine ss_one (s_ret (r_cat (r_var 0) (r_rep1 (k := m - fs.length) (r_tup (dd_cons (r_cst cb) dd_nil)) ?_ (by omega)) ?_) fun v H' e r => ⟨e, r⟩)
    · rw [← e2]
      exact r_sub (r_var 1) (DR.is (r_lenT ml (r_var 0)) (by rw [e1]))
    · rw [e1, List.length_replicate]; omega
end
end Kd
-- K68I6
set_option maxRecDepth 100000
set_option maxHeartbeats 4000000
/-! The rules: list(permutations(range(a), b)); for .. in combinations(range(a), b). -/
namespace KdIt
open PySem PySem.Spec PyProof.Rows L2
/-- new objects beside the old -/
def ovr (H G : Hp) : Hp := fun b => match G b with
  | some o => some o
  | none => H b
theorem ovr_new {H G : Hp} {b : Addr} {o : HO} (h : G b = some o) : ovr H G b = some o := by simp [ovr, h]
theorem ovr_old {H G : Hp} {b : Addr} (h : G b = none) : ovr H G b = H b := by simp [ovr, h]
section
variable {X : Cx} {pins : List (Addr × Obj)} {σ : L2.St} {H : Hp} {s : Shared}
theorem laidG {h' : Heap} {G : Hp} {t' : Nat} (I : Inv X pins σ H s) (k : ∀ b u, s.heap.get? b = some u → h'.get? b = some u) (hG : ∀ b o, G b = some o → s.heap.get? b = none ∧ H b = none ∧ ObjOk X.prog X.w (ovr H G) h' b o) :
    Inv X pins σ (ovr H G) { s with heap := h', toks := t' } := by
  have kp : ∀ b u, H b = some u → ovr H G b = some u := fun b u e => by
    cases q : G b with
    | none => rw [ovr_old q]; exact e
    | some o => rw [(hG b o q).2.1] at e; cases e
  refine I.un (h' := h') ⟨fun b o q _ _ _ => k b o q, fun b o q _ _ _ => ⟨o.slots, k b o q⟩, fun b o q n _ => ?_, fun b o q _ => ⟨o, k b o q⟩, fun b xs q => kp b _ q, fun b o u q => kp b _ q, fun b ps q => ⟨#[], by rw [kp b _ q]; simp⟩⟩ (fun b u e => ?_)
  · cases z : G b with
    | none => rw [ovr_old z]; exact n
    | some u => rw [(hG b u z).1] at q; cases q
  · cases z : G b with
    | none =>
      rw [ovr_old z] at e
      exact (I.hok b u e).stay (fun d v _ y => k d v y) (fun d y => kp d _ y) fun d xs y => kp d _ y
    | some o =>
      rw [ovr_new z] at e
      have e' := Option.some.inj e
      rw [← e']
      exact (hG b o z).2.2
end
theorem ints_eq : ∀ {its : List Value} {xs ys : List Nat}, IntsAre its (xs.map fun (n : Nat) => (n : Int)) → IntsAre its (ys.map fun (n : Nat) => (n : Int)) → xs = ys
  | _, [], [], _, _ => rfl
  | _, [], y :: ys, h, h' => by cases h; cases h'
  | _, x :: xs, [], h, h' => by cases h'; cases h
  | _, x :: xs, y :: ys, h, h' => by
    rw [List.map_cons] at h h'
    cases h with
    | cons _ t r =>
      generalize hz : ((y : Nat) : Int) = z at h'
      generalize hx : ((x : Nat) : Int) = zx at h'
      cases h' with
      | cons _ t' r' =>
        have : x = y := by omega
        rw [this, ints_eq r r']
/-- list(permutations(range(a), b)) -/
def tLP (ta tb : TE) : TE := fun σ H Q => ta σ H fun x H1 => ∃ n : Nat, x = .int n ∧ tb σ H1 fun y H2 => ∃ k : Nat, y = .int k ∧ n ≤ 2 ∧ k ≤ n ∧
  ∀ (H' : Hp) (p : Addr) (ts : List Addr), (∀ b o, H2 b = some o → H' b = some o) → H2 p = none → H' p = some (.lst (ts.map V.ref)) → ts.length = (outsP n k).length → (∀ (j : Nat) (t : Addr), ts[j]? = some t → ∃ xs : List Nat, (outsP n k)[j]? = some xs ∧ H' t = some (.tup (xs.map fun (n : Nat) => V.int n))) → Q (.ref p) H'
/-- for .. in combinations(range(a), b) -/
def tCBn (ta tb : TE) : TI := fun σ H R => ta σ H fun x H1 => ∃ n : Nat, x = .int n ∧ tb σ H1 fun y H2 => ∃ k : Nat, y = .int k ∧ n ≤ 2 ∧ k ≤ n ∧ R (ItF (outsC n k)) H2
theorem rng_small (n : Nat) (hn : n ≤ 2) : Builtin.Range.small 0 (n : Int) 1 = true := by
  have : n = 0 ∨ n = 1 ∨ n = 2 := by omega
  rcases this with rfl | rfl | rfl <;> decide
theorem rng_size (n : Nat) (hn : n ≤ 2) : Builtin.Range.rangeSize 0 (n : Int) 1 = (n : Int) := by
  have : n = 0 ∨ n = 1 ∨ n = 2 := by omega
  rcases this with rfl | rfl | rfl <;> decide
theorem pool_of {acc : Array Value} {n : Nat} (hn : n ≤ 2) (h : ItemsOf (fun i v => ∃ t, v = Value.int (0 + (i : Nat) * 1) t) acc n) : ∃ t0 t1, acc = poolV t0 t1 n := by
  obtain ⟨h1, h2⟩ := h
  obtain ⟨l⟩ := acc
  have h2' : ∀ (j : Nat) (v : Value), l[j]? = some v → ∃ t, v = Value.int (0 + (j : Nat) * 1) t := fun j v e => h2 j v (by simpa using e)
  have hn' : n = 0 ∨ n = 1 ∨ n = 2 := by omega
  simp at h1
  rcases hn' with rfl | rfl | rfl
  · have : l = [] := by cases l with | nil => rfl | cons _ _ => simp at h1
    subst this; exact ⟨0, 0, rfl⟩
  · match l, h1, h2' with
    | [a], _, h2' =>
      obtain ⟨t, rfl⟩ := h2' 0 a rfl
      exact ⟨t, 0, rfl⟩
  · match l, h1, h2' with
    | [a, b], _, h2' =>
      obtain ⟨t, rfl⟩ := h2' 0 a rfl
      obtain ⟨t', rfl⟩ := h2' 1 b rfl
      exact ⟨t, t', rfl⟩
theorem fldP_obj {pool : Addr} {n k : Nat} (hn : n ≤ 2) (hk : k ≤ n) : ItObj "itertools.permutations" (fldP pool n k).toArray = objP pool k (flg 0) .none (numsP n k 0) := by
  rcases nk_cases hn hk with ⟨rfl, rfl⟩ | ⟨rfl, rfl⟩ | ⟨rfl, rfl⟩ | ⟨rfl, rfl⟩ | ⟨rfl, rfl⟩ | ⟨rfl, rfl⟩ <;> rfl
theorem fldC_obj {pool : Addr} {n k : Nat} (hn : n ≤ 2) (hk : k ≤ n) : ItObj "itertools.combinations" (fldC pool n k).toArray = objC pool (flg 0) .none (numsC n k 0) := by
  rcases nk_cases hn hk with ⟨rfl, rfl⟩ | ⟨rfl, rfl⟩ | ⟨rfl, rfl⟩ | ⟨rfl, rfl⟩ | ⟨rfl, rfl⟩ | ⟨rfl, rfl⟩ <;> rfl
theorem outsP_len {n k : Nat} (hn : n ≤ 2) (hk : k ≤ n) : (outsP n k).length ≤ 2 ∧ ∀ xs ∈ outsP n k, xs.length ≤ 2 := by
  rcases nk_cases hn hk with ⟨rfl, rfl⟩ | ⟨rfl, rfl⟩ | ⟨rfl, rfl⟩ | ⟨rfl, rfl⟩ | ⟨rfl, rfl⟩ | ⟨rfl, rfl⟩ <;> decide
theorem outsC_len {n k : Nat} (hn : n ≤ 2) (hk : k ≤ n) : (outsC n k).length ≤ 2 ∧ ∀ xs ∈ outsC n k, xs.length ≤ 2 := by
  rcases nk_cases hn hk with ⟨rfl, rfl⟩ | ⟨rfl, rfl⟩ | ⟨rfl, rfl⟩ | ⟨rfl, rfl⟩ | ⟨rfl, rfl⟩ | ⟨rfl, rfl⟩ <;> decide
section
variable {X : Cx} {a b : Expr} {ta tb : TE} {pl pp pr pos ppos rpos : Pos}
/-- list(permutations(range(a), b)), the machine -/
theorem list_perm {pins : List (Addr × Obj)} {σ : L2.St} {H : Hp} {s : Shared} {r : Addr} {t u v tk : Tok} {n k : Nat} {Q : VK} (hc : X.calm = true) (I : Inv X pins σ H s) (hr : IsRange s.heap r 0 n 1 t u v) (hn : n ≤ 2) (hk : k ≤ n)
    (q : ∀ (H' : Hp) (p : Addr) (ts : List Addr), (∀ b o, H b = some o → H' b = some o) → H p = none → H' p = some (.lst (ts.map V.ref)) → ts.length = (outsP n k).length → (∀ (j : Nat) (t : Addr), ts[j]? = some t → ∃ xs : List Nat, (outsP n k)[j]? = some xs ∧ H' t = some (.tup (xs.map fun (n : Nat) => V.int n))) → Q (.ref p) H') :
    wpAny (model X.prog X.w) X.A (call (.type "itertools.permutations") [.ref r, .int k tk]) (fun it s1 => wpAny (model X.prog X.w) X.A (call (.type "list") [it]) (EP X pins σ Q) X.xe s1) X.xe s := by
  refine call_p (by omega) (I.ok.hd hc) hr (rng_small n hn) (rng_size n hn) (by omega) fun h' tk' acc hkp hacc => ?_
  obtain ⟨t0, t1, rfl⟩ := pool_of hn hacc
  rw [fldP_obj hn hk]
  have hitx : ((h'.push (seqObj "tuple" (poolV t0 t1 n) 0)).push (objP h'.objs.size k (flg 0) .none (numsP n k 0))).get? (h'.push (seqObj "tuple" (poolV t0 t1 n) 0)).objs.size = some (objP h'.objs.size k (flg 0) .none (numsP n k 0)) := Heap.get?_push_size _ rfl
  have hpoolx : ((h'.push (seqObj "tuple" (poolV t0 t1 n) 0)).push (objP h'.objs.size k (flg 0) .none (numsP n k 0))).get? h'.objs.size = some (seqObj "tuple" (poolV t0 t1 n) 0) := Heap.get?_push_of_some _ (Heap.get?_push_size _ rfl)
  obtain ⟨l1, l2⟩ := outsP_len hn hk
  have old : ∀ b o, s.heap.get? b = some o → ((h'.push (seqObj "tuple" (poolV t0 t1 n) 0)).push (objP h'.objs.size k (flg 0) .none (numsP n k 0))).get? b = some o := fun b o e => Heap.get?_push_of_some _ (Heap.get?_push_of_some _ (hkp b o e))
  have nosome : ∀ b, b = (h'.push (seqObj "tuple" (poolV t0 t1 n) 0)).objs.size → s.heap.get? b = none := fun b e => by
    cases z : s.heap.get? b with
    | none => rfl
    | some o =>
      have h1 := Heap.lt_size (hkp b o z)
      rw [e, Heap.size_push] at h1
      exact absurd (Nat.lt_trans (Nat.lt_succ_self _) h1) (Nat.lt_irrefl _)
  refine callF (fit_p hn hk _ _) (St := StP n k _ h'.objs.size) (fun i h ⟨z, t0, t1, h1, _⟩ => ⟨_, h1, rfl⟩) (I.ok.hd hc) ⟨_, t0, t1, hitx, hpoolx⟩ (by rw [sizeLine_eq]; omega) fun S h2 tk2 acc2 c2 as hSn hSz hk2 hS2 hal hM hacc2 => ?_
  -- what is new
  classical
  have keep2 : ∀ b o, s.heap.get? b = some o → h2.get? b = some o := fun b o e => hk2 b o (fun z => by rw [nosome b z] at e; cases e) (old b o e)
  let G : Hp := fun b => if b = S then some (.lst (as.map V.ref)) else if h : ∃ (j : Nat) (xs : List Nat), as[j]? = some b ∧ (outsP n k)[j]? = some xs then some (.tup (h.choose_spec.choose.map fun (n : Nat) => V.int n)) else none
  have GS : G S = some (.lst (as.map V.ref)) := by simp [G]
  have GT : ∀ (j : Nat) (b : Addr) (xs : List Nat), as[j]? = some b → (outsP n k)[j]? = some xs → G b = some (.tup (xs.map fun (n : Nat) => V.int n)) := fun j b xs e1 e2 => by
    obtain ⟨e0, xs', its, e3, e4, e5⟩ := hM j b e1
    have hbS : b ≠ S := fun z => e0.1 (by simp [z])
    have hx : ∃ (j : Nat) (xs : List Nat), as[j]? = some b ∧ (outsP n k)[j]? = some xs := ⟨j, xs, e1, e2⟩
    have : G b = some (.tup (hx.choose_spec.choose.map fun (n : Nat) => V.int n)) := by
      simp only [G, if_neg hbS, dif_pos hx]
    rw [this]
    obtain ⟨f1, f2⟩ := hx.choose_spec.choose_spec
    obtain ⟨_, ys, its', g1, g2, g3⟩ := hM _ b f1
    rw [f2] at g1
    have eits : its = its' := by
      rw [e5] at g3
      have := Option.some.inj g3
      unfold seqObj at this
      injection this with _ _ h3
      injection h3 with h3
      simpa using h3
    have ex : xs = xs' := by rw [e2] at e3; exact Option.some.inj e3
    subst ex
    have ey := Option.some.inj g1
    rw [← eits, ← ey] at g2
    rw [ints_eq g2 e4]
  have Gi : ∀ b o, G b = some o → b = S ∨ ∃ (j : Nat) (xs : List Nat), as[j]? = some b ∧ (outsP n k)[j]? = some xs := fun b o e => by
    by_cases h1 : b = S
    · exact .inl h1
    · by_cases h2 : ∃ (j : Nat) (xs : List Nat), as[j]? = some b ∧ (outsP n k)[j]? = some xs
      · exact .inr h2
      · simp only [G, if_neg h1, dif_neg h2] at e; cases e
  have hS1 : s.heap.get? S = none := by
    cases z : s.heap.get? S with
    | none => rfl
    | some o => rw [old S o z] at hSn; cases hSn
  have hT1 : ∀ (j : Nat) (b : Addr), as[j]? = some b → s.heap.get? b = none := fun j b e => by
    obtain ⟨⟨_, e0⟩, _⟩ := hM j b e
    cases z : s.heap.get? b with
    | none => rfl
    | some o => rw [old b o z] at e0; cases e0
  have gn : ∀ b o, G b = some o → s.heap.get? b = none := fun b o e => by
    rcases Gi b o e with rfl | ⟨j, xs, e1, _⟩
    · exact hS1
    · exact hT1 j b e1
  have J : Inv X pins σ (ovr H G) { s with heap := h2, toks := tk2 } := by
    refine laidG I keep2 fun b o e => ⟨gn b o e, I.hok.gone (gn b o e), ?_⟩
    rcases Gi b o e with rfl | ⟨j, xs, e1, e2⟩
    · rw [GS] at e; cases e
      refine ⟨by rw [List.length_map, sizeLine_eq]; omega, acc2.toList, c2, by rw [hacc2]; exact vals_refs as, ?_⟩
      rw [Array.toArray_toList]
      exact hS2
    · rw [GT j b xs e1 e2] at e; cases e
      obtain ⟨_, xs', its, e3, e4, e5⟩ := hM j b e1
      rw [e2] at e3; cases e3
      exact ⟨by rw [List.length_map, sizeLine_eq]; have := l2 _ (List.mem_of_getElem? e2); omega, its, ints_vals e4, ⟨_, e5, rfl, _, rfl⟩⟩
  refine ⟨.ref S, ovr H G, J, rfl, q (ovr H G) S as (fun b o e => ?_) (I.hok.gone hS1) (ovr_new GS) hal fun j t e => ?_⟩
  · cases z : G b with
    | none => rw [ovr_old z]; exact e
    | some u => rw [I.hok.gone (gn b u z)] at e; cases e
  · obtain ⟨_, xs, its, e3, _, _⟩ := hM j t e
    exact ⟨xs, e3, ovr_new (GT j t xs e e3)⟩
/-- range(a), and then b, the range kept -/
theorem range_then (hgr : Gl X "range") (hmr : X.mg "range" = none) (ha : PE X a ta) (hb : PE X b tb) (n4 : starEach [a] X.env = (false, eval a X.env) :: starEach [] X.env)
    {pins : List (Addr × Obj)} {s : Shared} {σ : L2.St} {H : Hp} {R : Nat → V → Hp → Prop} {Q : Value → Shared → Prop} (I : Inv X pins σ H s) (h : ta σ H fun x H1 => ∃ n : Nat, x = .int n ∧ tb σ H1 fun y H2 => R n y H2)
    (q : ∀ (r : Addr) (n : Nat) (t u v : Tok) (s1 : Shared) (H1 : Hp), (tb σ H1 fun y H2 => R n y H2) → (∀ (F : Value → Shared → Prop), (∀ bv s2 y H2, Inv X pins σ H2 s2 → IsRange s2.heap r 0 n 1 t u v → RelV y bv → R n y H2 → F bv s2) → wpAny (model X.prog X.w) X.A (eval b X.env) F X.xe s1) → Q (.ref r) s1) :
    wpAny (model X.prog X.w) X.A (eval (.Call (.Name "range" pr) [a] [] rpos) X.env) Q X.xe s := by
  refine Call_ (ld_blt I hgr hmr boot_range (PyProof.Rows.callWith_type1 (one_arg ha I h (fun v s2 x H2 I2 r hq => ?_) n4) n4))
  obtain ⟨n, rfl, hq⟩ := hq
  obtain ⟨t, rfl⟩ := r
  refine call_range_1 (q s2.heap.objs.size n s2.toks t (s2.toks + 1) _ H2 hq fun F hF => ?_)
  have hsz : s2.heap.objs.size ≤ s2.heap.objs.size := Nat.le_refl _
  have fp := I2.fpOk hsz (I2.hok.fresh hsz)
  have I3 : Inv X pins σ H2 { s2 with heap := s2.heap.push { cls := .type "range", data := .fields #[.int 0 s2.toks, .int n t, .int 1 (s2.toks + 1)] }, toks := s2.toks + 1 + 1 } := I2.kept fun b u e => Heap.get?_push_of_some _ e
  have hat : (s2.heap.push { cls := .type "range", data := .fields #[.int 0 s2.toks, .int n t, .int 1 (s2.toks + 1)] }).get? s2.heap.objs.size = some { cls := .type "range", data := .fields #[.int 0 s2.toks, .int n t, .int 1 (s2.toks + 1)] } := Heap.get?_push_size _ rfl
  have I4 : Inv X ((s2.heap.objs.size, { cls := .type "range", data := .fields #[.int 0 s2.toks, .int n t, .int 1 (s2.toks + 1)] }) :: pins) σ H2 _ := I3.pins_of fun p hp => by
    rcases List.mem_cons.mp hp with rfl | hp
    · exact ⟨hat, fp.1, fp.2.1, fp.2.2.1, fun v z => nomatch z⟩
    · exact I3.pin p (List.mem_append_right _ hp)
  refine wpAny_mono (hb.run _ _ σ H2 _ I4 hq) (fun bv s3 hq3 => ?_) fun _ _ e => e
  obtain ⟨y, H3, I5, ry, hR⟩ := hq3
  exact hF bv s3 y H3 (I5.pins_of fun p hp => I5.pin p (List.mem_append_right _ (List.mem_cons_of_mem _ hp))) (I5.pin _ (List.mem_append_right _ (List.mem_cons_self ..))).1 ry hR
theorem pe_listPerm {xp : Str} (hc : X.calm = true) (hgl : Gl X "list") (hml : X.mg "list" = none) (hgr : Gl X "range") (hmr : X.mg "range" = none) (hgp : Gl X xp) (hmp : X.mg xp = some (.type "itertools.permutations")) (ha : PE X a ta) (hb : PE X b tb) (hdb : (xp == ("__debug__" : Str)) = false := by decide)
    (n1 : starEach [.Call (.Name xp pp) [.Call (.Name "range" pr) [a] [] rpos, b] [] ppos] X.env = (false, eval (.Call (.Name xp pp) [.Call (.Name "range" pr) [a] [] rpos, b] [] ppos) X.env) :: starEach [] X.env := by rfl)
    (n2 : starEach [.Call (.Name "range" pr) [a] [] rpos, b] X.env = (false, eval (.Call (.Name "range" pr) [a] [] rpos) X.env) :: starEach [b] X.env := by rfl) (n3 : starEach [b] X.env = (false, eval b X.env) :: starEach [] X.env := by rfl) (n4 : starEach [a] X.env = (false, eval a X.env) :: starEach [] X.env := by rfl)
    (h3 : (backTo ppos (starEach [b] X.env)).any (·.1) = false := by rfl) :
    PE X (.Call (.Name "list" pl) [.Call (.Name xp pp) [.Call (.Name "range" pr) [a] [] rpos, b] [] ppos] [] pos) (tLP ta tb) := by
  refine ⟨fun pins s σ H Q I h => ?_⟩
  refine Call_ (ld_blt I hgl hml boot_list ?_)
  refine PyProof.Rows.callWith_type1 (PyProof.Rows.args_cons ?_ n1) n1 rfl
  refine Call_ (ld_glob I hgp hmp ?_ hdb)
  refine PyProof.Rows.callWith_type1 (PyProof.Rows.args_cons ?_ n2) n2 h3
  refine range_then hgr hmr ha hb n4 I h fun r n t u v s1 H1 _ hev => ?_
  refine PyProof.Rows.args_cons (hev _ fun bv s2 y H2 I2 hr ry hq => ?_) n3
  obtain ⟨k, rfl, hn, hk, q⟩ := hq
  obtain ⟨tk, rfl⟩ := ry
  refine PyProof.Rows.args_nil (wpAny_mono (list_perm hc I2 hr hn hk q) (fun it s3 hq3 => PyProof.Rows.args_nil hq3) fun _ _ e => e)
theorem pi_comb {tg : Expr} {xp : Str} (hgr : Gl X "range") (hmr : X.mg "range" = none) (hgp : Gl X xp) (hmp : X.mg xp = some (.type "itertools.combinations")) (hc : X.calm = true) (ha : PE X a ta) (hb : PE X b tb) (hdb : (xp == ("__debug__" : Str)) = false := by decide)
    (n2 : starEach [.Call (.Name "range" pr) [a] [] rpos, b] X.env = (false, eval (.Call (.Name "range" pr) [a] [] rpos) X.env) :: starEach [b] X.env := by rfl) (n3 : starEach [b] X.env = (false, eval b X.env) :: starEach [] X.env := by rfl) (n4 : starEach [a] X.env = (false, eval a X.env) :: starEach [] X.env := by rfl)
    (h3 : (backTo ppos (starEach [b] X.env)).any (·.1) = false := by rfl) :
    PI X tg (.Call (.Name xp pp) [.Call (.Name "range" pr) [a] [] rpos, b] [] ppos) (tCBn ta tb) := by
  refine ⟨fun pins s σ H R I h => ?_⟩
  refine Call_ (ld_glob I hgp hmp ?_ hdb)
  refine PyProof.Rows.callWith_type1 (PyProof.Rows.args_cons ?_ n2) n2 h3
  refine range_then hgr hmr ha hb n4 I h fun r n t u v s1 H1 _ hev => ?_
  refine PyProof.Rows.args_cons (hev _ fun bv s2 y H2 I2 hr ry hq => ?_) n3
  obtain ⟨k, rfl, hn, hk, q⟩ := hq
  obtain ⟨tk, rfl⟩ := ry
  refine PyProof.Rows.args_nil ?_
  refine call_c (by omega) (I2.ok.hd hc) hr (rng_small n hn) (rng_size n hn) (by omega) fun h' tk' acc hkp hacc => ?_
  obtain ⟨t0, t1, rfl⟩ := pool_of hn hacc
  rw [fldC_obj hn hk]
  have hitx : ((h'.push (seqObj "tuple" (poolV t0 t1 n) 0)).push (objC h'.objs.size (flg 0) .none (numsC n k 0))).get? (h'.push (seqObj "tuple" (poolV t0 t1 n) 0)).objs.size = some (objC h'.objs.size (flg 0) .none (numsC n k 0)) := Heap.get?_push_size _ rfl
  have hpoolx : ((h'.push (seqObj "tuple" (poolV t0 t1 n) 0)).push (objC h'.objs.size (flg 0) .none (numsC n k 0))).get? h'.objs.size = some (seqObj "tuple" (poolV t0 t1 n) 0) := Heap.get?_push_of_some _ (Heap.get?_push_size _ rfl)
  obtain ⟨l1, l2⟩ := outsC_len hn hk
  have I3 : Inv X pins σ H2 { s2 with heap := h', toks := tk' } := I2.kept hkp
  have I4 : Inv X pins σ H2 { s2 with heap := (h'.push (seqObj "tuple" (poolV t0 t1 n) 0)).push (objC h'.objs.size (flg 0) .none (numsC n k 0)), toks := tk' } := I2.kept fun b o e => Heap.get?_push_of_some _ (Heap.get?_push_of_some _ (hkp b o e))
  have hst0 : StC n k (h'.push (seqObj "tuple" (poolV t0 t1 n) 0)).objs.size h'.objs.size 0 ((h'.push (seqObj "tuple" (poolV t0 t1 n) 0)).push (objC h'.objs.size (flg 0) .none (numsC n k 0))) := ⟨_, t0, t1, hitx, hpoolx⟩
  refine (fit_c hn hk _ _).self _ 0 _ _ _ hst0 ?_
  refine ⟨_, _, _, _, H2, rfl, I4, turnF (T := "itertools.combinations") (fit_c hn hk _ h'.objs.size) (by omega) (fun xs hx => by have := l2 xs hx; omega) (fun i h ⟨z, t0, t1, h1, _⟩ => ⟨_, _, h1, rfl, rfl⟩) (by decide) (fun _ _ _ => .inr trivial), ⟨hst0, Nat.zero_le _⟩, fun b hb => ?_, q⟩
  have hle : h'.objs.size ≤ b := by
    rcases List.mem_cons.mp hb with e | hb
    · rw [e, Heap.size_push]; exact Nat.le_succ _
    · rw [List.mem_singleton.mp hb]; exact Nat.le_refl _
  exact I3.fpOk hle (I3.hok.fresh hle)
end
end KdIt
-- K68I7
set_option maxRecDepth 100000
set_option maxHeartbeats 4000000
/-! The rules of permutations and combinations over data. -/
namespace Kd
open PySem PySem.Spec PyProof.Rows L2 KdIt
section
variable {B : Hp} {X : Cx} {δ : Dl} {a b tg : Expr} {pl pp pr pos ppos rpos : Pos} {n k : Nat} {xp : Str}
theorem n_listPerm (hml : X.mg "list" = none) (hmr : X.mg "range" = none) (hmp : X.mg xp = some (.type "itertools.permutations")) (ha : DI B X a δ (n : Nat)) (hb : DI B X b δ (k : Nat)) (hn : n ≤ 2) (hk : k ≤ n) (hc : X.calm = true := by rfl) (hgl : Gl X "list" := by rfl) (hgr : Gl X "range" := by rfl) (hgp : Gl X xp := by rfl) (hdb : (xp == ("__debug__" : Str)) = false := by decide)
    (n1 : starEach [.Call (.Name xp pp) [.Call (.Name "range" pr) [a] [] rpos, b] [] ppos] X.env = (false, eval (.Call (.Name xp pp) [.Call (.Name "range" pr) [a] [] rpos, b] [] ppos) X.env) :: starEach [] X.env := by rfl)
    (n2 : starEach [.Call (.Name "range" pr) [a] [] rpos, b] X.env = (false, eval (.Call (.Name "range" pr) [a] [] rpos) X.env) :: starEach [b] X.env := by rfl) (n3 : starEach [b] X.env = (false, eval b X.env) :: starEach [] X.env := by rfl) (n4 : starEach [a] X.env = (false, eval a X.env) :: starEach [] X.env := by rfl)
    (h3 : (backTo ppos (starEach [b] X.env)).any (·.1) = false := by rfl) :
    DN B X (.Call (.Name "list" pl) [.Call (.Name xp pp) [.Call (.Name "range" pr) [a] [] rpos, b] [] ppos] [] pos) δ ((outsP n k).map natsT) := fun σ H S Q q =>
  (pe_listPerm hc hgl hml hgr hmr hgp hmp pe_D pe_D hdb n1 n2 n3 n4 h3).to (ha σ H S _ fun v H1 e1 r1 => ⟨n, r1.int, hb σ H1 (S.to e1) _ fun w H2 e2 r2 => ⟨k, r2.int, hn, hk, fun H' p ts e3 hp hl hlen ht => by
    have e : Same H H' := (e1.trans e2).trans fun b o h => e3 b o h
    refine q p _ H' ((e1.trans e2).free hp) e hl ?_
    have go : ∀ (outs : List (List Nat)) (ts : List Addr), ts.length = outs.length → (∀ (j : Nat) (t : Addr), ts[j]? = some t → ∃ xs : List Nat, outs[j]? = some xs ∧ H' t = some (.tup (xs.map fun (n : Nat) => V.int n))) → Reps X.K H' (ts.map V.ref) (outs.map natsT) := by
      intro outs
      induction outs with
      | nil => intro ts h _; cases ts with
        | nil => exact .nil
        | cons _ _ => simp at h
      | cons o outs ih =>
        intro ts h1 h2
        cases ts with
        | nil => simp at h1
        | cons t ts =>
          obtain ⟨xs, h3, h4⟩ := h2 0 t rfl
          cases h3
          refine .cons (.t (SqT.of h4) ?_) (ih ts (by simpa using h1) fun j t e => h2 (j + 1) t e)
          have := Reps.of_ints (K := X.K) (H := H') (o.map fun (n : Nat) => (n : Int))
          rw [List.map_map, List.map_map] at this
          exact this
    exact go _ ts hlen ht⟩⟩)
theorem wk_F {K : PySem.W.Frag} {H : Hp} (outs : List (List Nat)) : Wk K (ItF outs) H (outs.map natsT) := by
  refine ⟨fun i x hx => ?_, fun i hi => by rw [List.length_map] at hi; exact hi⟩
  rw [List.getElem?_map] at hx
  cases ho : outs[i]? with
  | none => rw [ho] at hx; cases hx
  | some o =>
    rw [ho] at hx; cases hx
    refine ⟨(List.getElem?_eq_some_iff.mp ho).1, fun v H' hy => ?_⟩
    obtain ⟨t, xs, rfl, hn, h1, rfl⟩ := hy
    rw [ho] at h1; cases h1
    refine ⟨Evl.Ex.new hn, .t (SqT.of (upd_same ..)) ?_⟩
    have := Reps.of_ints (K := K) (H := upd H t (.tup (o.map fun (n : Nat) => V.int n))) (o.map fun (n : Nat) => (n : Int))
    rw [List.map_map, List.map_map] at this
    exact this
theorem it_comb (hmr : X.mg "range" = none) (hmp : X.mg xp = some (.type "itertools.combinations")) (ha : DI B X a δ (n : Nat)) (hb : DI B X b δ (k : Nat)) (hn : n ≤ 2) (hk : k ≤ n) (hc : X.calm = true := by rfl) (hgr : Gl X "range" := by rfl) (hgp : Gl X xp := by rfl) (hdb : (xp == ("__debug__" : Str)) = false := by decide)
    (n2 : starEach [.Call (.Name "range" pr) [a] [] rpos, b] X.env = (false, eval (.Call (.Name "range" pr) [a] [] rpos) X.env) :: starEach [b] X.env := by rfl) (n3 : starEach [b] X.env = (false, eval b X.env) :: starEach [] X.env := by rfl) (n4 : starEach [a] X.env = (false, eval a X.env) :: starEach [] X.env := by rfl)
    (h3 : (backTo ppos (starEach [b] X.env)).any (·.1) = false := by rfl) :
    DItT B X tg (.Call (.Name xp pp) [.Call (.Name "range" pr) [a] [] rpos, b] [] ppos) δ ((outsC n k).map natsT) := fun σ H S R q =>
  (pi_comb hgr hmr hgp hmp hc pe_D pe_D hdb n2 n3 n4 h3).to (ha σ H S _ fun v H1 e1 r1 => ⟨n, r1.int, hb σ H1 (S.to e1) _ fun w H2 e2 r2 => ⟨k, r2.int, hn, hk, q _ H2 (e1.trans e2) fun H3 _ _ => wk_F _⟩⟩)
end
end Kd
-- K68W8
set_option maxRecDepth 100000
set_option maxHeartbeats 4000000
/-! Walks: _told_mean. -/
namespace Kd
open PySem PySem.Spec PyProof.Rows L2 KdIt
def fullN (m : Nat) (fs : List (List Nat)) : List (List Nat) := fs ++ List.replicate (m - fs.length) []
theorem filL_eq (m : Nat) (fs : List (List Nat)) : filL m fs = (fullN m fs).map natsT := by
  unfold filL fullN
  rw [List.map_append, List.map_replicate]; rfl
/-- the places of the image have no mean -/
def mnL (S : Src) (full : List (List Nat)) (im : List Nat) (i : Nat) : List Rat := (((full.zipIdx).take i).filter fun p => !decide (p.2 ∈ im) && !decide (p.1 = [])).map fun p => meanR S p.1
def tmY (S : Src) (full : List (List Nat)) (x : Rat) (N : Nat) (im : List Nat) (i : Nat) : Rat := x * mkRat 1 N * prodL (mnL S full im i)
def orB (c : Nat) (a : List Nat) : List Nat := if a = [] then List.replicate c 0 else a
def tmPow (c k : Nat) (full : List (List Nat)) (lt im : List Nat) (i : Nat) : List (List Nat) := ((lt.zip im).take i).foldl (fun f p => f.set p.1 (orB c (full.getD p.2 []))) (List.replicate k (List.replicate c 0))
def tmK (c k : Nat) (full : List (List Nat)) (lt im : List Nat) : T := facT (tmPow c k full lt im (lt.zip im).length)
def tm1 (S : Src) (c k m : Nat) (lt : List Nat) (p : List (List Nat) × Rat) (im : List Nat) : T × Rat := (tmK c k (fullN m p.1) lt im, tmY S (fullN m p.1) p.2 (outsP m lt.length).length im (fullN m p.1).length)
def tmP (S : Src) (c k m : Nat) (W : Wish) (lt : List Nat) : List (T × Rat) := W.flatMap fun p => (outsP m lt.length).map (tm1 S c k m lt p)
structure SrcC (c : Nat) (S : Src) : Prop where
  ok : SrcOk S
  ne : ∃ p0 S', S = p0 :: S' ∧ p0.1.length = c
def FTold (as : List Ad) (ds : List T) : Prop := ∃ W S c lt k m, WishOk c W ∧ SrcC c S ∧ degW W ≤ m ∧ m ≤ 2 ∧ k ≤ m ∧ lt.length ≤ k ∧ (∀ p ∈ lt, p < k) ∧
  as = [.d (wishT W), .d (srcT S), .d (natsT lt), .d (.i (k : Nat)), .d (.i (m : Nat))] ∧ ds = (tmP S c k m W lt).map prT
abbrev sTold : Stmt := topS 36
theorem scTold : FnScope ["wish", "source", "lot", "k", "degree", "blank", "pairs", "images", "factors", "x", "full", "image", "y", "place", "own", "powers", "sample"] ["wish", "source", "lot", "k", "degree"] (defScope sTold) := ⟨rfl, rfl, rfl, by decide +kernel, rfl, by decide +kernel, by decide +kernel⟩
theorem natsT_inj {a b : List Nat} (h : natsT a = natsT b) : a = b := by
  have := congrArg natL h
  rwa [natL_nats, natL_nats] at this
theorem meanR_bd {S : Src} {a : List Nat} (hS : SrcOk S) (ha : MomOk a) : Bd 40320 75600000 (meanR S a) := by
  have h : Bd (2520 * 16) ((S.map fun p => p.2 * numR p.1 a).length * (2520 * 10000)) (meanR S a) := Bd.sum fun x hx => by
    obtain ⟨p, hp, rfl⟩ := List.mem_map.mp hx
    exact (hS.bd p hp).mul (numR_bd (hS.row p hp) ha)
  refine h.mono ?_
  rw [List.length_map]
  exact Nat.le_trans (Nat.mul_le_mul_right _ hS.len) (by decide)
theorem outsP_pos {n k : Nat} (hn : n ≤ 2) (hk : k ≤ n) : 0 < (outsP n k).length := by
  rcases nk_cases hn hk with ⟨rfl, rfl⟩ | ⟨rfl, rfl⟩ | ⟨rfl, rfl⟩ | ⟨rfl, rfl⟩ | ⟨rfl, rfl⟩ | ⟨rfl, rfl⟩ <;> decide
theorem outsP_in {n k : Nat} (hn : n ≤ 2) (hk : k ≤ n) : ∀ im ∈ outsP n k, im.length = k ∧ ∀ p ∈ im, p < n := by
  rcases nk_cases hn hk with ⟨rfl, rfl⟩ | ⟨rfl, rfl⟩ | ⟨rfl, rfl⟩ | ⟨rfl, rfl⟩ | ⟨rfl, rfl⟩ | ⟨rfl, rfl⟩ <;> decide
theorem outsC_in {n k : Nat} (hn : n ≤ 2) (hk : k ≤ n) : ∀ im ∈ outsC n k, im.length = k ∧ ∀ p ∈ im, p < n := by
  rcases nk_cases hn hk with ⟨rfl, rfl⟩ | ⟨rfl, rfl⟩ | ⟨rfl, rfl⟩ | ⟨rfl, rfl⟩ | ⟨rfl, rfl⟩ | ⟨rfl, rfl⟩ <;> decide
/-! sizes -/
theorem prodL_bd {E L : Nat} {l : List Rat} (h : ∀ x ∈ l, Bd E L x) : Bd (E ^ l.length) (L ^ l.length) (prodL l) := by
  induction l with
  | nil => exact Bd.one
  | cons x r ih =>
    rw [prodL_cons, List.length_cons, Nat.pow_succ, Nat.pow_succ, Nat.mul_comm (E ^ r.length), Nat.mul_comm (L ^ r.length)]
    exact (h x (List.mem_cons_self ..)).mul (ih fun y hy => h y (List.mem_cons_of_mem _ hy))
theorem mnL_ok {S : Src} {full : List (List Nat)} {im : List Nat} {i : Nat} (hS : SrcOk S) (hf : ∀ a ∈ full, a = [] ∨ MomOk a) (hl : full.length ≤ 2) : (mnL S full im i).length ≤ 2 ∧ ∀ x ∈ mnL S full im i, Bd 40320 75600000 x := by
  constructor
  · unfold mnL
    rw [List.length_map]
    refine Nat.le_trans (List.length_filter_le _ _) ?_
    rw [List.length_take, List.length_zipIdx]; omega
  · intro x hx
    unfold mnL at hx
    obtain ⟨p, hp, rfl⟩ := List.mem_map.mp hx
    obtain ⟨h1, h2⟩ := List.mem_filter.mp hp
    have h3 : p.1 ∈ full := by
      have := List.mem_of_mem_take h1
      obtain ⟨a, b⟩ := p
      exact (List.mem_zipIdx' this).2 ▸ List.getElem_mem _
    rw [Bool.and_eq_true] at h2
    have h4 : p.1 ≠ [] := by simpa using h2.2
    rcases hf _ h3 with h | h
    · exact absurd h h4
    · exact meanR_bd hS h
theorem pow_le2 {E : Nat} (hE : 0 < E) {n : Nat} (hn : n ≤ 2) : E ^ n ≤ E ^ 2 := Nat.pow_le_pow_right hE hn
theorem bd_up {E L n : Nat} {q : Rat} (hE : 0 < E) (hEL : E ≤ L) (hn : n ≤ 2) (h : Bd (E ^ n) (L ^ n) q) : Bd (E ^ 2) (L ^ 2) q := by
  have e : E ^ 2 = E ^ n * E ^ (2 - n) := by rw [← Nat.pow_add]; congr 1; omega
  have e2 : L ^ 2 = L ^ n * L ^ (2 - n) := by rw [← Nat.pow_add]; congr 1; omega
  rw [e, e2]
  exact (h.scale (E ^ (2 - n))).mono (Nat.mul_le_mul_left _ (Nat.pow_le_pow_left hEL _))
theorem inv_bd {N : Nat} (h0 : 0 < N) (h2 : N ≤ 2) : Bd 2 2 (mkRat 1 N) := by
  have : N = 1 ∨ N = 2 := by omega
  rcases this with rfl | rfl
  · exact (bd_inv 1 (by decide)).scale 2
  · exact (bd_inv 2 (by decide)).mono (by decide)
def tmD : Nat := 1 * 2 * 40320 ^ 2
def tmM : Nat := 9 * 2 * 75600000 ^ 2
theorem tmY_bd {S : Src} {full : List (List Nat)} {x : Rat} {N : Nat} {im : List Nat} {i : Nat} (hS : SrcOk S) (hf : ∀ a ∈ full, a = [] ∨ MomOk a) (hl : full.length ≤ 2) (hx : Bd 1 9 x) (h0 : 0 < N) (h2 : N ≤ 2) : Bd tmD tmM (tmY S full x N im i) := by
  obtain ⟨l1, l2⟩ := mnL_ok (im := im) (i := i) hS hf hl
  exact (hx.mul (inv_bd h0 h2)).mul (bd_up (by decide) (by decide) l1 (prodL_bd l2))
theorem tm_sm {q : Rat} (h : Bd tmD tmM q) : Sm q := h.lv (by decide) (by decide) (by decide)
theorem full_ok {c m : Nat} {W : Wish} {p : List (List Nat) × Rat} (hW : WishOk c W) (hp : p ∈ W) (hd : degW W ≤ m) (hm : m ≤ 2) : (fullN m p.1).length = m ∧ (∀ a ∈ fullN m p.1, a = [] ∨ (MomOk a ∧ a.length = c)) := by
  have h1 := deg_le hp
  have hc := hW.c2
  refine ⟨by unfold fullN; rw [List.length_append, List.length_replicate]; omega, fun a ha => ?_⟩
  unfold fullN at ha
  rcases List.mem_append.mp ha with ha | ha
  · obtain ⟨h3, h4⟩ := (hW.fac p hp).2 a ha
    exact .inr ⟨⟨by omega, h4⟩, h3⟩
  · exact .inl (List.eq_of_mem_replicate ha)
theorem tmPow_len {c k : Nat} {full : List (List Nat)} {lt im : List Nat} {i : Nat} : (tmPow c k full lt im i).length = k := by
  unfold tmPow
  generalize (lt.zip im).take i = l
  have : ∀ (l : List (Nat × Nat)) (f : List (List Nat)), (l.foldl (fun f p => f.set p.1 (orB c (full.getD p.2 []))) f).length = f.length := by
    intro l
    induction l with
    | nil => intro f; rfl
    | cons p r ih => intro f; rw [List.foldl_cons, ih, List.length_set]
  rw [this, List.length_replicate]
theorem enum_get (full : List (List Nat)) (i : Nat) : (enumFrom 0 (full.map natsT))[i]? = (full.zipIdx[i]?).map fun p => T.t [.i (p.2 : Nat), natsT p.1] := by
  rw [enumFrom_get, List.getElem?_map, List.getElem?_zipIdx]
  cases full[i]? <;> simp
section
variable {P : Program} {w : World} {K : PySem.W.Frag} {mg : Str → Option Value} {base : Heap}
theorem ok_told (D : Def K mg "_told_mean" sTold ["wish", "source", "lot", "k", "degree"]) (ml : mg "len" = none) (mli : mg "list" = none) (mr : mg "range" = none) (mt : mg "tuple" = none) (mz : mg "zip" = none) (me : mg "enumerate" = none) (mp : mg "permutations" = some (.type "itertools.permutations")) (cb : Cst K mg "BLANK" (.t []))
    (GM : FnAt P w K mg base 15 "times" ["x", "y"] (spF K FTimes)) (GF : FnAt P w K mg base 15 "fraction" ["top", "bottom"] (spF K FFrac)) (GA : FnAt P w K mg base 15 "moment_at" ["source", "moment"] (spF K FMean)) (GL : FnAt P w K mg base 15 "_filled" ["factors", "degree"] (spF K FFill)) :
    FnAt P w K mg base 16 "_told_mean" ["wish", "source", "lot", "k", "degree"] (spN K FTold) := by
  refine D.n scTold (by decide) (fun as d h => ?_) fun f cdv A outer s H E hr as d δ1 hF g => ?_
  · obtain ⟨_, _, _, _, _, _, _, _, _, _, _, _, _, rfl, _⟩ := h; rfl
  · obtain ⟨W, S, c, lt, k, m, hW, ⟨hS, p0, S', hS0, hc⟩, hd, hm, hk, hlt, hlk, rfl, rfl⟩ := hF
    rw [given5 g]
    have hu := hr.units
    have hc2 := hW.c2
    have e0 : L2.atI (S.map srP) 0 = some (srP p0) := by rw [hS0]; exact atI_0
    have elt : (lt.map fun (n : Nat) => T.i n).length = lt.length := List.length_map _
    have hN1 := (outsP_len hm (Nat.le_trans hlt hk)).1
    have hN0 := outsP_pos hm (Nat.le_trans hlt hk)
    have hin := outsP_in hm (Nat.le_trans hlt hk)
    refine ss_cons (s_par 5 6 scTold.nd (DR.fd (u := natsT (List.replicate c 0)) ?_) (n_lst dd_nil).fn) ?_
    · rw [natsT_rep]
      refine r_rep1 (k := c) (r_tup (dd_cons r_int dd_nil)) ?_ (by omega)
      exact DR.is (r_lenT ml (r_ixT (r_ixT (r_var 1) r_int e0) r_int (show L2.atI [rowT p0.1, fr p0.2] 0 = some (.t (p0.1.map fr)) from atI_0))) (by rw [List.length_map, hc])
    rintro δ' ⟨s1, s2, k1, k2, rfl⟩
    rw [k1.d']
    obtain ⟨q, rfl⟩ := k2.l'
    refine ss_cons (s_setN 7 scTold.nd (n_listPerm (n := m) (k := lt.length) mli mr mp (r_var 4) (DR.is (r_lenT ml (r_var 2)) (by rw [elt])) hm (Nat.le_trans hlt hk))) ?_
    rintro δ' ⟨q2, rfl⟩
    -- the store between the turns
    refine ss_cons (s_for (xs := W.map wP) (fun i δ' => ∃ z8 z9 z10 z11 z12 z13 z14 z15 z16, δ' = [.d (wishT W), .d (srcT S), .d (natsT lt), .d (.i k), .d (.i m), .d (natsT (List.replicate c 0)), .own q ((tmP S c k m (W.take i) lt).map prT), .own q2 ((outsP m lt.length).map natsT), z8, z9, z10, z11, z12, z13, z14, z15, z16]) (it_tup (by rw [← wishT_eq]; exact r_var 0)) ⟨.no, .no, .no, .no, .no, .no, .no, .no, .no, rfl⟩ ?_) ?_
    · rintro i x δ1 hx ⟨z8, z9, z10, z11, z12, z13, z14, z15, z16, rfl⟩
      rw [List.getElem?_map] at hx
      cases hp : W[i]? with
      | none => rw [hp] at hx; cases hx
      | some p =>
        rw [hp] at hx; cases hx
        have hpm : p ∈ W := List.mem_of_getElem? hp
        obtain ⟨hfl, hfo⟩ := full_ok hW hpm hd hm
        have hfo2 : ∀ a ∈ fullN m p.1, a = [] ∨ MomOk a := fun a ha => (hfo a ha).imp id fun h => h.1
        have hil : i < W.length := (List.getElem?_eq_some_iff.mp hp).1
        refine ⟨_, [8, 9], g_two (i := 8) (j := 9) scTold.nd, ?_⟩
        refine ss_set (s_set 10 scTold.nd (r_call GL hr (da_cons (r_var 8) (da_1 (r_var 4))) ⟨p.1, m, Nat.le_trans (deg_le hpm) hd, hm, rfl, rfl⟩)) ?_
        refine ss_one ((s_forO (xs := (outsP m lt.length).map natsT) 7 (q := q2) (fun j δ' => ∃ z11 z12 z13 z14 z15 z16, δ' = [.d (wishT W), .d (srcT S), .d (natsT lt), .d (.i k), .d (.i m), .d (natsT (List.replicate c 0)), .own q ((tmP S c k m (W.take i) lt ++ ((outsP m lt.length).take j).map (tm1 S c k m lt p)).map prT), .own q2 ((outsP m lt.length).map natsT), .d (facT p.1), .d (fr p.2), .d (.t (filL m p.1)), z11, z12, z13, z14, z15, z16]) (by rintro j δ' ⟨_, _, _, _, _, _, rfl⟩; rfl) ⟨z11, z12, z13, z14, z15, z16, by rw [List.take_zero, List.map_nil, List.append_nil]; rfl⟩ ?_).imp ?_)
        · rintro j x δ1 hx ⟨z11, z12, z13, z14, z15, z16, rfl⟩
          rw [List.getElem?_map] at hx
          cases him : (outsP m lt.length)[j]? with
          | none => rw [him] at hx; cases hx
          | some im =>
            rw [him] at hx; cases hx
            have himm := List.mem_of_getElem? him
            obtain ⟨il, ip⟩ := hin im himm
            refine ⟨_, [11], g_name 11 scTold.nd, ?_⟩
            have ht0 : Lv 200 p.2 := (hW.bd p hpm).lv (by decide) (by decide) (by decide)
            refine ss_set (s_set 12 scTold.nd (r_call GM hr (da_cons (r_var 9) (da_1 (r_call GF hr (da_cons r_int (da_1 (r_lenL ml (r_var 7)))) ⟨1, (outsP m lt.length).length, hN0, by omega, by rw [List.length_map], rfl⟩))) ⟨p.2, mkRat 1 (outsP m lt.length).length, ht0, (inv_bd hN0 hN1).lv (by decide) (by decide) (by decide), rfl, rfl⟩)) ?_
            -- the places
            refine ss_cons (s_for (xs := enumFrom 0 ((fullN m p.1).map natsT)) (fun t δ' => ∃ z13 z14, δ' = [.d (wishT W), .d (srcT S), .d (natsT lt), .d (.i k), .d (.i m), .d (natsT (List.replicate c 0)), .own q ((tmP S c k m (W.take i) lt ++ ((outsP m lt.length).take j).map (tm1 S c k m lt p)).map prT), .own q2 ((outsP m lt.length).map natsT), .d (facT p.1), .d (fr p.2), .d (.t (filL m p.1)), .d (natsT im), .d (fr (tmY S (fullN m p.1) p.2 (outsP m lt.length).length im t)), z13, z14, z15, z16]) (it_enumT me (by rw [← filL_eq]; exact r_var 10)) ⟨z13, z14, ?_⟩ ?_) ?_
            · show _ = [_, _, _, _, _, _, _, _, _, _, _, _, Sd.d (fr (p.2 * mkRat 1 (outsP m lt.length).length * prodL [])), _, _, _, _]
              rw [show prodL [] = 1 from rfl, Rat.mul_one]; rfl
            · rintro t x δ1 hx ⟨z13, z14, rfl⟩
              rw [enum_get] at hx
              cases hz : (fullN m p.1).zipIdx[t]? with
              | none => rw [hz] at hx; cases hx
              | some ap =>
                rw [hz] at hx; cases hx
                obtain ⟨a, pl⟩ := ap
                have ham : a ∈ fullN m p.1 := (List.mem_zipIdx' (List.mem_of_getElem? hz)).2 ▸ List.getElem_mem _
                have hnext : mnL S (fullN m p.1) im (t + 1) = mnL S (fullN m p.1) im t ++ (if (!decide (pl ∈ im) && !decide (a = [])) = true then [meanR S a] else []) := by
                  unfold mnL
                  rw [List.take_add_one, hz, Option.toList_some, List.filter_append, List.map_append]
                  congr 1
                  rw [List.filter_cons]
                  split <;> simp_all
                have hdm : decide (((pl : Nat) : Int) ∈ im.map fun (n : Nat) => (n : Int)) = decide (pl ∈ im) := by
                  rw [Bool.eq_iff_iff, decide_eq_true_iff, decide_eq_true_iff]
                  constructor
                  · intro h
                    obtain ⟨n, h1, h2⟩ := List.mem_map.mp h
                    have : n = pl := by omega
                    rw [← this]; exact h1
                  · intro h; exact List.mem_map.mpr ⟨pl, h, rfl⟩
                have hbl : decide (natsT a = .t []) = decide (a = []) := by
                  rw [Bool.eq_iff_iff, decide_eq_true_iff, decide_eq_true_iff]
                  constructor
                  · intro h; exact natsT_inj (b := []) h
                  · intro h; rw [h]; rfl
                have eim : (im.map fun (n : Nat) => T.i n) = (im.map fun (n : Nat) => (n : Int)).map T.i := by rw [List.map_map]; rfl
                refine ⟨_, [13, 14], g_two (i := 13) (j := 14) scTold.nd, ss_one (s_if (k := !decide (pl ∈ im) && !decide (a = [])) ?_ (fun h => ?_) fun h => ?_)⟩
                · rw [← hdm, ← hbl]
                  refine (w_and (t_notIn (ns := im.map fun (n : Nat) => (n : Int)) (r_var 13) (by rw [← eim]; exact r_var 11)) fun _ => w_and1 (t_neD hu (r_var 14) (r_cst cb) ?_ (by decide))).t
                  exact Nat.le_trans (shp_depth 1 _ (shp_nats a)) (by decide)
                · have hne : a ≠ [] := by
                    rw [Bool.and_eq_true] at h
                    simpa using h.2
                  have hma : MomOk a := (hfo2 a ham).resolve_left hne
                  refine ss_one ((s_set 12 scTold.nd (r_call GM hr (da_cons (r_var 12) (da_1 (r_call GA hr (da_cons (r_var 1) (da_1 (r_var 14))) ⟨S, a, hS, hma, rfl, rfl⟩))) ⟨_, meanR S a, tm_sm (tmY_bd hS hfo2 (by omega) (hW.bd p hpm) hN0 hN1), (meanR_bd hS hma).lv (by decide) (by decide) (by decide), rfl, rfl⟩)).imp ?_)
                  rintro δ' rfl
                  refine ⟨.d (.i pl), .d (natsT a), ?_⟩
                  have : tmY S (fullN m p.1) p.2 (outsP m lt.length).length im (t + 1) = tmY S (fullN m p.1) p.2 (outsP m lt.length).length im t * meanR S a := by
                    unfold tmY
                    rw [hnext, if_pos h, prodL_snoc]
                    grind
                  rw [this]; rfl
                · refine ss_nil ⟨.d (.i pl), .d (natsT a), ?_⟩
                  have : tmY S (fullN m p.1) p.2 (outsP m lt.length).length im (t + 1) = tmY S (fullN m p.1) p.2 (outsP m lt.length).length im t := by
                    unfold tmY
                    rw [hnext, if_neg (by rw [h]; exact Bool.false_ne_true), List.append_nil]
                  rw [this]; rfl
            · rintro δ' ⟨z13, z14, rfl⟩
              rw [enumFrom_length, List.length_map]
              refine ss_cons (s_setN 15 scTold.nd (n_rep1 (k := k) (n_lst (dd_cons (r_var 5) dd_nil)) (r_var 3) (by omega))) ?_
              rintro δ' ⟨q3, rfl⟩
              refine ss_cons (s_for (xs := zipT (lt.map fun (n : Nat) => T.i n) (im.map fun (n : Nat) => T.i n)) (fun t δ' => ∃ z13 z16, δ' = [.d (wishT W), .d (srcT S), .d (natsT lt), .d (.i k), .d (.i m), .d (natsT (List.replicate c 0)), .own q ((tmP S c k m (W.take i) lt ++ ((outsP m lt.length).take j).map (tm1 S c k m lt p)).map prT), .own q2 ((outsP m lt.length).map natsT), .d (facT p.1), .d (fr p.2), .d (.t (filL m p.1)), .d (natsT im), .d (fr (tmY S (fullN m p.1) p.2 (outsP m lt.length).length im (fullN m p.1).length)), z13, z14, .own q3 ((tmPow c k (fullN m p.1) lt im t).map natsT), z16]) (it_zipT mz (r_var 2) (r_var 11)) ⟨z13, z16, ?_⟩ ?_) ?_
              · show _ = [_, _, _, _, _, _, _, _, _, _, _, _, _, _, _, Sd.own q3 ((List.replicate k (List.replicate c 0)).map natsT), _]
                rw [List.map_replicate]; rfl
              · rintro t x δ1 hx ⟨z13, z16, rfl⟩
                obtain ⟨lv, pl, hzz, rfl⟩ := zipT_get hx
                rw [List.zip_map_left, List.getElem?_map] at hzz
                cases hz2 : (lt.zip im)[t]? with
                | none => rw [hz2] at hzz; cases hzz
                | some lp =>
                  rw [hz2] at hzz
                  obtain ⟨sm, pl2⟩ := lp
                  cases hzz
                  have hmem := List.of_mem_zip (List.mem_of_getElem? hz2)
                  have hsm : sm < k := hlk sm hmem.1
                  have hpl : pl2 < (fullN m p.1).length := by rw [hfl]; exact ip pl2 hmem.2
                  have hgd : (fullN m p.1).getD pl2 [] = (fullN m p.1)[pl2] := by rw [List.getD_eq_getElem?_getD, List.getElem?_eq_getElem hpl]; rfl
                  have hat : L2.atI (filL m p.1) ((pl2 : Nat) : Int) = some (natsT ((fullN m p.1).getD pl2 [])) := by
                    rw [filL_eq]
                    refine atI_map (j := pl2) (ixN_nat (by rw [List.length_map]; exact hpl)) ?_
                    rw [List.getElem?_map, List.getElem?_eq_getElem hpl, hgd]; rfl
                  refine ⟨_, [16, 13], g_two (i := 16) (j := 13) scTold.nd, ss_one ((s_put 15 rfl (u := natsT (orB c ((fullN m p.1).getD pl2 []))) ?_ (r_var 16) (by rw [List.length_map, tmPow_len]; exact hsm)).imp ?_)⟩
                  · refine r_orT (xs := ((fullN m p.1).getD pl2 []).map fun (n : Nat) => T.i n) (r_ixT (r_var 10) (r_var 13) hat) (fun h => ?_) fun h => ?_
                    · have : (fullN m p.1).getD pl2 [] ≠ [] := fun z => h (by rw [z]; rfl)
                      unfold orB
                      rw [if_neg this]; rfl
                    · have : (fullN m p.1).getD pl2 [] = [] := by simpa using h
                      unfold orB
                      rw [if_pos this]
                      exact r_one (r_var 5)
                  · rintro δ' rfl
                    refine ⟨.d (.i pl2), .d (.i sm), ?_⟩
                    have : (tmPow c k (fullN m p.1) lt im (t + 1)).map natsT = ((tmPow c k (fullN m p.1) lt im t).map natsT).set sm (natsT (orB c ((fullN m p.1).getD pl2 []))) := by
                      unfold tmPow
                      rw [List.take_add_one, hz2, Option.toList_some, List.foldl_append]
                      show List.map natsT (List.set _ _ _) = _
                      rw [List.map_set]
                    rw [this]; rfl
              · rintro δ' ⟨z13, z16, rfl⟩
                rw [zipT_len, List.zip_map_left, List.length_map]
                have hlen : (tmP S c k m (W.take i) lt ++ ((outsP m lt.length).take j).map (tm1 S c k m lt p)).length < 100000 := by
                  rw [List.length_append, List.length_map, List.length_take]
                  have h1 : (tmP S c k m (W.take i) lt).length ≤ (W.take i).length * 2 := flat_len_le fun x _ => by rw [List.length_map]; exact hN1
                  rw [List.length_take] at h1
                  have := hW.len; omega
                refine ss_one ((s_append 6 rfl (u := prT (tm1 S c k m lt p im)) (r_tup (dd_cons (v := tmK c k (fullN m p.1) lt im) (r_tupL mt (r_var 15)) (dd_cons (r_var 12) dd_nil))) (by rw [List.length_map]; exact hlen)).imp ?_)
                rintro δ' rfl
                refine ⟨.d (natsT im), .d (fr (tmY S (fullN m p.1) p.2 (outsP m lt.length).length im (fullN m p.1).length)), z13, z14, .own q3 ((tmPow c k (fullN m p.1) lt im (lt.zip im).length).map natsT), z16, ?_⟩
                rw [List.take_add_one, him, Option.toList_some, List.map_append, List.map_append, List.map_append, List.map_append, List.append_assoc]
                rfl
        · rintro δ' ⟨z11, z12, z13, z14, z15, z16, rfl⟩
          refine ⟨.d (facT p.1), .d (fr p.2), .d (.t (filL m p.1)), z11, z12, z13, z14, z15, z16, ?_⟩
          rw [List.length_map, List.take_length, List.take_add_one, hp, Option.toList_some]
          have : tmP S c k m (W.take i ++ [p]) lt = tmP S c k m (W.take i) lt ++ (outsP m lt.length).map (tm1 S c k m lt p) := by
            unfold tmP
            rw [List.flatMap_append, List.flatMap_cons, List.flatMap_nil, List.append_nil]
          rw [this]
    · rintro δ' ⟨z8, z9, z10, z11, z12, z13, z14, z15, z16, rfl⟩
      rw [List.length_map, List.take_length]
      exact ss_one (s_retO 6 rfl fun p ws H' hn e h r => ⟨p, ws, rfl, hn, e, h, r⟩)
end
end Kd
-- K68W9
set_option maxRecDepth 100000
set_option maxHeartbeats 4000000
/-! Walks: part_form. -/
namespace Kd
open PySem PySem.Spec PyProof.Rows L2 KdIt
def sgn (d : Nat) : Rat := if d % 2 = 0 then 1 else -1
def sgP (s : Rat) (ps : List (T × Rat)) : List (T × Rat) := ps.map fun p => (p.1, s * p.2)
def pfM (S : Src) (c k m : Nat) (W : Wish) (many : Nat) : List (T × Rat) := (outsC k many).flatMap fun lt => sgP (sgn (k - many)) (tmP S c k m W lt)
def pfP (S : Src) (c k m : Nat) (W : Wish) : List (T × Rat) := (List.range (k + 1)).flatMap (pfM S c k m W)
noncomputable def pfF (S : Src) (c k : Nat) (W : Wish) : List (T × Rat) := gatF (pfP S c k (degW W) W)
def FPart (as : List Ad) (d : T) : Prop := ∃ W S c k, WishOk c W ∧ SrcC c S ∧ k ≤ degW W ∧ as = [.d (wishT W), .d (srcT S), .d (.i (k : Nat))] ∧ d = formT (pfF S c k W)
abbrev sPart : Stmt := topS 37
theorem scPart : FnScope ["wish", "source", "k", "degree", "pairs", "many", "sign", "lot", "powers", "x"] ["wish", "source", "k"] (defScope sPart) := ⟨rfl, rfl, rfl, by decide +kernel, rfl, by decide +kernel, by decide +kernel⟩
theorem sgn_bd (d : Nat) : Bd 1 1 (sgn d) := by
  unfold sgn
  split
  · exact Bd.one
  · exact ⟨-1, by grind, by decide⟩
theorem tmPow_in {c k : Nat} {full : List (List Nat)} {lt im : List Nat} {i : Nat} : ∀ a ∈ tmPow c k full lt im i, a = List.replicate c 0 ∨ (a ∈ full ∧ a ≠ []) := by
  unfold tmPow
  generalize (lt.zip im).take i = l
  have : ∀ (l : List (Nat × Nat)) (f : List (List Nat)), (∀ a ∈ f, a = List.replicate c 0 ∨ (a ∈ full ∧ a ≠ [])) → ∀ a ∈ l.foldl (fun f p => f.set p.1 (orB c (full.getD p.2 []))) f, a = List.replicate c 0 ∨ (a ∈ full ∧ a ≠ []) := by
    intro l
    induction l with
    | nil => intro f h; exact h
    | cons p r ih =>
      intro f h
      rw [List.foldl_cons]
      refine ih _ fun a ha => ?_
      rcases List.mem_or_eq_of_mem_set ha with ha | ha
      · exact h a ha
      · unfold orB at ha
        split at ha
        · exact .inl ha
        · rename_i hne
          refine .inr ⟨?_, by rw [ha]; exact hne⟩
          rw [ha, List.getD_eq_getElem?_getD]
          cases q : full[p.2]? with
          | none => rw [List.getD_eq_getElem?_getD, q] at hne; exact absurd rfl hne
          | some b => exact List.mem_of_getElem? q
  exact this l _ fun a ha => .inl (List.eq_of_mem_replicate ha)
theorem tmP_ok {S : Src} {c k m : Nat} {W : Wish} {lt : List Nat} (hW : WishOk c W) (hS : SrcOk S) (hd : degW W ≤ m) (hm : m ≤ 2) (hl : lt.length ≤ m) : EvOk k tmD tmM 6 (tmP S c k m W lt) := by
  have hN1 := (outsP_len hm hl).1
  have hN0 := outsP_pos hm hl
  refine ⟨fun p hp => ?_, fun p hp => ?_, ?_⟩
  · obtain ⟨w, hw, hp⟩ := List.mem_flatMap.mp hp
    obtain ⟨im, him, rfl⟩ := List.mem_map.mp hp
    obtain ⟨_, hfo⟩ := full_ok hW hw hd hm
    have hlen : ∀ a ∈ tmPow c k (fullN m w.1) lt im (lt.zip im).length, a.length = c := fun a ha => by
      rcases tmPow_in a ha with rfl | ⟨h1, h2⟩
      · simp
      · exact ((hfo a h1).resolve_left h2).2
    refine ⟨_, rfl, by rw [List.length_map, tmPow_len], shps_all.mpr fun x hx => ?_, fun x hx => ?_⟩
    · obtain ⟨a, _, rfl⟩ := List.mem_map.mp hx; exact shp_nats a
    · obtain ⟨a, ha, rfl⟩ := List.mem_map.mp hx
      have := hlen a ha
      have := hW.c2
      exact nats_wd (by omega)
  · obtain ⟨w, hw, hp⟩ := List.mem_flatMap.mp hp
    obtain ⟨im, him, rfl⟩ := List.mem_map.mp hp
    obtain ⟨hfl, hfo⟩ := full_ok hW hw hd hm
    exact tmY_bd hS (fun a ha => (hfo a ha).imp id fun h => h.1) (by omega) (hW.bd w hw) hN0 hN1
  · refine Nat.le_trans (flat_len_le (m := 2) fun x _ => by rw [List.length_map]; exact hN1) ?_
    have := hW.len; omega
theorem EvOk.flat {α : Type} {n D M N : Nat} {l : List α} {f : α → List (T × Rat)} {L : Nat} (h : ∀ x ∈ l, EvOk n D M N (f x)) (hl : l.length ≤ L) : EvOk n D M (L * N) (l.flatMap f) := by
  refine ⟨fun p hp => ?_, fun p hp => ?_, Nat.le_trans (flat_len_le fun x hx => (h x hx).len) (Nat.mul_le_mul_right _ hl)⟩
  · obtain ⟨x, hx, hp⟩ := List.mem_flatMap.mp hp; exact (h x hx).key p hp
  · obtain ⟨x, hx, hp⟩ := List.mem_flatMap.mp hp; exact (h x hx).bd p hp
theorem EvOk.sg {n D M N : Nat} {ps : List (T × Rat)} (h : EvOk n D M N ps) (d : Nat) : EvOk n D M N (sgP (sgn d) ps) :=
  ⟨fun p hp => by obtain ⟨q, hq, rfl⟩ := List.mem_map.mp hp; exact h.key q hq, fun p hp => by
    obtain ⟨q, hq, rfl⟩ := List.mem_map.mp hp
    have := (sgn_bd d).mul (h.bd q hq)
    rw [Nat.one_mul, Nat.one_mul] at this
    exact this, by unfold sgP; rw [List.length_map]; exact h.len⟩
theorem pfM_ok {S : Src} {c k m : Nat} {W : Wish} {many : Nat} (hW : WishOk c W) (hS : SrcOk S) (hd : degW W ≤ m) (hm : m ≤ 2) (hk : k ≤ m) (hmn : many ≤ k) : EvOk k tmD tmM 12 (pfM S c k m W many) :=
  EvOk.flat (L := 2) (fun lt hl => (tmP_ok hW hS hd hm (by rw [(outsC_in (Nat.le_trans hk hm) hmn lt hl).1]; omega)).sg _) (outsC_len (Nat.le_trans hk hm) hmn).1
theorem pfP_ok {S : Src} {c k m : Nat} {W : Wish} (hW : WishOk c W) (hS : SrcOk S) (hd : degW W ≤ m) (hm : m ≤ 2) (hk : k ≤ m) : EvOk k tmD tmM 36 (pfP S c k m W) :=
  EvOk.flat (L := 3) (fun many hl => pfM_ok hW hS hd hm hk (by have := List.mem_range.mp hl; omega)) (by rw [List.length_range]; omega)
section
variable {P : Program} {w : World} {K : PySem.W.Frag} {mg : Str → Option Value} {base : Heap}
theorem ok_part (D : Def K mg "part_form" sPart ["wish", "source", "k"]) (mr : mg "range" = none) (mc : mg "combinations" = some (.type "itertools.combinations")) (c1 : Cst K mg "ONE_layers" (fr 1)) (c2 : Cst K mg "LESS" (fr (-1)))
    (GT : FnAt P w K mg base 16 "tuple_of" ["thing"] (spF K (FTup 12))) (GD : FnAt P w K mg base 16 "wish_degree" ["wish"] (spF K FDeg)) (GM : FnAt P w K mg base 16 "times" ["x", "y"] (spF K FTimes)) (GA : FnAt P w K mg base 16 "_told_mean" ["wish", "source", "lot", "k", "degree"] (spN K FTold)) (GG : FnAt P w K mg base 16 "gathered" ["pairs"] (spF K FGat)) :
    FnAt P w K mg base 17 "part_form" ["wish", "source", "k"] (spF K FPart) := by
  refine D.d scPart (by decide) (fun as d h => ?_) fun f cdv A outer s H E hr as d δ1 hF g => ?_
  · obtain ⟨_, _, _, _, _, _, _, rfl, _⟩ := h; rfl
  · obtain ⟨W, S, c, k, hW, hSc, hk, rfl, rfl⟩ := hF
    rw [given3 g]
    have hS := hSc.ok
    obtain ⟨f1, f2⟩ := wish_ok hW
    obtain ⟨g1, g2⟩ := srcT_ok hS
    have hm2 := deg_two hW
    refine ss_cons (s_par 0 1 scPart.nd (DR.fd (r_call GT hr (da_1 (r_var 0)) ⟨Nat.le_trans f1 (by decide), f2, rfl⟩)) (DR.fd (r_call GT hr (da_1 (r_var 1)) ⟨Nat.le_trans g1 (by decide), g2, rfl⟩))) ?_
    rintro δ' ⟨s1, s2, k1, k2, rfl⟩
    rw [k1.d', k2.d']
    refine ss_cons (s_par 3 4 scPart.nd (DR.fd (r_call GD hr (da_1 (r_var 0)) ⟨c, W, hW, rfl, rfl⟩)) (n_lst dd_nil).fn) ?_
    rintro δ' ⟨s1, s2, k1, k2, rfl⟩
    rw [k1.d']
    obtain ⟨q, rfl⟩ := k2.l'
    refine ss_set (s_skip (t_not (t_leChain r_int (r_var 2) (r_var 3))) ?_) ?_
    · rw [decide_eq_true (by omega : (0 : Int) ≤ (k : Int)), decide_eq_true (by omega : (k : Int) ≤ (degW W : Int))]; rfl
    refine ss_cons (s_for (xs := (List.range (k + 1)).map fun (i : Nat) => T.i i) (fun i δ' => ∃ a b l, δ' = [.d (wishT W), .d (srcT S), .d (.i k), .d (.i (degW W)), .own q ((((List.range (k + 1)).take i).flatMap (pfM S c k (degW W) W)).map prT), a, b, l, .no, .no]) (it_range1 (n := k + 1) mr (r_add (m := (k : Int)) (n := 1) (r_var 2) r_int) (by omega)) ⟨.no, .no, .no, rfl⟩ ?_) ?_
    · rintro i x δ1 hx ⟨a, b, l, rfl⟩
      have hi : i < k + 1 := by
        have := (List.getElem?_eq_some_iff.mp hx).1
        simpa using this
      have hxi : x = .i i := by
        rw [List.getElem?_map, List.getElem?_range hi] at hx
        exact (Option.some.inj hx).symm
      subst hxi
      have hik : i ≤ k := by omega
      refine ⟨_, [5], g_name 5 scPart.nd, ?_⟩
      have e2 : ((k : Int) - (i : Int)) % 2 = (((k - i) % 2 : Nat) : Int) := by omega
      refine ss_set (s_set 6 scPart.nd (u := fr (sgn (k - i))) (r_if (t_eq (r_mod (r_sub (r_var 2) (r_var 5)) r_int (by decide)) r_int) (fun h => ?_) fun h => ?_)) ?_
      · have h := of_decide_eq_true h
        have : (k - i) % 2 = 0 := by omega
        unfold sgn
        rw [if_pos this]
        exact r_cst c1
      · have h := of_decide_eq_false h
        have : ¬ (k - i) % 2 = 0 := by omega
        unfold sgn
        rw [if_neg this]
        exact r_cst c2
      have hlots := outsC_len (n := k) (k := i) (by omega) hik
      have hin := outsC_in (n := k) (k := i) (by omega) hik
      refine ss_one ((s_for (xs := (outsC k i).map natsT) (fun j δ' => ∃ l, δ' = [.d (wishT W), .d (srcT S), .d (.i k), .d (.i (degW W)), .own q ((((List.range (k + 1)).take i).flatMap (pfM S c k (degW W) W) ++ ((outsC k i).take j).flatMap fun lt => sgP (sgn (k - i)) (tmP S c k (degW W) W lt)).map prT), .d (.i i), .d (fr (sgn (k - i))), l, .no, .no]) (it_comb (n := k) (k := i) mr mc (r_var 2) (r_var 5) (by omega) hik) ⟨l, by rw [List.take_zero, List.flatMap_nil, List.append_nil]; rfl⟩ ?_).imp ?_)
      · rintro j x δ1 hx ⟨l, rfl⟩
        rw [List.getElem?_map] at hx
        cases hlt : (outsC k i)[j]? with
        | none => rw [hlt] at hx; cases hx
        | some lt =>
          rw [hlt] at hx; cases hx
          obtain ⟨l1, l2⟩ := hin lt (List.mem_of_getElem? hlt)
          have htm := tmP_ok (k := k) (lt := lt) hW hS (Nat.le_refl (degW W)) hm2 (by omega)
          refine ⟨_, [7], g_name 7 scPart.nd, ss_one ((s_extend 4 rfl (ys := ((tmP S c k (degW W) W lt).filter fun _ => true).map fun p => prT (p.1, sgn (k - i) * p.2)) (n_lcA (own := [("powers", 8), ("x", 9)]) (tmP S c k (degW W) W lt) prT (fun _ => true) (fun p => prT (p.1, sgn (k - i) * p.2)) (fun p => [.d (wishT W), .d (srcT S), .d (.i k), .d (.i (degW W)), .own q ((((List.range (k + 1)).take i).flatMap (pfM S c k (degW W) W) ++ ((outsC k i).take j).flatMap fun lt => sgP (sgn (k - i)) (tmP S c k (degW W) W lt)).map prT), .d (.i i), .d (fr (sgn (k - i))), .d (natsT lt), .d p.1, .d (fr p.2)]) scPart.nd (blkOk_by (by rfl))
            (it_lst (n_call GA hr (da_cons (r_var 0) (da_cons (r_var 1) (da_cons (r_var 7) (da_cons (r_var 2) (da_1 (r_var 3)))))) ⟨W, S, c, lt, k, degW W, hW, hSc, Nat.le_refl _, hm2, hk, by omega, l2, rfl, rfl⟩).dl) (by have := htm.len; omega) (fun s H C cl fp p hp => g_two (i := 8) (j := 9) scPart.nd) (fun s H C cl fp p hp => ts_nil) ?_) ?_).imp ?_)⟩
          · intro s H C cl fp p hp _
            exact r_tup (dd_cons (r_var 8) (dd_cons (r_call GM hr (da_cons (r_var 6) (da_1 (r_var 9))) ⟨sgn (k - i), p.2, (sgn_bd _).lv (by decide) (by decide) (by decide), tm_sm (htm.bd p hp), rfl, rfl⟩) dd_nil))
          · rw [List.length_map, List.length_append, List.length_map, List.filter_eq_self.mpr (fun _ _ => rfl)]
            have h1 := (EvOk.flat (L := 3) (l := (List.range (k + 1)).take i) (f := pfM S c k (degW W) W) (fun many hl => pfM_ok hW hS (Nat.le_refl _) hm2 hk (by have := List.mem_range.mp (List.mem_of_mem_take hl); omega)) (by rw [List.length_take, List.length_range]; omega)).len
            have h2 := (EvOk.flat (L := 2) (l := (outsC k i).take j) (f := fun lt => sgP (sgn (k - i)) (tmP S c k (degW W) W lt)) (fun lt hl => (tmP_ok hW hS (Nat.le_refl _) hm2 (by rw [(hin lt (List.mem_of_mem_take hl)).1]; omega)).sg _) (by rw [List.length_take]; omega)).len
            have := htm.len
            omega
          · rintro δ' rfl
            refine ⟨.d (natsT lt), ?_⟩
            rw [List.take_add_one, hlt, Option.toList_some, List.flatMap_append, List.flatMap_cons, List.flatMap_nil, List.append_nil, List.filter_eq_self.mpr (fun _ _ => rfl)]
            have : (tmP S c k (degW W) W lt).map (fun p => prT (p.1, sgn (k - i) * p.2)) = (sgP (sgn (k - i)) (tmP S c k (degW W) W lt)).map prT := by
              unfold sgP; rw [List.map_map]; rfl
            rw [this, ← List.map_append, List.append_assoc]
            rfl
      · rintro δ' ⟨l, rfl⟩
        refine ⟨.d (.i i), .d (fr (sgn (k - i))), l, ?_⟩
        rw [List.length_map, List.take_length]
        have : ((List.range (k + 1)).take (i + 1)).flatMap (pfM S c k (degW W) W) = ((List.range (k + 1)).take i).flatMap (pfM S c k (degW W) W) ++ pfM S c k (degW W) W i := by
          rw [List.take_add_one, List.getElem?_range hi, Option.toList_some, List.flatMap_append, List.flatMap_cons, List.flatMap_nil, List.append_nil]
        rw [this]; rfl
    · rintro δ' ⟨a, b, l, rfl⟩
      rw [List.length_map, List.take_length]
      have h1 := pfP_ok hW hS (Nat.le_refl (degW W)) hm2 hk
      exact ss_one (s_ret (r_call GG hr (da_1 (r_var 4)) ⟨pfP S c k (degW W) W, h1.gat (by decide) (by decide) (by decide) (by decide), rfl, rfl⟩) fun v H' e r => ⟨e, r⟩)
end
end Kd
-- K68L1
set_option maxRecDepth 100000
set_option maxHeartbeats 4000000
/-! Walks: the law's own numbers. -/
namespace Kd
open PySem PySem.Spec PyProof.Rows L2 KdIt
abbrev sLow : Stmt := topS 44
abbrev sLAdd : Stmt := topS 45
abbrev sLMul : Stmt := topS 46
abbrev sLSum : Stmt := topS 47
abbrev sLNum : Stmt := topS 48
abbrev sLMean : Stmt := topS 49
abbrev sLWorth : Stmt := topS 50
theorem scLow : FnScope ["_law_high", "_law_deep", "_law_near", "_law_far"] ["_law_high", "_law_deep"] (defScope sLow) := ⟨rfl, rfl, rfl, by decide +kernel, rfl, by decide +kernel, by decide +kernel⟩
theorem scLAdd : FnScope ["_law_x", "_law_y"] ["_law_x", "_law_y"] (defScope sLAdd) := ⟨rfl, rfl, rfl, by decide +kernel, rfl, by decide +kernel, by decide +kernel⟩
theorem scLMul : FnScope ["_law_x", "_law_y"] ["_law_x", "_law_y"] (defScope sLMul) := ⟨rfl, rfl, rfl, by decide +kernel, rfl, by decide +kernel, by decide +kernel⟩
theorem scLSum : FnScope ["_law_some", "_law_found", "_law_x"] ["_law_some"] (defScope sLSum) := ⟨rfl, rfl, rfl, by decide +kernel, rfl, by decide +kernel, by decide +kernel⟩
theorem scLNum : FnScope ["_law_row_in", "_law_moment_in", "_law_high", "_law_deep", "_law_x", "_law_many", "_law_lap"] ["_law_row_in", "_law_moment_in"] (defScope sLNum) := ⟨rfl, rfl, rfl, by decide +kernel, rfl, by decide +kernel, by decide +kernel⟩
theorem scLMean : FnScope ["_law_source_in", "_law_moment_in", "_law_row_in", "_law_chance"] ["_law_source_in", "_law_moment_in"] (defScope sLMean) := ⟨rfl, rfl, rfl, by decide +kernel, rfl, by decide +kernel, by decide +kernel⟩
theorem scLWorth : FnScope ["_law_wish_in", "_law_source_in", "_law_total", "_law_factors", "_law_x", "_law_own"] ["_law_wish_in", "_law_source_in"] (defScope sLWorth) := ⟨rfl, rfl, rfl, by decide +kernel, rfl, by decide +kernel, by decide +kernel⟩
def worth1 (S : Src) (p : List (List Nat) × Rat) : Rat := p.2 * prodL (p.1.map (meanR S))
def worthR (S : Src) (W : Wish) : Rat := sumL (W.map (worth1 S))
def FWorth (as : List Ad) (d : T) : Prop := ∃ W S c, WishOk c W ∧ SrcOk S ∧ as = [.d (wishT W), .d (srcT S)] ∧ d = fr (worthR S W)
theorem worth_bd {S : Src} {c : Nat} {W : Wish} (hW : WishOk c W) (hS : SrcOk S) {p : List (List Nat) × Rat} (hp : p ∈ W) (i : Nat) : Bd (40320 ^ 2) (9 * 75600000 ^ 2) (p.2 * prodL ((p.1.take i).map (meanR S))) := by
  obtain ⟨h1, h2⟩ := hW.fac p hp
  have hl : ((p.1.take i).map (meanR S)).length ≤ 2 := by rw [List.length_map, List.length_take]; omega
  have := (hW.bd p hp).mul (bd_up (by decide) (by decide) hl (prodL_bd (E := 40320) (L := 75600000) (l := (p.1.take i).map (meanR S)) fun x hx => by
    obtain ⟨a, ha, rfl⟩ := List.mem_map.mp hx
    obtain ⟨h3, h4⟩ := h2 a (List.mem_of_mem_take ha)
    exact meanR_bd hS ⟨by have := hW.c2; omega, h4⟩))
  rw [Nat.one_mul] at this
  exact this
theorem fr_mk' {a : Int} {b : Nat} (hb : 0 < b) : fr (mkRat a b) = .t [.i (a / ((Nat.gcd a.natAbs b : Nat) : Int)), .i ((b : Int) / ((Nat.gcd a.natAbs b : Nat) : Int))] := fr_mk a b hb
theorem mk_mul (a : Int) (b : Nat) (x : Rat) (hb : b ≠ 0) : mkRat a b * x = mkRat (a * x.num) (b * x.den) := by
  conv => lhs; rw [← Rat.mkRat_self x]
  rw [Rat.mkRat_mul_mkRat]
section
variable {P : Program} {w : World} {K : PySem.W.Frag} {mg : Str → Option Value} {base : Heap}
theorem ok_low (D : Def K mg "_law_low" sLow ["_law_high", "_law_deep"]) (ma : mg "abs" = none) (mi : mg "int" = none) : FnAt P w K mg base 1 "_law_low" ["_law_high", "_law_deep"] (spF K FFrac) := by
  refine D.d scLow (by decide) (fun as d h => ?_) fun f cdv A outer s H E hr as d δ1 hF g => ?_
  · obtain ⟨a, b, _, _, rfl, _⟩ := h; rfl
  · obtain ⟨a, b, hb, hb2, rfl, rfl⟩ := hF
    rw [given2 g]
    refine ss_cons (s_par 2 3 scLow.nd (DR.fd (r_abs ma (r_var 0))) (DR.fd (r_var 1))) ?_
    rintro δ' ⟨s1, s2, k1, k2, rfl⟩
    rw [k1.d', k2.d']
    refine ss_cons (M := fun δ' => δ' = [.d (.i a), .d (.i b), .d (.i ((Nat.gcd a.natAbs b : Nat) : Int)), .d (.i 0)]) (s_while (fun m δ' => ∃ n : Nat, Nat.gcd n m = Nat.gcd a.natAbs b ∧ δ' = [.d (.i a), .d (.i b), .d (.i n), .d (.i m)]) ⟨b, a.natAbs, rfl, rfl⟩ ?_) ?_
    · rintro m δ' ⟨n, hg, rfl⟩
      refine ⟨_, t_gt (r_var 3) r_int, fun hm => ?_, fun hm => ?_⟩
      · have hm : 0 < m := by simpa using of_decide_eq_true hm
        refine ss_one ((s_par 2 3 scLow.nd (DR.fd (r_var 3)) (DR.fd (r_mod (r_intI mi (r_var 2)) (r_var 3) (by omega)))).imp ?_)
        rintro δ' ⟨s1, s2, k1, k2, rfl⟩
        rw [k1.d', k2.d']
        refine ⟨n % m, Nat.mod_lt _ hm, m, ?_, ?_⟩
        · rw [← hg, Nat.gcd_comm n m, Nat.gcd_rec m n, Nat.gcd_comm]
        · have : (n : Int) % (m : Int) = ((n % m : Nat) : Int) := by omega
          rw [this]; rfl
      · have hm : m = 0 := by
          have := of_decide_eq_false hm
          omega
        subst hm
        rw [Nat.gcd_zero_right] at hg
        rw [hg]; rfl
    · rintro δ' rfl
      have hg0 : 0 < Nat.gcd a.natAbs b := Nat.gcd_pos_of_pos_right _ hb
      have hgb : Nat.gcd a.natAbs b ≤ b := Nat.gcd_le_right _ hb
      have hw : ∀ m, CDivW m (((Nat.gcd a.natAbs b : Nat) : Int)) := fun m => wide_div (b := 400) (by omega) (by simp only [Int.natAbs_natCast]; omega) (by decide) (by decide)
      refine ss_one (s_ret (r_tup (dd_cons (r_divW (r_var 0) (r_var 2) (hw _)) (dd_cons (r_divW (r_var 1) (r_var 2) (hw _)) dd_nil))) fun v H' e r => ⟨e, ?_⟩)
      rw [fr_mk a b hb]; exact r
theorem ok_lmul (D : Def K mg "_law_mul" sLMul ["_law_x", "_law_y"]) (GF : FnAt P w K mg base 1 "_law_low" ["_law_high", "_law_deep"] (spF K FFrac)) : FnAt P w K mg base 2 "_law_mul" ["_law_x", "_law_y"] (spF K FTimes) := by
  refine D.d scLMul (by decide) (fun as d h => ?_) fun f cdv A outer s H E hr as d δ1 hF g => ?_
  · obtain ⟨a, b, _, _, rfl, _⟩ := h; rfl
  · obtain ⟨x, y, hx, hy, rfl, rfl⟩ := hF
    rw [given2 g]
    refine ss_one (s_ret (r_call GF hr (da_cons (r_mulW (r_ixT (r_var 0) r_int fr0) (r_ixT (r_var 1) r_int fr0) (wide_Sm hx.1 hy.1)) (da_1 (r_mulW (r_ixT (r_var 0) r_int fr1) (r_ixT (r_var 1) r_int fr1) (wide_nat hx.2 hy.2))))
      ⟨x.num * y.num, x.den * y.den, Nat.mul_pos x.den_pos y.den_pos, den400 hx hy, by simp, rfl⟩) fun v H' e r => ⟨e, ?_⟩)
    rw [Rat.mul_def']; exact r
theorem ok_ladd (D : Def K mg "_law_add" sLAdd ["_law_x", "_law_y"]) (GF : FnAt P w K mg base 1 "_law_low" ["_law_high", "_law_deep"] (spF K FFrac)) : FnAt P w K mg base 2 "_law_add" ["_law_x", "_law_y"] (spF K FPlus) := by
  refine D.d scLAdd (by decide) (fun as d h => ?_) fun f cdv A outer s H E hr as d δ1 hF g => ?_
  · obtain ⟨a, b, _, _, rfl, _⟩ := h; rfl
  · obtain ⟨x, y, hx, hy, rfl, rfl⟩ := hF
    rw [given2 g]
    refine ss_one (s_ret (r_call GF hr (da_cons (r_add (r_mulW (r_ixT (r_var 0) r_int fr0) (r_ixT (r_var 1) r_int fr1) (wide_Sm hx.1 (by simpa using hy.2))) (r_mulW (r_ixT (r_var 1) r_int fr0) (r_ixT (r_var 0) r_int fr1) (wide_Sm hy.1 (by simpa using hx.2)))) (da_1 (r_mulW (r_ixT (r_var 0) r_int fr1) (r_ixT (r_var 1) r_int fr1) (wide_nat hx.2 hy.2))))
      ⟨x.num * y.den + y.num * x.den, x.den * y.den, Nat.mul_pos x.den_pos y.den_pos, den400 hx hy, by simp, rfl⟩) fun v H' e r => ⟨e, ?_⟩)
    rw [Rat.add_def']; exact r
theorem fr_zero : fr 0 = .t [.i 0, .i 1] := rfl
theorem fr_one : fr 1 = .t [.i 1, .i 1] := rfl
theorem ok_lsum (D : Def K mg "_law_sum" sLSum ["_law_some"]) (GP : FnAt P w K mg base 2 "_law_add" ["_law_x", "_law_y"] (spF K FPlus)) : FnAt P w K mg base 3 "_law_sum" ["_law_some"] (spF K FSum) := by
  refine D.d scLSum (by decide) (fun as d h => ?_) fun f cdv A outer s H E hr as d δ1 hF g => ?_
  · obtain ⟨xs, _, rfl, _⟩ := h; rfl
  · obtain ⟨xs, hs, rfl, rfl⟩ := hF
    obtain ⟨p, rfl⟩ := givenL g
    refine ss_set (s_set 1 scLSum.nd (r_tup (dd_cons r_int (dd_cons r_int dd_nil)))) ?_
    refine ss_cons (s_for (xs := xs.map fr) (fun i δ' => ∃ a, δ' = [.bas p (xs.map fr), .d (fr (sumL (xs.take i))), a]) (it_bas 0) ⟨.no, rfl⟩ ?_) ?_
    · rintro i x δ1 hx ⟨a, rfl⟩
      rw [List.getElem?_map] at hx
      cases hq : xs[i]? with
      | none => rw [hq] at hx; cases hx
      | some q =>
        rw [hq] at hx; cases hx
        have hm : q ∈ xs := List.mem_of_getElem? hq
        refine ⟨_, [2], g_name 2 scLSum.nd, ss_one ((s_set 1 scLSum.nd (r_call GP hr (da_cons (r_var 1) (da_1 (r_var 2))) ⟨_, q, hs.2 i, hs.1 q hm, rfl, rfl⟩)).imp ?_)⟩
        rintro δ' rfl
        refine ⟨.d (fr q), ?_⟩
        rw [List.take_add_one, hq, Option.toList_some, sumL_snoc]
        rfl
    · rintro δ' ⟨a, rfl⟩
      refine ss_one (s_ret (r_var 1) fun v H' e r => ⟨e, ?_⟩)
      rw [List.length_map, List.take_length] at r
      exact r
end
end Kd
-- K68L2
set_option maxRecDepth 100000
set_option maxHeartbeats 4000000
/-! Walks: _law_number, _law_mean, _law_worth. -/
namespace Kd
open PySem PySem.Spec PyProof.Rows L2 KdIt
def nmL (l : List (Rat × Nat)) : Int := l.foldl (fun h p => h * p.1.num ^ p.2) 1
def dnL (l : List (Rat × Nat)) : Nat := l.foldl (fun h p => h * p.1.den ^ p.2) 1
theorem nmL_snoc (l : List (Rat × Nat)) (p : Rat × Nat) : nmL (l ++ [p]) = nmL l * p.1.num ^ p.2 := by unfold nmL; rw [List.foldl_append]; rfl
theorem dnL_snoc (l : List (Rat × Nat)) (p : Rat × Nat) : dnL (l ++ [p]) = dnL l * p.1.den ^ p.2 := by unfold dnL; rw [List.foldl_append]; rfl
theorem ind_snoc {α : Type} {p : List α → Prop} (h0 : p []) (h1 : ∀ l x, p l → p (l ++ [x])) (l : List α) : p l := by
  have : ∀ r : List α, p r.reverse := by
    intro r
    induction r with
    | nil => exact h0
    | cons x r ih => rw [List.reverse_cons]; exact h1 _ _ ih
  have h := this l.reverse
  rwa [List.reverse_reverse] at h
theorem mk_pow (q : Rat) (n : Nat) : mkRat (q.num ^ n) (q.den ^ n) = q ^ n := by
  have e1 : q.num ^ n = (q ^ n).num := by simp
  have e2 : q.den ^ n = (q ^ n).den := by rw [Rat.den_pow]
  rw [e1, e2, Rat.mkRat_self]
theorem num_eq (l : List (Rat × Nat)) : mkRat (nmL l) (dnL l) = prodL (l.map fun p => p.1 ^ p.2) ∧ 0 < dnL l := by
  refine ind_snoc (p := fun l => mkRat (nmL l) (dnL l) = prodL (l.map fun p => p.1 ^ p.2) ∧ 0 < dnL l) ⟨rfl, by decide⟩ (fun l x ih => ?_) l
  rw [nmL_snoc, dnL_snoc, List.map_append, List.map_cons, List.map_nil, prodL_snoc, ← ih.1, ← mk_pow x.1 x.2, Rat.mkRat_mul_mkRat]
  exact ⟨rfl, Nat.mul_pos ih.2 (Nat.pow_pos x.1.den_pos)⟩
theorem dpow_lt {n : Nat} (h : n < 2 ^ 10) (e : Nat) : n ^ e < 2 ^ (10 * e + 1) := by
  induction e with
  | zero => simp
  | succ e ih =>
    rw [Nat.pow_succ]
    have := Nat.mul_lt_mul'' ih h
    rw [← Nat.pow_add] at this
    exact Nat.lt_of_lt_of_le this (Nat.pow_le_pow_right (by decide) (by omega))
theorem nmL_lt {l : List (Rat × Nat)} : (∀ p ∈ l, Lv 10 p.1 ∧ p.2 ≤ 2) → (nmL l).natAbs < 2 ^ (21 * l.length + 1) ∧ dnL l < 2 ^ (21 * l.length + 1) := by
  refine ind_snoc (p := fun l => (∀ p ∈ l, Lv 10 p.1 ∧ p.2 ≤ 2) → (nmL l).natAbs < 2 ^ (21 * l.length + 1) ∧ dnL l < 2 ^ (21 * l.length + 1)) (fun _ => by decide) (fun l x ih h => ?_) l
  obtain ⟨i1, i2⟩ := ih fun p hp => h p (by simp [hp])
  obtain ⟨h1, h2⟩ := h x (by simp)
  have e1 := npow_lt h1.1 x.2
  have e2 := dpow_lt h1.2 x.2
  rw [nmL_snoc, dnL_snoc, List.length_append, List.length_cons, List.length_nil, Int.natAbs_mul]
  have a1 := Nat.mul_lt_mul'' i1 e1
  have a2 := Nat.mul_lt_mul'' i2 e2
  rw [← Nat.pow_add] at a1 a2
  exact ⟨Nat.lt_of_lt_of_le a1 (Nat.pow_le_pow_right (by decide) (by omega)), Nat.lt_of_lt_of_le a2 (Nat.pow_le_pow_right (by decide) (by omega))⟩
section
variable {B : Hp} {X : Cx} {δ δ1 : Dl} {e tg : Expr} {pos : Pos} {u : T} {js : List Nat} {Rt : VK}
/-- a, b = a datum -/
theorem s_unp (h : DX B X e δ u) (g : DG B X tg δ u δ1 js) (hs : swapsWithSole [tg] e pos.line X.env = pure false := by rfl) (hw : swappedStores [tg] e X.env = pure none := by rfl) (h1 : (assignEach [tg] X.env).map (·.2) = [assign tg X.env] := by rfl) : DS B X (.Assign [tg] e pos) δ (fun δ' => δ' = δ1) Rt := fun σ H S D q1 q2 =>
  (ps_asg pe_D pg_D hs hw h1).to (h σ H S _ fun v H1 e1 r1 => g σ H1 v (S.to e1) r1.dat _ fun σ' S' _ => q1 _ _ _ rfl S' e1.tex)
end
section
variable {P : Program} {w : World} {K : PySem.W.Frag} {mg : Str → Option Value} {base : Heap}
theorem ok_lnum (D : Def K mg "_law_number" sLNum ["_law_row_in", "_law_moment_in"]) (mz : mg "zip" = none) (mr : mg "range" = none) (GF : FnAt P w K mg base 1 "_law_low" ["_law_high", "_law_deep"] (spF K FFrac)) :
    FnAt P w K mg base 2 "_law_number" ["_law_row_in", "_law_moment_in"] (spF K FRow) := by
  refine D.d scLNum (by decide) (fun as d h => ?_) fun f cdv A outer s H E hr as d δ1 hF g => ?_
  · obtain ⟨_, _, _, _, rfl, _⟩ := h; rfl
  · obtain ⟨r, a, hr1, ha, rfl, rfl⟩ := hF
    rw [given2 g]
    have hz : ∀ i, ∀ p ∈ (r.zip a).take i, Lv 10 p.1 ∧ p.2 ≤ 2 := fun i p hp => by
      have := zip_sub hr1 ha (q := p.1) (n := p.2) (List.mem_of_mem_take hp)
      exact ⟨bd_Lv10 this.1, this.2⟩
    have hzl : (r.zip a).length ≤ 2 := by rw [List.length_zip]; have := hr1.len; omega
    have hb : ∀ i, (nmL ((r.zip a).take i)).natAbs < 2 ^ 50 ∧ dnL ((r.zip a).take i) < 2 ^ 50 := fun i => by
      obtain ⟨b1, b2⟩ := nmL_lt (hz i)
      have : ((r.zip a).take i).length ≤ 2 := by rw [List.length_take]; omega
      exact ⟨Nat.lt_of_lt_of_le b1 (Nat.pow_le_pow_right (by decide) (by omega)), Nat.lt_of_lt_of_le b2 (Nat.pow_le_pow_right (by decide) (by omega))⟩
    refine ss_set (s_unp (r_tup (dd_cons r_int (dd_cons r_int dd_nil))) (g_two (js := [2, 3]) (i := 2) (j := 3) scLNum.nd)) ?_
    refine ss_cons (s_for (xs := zipT (r.map fr) (a.map fun (n : Nat) => T.i n)) (fun i δ' => ∃ b c d, δ' = [.d (rowT r), .d (natsT a), .d (.i (nmL ((r.zip a).take i))), .d (.i (dnL ((r.zip a).take i) : Nat)), b, c, d]) (it_zipT mz (r_var 0) (r_var 1)) ⟨.no, .no, .no, rfl⟩ ?_) ?_
    · rintro i x δ1 hx ⟨b, c, d, rfl⟩
      obtain ⟨q, n, hq, rfl⟩ := zipT_row hx
      have hm := List.mem_of_getElem? hq
      obtain ⟨b1, b2⟩ := zip_sub hr1 ha hm
      have hq10 := bd_Lv10 b1
      refine ⟨_, [4, 5], g_two (i := 4) (j := 5) scLNum.nd, ?_⟩
      refine ss_one ((s_for (xs := (List.range n).map fun (i : Nat) => T.i i) (fun t δ' => ∃ d, δ' = [.d (rowT r), .d (natsT a), .d (.i (nmL ((r.zip a).take i) * q.num ^ t)), .d (.i ((dnL ((r.zip a).take i) * q.den ^ t : Nat) : Int)), .d (fr q), .d (.i n), d]) (it_range1 mr (r_var 5) (by omega)) ⟨d, by rw [Int.pow_zero, Nat.pow_zero, Int.mul_one, Nat.mul_one]; rfl⟩ ?_).imp ?_)
      · rintro t x δ1 hx ⟨d, rfl⟩
        have ht : t < n := by
          have := (List.getElem?_eq_some_iff.mp hx).1
          simpa using this
        have hbt1 : (nmL ((r.zip a).take i) * q.num ^ t).natAbs < 2 ^ 90 := by
          rw [Int.natAbs_mul]
          have := Nat.mul_lt_mul'' (hb i).1 (npow_lt hq10.1 t)
          rw [← Nat.pow_add] at this
          exact Nat.lt_of_lt_of_le this (Nat.pow_le_pow_right (by decide) (by omega))
        have hbt2 : dnL ((r.zip a).take i) * q.den ^ t < 2 ^ 90 := by
          have := Nat.mul_lt_mul'' (hb i).2 (dpow_lt hq10.2 t)
          rw [← Nat.pow_add] at this
          exact Nat.lt_of_lt_of_le this (Nat.pow_le_pow_right (by decide) (by omega))
        refine ⟨_, [6], g_name 6 scLNum.nd, ss_one ((s_par 2 3 scLNum.nd (DR.fd (r_mulW (r_var 2) (r_ixT (r_var 4) r_int fr0) (wide_mul hbt1 hq10.1 (by decide) (by decide) (by decide)))) (DR.fd (r_mulW (r_var 3) (r_ixT (r_var 4) r_int fr1) (wide_mul (a := 90) (b := 10) (by rw [Int.natAbs_natCast]; exact hbt2) (by simpa using hq10.2) (by decide) (by decide) (by decide))))).imp ?_)⟩
        rintro δ' ⟨s1, s2, k1, k2, rfl⟩
        rw [k1.d', k2.d']
        refine ⟨.d x, ?_⟩
        have e1 : nmL ((r.zip a).take i) * q.num ^ (t + 1) = nmL ((r.zip a).take i) * q.num ^ t * q.num := by rw [Int.pow_succ, Int.mul_assoc]
        have e2 : ((dnL ((r.zip a).take i) * q.den ^ (t + 1) : Nat) : Int) = ((dnL ((r.zip a).take i) * q.den ^ t : Nat) : Int) * (q.den : Int) := by
          rw [Nat.pow_succ, ← Nat.mul_assoc]; exact Int.natCast_mul _ _
        rw [e1, e2]; rfl
      · rintro δ' ⟨d, rfl⟩
        refine ⟨.d (fr q), .d (.i n), d, ?_⟩
        rw [List.length_map, List.length_range, List.take_add_one, hq, Option.toList_some, nmL_snoc, dnL_snoc]
    · rintro δ' ⟨b, c, d, rfl⟩
      rw [zipT_len, List.zip_map_left, List.length_map, List.take_length]
      obtain ⟨e1, e2⟩ := num_eq (r.zip a)
      have hb2 := (hb (r.zip a).length).2
      rw [List.take_length] at hb2
      refine ss_one (s_ret (r_call GF hr (da_cons (r_var 2) (da_1 (r_var 3))) ⟨nmL (r.zip a), dnL (r.zip a), e2, Nat.lt_trans hb2 (by decide +kernel), rfl, rfl⟩) fun v H' e r => ⟨e, ?_⟩)
      rw [e1] at r; exact r
theorem ok_lmean (D : Def K mg "_law_mean" sLMean ["_law_source_in", "_law_moment_in"]) (GM : FnAt P w K mg base 3 "_law_mul" ["_law_x", "_law_y"] (spF K FTimes)) (GS : FnAt P w K mg base 3 "_law_sum" ["_law_some"] (spF K FSum)) (GR : FnAt P w K mg base 3 "_law_number" ["_law_row_in", "_law_moment_in"] (spF K FRow)) :
    FnAt P w K mg base 4 "_law_mean" ["_law_source_in", "_law_moment_in"] (spF K FMean) := by
  refine D.d scLMean (by decide) (fun as d h => ?_) fun f cdv A outer s H E hr as d δ1 hF g => ?_
  · obtain ⟨_, _, _, _, rfl, _⟩ := h; rfl
  · obtain ⟨S, a, hS, ha, rfl, rfl⟩ := hF
    rw [given2 g]
    have hb : ∀ p ∈ S, Bd (2520 * 16) (2520 * 10000) (p.2 * numR p.1 a) := fun p hp => (hS.bd p hp).mul (numR_bd (hS.row p hp) ha)
    have hsm : SmSums (S.map fun p => p.2 * numR p.1 a) := SmSums.of (n := 3) (fun x hx => by
      obtain ⟨p, hp, rfl⟩ := List.mem_map.mp hx; exact hb p hp) (by decide) (by decide) (by rw [List.length_map]; exact hS.len) (by decide) (by decide)
    refine ss_one (s_ret (r_call GS hr (da_1 (DN.dl (xs := (S.filter fun _ => true).map fun p => fr (p.2 * numR p.1 a)) ?_)) ⟨_, hsm, ?_, rfl⟩) fun v H' e r => ⟨e, r⟩)
    · refine n_lcA (own := [("_law_row_in", 2), ("_law_chance", 3)]) S srP (fun _ => true) (fun p => fr (p.2 * numR p.1 a)) (fun p => [.d (srcT S), .d (natsT a), .d (rowT p.1), .d (fr p.2)]) scLMean.nd (blkOk_by (by rfl)) (it_tup (r_var 0)).s (by have := hS.len; omega) (fun s H C cl fp p hp => g_two (i := 2) (j := 3) scLMean.nd) (fun s H C cl fp x hx => ts_nil) ?_
      intro s H C cl fp p hp _
      exact r_call GM hr (da_cons (r_var 3) (da_1 (r_call GR hr (da_cons (r_var 2) (da_1 (r_var 1))) ⟨p.1, a, hS.row p hp, ha, rfl, rfl⟩))) ⟨p.2, numR p.1 a, (hS.bd p hp).lv (by decide) (by decide) (by decide), (numR_bd (hS.row p hp) ha).lv (by decide) (by decide) (by decide), rfl, rfl⟩
    · rw [List.filter_eq_self.mpr (fun _ _ => rfl), List.map_map]; rfl
theorem ok_lworth (D : Def K mg "_law_worth" sLWorth ["_law_wish_in", "_law_source_in"]) (GM : FnAt P w K mg base 4 "_law_mul" ["_law_x", "_law_y"] (spF K FTimes)) (GP : FnAt P w K mg base 4 "_law_add" ["_law_x", "_law_y"] (spF K FPlus)) (GA : FnAt P w K mg base 4 "_law_mean" ["_law_source_in", "_law_moment_in"] (spF K FMean)) :
    FnAt P w K mg base 5 "_law_worth" ["_law_wish_in", "_law_source_in"] (spF K FWorth) := by
  refine D.d scLWorth (by decide) (fun as d h => ?_) fun f cdv A outer s H E hr as d δ1 hF g => ?_
  · obtain ⟨_, _, _, _, _, rfl, _⟩ := h; rfl
  · obtain ⟨W, S, c, hW, hS, rfl, rfl⟩ := hF
    rw [given2 g]
    have hws : SmSums (W.map (worth1 S)) := SmSums.of (D := 40320 ^ 2) (M := 9 * 75600000 ^ 2) (n := 3) (fun x hx => by
      obtain ⟨p, hp, rfl⟩ := List.mem_map.mp hx
      have := worth_bd hW hS hp p.1.length
      rw [List.take_length] at this
      exact this) (by decide) (by decide) (by rw [List.length_map]; exact hW.len) (by decide) (by decide)
    refine ss_set (s_set 2 scLWorth.nd (r_tup (dd_cons r_int (dd_cons r_int dd_nil)))) ?_
    refine ss_cons (s_for (xs := W.map wP) (fun i δ' => ∃ a b c, δ' = [.d (wishT W), .d (srcT S), .d (fr (sumL ((W.map (worth1 S)).take i))), a, b, c]) (it_tup (by rw [← wishT_eq]; exact r_var 0)) ⟨.no, .no, .no, rfl⟩ ?_) ?_
    · rintro i x δ1 hx ⟨a, b, c', rfl⟩
      rw [List.getElem?_map] at hx
      cases hp : W[i]? with
      | none => rw [hp] at hx; cases hx
      | some p =>
        rw [hp] at hx; cases hx
        have hpm : p ∈ W := List.mem_of_getElem? hp
        refine ⟨_, [3, 4], g_two (i := 3) (j := 4) scLWorth.nd, ?_⟩
        refine ss_cons (s_for (xs := p.1.map natsT) (fun j δ' => ∃ c, δ' = [.d (wishT W), .d (srcT S), .d (fr (sumL ((W.map (worth1 S)).take i))), .d (facT p.1), .d (fr (p.2 * prodL ((p.1.take j).map (meanR S)))), c]) (it_tup (r_var 3)) ⟨c', by
          show _ = [_, _, _, _, Sd.d (fr (p.2 * prodL [])), _]
          rw [show prodL [] = 1 from rfl, Rat.mul_one]; rfl⟩ ?_) ?_
        · rintro j x δ1 hx ⟨c', rfl⟩
          rw [List.getElem?_map] at hx
          cases hm : p.1[j]? with
          | none => rw [hm] at hx; cases hx
          | some m =>
            rw [hm] at hx; cases hx
            have hmm : MomOk m := by
              obtain ⟨h3, h4⟩ := (hW.fac p hpm).2 m (List.mem_of_getElem? hm)
              exact ⟨by have := hW.c2; omega, h4⟩
            refine ⟨_, [5], g_name 5 scLWorth.nd, ss_one ((s_set 4 scLWorth.nd (r_call GM hr (da_cons (r_var 4) (da_1 (r_call GA hr (da_cons (r_var 1) (da_1 (r_var 5))) ⟨S, m, hS, hmm, rfl, rfl⟩))) ⟨_, meanR S m, (worth_bd hW hS hpm j).lv (by decide) (by decide) (by decide), (meanR_bd hS hmm).lv (by decide) (by decide) (by decide), rfl, rfl⟩)).imp ?_)⟩
            rintro δ' rfl
            refine ⟨.d (natsT m), ?_⟩
            have : p.2 * prodL ((p.1.take (j + 1)).map (meanR S)) = p.2 * prodL ((p.1.take j).map (meanR S)) * meanR S m := by
              rw [List.take_add_one, hm, Option.toList_some, List.map_append, List.map_cons, List.map_nil, prodL_snoc]; grind
            rw [this]; rfl
        · rintro δ' ⟨c', rfl⟩
          rw [List.length_map, List.take_length]
          have hget : (W.map (worth1 S))[i]? = some (worth1 S p) := by rw [List.getElem?_map, hp]; rfl
          refine ss_one ((s_set 2 scLWorth.nd (r_call GP hr (da_cons (r_var 2) (da_1 (r_var 4))) ⟨_, worth1 S p, hws.2 i, hws.1 _ (List.mem_of_getElem? hget), rfl, rfl⟩)).imp ?_)
          rintro δ' rfl
          refine ⟨.d (facT p.1), .d (fr (worth1 S p)), c', ?_⟩
          rw [List.take_add_one, hget, Option.toList_some, sumL_snoc]
          rfl
    · rintro δ' ⟨a, b, c', rfl⟩
      refine ss_one (s_ret (r_var 2) fun v H' e r => ⟨e, ?_⟩)
      have : ((W.map (worth1 S)).take (W.map wP).length) = W.map (worth1 S) := by rw [List.length_map, ← List.length_map (f := worth1 S), List.take_length]
      rw [this] at r
      exact r
end
end Kd
-- K68L3
set_option maxRecDepth 100000
set_option maxHeartbeats 4000000
/-! Walks: _law_images, _law_best, _law_form. -/
namespace Kd
open PySem PySem.Spec PyProof.Rows L2 KdIt
def rowsT (R : List (List Rat)) : T := .t (R.map rowT)
structure RowsOk (R : List (List Rat)) : Prop where
  len : R.length ≤ 4
  row : ∀ r ∈ R, RowOk r
/-! ### _law_images -/
def extL (n : Nat) (own : List Nat) : List (List Nat) := ((List.range n).filter fun k => !decide (k ∈ own)).map fun k => own ++ [k]
def imgL (n : Nat) : Nat → List (List Nat)
  | 0 => [[]]
  | j + 1 => (imgL n j).flatMap (extL n)
def FImg (as : List Ad) (ds : List T) : Prop := ∃ n m : Nat, n ≤ 4 ∧ m ≤ 2 ∧ as = [.d (.i n), .d (.i m)] ∧ ds = (imgL n m).map natsT
abbrev sImg : Stmt := topS 51
theorem scImg : FnScope ["_law_n", "_law_many", "_law_found", "_law_lap", "_law_longer", "_law_own", "_law_k"] ["_law_n", "_law_many"] (defScope sImg) := ⟨rfl, rfl, rfl, by decide +kernel, rfl, by decide +kernel, by decide +kernel⟩
theorem imgL_len : ∀ n, n ≤ 4 → ∀ m, m ≤ 2 → (imgL n m).length ≤ 12 := by decide
theorem imgL_in : ∀ n, n ≤ 4 → ∀ m, m ≤ 2 → ∀ o ∈ imgL n m, o.length = m ∧ ∀ p ∈ o, p < n := by decide
theorem extL_len (n : Nat) (own : List Nat) : (extL n own).length ≤ n := by
  unfold extL
  rw [List.length_map]
  refine Nat.le_trans (List.length_filter_le _ _) ?_
  rw [List.length_range]; exact Nat.le_refl _
section
variable {P : Program} {w : World} {K : PySem.W.Frag} {mg : Str → Option Value} {base : Heap}
theorem ok_img (D : Def K mg "_law_images" sImg ["_law_n", "_law_many"]) (mr : mg "range" = none) : FnAt P w K mg base 1 "_law_images" ["_law_n", "_law_many"] (spN K FImg) := by
  refine D.n scImg (by decide) (fun as d h => ?_) fun f cdv A outer s H E hr as d δ1 hF g => ?_
  · obtain ⟨_, _, _, _, rfl, _⟩ := h; rfl
  · obtain ⟨n, m, hn, hm, rfl, rfl⟩ := hF
    rw [given2 g]
    refine ss_cons (s_setN 2 scImg.nd (n_lst (dd_cons (r_tup dd_nil) dd_nil))) ?_
    rintro δ' ⟨q, rfl⟩
    refine ss_cons (s_for (xs := (List.range m).map fun (i : Nat) => T.i i) (fun i δ' => ∃ a b c q, δ' = [.d (.i n), .d (.i m), .own q ((imgL n i).map natsT), a, b, c, .no]) (it_range1 mr (r_var 1) (by omega)) ⟨.no, .no, .no, q, rfl⟩ ?_) ?_
    · rintro i x δ1 hx ⟨a, b, c, q, rfl⟩
      have hi : i < m := by
        have := (List.getElem?_eq_some_iff.mp hx).1
        simpa using this
      have hl := imgL_len n hn i (by omega)
      have hl' := imgL_len n hn (i + 1) (by omega)
      refine ⟨_, [3], g_name 3 scImg.nd, ?_⟩
      refine ss_cons (s_setN 4 scImg.nd (n_lst dd_nil)) ?_
      rintro δ' ⟨q2, rfl⟩
      refine ss_cons (s_forO (xs := (imgL n i).map natsT) 2 (q := q) (fun j δ' => ∃ c q2, δ' = [.d (.i n), .d (.i m), .own q ((imgL n i).map natsT), .d x, .own q2 ((((imgL n i).take j).flatMap (extL n)).map natsT), c, .no]) (by rintro j δ' ⟨c, q2, rfl⟩; rfl) ⟨c, q2, rfl⟩ ?_) ?_
      · rintro j y δ1 hy ⟨c, q2, rfl⟩
        rw [List.getElem?_map] at hy
        cases ho : (imgL n i)[j]? with
        | none => rw [ho] at hy; cases hy
        | some o =>
          rw [ho] at hy; cases hy
          have ht := flat_take_le (imgL n i) (extL n) j
          have hl2 : ((imgL n i).flatMap (extL n)).length ≤ 12 := hl'
          obtain ⟨ol, op⟩ := imgL_in n hn i (by omega) o (List.mem_of_getElem? ho)
          have eo : (o.map fun (n : Nat) => T.i n) = (o.map fun (n : Nat) => (n : Int)).map T.i := by rw [List.map_map]; rfl
          refine ⟨_, [5], g_name 5 scImg.nd, ss_one ((s_setN 4 scImg.nd (n_catO 4 rfl (ys := ((List.range n).filter fun k => !decide (k ∈ o)).map fun k => natsT (o ++ [k])) (n_lcA (own := [("_law_k", 6)]) (List.range n) (fun (k : Nat) => T.i k) (fun k => !decide (k ∈ o)) (fun k => natsT (o ++ [k])) (fun k => [.d (.i n), .d (.i m), .own q ((imgL n i).map natsT), .d x, .own q2 ((((imgL n i).take j).flatMap (extL n)).map natsT), .d (natsT o), .d (.i (k : Nat))]) scImg.nd (blkOk_by (by rfl)) (it_range1 mr (r_var 0) (by omega)).s (by rw [List.length_range]; omega) (fun s H C cl fp k hk => g_name 6 scImg.nd) ?_ ?_) ?_)).imp ?_)⟩
          · intro s H C cl fp k hk
            have hdm : decide (((k : Nat) : Int) ∈ o.map fun (n : Nat) => (n : Int)) = decide (k ∈ o) := by
              rw [Bool.eq_iff_iff, decide_eq_true_iff, decide_eq_true_iff]
              constructor
              · intro h
                obtain ⟨n, h1, h2⟩ := List.mem_map.mp h
                have : n = k := by omega
                rw [← this]; exact h1
              · intro h; exact List.mem_map.mpr ⟨k, h, rfl⟩
            rw [← hdm]
            exact ts_one (t_notIn (ns := o.map fun (n : Nat) => (n : Int)) (r_var 6) (by rw [← eo]; exact r_var 5))
          · intro s H C cl fp k hk _
            have : natsT (o ++ [k]) = .t ((o.map fun (n : Nat) => T.i n) ++ [.i k]) := by unfold natsT; rw [List.map_append]; rfl
            rw [this]
            refine r_cat (r_var 5) (r_tup (dd_cons (r_var 6) dd_nil)) ?_
            rw [List.length_map]; simp; omega
          · rw [List.length_map, List.length_map]
            have := extL_len n o
            unfold extL at this
            rw [List.length_map] at this
            omega
          · rintro δ' ⟨q3, rfl⟩
            refine ⟨.d (natsT o), q3, ?_⟩
            rw [List.take_add_one, ho, Option.toList_some, List.flatMap_append, List.flatMap_cons, List.flatMap_nil, List.append_nil, List.map_append]
            have : (extL n o).map natsT = ((List.range n).filter fun k => !decide (k ∈ o)).map fun k => natsT (o ++ [k]) := by unfold extL; rw [List.map_map]; rfl
            rw [this]; rfl
      · rintro δ' ⟨c, q2, rfl⟩
        rw [List.length_map, List.take_length]
        refine ss_one ((s_move 2 4 scImg.nd).imp ?_)
        rintro δ' rfl
        exact ⟨.d x, .no, c, q2, rfl⟩
    · rintro δ' ⟨a, b, c, q, rfl⟩
      rw [List.length_map, List.length_range]
      exact ss_one (s_retO 2 rfl fun p ws H' hn e h r => ⟨p, ws, rfl, hn, e, h, r⟩)
end
/-! ### sums -/
theorem sums_sm {D M : Nat} {l : List Rat} (h : ∀ x ∈ l, Bd D M x) (hl : l.length ≤ 100) (hD : 0 < D) (hD2 : D < 2 ^ 200) (hM : M < 2 ^ 190) : Sm (sumL l) :=
  ((Bd.sum h).mono (Nat.mul_le_mul_right _ hl)).lv hD hD2 (Nat.lt_of_lt_of_le (Nat.mul_lt_mul_of_pos_left hM (by decide : 0 < 100)) (by decide))
/-! ### _law_best -/
def laneR (R : List (List Rat)) (fs : List (List Nat)) (lane : List Nat) (i : Nat) : Rat := prodL (((lane.zip fs).take i).map fun q => numR (R.getD q.1 []) q.2)
def best1 (R : List (List Rat)) (p : List (List Nat) × Rat) (lane : List Nat) : Rat := p.2 * mkRat 1 (imgL R.length p.1.length).length * laneR R p.1 lane (lane.zip p.1).length
def bestL (R : List (List Rat)) (W : Wish) : List Rat := W.flatMap fun p => (imgL R.length p.1.length).map (best1 R p)
def bestR (R : List (List Rat)) (W : Wish) : Rat := sumL (bestL R W)
def FLBest (as : List Ad) (d : T) : Prop := ∃ W R c, WishOk c W ∧ RowsOk R ∧ degW W ≤ R.length ∧ as = [.d (wishT W), .d (rowsT R)] ∧ d = fr (bestR R W)
abbrev sLBest : Stmt := topS 52
theorem scLBest : FnScope ["_law_wish_in", "_law_rows_in", "_law_total", "_law_factors", "_law_x", "_law_lanes", "_law_lane", "_law_y", "_law_k", "_law_own"] ["_law_wish_in", "_law_rows_in"] (defScope sLBest) := ⟨rfl, rfl, rfl, by decide +kernel, rfl, by decide +kernel, by decide +kernel⟩
theorem imgL_n : ∀ n, n ≤ 4 → ∀ m, m ≤ 2 → m ≤ n → (imgL n m).length ∈ [1, 2, 3, 4, 6, 12] := by decide
theorem inv12 {N : Nat} (h : N ∈ [1, 2, 3, 4, 6, 12]) : Bd 12 12 (mkRat 1 N) ∧ 0 < N := by
  simp at h
  rcases h with rfl | rfl | rfl | rfl | rfl | rfl
  · exact ⟨(bd_inv 1 (by decide)).scale 12, by decide⟩
  · exact ⟨((bd_inv 2 (by decide)).scale 6).mono (by decide), by decide⟩
  · exact ⟨((bd_inv 3 (by decide)).scale 4).mono (by decide), by decide⟩
  · exact ⟨((bd_inv 4 (by decide)).scale 3).mono (by decide), by decide⟩
  · exact ⟨((bd_inv 6 (by decide)).scale 2).mono (by decide), by decide⟩
  · exact ⟨(bd_inv 12 (by decide)).mono (by decide), by decide⟩
theorem fr_inv {N : Nat} (h : 0 < N) : fr (mkRat 1 N) = .t [.i 1, .i N] := by
  rw [fr_mk 1 N h]
  simp
theorem mom_of {c : Nat} {W : Wish} (hW : WishOk c W) {p : List (List Nat) × Rat} (hp : p ∈ W) {a : List Nat} (ha : a ∈ p.1) : MomOk a := by
  obtain ⟨h3, h4⟩ := (hW.fac p hp).2 a ha
  exact ⟨by have := hW.c2; omega, h4⟩
theorem getD_row {R : List (List Rat)} (hR : RowsOk R) {i : Nat} (hi : i < R.length) : R[i]? = some (R.getD i []) ∧ RowOk (R.getD i []) := by
  rw [List.getD_eq_getElem?_getD, List.getElem?_eq_getElem hi]
  exact ⟨rfl, hR.row _ (List.getElem_mem hi)⟩
theorem laneR_bd {R : List (List Rat)} (hR : RowsOk R) {fs : List (List Nat)} (hf : ∀ a ∈ fs, MomOk a) (hl : fs.length ≤ 2) {lane : List Nat} (hln : ∀ p ∈ lane, p < R.length) (i : Nat) : Bd (16 ^ 2) (10000 ^ 2) (laneR R fs lane i) := by
  unfold laneR
  refine bd_up (by decide) (by decide) (n := (((lane.zip fs).take i).map fun q => numR (R.getD q.1 []) q.2).length) ?_ (prodL_bd fun x hx => ?_)
  · rw [List.length_map, List.length_take, List.length_zip]; omega
  · obtain ⟨q, hq, rfl⟩ := List.mem_map.mp hx
    have hm := List.of_mem_zip (a := q.1) (b := q.2) (List.mem_of_mem_take hq)
    exact numR_bd (getD_row hR (hln _ hm.1)).2 (hf _ hm.2)
theorem besty_bd {R : List (List Rat)} (hR : RowsOk R) {c : Nat} {W : Wish} (hW : WishOk c W) {p : List (List Nat) × Rat} (hp : p ∈ W) (hd : p.1.length ≤ R.length) {lane : List Nat} (hln : ∀ p ∈ lane, p < R.length) (i : Nat) :
    Bd (1 * 12 * 16 ^ 2) (9 * 12 * 10000 ^ 2) (p.2 * mkRat 1 (imgL R.length p.1.length).length * laneR R p.1 lane i) :=
  ((hW.bd p hp).mul (inv12 (imgL_n _ hR.len _ (hW.fac p hp).1 hd)).1).mul (laneR_bd hR (fun a ha => mom_of hW hp ha) (hW.fac p hp).1 hln i)
section
variable {P : Program} {w : World} {K : PySem.W.Frag} {mg : Str → Option Value} {base : Heap}
theorem ok_lbest (D : Def K mg "_law_best" sLBest ["_law_wish_in", "_law_rows_in"]) (ml : mg "len" = none) (mz : mg "zip" = none) (GM : FnAt P w K mg base 3 "_law_mul" ["_law_x", "_law_y"] (spF K FTimes)) (GP : FnAt P w K mg base 3 "_law_add" ["_law_x", "_law_y"] (spF K FPlus)) (GN : FnAt P w K mg base 3 "_law_number" ["_law_row_in", "_law_moment_in"] (spF K FRow)) (GI : FnAt P w K mg base 3 "_law_images" ["_law_n", "_law_many"] (spN K FImg)) :
    FnAt P w K mg base 4 "_law_best" ["_law_wish_in", "_law_rows_in"] (spF K FLBest) := by
  refine D.d scLBest (by decide) (fun as d h => ?_) fun f cdv A outer s H E hr as d δ1 hF g => ?_
  · obtain ⟨_, _, _, _, _, _, rfl, _⟩ := h; rfl
  · obtain ⟨W, R, c, hW, hR, hd, rfl, rfl⟩ := hF
    rw [given2 g]
    have hbd : ∀ x ∈ bestL R W, Bd (1 * 12 * 16 ^ 2) (9 * 12 * 10000 ^ 2) x := fun x hx => by
      obtain ⟨p, hp, hx⟩ := List.mem_flatMap.mp hx
      obtain ⟨lane, hl, rfl⟩ := List.mem_map.mp hx
      exact besty_bd hR hW hp (Nat.le_trans (deg_le hp) hd) (imgL_in _ hR.len _ (hW.fac p hp).1 lane hl).2 _
    have eR : (R.map rowT).length = R.length := List.length_map _
    refine ss_set (s_set 2 scLBest.nd (r_tup (dd_cons r_int (dd_cons r_int dd_nil)))) ?_
    refine ss_cons (s_for (xs := W.map wP) (fun i δ' => ∃ z3 z4 z5 z6 z7 z8 z9, δ' = [.d (wishT W), .d (rowsT R), .d (fr (sumL (bestL R (W.take i)))), z3, z4, z5, z6, z7, z8, z9]) (it_tup (by rw [← wishT_eq]; exact r_var 0)) ⟨.no, .no, .no, .no, .no, .no, .no, rfl⟩ ?_) ?_
    · rintro i x δ1 hx ⟨z3, z4, z5, z6, z7, z8, z9, rfl⟩
      rw [List.getElem?_map] at hx
      cases hp : W[i]? with
      | none => rw [hp] at hx; cases hx
      | some p =>
        rw [hp] at hx; cases hx
        have hpm : p ∈ W := List.mem_of_getElem? hp
        have hil : i < W.length := (List.getElem?_eq_some_iff.mp hp).1
        obtain ⟨hf2, _⟩ := hW.fac p hpm
        have hdp : p.1.length ≤ R.length := Nat.le_trans (deg_le hpm) hd
        obtain ⟨_, hN0⟩ := inv12 (imgL_n _ hR.len _ hf2 hdp)
        have hin := imgL_in _ hR.len _ hf2
        have hcnt := imgL_len _ hR.len _ hf2
        have ef : (p.1.map natsT).length = p.1.length := List.length_map _
        refine ⟨_, [3, 4], g_two (i := 3) (j := 4) scLBest.nd, ?_⟩
        refine ss_cons (s_setN 5 scLBest.nd (n_call GI hr (da_cons (DR.is (r_lenT ml (r_var 1)) (by rw [eR])) (da_1 (DR.is (r_lenT ml (r_var 3)) (by rw [ef])))) ⟨R.length, p.1.length, hR.len, hf2, rfl, rfl⟩)) ?_
        rintro δ' ⟨q, rfl⟩
        refine ss_one ((s_forO (xs := (imgL R.length p.1.length).map natsT) 5 (q := q) (fun j δ' => ∃ z6 z7 z8 z9, δ' = [.d (wishT W), .d (rowsT R), .d (fr (sumL (bestL R (W.take i) ++ ((imgL R.length p.1.length).take j).map (best1 R p)))), .d (facT p.1), .d (fr p.2), .own q ((imgL R.length p.1.length).map natsT), z6, z7, z8, z9]) (by rintro j δ' ⟨_, _, _, _, rfl⟩; rfl) ⟨z6, z7, z8, z9, by rw [List.take_zero, List.map_nil, List.append_nil]; rfl⟩ ?_).imp ?_)
        · rintro j x δ1 hx ⟨z6, z7, z8, z9, rfl⟩
          rw [List.getElem?_map] at hx
          cases hl : (imgL R.length p.1.length)[j]? with
          | none => rw [hl] at hx; cases hx
          | some lane =>
            rw [hl] at hx; cases hx
            have hlm := List.mem_of_getElem? hl
            obtain ⟨ll, lp⟩ := hin lane hlm
            refine ⟨_, [6], g_name 6 scLBest.nd, ?_⟩
            refine ss_set (s_set 7 scLBest.nd (u := fr (p.2 * mkRat 1 (imgL R.length p.1.length).length)) (r_call GM hr (da_cons (r_var 4) (da_1 (DR.is (ad := .d (.t [.i 1, .i ((imgL R.length p.1.length).length : Nat)])) (r_tup (dd_cons r_int (dd_cons (DR.is (r_lenL ml (r_var 5)) (by rw [List.length_map])) dd_nil))) (by rw [fr_inv hN0])))) ⟨p.2, mkRat 1 (imgL R.length p.1.length).length, (hW.bd p hpm).lv (by decide) (by decide) (by decide), (inv12 (imgL_n _ hR.len _ hf2 hdp)).1.lv (by decide) (by decide) (by decide), rfl, rfl⟩)) ?_
            refine ss_cons (s_for (xs := zipT (lane.map fun (n : Nat) => T.i n) (p.1.map natsT)) (fun t δ' => ∃ z8 z9, δ' = [.d (wishT W), .d (rowsT R), .d (fr (sumL (bestL R (W.take i) ++ ((imgL R.length p.1.length).take j).map (best1 R p)))), .d (facT p.1), .d (fr p.2), .own q ((imgL R.length p.1.length).map natsT), .d (natsT lane), .d (fr (p.2 * mkRat 1 (imgL R.length p.1.length).length * laneR R p.1 lane t)), z8, z9]) (it_zipT mz (r_var 6) (r_var 3)) ⟨z8, z9, ?_⟩ ?_) ?_
            · have : laneR R p.1 lane 0 = 1 := rfl
              rw [this, Rat.mul_one]; rfl
            · rintro t x δ1 hx ⟨z8, z9, rfl⟩
              unfold zipT at hx
              rw [List.zip_map, List.map_map, List.getElem?_map] at hx
              cases hz : (lane.zip p.1)[t]? with
              | none => rw [hz] at hx; cases hx
              | some ka =>
                rw [hz] at hx; cases hx
                obtain ⟨k, a⟩ := ka
                have hm := List.of_mem_zip (List.mem_of_getElem? hz)
                obtain ⟨gr1, gr2⟩ := getD_row hR (lp k hm.1)
                have hma := mom_of hW hpm hm.2
                have hat : L2.atI (R.map rowT) ((k : Nat) : Int) = some (rowT (R.getD k [])) := by
                  refine atI_map (j := k) (ixN_nat (by rw [eR]; exact lp k hm.1)) ?_
                  rw [List.getElem?_map, gr1]; rfl
                refine ⟨_, [8, 9], g_two (i := 8) (j := 9) scLBest.nd, ss_one ((s_set 7 scLBest.nd (r_call GM hr (da_cons (r_var 7) (da_1 (r_call GN hr (da_cons (r_ixT (r_var 1) (r_var 8) hat) (da_1 (r_var 9))) ⟨R.getD k [], a, gr2, hma, rfl, rfl⟩))) ⟨_, numR (R.getD k []) a, (besty_bd hR hW hpm hdp lp t).lv (by decide) (by decide) (by decide), (numR_bd gr2 hma).lv (by decide) (by decide) (by decide), rfl, rfl⟩)).imp ?_)⟩
                rintro δ' rfl
                refine ⟨.d (.i k), .d (natsT a), ?_⟩
                have : p.2 * mkRat 1 (imgL R.length p.1.length).length * laneR R p.1 lane (t + 1) = p.2 * mkRat 1 (imgL R.length p.1.length).length * laneR R p.1 lane t * numR (R.getD k []) a := by
                  unfold laneR
                  rw [List.take_add_one, hz, Option.toList_some, List.map_append, List.map_cons, List.map_nil, prodL_snoc]
                  grind
                rw [this]; rfl
            · rintro δ' ⟨z8, z9, rfl⟩
              have elen : (zipT (lane.map fun (n : Nat) => T.i n) (p.1.map natsT)).length = (lane.zip p.1).length := by unfold zipT; simp
              rw [elen]
              have hsub : ∀ x ∈ bestL R (W.take i) ++ ((imgL R.length p.1.length).take j).map (best1 R p), Bd (1 * 12 * 16 ^ 2) (9 * 12 * 10000 ^ 2) x := fun x hx => by
                rcases List.mem_append.mp hx with hx | hx
                · obtain ⟨p', hp', hx⟩ := List.mem_flatMap.mp hx
                  exact hbd x (List.mem_flatMap.mpr ⟨p', List.mem_of_mem_take hp', hx⟩)
                · obtain ⟨l', hl', rfl⟩ := List.mem_map.mp hx
                  exact hbd _ (List.mem_flatMap.mpr ⟨p, hpm, List.mem_map.mpr ⟨l', List.mem_of_mem_take hl', rfl⟩⟩)
              have hlen : (bestL R (W.take i) ++ ((imgL R.length p.1.length).take j).map (best1 R p)).length ≤ 100 := by
                rw [List.length_append, List.length_map, List.length_take]
                have h1 : (bestL R (W.take i)).length ≤ (W.take i).length * 12 := flat_len_le fun x hx => by
                  rw [List.length_map]
                  exact imgL_len _ hR.len _ (hW.fac x (List.mem_of_mem_take hx)).1
                rw [List.length_take] at h1
                have := hW.len; omega
              refine ss_one ((s_set 2 scLBest.nd (r_call GP hr (da_cons (r_var 2) (da_1 (r_var 7))) ⟨_, best1 R p lane, sums_sm hsub hlen (by decide) (by decide) (by decide), (besty_bd hR hW hpm hdp lp _).lv (by decide) (by decide) (by decide), rfl, rfl⟩)).imp ?_)
              rintro δ' rfl
              refine ⟨.d (natsT lane), .d (fr (best1 R p lane)), z8, z9, ?_⟩
              rw [List.take_add_one, hl, Option.toList_some, List.map_append, List.map_cons, List.map_nil, ← List.append_assoc, sumL_snoc]
              rfl
        · rintro δ' ⟨z6, z7, z8, z9, rfl⟩
          refine ⟨.d (facT p.1), .d (fr p.2), .own q ((imgL R.length p.1.length).map natsT), z6, z7, z8, z9, ?_⟩
          rw [List.length_map, List.take_length, List.take_add_one, hp, Option.toList_some]
          have : bestL R (W.take i ++ [p]) = bestL R (W.take i) ++ (imgL R.length p.1.length).map (best1 R p) := by
            unfold bestL
            rw [List.flatMap_append, List.flatMap_cons, List.flatMap_nil, List.append_nil]
          rw [this]
    · rintro δ' ⟨z3, z4, z5, z6, z7, z8, z9, rfl⟩
      rw [List.length_map, List.take_length]
      exact ss_one (s_ret (r_var 2) fun v H' e r => ⟨e, r⟩)
end
end Kd
-- K68L4
set_option maxRecDepth 100000
set_option maxHeartbeats 4000000
/-! Walks: _law_form, _law_degree, _law_choose, _law_lots. -/
namespace Kd
open PySem PySem.Spec PyProof.Rows L2 KdIt
/-- a key: rows of powers -/
structure KeyM (n : Nat) (k : T) : Prop where
  ex : ∃ fs, k = facT fs ∧ fs.length = n ∧ ∀ a ∈ fs, MomOk a
def keyN (k : T) : List (List Nat) := (tl k).map natL
theorem keyN_fac (fs : List (List Nat)) : keyN (facT fs) = fs := by
  unfold keyN facT tl
  rw [List.map_map]
  have : natL ∘ natsT = id := by funext a; exact natL_nats a
  rw [this, List.map_id]
def phiR (k : T) (R : List (List Rat)) (i : Nat) : Rat := prodL ((((keyN k).zip R).take i).map fun q => numR q.2 q.1)
def phi (R : List (List Rat)) (k : T) : Rat := prodL (((keyN k).zip R).map fun q => numR q.2 q.1)
def formR (ps : List (T × Rat)) (R : List (List Rat)) : Rat := sumL (ps.map fun p => p.2 * phi R p.1)
def FLForm (as : List Ad) (d : T) : Prop := ∃ ps R n D M, (∀ p ∈ ps, KeyM n p.1) ∧ n ≤ 4 ∧ RowsOk R ∧ (∀ p ∈ ps, Bd D M p.2) ∧ ps.length ≤ 100 ∧ 0 < D ∧ D < 2 ^ 100 ∧ M < 2 ^ 100 ∧ as = [.d (formT ps), .d (rowsT R)] ∧ d = fr (formR ps R)
abbrev sLForm : Stmt := topS 53
theorem scLForm : FnScope ["_law_form_in", "_law_rows_in", "_law_total", "_law_hands", "_law_x", "_law_own", "_law_row_in"] ["_law_form_in", "_law_rows_in"] (defScope sLForm) := ⟨rfl, rfl, rfl, by decide +kernel, rfl, by decide +kernel, by decide +kernel⟩
theorem bd_up4 {E L n : Nat} {q : Rat} (hE : 0 < E) (hEL : E ≤ L) (hn : n ≤ 4) (h : Bd (E ^ n) (L ^ n) q) : Bd (E ^ 4) (L ^ 4) q := by
  have e : E ^ 4 = E ^ n * E ^ (4 - n) := by rw [← Nat.pow_add]; congr 1; omega
  have e2 : L ^ 4 = L ^ n * L ^ (4 - n) := by rw [← Nat.pow_add]; congr 1; omega
  rw [e, e2]
  exact (h.scale (E ^ (4 - n))).mono (Nat.mul_le_mul_left _ (Nat.pow_le_pow_left hEL _))
theorem phiR_bd {n : Nat} {k : T} (hk : KeyM n k) (hn : n ≤ 4) {R : List (List Rat)} (hR : RowsOk R) (i : Nat) : Bd (16 ^ 4) (10000 ^ 4) (phiR k R i) := by
  obtain ⟨fs, rfl, h1, h2⟩ := hk.ex
  unfold phiR
  rw [keyN_fac]
  refine bd_up4 (by decide) (by decide) (n := (((fs.zip R).take i).map fun q => numR q.2 q.1).length) ?_ (prodL_bd fun x hx => ?_)
  · rw [List.length_map, List.length_take, List.length_zip]; omega
  · obtain ⟨q, hq, rfl⟩ := List.mem_map.mp hx
    have hm := List.of_mem_zip (a := q.1) (b := q.2) (List.mem_of_mem_take hq)
    exact numR_bd (hR.row _ hm.2) (h2 _ hm.1)
section
variable {P : Program} {w : World} {K : PySem.W.Frag} {mg : Str → Option Value} {base : Heap}
theorem ok_lform (D : Def K mg "_law_form" sLForm ["_law_form_in", "_law_rows_in"]) (mz : mg "zip" = none) (GM : FnAt P w K mg base 3 "_law_mul" ["_law_x", "_law_y"] (spF K FTimes)) (GP : FnAt P w K mg base 3 "_law_add" ["_law_x", "_law_y"] (spF K FPlus)) (GN : FnAt P w K mg base 3 "_law_number" ["_law_row_in", "_law_moment_in"] (spF K FRow)) :
    FnAt P w K mg base 4 "_law_form" ["_law_form_in", "_law_rows_in"] (spF K FLForm) := by
  refine D.d scLForm (by decide) (fun as d h => ?_) fun f cdv A outer s H E hr as d δ1 hF g => ?_
  · obtain ⟨_, _, _, _, _, _, _, _, _, _, _, _, _, rfl, _⟩ := h; rfl
  · obtain ⟨ps, R, n, Dn, M, hk, hn, hR, hb, hl, hD, hD2, hM, rfl, rfl⟩ := hF
    rw [given2 g]
    have hD3 : Dn * 16 ^ 4 < 2 ^ 200 := Nat.lt_of_le_of_lt (Nat.mul_le_mul_right _ (Nat.le_of_lt hD2)) (by decide)
    have hM3 : M * 10000 ^ 4 < 2 ^ 190 := Nat.lt_of_le_of_lt (Nat.mul_le_mul_right _ (Nat.le_of_lt hM)) (by decide)
    have hD0 : 0 < Dn * 16 ^ 4 := Nat.mul_pos hD (by decide)
    have hbx : ∀ p ∈ ps, ∀ i, Bd (Dn * 16 ^ 4) (M * 10000 ^ 4) (p.2 * phiR p.1 R i) := fun p hp i => (hb p hp).mul (phiR_bd (hk p hp) hn hR i)
    have hphi : ∀ k, phi R k = phiR k R ((keyN k).zip R).length := fun k => by unfold phi phiR; rw [List.take_length]
    have hbp : ∀ x ∈ ps.map (fun p => p.2 * phi R p.1), Bd (Dn * 16 ^ 4) (M * 10000 ^ 4) x := fun x hx => by
      obtain ⟨p, hp, rfl⟩ := List.mem_map.mp hx
      rw [hphi]; exact hbx p hp _
    refine ss_set (s_set 2 scLForm.nd (r_tup (dd_cons r_int (dd_cons r_int dd_nil)))) ?_
    refine ss_cons (s_for (xs := ps.map prT) (fun i δ' => ∃ a b c d, δ' = [.d (formT ps), .d (rowsT R), .d (fr (sumL ((ps.map fun p => p.2 * phi R p.1).take i))), a, b, c, d]) (it_tup (r_var 0)) ⟨.no, .no, .no, .no, rfl⟩ ?_) ?_
    · rintro i x δ1 hx ⟨a, b, c, d, rfl⟩
      rw [List.getElem?_map] at hx
      cases hp : ps[i]? with
      | none => rw [hp] at hx; cases hx
      | some p =>
        rw [hp] at hx; cases hx
        have hpm : p ∈ ps := List.mem_of_getElem? hp
        obtain ⟨fs, hfs, hfl, hfm⟩ := (hk p hpm).ex
        have hkn : keyN p.1 = fs := by rw [hfs, keyN_fac]
        refine ⟨_, [3, 4], g_two (i := 3) (j := 4) scLForm.nd, ?_⟩
        refine ss_cons (s_for (xs := zipT (fs.map natsT) (R.map rowT)) (fun t δ' => ∃ c d, δ' = [.d (formT ps), .d (rowsT R), .d (fr (sumL ((ps.map fun p => p.2 * phi R p.1).take i))), .d p.1, .d (fr (p.2 * phiR p.1 R t)), c, d]) (it_zipT mz (by rw [hfs]; exact r_var 3) (r_var 1)) ⟨c, d, ?_⟩ ?_) ?_
        · have : phiR p.1 R 0 = 1 := rfl
          rw [this, Rat.mul_one]; rfl
        · rintro t x δ1 hx ⟨c, d, rfl⟩
          unfold zipT at hx
          rw [List.zip_map, List.map_map, List.getElem?_map] at hx
          cases hz : (fs.zip R)[t]? with
          | none => rw [hz] at hx; cases hx
          | some ar =>
            rw [hz] at hx; cases hx
            obtain ⟨a, r⟩ := ar
            have hm := List.of_mem_zip (List.mem_of_getElem? hz)
            refine ⟨_, [5, 6], g_two (i := 5) (j := 6) scLForm.nd, ss_one ((s_set 4 scLForm.nd (r_call GM hr (da_cons (r_var 4) (da_1 (r_call GN hr (da_cons (r_var 6) (da_1 (r_var 5))) ⟨r, a, hR.row r hm.2, hfm a hm.1, rfl, rfl⟩))) ⟨_, numR r a, (hbx p hpm t).lv hD0 hD3 (Nat.lt_trans hM3 (by decide)), (numR_bd (hR.row r hm.2) (hfm a hm.1)).lv (by decide) (by decide) (by decide), rfl, rfl⟩)).imp ?_)⟩
            rintro δ' rfl
            refine ⟨.d (natsT a), .d (rowT r), ?_⟩
            have : p.2 * phiR p.1 R (t + 1) = p.2 * phiR p.1 R t * numR r a := by
              unfold phiR
              rw [hkn, List.take_add_one, hz, Option.toList_some, List.map_append, List.map_cons, List.map_nil, prodL_snoc]
              grind
            rw [this]; rfl
        · rintro δ' ⟨c, d, rfl⟩
          have elen : (zipT (fs.map natsT) (R.map rowT)).length = ((keyN p.1).zip R).length := by unfold zipT; rw [hkn]; simp
          rw [elen, ← hphi]
          have hget : (ps.map fun p => p.2 * phi R p.1)[i]? = some (p.2 * phi R p.1) := by rw [List.getElem?_map, hp]; rfl
          refine ss_one ((s_set 2 scLForm.nd (r_call GP hr (da_cons (r_var 2) (da_1 (r_var 4))) ⟨_, p.2 * phi R p.1, sums_sm (fun x hx => hbp x (List.mem_of_mem_take hx)) (by rw [List.length_take, List.length_map]; omega) hD0 hD3 hM3, (hbp _ (List.mem_of_getElem? hget)).lv hD0 hD3 (Nat.lt_trans hM3 (by decide)), rfl, rfl⟩)).imp ?_)
          rintro δ' rfl
          refine ⟨.d p.1, .d (fr (p.2 * phi R p.1)), c, d, ?_⟩
          rw [List.take_add_one, hget, Option.toList_some, sumL_snoc]; rfl
    · rintro δ' ⟨a, b, c, d, rfl⟩
      refine ss_one (s_ret (r_var 2) fun v H' e r => ⟨e, ?_⟩)
      have : ((ps.map fun p => p.2 * phi R p.1).take (ps.map prT).length) = ps.map fun p => p.2 * phi R p.1 := by rw [List.length_map, ← List.length_map (f := fun p => p.2 * phi R p.1), List.take_length]
      rw [this] at r
      exact r
end
/-! ### _law_degree -/
abbrev sLDeg : Stmt := topS 56
theorem scLDeg : FnScope ["_law_wish_in", "_law_factors", "_law_x"] ["_law_wish_in"] (defScope sLDeg) := ⟨rfl, rfl, rfl, by decide +kernel, rfl, by decide +kernel, by decide +kernel⟩
section
variable {P : Program} {w : World} {K : PySem.W.Frag} {mg : Str → Option Value} {base : Heap}
theorem ok_ldeg (D : Def K mg "_law_degree" sLDeg ["_law_wish_in"]) (mm : mg "max" = none) (ml : mg "len" = none) : FnAt P w K mg base 1 "_law_degree" ["_law_wish_in"] (spF K FDeg) := by
  refine D.d scLDeg (by decide) (fun as d h => ?_) fun f cdv A outer s H E hr as d δ1 hF g => ?_
  · obtain ⟨_, _, _, rfl, _⟩ := h; rfl
  · obtain ⟨c, W, hW, rfl, rfl⟩ := hF
    rw [given1 g]
    have hlen := hW.len
    have e : ([T.i 0] ++ ((W.filter fun _ => true).map fun p => T.i p.1.length)) = (((0 :: W.map fun p => p.1.length) : List Nat).map fun (n : Nat) => (n : Int)).map T.i := by
      rw [List.filter_eq_self.mpr (fun _ _ => rfl)]
      simp
    have hm := foldmax (W.map fun p => p.1.length) 0
    refine ss_one (s_ret (r_max (ns := ((0 :: W.map fun p => p.1.length) : List Nat).map fun (n : Nat) => (n : Int)) mm (DN.dl ?_) (List.mem_map.mpr ⟨_, hm.1, rfl⟩) ?_) fun v H' e r => ⟨e, r⟩)
    · rw [← e]
      refine n_cat (n_lst (dd_cons r_int dd_nil)) (n_lcA (own := [("_law_factors", 1), ("_law_x", 2)]) W wP (fun _ => true) (fun p => .i p.1.length) (fun p => [.d (wishT W), .d (facT p.1), .d (fr p.2)]) scLDeg.nd (blkOk_by (by rfl)) ?_ (by omega) (fun s H C cl fp p hp => g_two (i := 1) (j := 2) scLDeg.nd) (fun s H C cl fp x hx => ts_nil) ?_) ?_
      · exact (it_tup (by rw [← wishT_eq]; exact r_var 0)).s
      · intro s H C cl fp p hp _
        have e1 : (p.1.map natsT).length = p.1.length := List.length_map _
        rw [← e1]
        exact r_lenT ml (r_var 1)
      · simp only [List.length_map, List.filter_eq_self.mpr (fun _ _ => rfl), List.length_cons, List.length_nil]; omega
    · intro y hy
      obtain ⟨n, hn, rfl⟩ := List.mem_map.mp hy
      exact Int.ofNat_le.mpr (hm.2 n hn)
end
/-! ### _law_choose -/
def chN (n : Nat) : Nat → Nat
  | 0 => 1
  | k + 1 => chN n k * (n - k) / (k + 1)
def FCho (as : List Ad) (d : T) : Prop := ∃ n k : Nat, n ≤ 4 ∧ k ≤ n ∧ as = [.d (.i n), .d (.i k)] ∧ d = .i (chN n k : Nat)
abbrev sCho : Stmt := topS 57
theorem scCho : FnScope ["_law_n", "_law_many", "_law_found", "_law_k"] ["_law_n", "_law_many"] (defScope sCho) := ⟨rfl, rfl, rfl, by decide +kernel, rfl, by decide +kernel, by decide +kernel⟩
theorem chN_le : ∀ n, n ≤ 4 → ∀ k, k ≤ 4 → chN n k ≤ 10 := by decide
section
variable {P : Program} {w : World} {K : PySem.W.Frag} {mg : Str → Option Value} {base : Heap}
theorem ok_cho (D : Def K mg "_law_choose" sCho ["_law_n", "_law_many"]) (mr : mg "range" = none) : FnAt P w K mg base 1 "_law_choose" ["_law_n", "_law_many"] (spF K FCho) := by
  refine D.d scCho (by decide) (fun as d h => ?_) fun f cdv A outer s H E hr as d δ1 hF g => ?_
  · obtain ⟨_, _, _, _, rfl, _⟩ := h; rfl
  · obtain ⟨n, k, hn, hk, rfl, rfl⟩ := hF
    rw [given2 g]
    refine ss_set (s_set 2 scCho.nd r_int) ?_
    refine ss_cons (s_for (xs := (List.range k).map fun (i : Nat) => T.i i) (fun i δ' => ∃ a, δ' = [.d (.i n), .d (.i k), .d (.i (chN n i : Nat)), a]) (it_range1 mr (r_var 1) (by omega)) ⟨.no, rfl⟩ ?_) ?_
    · rintro i x δ1 hx ⟨a, rfl⟩
      have hi : i < k := by
        have := (List.getElem?_eq_some_iff.mp hx).1
        simpa using this
      have hxi : x = .i i := by
        rw [List.getElem?_map, List.getElem?_range hi] at hx
        exact (Option.some.inj hx).symm
      subst hxi
      have hb := chN_le n hn i (by omega)
      refine ⟨_, [3], g_name 3 scCho.nd, ss_one ((s_set 2 scCho.nd (r_divW (r_mul (r_var 2) (r_sub (r_var 0) (r_var 3)) (.inl ⟨by omega, by omega⟩)) (r_add (r_var 3) r_int) (wide_div (b := 10) (by omega) (by omega) (by decide) (by decide)))).imp ?_)⟩
      rintro δ' rfl
      refine ⟨.d (.i i), ?_⟩
      have : ((chN n i : Nat) : Int) * ((n : Int) - (i : Int)) / ((i : Int) + 1) = ((chN n (i + 1) : Nat) : Int) := by
        have e1 : (n : Int) - (i : Int) = ((n - i : Nat) : Int) := by omega
        have e2 : (i : Int) + 1 = ((i + 1 : Nat) : Int) := by omega
        rw [e1, e2]; rfl
      rw [this]; rfl
    · rintro δ' ⟨a, rfl⟩
      rw [List.length_map, List.length_range]
      exact ss_one (s_ret (r_var 2) fun v H' e r => ⟨e, r⟩)
end
/-! ### _law_lots -/
def lotL (most : Nat) : Nat → List (List Nat)
  | 0 => [[]]
  | k + 1 => lotL most k ++ ((lotL most k).filter fun own => decide (own.length < most)).map fun own => own ++ [k]
def FLot (as : List Ad) (ds : List T) : Prop := ∃ n m : Nat, n ≤ 4 ∧ m ≤ 2 ∧ as = [.d (.i n), .d (.i m)] ∧ ds = (lotL m n).map natsT
abbrev sLot : Stmt := topS 58
theorem scLot : FnScope ["_law_many", "_law_most_in", "_law_found", "_law_k", "_law_own"] ["_law_many", "_law_most_in"] (defScope sLot) := ⟨rfl, rfl, rfl, by decide +kernel, rfl, by decide +kernel, by decide +kernel⟩
theorem lotL_len : ∀ n, n ≤ 4 → ∀ m, m ≤ 2 → (lotL m n).length ≤ 11 := by decide
theorem lotL_in : ∀ n, n ≤ 4 → ∀ m, m ≤ 2 → ∀ o ∈ lotL m n, o.length ≤ m ∧ o.length ≤ n ∧ ∀ p ∈ o, p < n := by decide
section
variable {P : Program} {w : World} {K : PySem.W.Frag} {mg : Str → Option Value} {base : Heap}
theorem ok_lot (D : Def K mg "_law_lots" sLot ["_law_many", "_law_most_in"]) (ml : mg "len" = none) (mr : mg "range" = none) : FnAt P w K mg base 1 "_law_lots" ["_law_many", "_law_most_in"] (spN K FLot) := by
  refine D.n scLot (by decide) (fun as d h => ?_) fun f cdv A outer s H E hr as d δ1 hF g => ?_
  · obtain ⟨_, _, _, _, rfl, _⟩ := h; rfl
  · obtain ⟨n, m, hn, hm, rfl, rfl⟩ := hF
    rw [given2 g]
    refine ss_cons (s_setN 2 scLot.nd (n_lst (dd_cons (r_tup dd_nil) dd_nil))) ?_
    rintro δ' ⟨q, rfl⟩
    refine ss_cons (s_for (xs := (List.range n).map fun (i : Nat) => T.i i) (fun i δ' => ∃ q a, δ' = [.d (.i n), .d (.i m), .own q ((lotL m i).map natsT), a, .no]) (it_range1 mr (r_var 0) (by omega)) ⟨q, .no, rfl⟩ ?_) ?_
    · rintro i x δ1 hx ⟨q, a, rfl⟩
      have hi : i < n := by
        have := (List.getElem?_eq_some_iff.mp hx).1
        simpa using this
      have hxi : x = .i i := by
        rw [List.getElem?_map, List.getElem?_range hi] at hx
        exact (Option.some.inj hx).symm
      subst hxi
      have hl := lotL_len i (by omega) m hm
      have hin := lotL_in i (by omega) m hm
      refine ⟨_, [3], g_name 3 scLot.nd, ss_one ((s_setN 2 scLot.nd (n_catO 2 rfl (ys := ((lotL m i).filter fun own => decide (own.length < m)).map fun own => natsT (own ++ [i])) (n_lcA (own := [("_law_own", 4)]) (lotL m i) natsT (fun own => decide (own.length < m)) (fun own => natsT (own ++ [i])) (fun own => [.d (.i n), .d (.i m), .own q ((lotL m i).map natsT), .d (.i i), .d (natsT own)]) scLot.nd (blkOk_by (by rfl)) (it_lst (r_var 2)) (by omega) (fun s H C cl fp k hk => g_name 4 scLot.nd) ?_ ?_) ?_)).imp ?_)⟩
      · intro s H C cl fp own hk
        have e : decide (((own.map fun (n : Nat) => T.i n).length : Int) < (m : Int)) = decide (own.length < m) := by
          rw [List.length_map, Bool.eq_iff_iff, decide_eq_true_iff, decide_eq_true_iff]; omega
        rw [← e]
        exact ts_one (t_lt (r_lenT ml (r_var 4)) (r_var 1))
      · intro s H C cl fp own hk _
        have : natsT (own ++ [i]) = .t ((own.map fun (n : Nat) => T.i n) ++ [.i i]) := by unfold natsT; rw [List.map_append]; rfl
        rw [this]
        refine r_cat (r_var 4) (r_tup (dd_cons (r_var 3) dd_nil)) ?_
        have := (hin own hk).1
        rw [List.length_map]; simp; omega
      · rw [List.length_map, List.length_map]
        have := List.length_filter_le (fun own => decide (own.length < m)) (lotL m i)
        omega
      · rintro δ' ⟨q3, rfl⟩
        refine ⟨q3, .d (.i i), ?_⟩
        have : (lotL m (i + 1)).map natsT = (lotL m i).map natsT ++ ((lotL m i).filter fun own => decide (own.length < m)).map fun own => natsT (own ++ [i]) := by
          show List.map natsT (_ ++ _) = _
          rw [List.map_append, List.map_map]; rfl
        rw [this]; rfl
    · rintro δ' ⟨q, a, rfl⟩
      rw [List.length_map, List.length_range]
      exact ss_one (s_retO 2 rfl fun p ws H' hn e h r => ⟨p, ws, rfl, hn, e, h, r⟩)
end
end Kd
-- K68L5
set_option maxRecDepth 100000
set_option maxHeartbeats 4000000
/-! Walks: _law_same. -/
namespace Kd
open PySem PySem.Spec PyProof.Rows L2 KdIt
def FSame (n : Nat) (as : List Ad) (b : Bool) : Prop := b = true ∧ ((∃ x : T, x.depth ≤ n ∧ x.wd = true ∧ as = [.d x, .d x]) ∨ (∃ xs : List T, T.depths xs + 1 ≤ n ∧ xs.length ≤ 50000 ∧ T.wds xs = true ∧ as = [.l xs, .l xs]))
abbrev sSame : Stmt := topS 43
theorem scSame : FnScope ["_law_got", "_law_goal", "_law_mine_so", "_law_own"] ["_law_got", "_law_goal"] (defScope sSame) := ⟨rfl, rfl, rfl, by decide +kernel, rfl, by decide +kernel, by decide +kernel⟩
theorem zip_self (xs : List T) : zipT xs xs = xs.map fun x => T.t [x, x] := by
  unfold zipT
  induction xs with
  | nil => rfl
  | cons x r ih => rw [List.zip_cons_cons, List.map_cons, List.map_cons, ih]
theorem k_ll : kitB "list" "list" = some true := by decide +kernel
theorem k_lt : kitB "list" "tuple" = some false := by decide +kernel
theorem k_tl : kitB "tuple" "list" = some false := by decide +kernel
theorem k_tt : kitB "tuple" "tuple" = some true := by decide +kernel
theorem k_ii : kitB "int" "int" = some true := by decide +kernel
theorem k_ib : kitB "int" "bool" = some false := by decide +kernel
theorem k_is : kitB "int" "str" = some false := by decide +kernel
section
variable {P : Program} {w : World} {K : PySem.W.Frag} {mg : Str → Option Value} {base : Heap}
theorem givenLL {xs ys : List T} {δ1 : Dl} (g : Paired Given [.l xs, .l ys] δ1) : ∃ p q, δ1 = [.bas p xs, .bas q ys] := by
  cases g with
  | cons h t =>
    cases h
    obtain ⟨q, rfl⟩ := givenL t
    exact ⟨_, q, rfl⟩
theorem ok_same (D : Def K mg "_law_same" sSame ["_law_got", "_law_goal"]) (mi : mg "isinstance" = none) (ml : mg "list" = none) (mt : mg "tuple" = none) (mb : mg "bool" = none) (ms : mg "str" = none) (mn : mg "int" = none) (mle : mg "len" = none) (ma : mg "all" = none) (mz : mg "zip" = none) :
    ∀ n, FnAt P w K mg base (n + 1) "_law_same" ["_law_got", "_law_goal"] (spB K (FSame n)) := by
  have leaf : ∀ {f : Addr} {cdv : Value} {A : Around} {outer : List Env} {s : Shared} {H : Hp} {E : XK} {z : Int} {a b : Sd}, DSs H (bdX P w K mg base ["_law_got", "_law_goal", "_law_mine_so", "_law_own"] "_law_same" sSame f cdv A outer s H E) (defBody sSame) [.d (.i z), .d (.i z), a, b] (fun _ => False) (fun v H' => Same H H' ∧ v = .bl true) := by
    intro f cdv A outer s H E z a b
    refine ss_cons (M := fun δ' => δ' = [.d (.i z), .d (.i z), a, b]) (s_if (t_val (r_isLT mi (r_var 1) (fun _ => by simp) ml mt)) (fun h => by cases h) fun _ => ss_nil rfl) ?_
    rintro δ' rfl
    refine ss_cons (M := fun δ' => δ' = [.d (.i z), .d (.i z), a, b]) (s_if (k := false || (false || false)) (w_or (t_isN (r_var 1) (by simp)) fun _ => w_or1 (t_val (r_isi2 (ad := .d (.i z)) (T1 := "bool") (T2 := "str") mi (r_var 1) (fun _ => by simp) mb ms k_ib k_is))).t (fun h => by cases h) fun _ => ss_nil rfl) ?_
    rintro δ' rfl
    refine ss_one (s_retV (w := .bl (true && (!false && decide (z = z)))) (r_and (r_isi (ad := .d (.i z)) (T1 := "int") mi (r_var 0) (fun _ => by simp) mn k_ii) fun _ => r_and (r_not (r_isi (ad := .d (.i z)) (T1 := "bool") mi (r_var 0) (fun _ => by simp) mb k_ib)) fun _ => r_one (r_eq (r_var 0) (r_var 1))) fun H' e => ⟨e, ?_⟩)
    simp
  intro n
  induction n with
  | zero =>
    refine D.b scSame (by decide) (fun as d h => ?_) fun f cdv A outer s H E hr as d δ1 hF g => ?_
    · obtain ⟨_, ⟨_, _, _, rfl⟩ | ⟨_, _, _, _, rfl⟩⟩ := h <;> rfl
    · obtain ⟨rfl, ⟨x, h1, h2, rfl⟩ | ⟨xs, h1, _⟩⟩ := hF
      · rw [given2 g]
        cases x with
        | i z => exact leaf
        | t l => simp [T.depth] at h1
      · omega
  | succ n ih =>
    refine D.b scSame (by decide) (fun as d h => ?_) fun f cdv A outer s H E hr as d δ1 hF g => ?_
    · obtain ⟨_, ⟨_, _, _, rfl⟩ | ⟨_, _, _, _, rfl⟩⟩ := h <;> rfl
    · obtain ⟨rfl, ⟨x, h1, h2, rfl⟩ | ⟨l, h1, h2, h3, rfl⟩⟩ := hF
      · rw [given2 g]
        cases x with
        | i z => exact leaf
        | t l =>
          have hd : ∀ x ∈ l, x.depth ≤ n := T.depths_le.mp (by simp only [T.depth] at h1; omega)
          rw [T.wd, Bool.and_eq_true] at h2
          have hw := T.wds_all.mp h2.2
          refine ss_cons (M := fun _ => False) (s_if (t_val (r_isLT mi (r_var 1) (fun _ => by simp) ml mt)) (fun _ => ?_) fun h => by cases h) fun _ z => z.elim
          refine ss_cons (M := fun δ' => δ' = [.d (.t l), .d (.t l), .no, .no]) (s_if (k := !decide (false = false) || !decide (true = true)) (w_or (t_neB (r_isi (ad := .d (.t l)) (T1 := "list") mi (r_var 0) (fun _ => by simp) ml k_tl) (r_isi (ad := .d (.t l)) (T1 := "list") mi (r_var 1) (fun _ => by simp) ml k_tl)) fun _ => w_or1 (t_neB (r_isi (ad := .d (.t l)) (T1 := "tuple") mi (r_var 0) (fun _ => by simp) mt k_tt) (r_isi (ad := .d (.t l)) (T1 := "tuple") mi (r_var 1) (fun _ => by simp) mt k_tt))).t (fun h => by simp at h) fun _ => ss_nil rfl) ?_
          rintro δ' rfl
          refine ss_one (s_retV (w := .bl (decide ((l.length : Int) = l.length) && (zipT l l).all fun _ => true)) (r_and (r_eq (r_lenT mle (r_var 0)) (r_lenT mle (r_var 1))) fun _ => r_one ?_) fun H' e => ⟨e, ?_⟩)
          · refine r_all (own := [("_law_mine_so", 2), ("_law_own", 3)]) (fun _ => true) (fun y => match y with | .t [u, v] => [.d (.t l), .d (.t l), .d u, .d v] | _ => []) ma scSame.nd (blkOk_by (by rfl)) (it_zipT mz (r_var 0) (r_var 1)).s ?_ ?_ ?_
            · rw [zip_self, List.length_map]; exact of_decide_eq_true h2.1
            · intro s H C cl fp y hy
              rw [zip_self] at hy
              obtain ⟨z, hz, rfl⟩ := List.mem_map.mp hy
              exact g_two (i := 2) (j := 3) scSame.nd
            · intro s H C cl fp y hy
              rw [zip_self] at hy
              obtain ⟨z, hz, rfl⟩ := List.mem_map.mp hy
              exact b_call ih hr (da_cons (r_var 2) (da_1 (r_var 3))) ⟨rfl, .inl ⟨z, hd z hz, hw z hz, rfl⟩⟩
          · simp
      · obtain ⟨p, q, rfl⟩ := givenLL g
        have hd : ∀ x ∈ l, x.depth ≤ n := T.depths_le.mp (by omega)
        have hw := T.wds_all.mp h3
        refine ss_cons (M := fun _ => False) (s_if (t_val (r_isLT mi (r_var 1) (fun _ => by simp) ml mt)) (fun _ => ?_) fun h => by cases h) fun _ z => z.elim
        refine ss_cons (M := fun δ' => δ' = [.bas p l, .bas q l, .no, .no]) (s_if (k := !decide (true = true) || !decide (false = false)) (w_or (t_neB (r_isi (ad := .l l) (T1 := "list") mi (r_var 0) (fun _ => by simp) ml k_ll) (r_isi (ad := .l l) (T1 := "list") mi (r_var 1) (fun _ => by simp) ml k_ll)) fun _ => w_or1 (t_neB (r_isi (ad := .l l) (T1 := "tuple") mi (r_var 0) (fun _ => by simp) mt k_lt) (r_isi (ad := .l l) (T1 := "tuple") mi (r_var 1) (fun _ => by simp) mt k_lt))).t (fun h => by simp at h) fun _ => ss_nil rfl) ?_
        rintro δ' rfl
        refine ss_one (s_retV (w := .bl (decide ((l.length : Int) = l.length) && (zipT l l).all fun _ => true)) (r_and (r_eq (r_lenL mle (r_var 0)) (r_lenL mle (r_var 1))) fun _ => r_one ?_) fun H' e => ⟨e, ?_⟩)
        · refine r_all (own := [("_law_mine_so", 2), ("_law_own", 3)]) (fun _ => true) (fun y => match y with | .t [u, v] => [.bas p l, .bas q l, .d u, .d v] | _ => []) ma scSame.nd (blkOk_by (by rfl)) (it_zipL mz (r_var 0) (r_var 1)) ?_ ?_ ?_
          · rw [zip_self, List.length_map]; exact h2
          · intro s H C cl fp y hy
            rw [zip_self] at hy
            obtain ⟨z, hz, rfl⟩ := List.mem_map.mp hy
            exact g_two (i := 2) (j := 3) scSame.nd
          · intro s H C cl fp y hy
            rw [zip_self] at hy
            obtain ⟨z, hz, rfl⟩ := List.mem_map.mp hy
            exact b_call ih hr (da_cons (r_var 2) (da_1 (r_var 3))) ⟨rfl, .inl ⟨z, hd z hz, hw z hz, rfl⟩⟩
        · simp
end
end Kd
-- K68P1
set_option maxRecDepth 100000
set_option maxHeartbeats 4000000
/-! The plain law: gathering keeps every linear value. -/
namespace Kd
open PySem PySem.Spec PyProof.Rows L2 KdIt
def linR (φ : T → Rat) (ps : List (T × Rat)) : Rat := sumL (ps.map fun p => p.2 * φ p.1)
theorem linR_cons (φ : T → Rat) (p : T × Rat) (ps : List (T × Rat)) : linR φ (p :: ps) = p.2 * φ p.1 + linR φ ps := by unfold linR; rw [List.map_cons, sumL_cons]
theorem linR_append (φ : T → Rat) (ps qs : List (T × Rat)) : linR φ (ps ++ qs) = linR φ ps + linR φ qs := by unfold linR; rw [List.map_append, sumL_append]
theorem linR_nil (φ : T → Rat) : linR φ [] = 0 := rfl
theorem linR_flat {α : Type} (φ : T → Rat) (l : List α) (f : α → List (T × Rat)) : linR φ (l.flatMap f) = sumL (l.map fun x => linR φ (f x)) := by
  unfold linR; rw [sumL_flatMap]
theorem pA_lin (φ : T → Rat) : ∀ (tab : List (T × Rat)) (k : T) (x : Rat), (tab.map (·.1)).Nodup → linR φ (pA tab k ((gA tab k).getD 0 + x)) = linR φ tab + x * φ k
  | [], k, x, _ => by
    show linR φ ([] ++ [(k, (0 : Rat) + x)]) = 0 + x * φ k
    rw [List.nil_append, linR_cons, linR_nil]; grind
  | p :: r, k, x, hn => by
    rw [List.map_cons, List.nodup_cons] at hn
    by_cases e : p.1 = k
    · have hk : gA r k = none := by
        cases q : gA r k with
        | none => rfl
        | some v => exact absurd (by rw [e]; exact List.mem_map.mpr ⟨_, gA_mem q, rfl⟩) hn.1
      have hr : r.map (fun kv => if kv.1 = k then (kv.1, p.2 + x) else kv) = r := by
        conv => rhs; rw [← List.map_id r]
        refine List.map_congr_left fun q hq => ?_
        have : q.1 ≠ k := fun z => hn.1 (by rw [e, ← z]; exact List.mem_map.mpr ⟨q, hq, rfl⟩)
        rw [if_neg this]; rfl
      rw [gA_cons_pos e, Option.getD_some]
      unfold pA
      rw [gA_cons_pos e, if_pos (show (some p.2).isSome = true from rfl), List.map_cons, if_pos e, hr, linR_cons, linR_cons, e]
      grind
    · have ih := pA_lin φ r k x hn.2
      rw [gA_cons_neg e]
      have hp : pA (p :: r) k ((gA r k).getD 0 + x) = p :: pA r k ((gA r k).getD 0 + x) := by
        unfold pA
        rw [gA_cons_neg e]
        split
        · rw [List.map_cons, if_neg e]
        · rfl
      rw [hp, linR_cons, linR_cons, ih]; grind
theorem gTab_lin (φ : T → Rat) (ps : List (T × Rat)) : linR φ (gTab ps) = linR φ ps := by
  refine ind_snoc (p := fun ps => linR φ (gTab ps) = linR φ ps) rfl (fun l x ih => ?_) ps
  rw [gTab_snoc, linR_append, linR_cons, linR_nil]
  unfold gStep
  rw [pA_lin φ _ _ _ (gTab_nodup l), ih]; grind
theorem filter_lin (φ : T → Rat) (val : T → Rat) (ks : List T) : linR φ ((ks.filter fun k => !decide (val k = 0)).map fun k => (k, val k)) = sumL (ks.map fun k => val k * φ k) := by
  induction ks with
  | nil => rfl
  | cons k r ih =>
    rw [List.map_cons, sumL_cons, ← ih, List.filter_cons]
    by_cases h : val k = 0
    · rw [if_neg (by simp [h]), h]; grind
    · rw [if_pos (by simp [h]), List.map_cons, linR_cons]
/-- gathering keeps every linear value -/
theorem gat_lin (φ : T → Rat) (ps : List (T × Rat)) : linR φ (gatF ps) = linR φ ps := by
  unfold gatF
  rw [filter_lin, ← gTab_lin φ ps]
  have e1 : sumL ((srtT ((gTab ps).map (·.1))).map fun k => gVal ps k * φ k) = sumL (((gTab ps).map (·.1)).map fun k => gVal ps k * φ k) := sumL_perm ((srtT_perm _).map _)
  rw [e1, List.map_map]
  unfold linR
  congr 1
  refine List.map_congr_left fun p hp => ?_
  show gVal ps p.1 * φ p.1 = p.2 * φ p.1
  have : gVal ps p.1 = p.2 := by unfold gVal; rw [gA_in (gTab_nodup ps) hp]; rfl
  rw [this]
theorem formR_lin (ps : List (T × Rat)) (R : List (List Rat)) : formR ps R = linR (phi R) ps := rfl
theorem scP_lin (φ : T → Rat) (z : Rat) (ps : List (T × Rat)) : linR φ (scP z ps) = z * linR φ ps := by
  induction ps with
  | nil => rw [show scP z [] = [] from rfl, linR_nil]; grind
  | cons p r ih =>
    rw [show scP z (p :: r) = (p.1, p.2 * z) :: scP z r from rfl, linR_cons, linR_cons, ih]; grind
theorem sgP_lin (φ : T → Rat) (z : Rat) (ps : List (T × Rat)) : linR φ (sgP z ps) = z * linR φ ps := by
  induction ps with
  | nil => rw [show sgP z [] = [] from rfl, linR_nil]; grind
  | cons p r ih =>
    rw [show sgP z (p :: r) = (p.1, z * p.2) :: sgP z r from rfl, linR_cons, linR_cons, ih]; grind
theorem sumL_mul_left {α : Type} (c : Rat) (f : α → Rat) (l : List α) : sumL (l.map fun x => c * f x) = c * sumL (l.map f) := sumL_map_mul c f l
theorem sumL_swap {α β : Type} (l : List α) (r : List β) (f : α → β → Rat) : sumL (l.map fun x => sumL (r.map (f x))) = sumL (r.map fun y => sumL (l.map fun x => f x y)) := by
  induction l with
  | nil =>
    rw [List.map_nil]
    have : (r.map fun y => sumL (([] : List α).map fun x => f x y)) = r.map fun _ => (0 : Rat) := rfl
    rw [this, sumL_map_zero]; rfl
  | cons x l ih =>
    rw [List.map_cons, sumL_cons, ih]
    have : (r.map fun y => sumL ((x :: l).map fun x => f x y)) = r.map fun y => f x y + sumL (l.map fun x => f x y) := List.map_congr_left fun y _ => by rw [List.map_cons, sumL_cons]
    rw [this, sumL_map_add]
/-! ### the best program's value -/
def movedN (ks : List (List Nat)) (o : List Nat) : List (List Nat) := (ks.zip o).foldl (fun f p => f.set p.2 p.1) (List.replicate o.length [])
theorem moved_fac (ks : List (List Nat)) (o : List Nat) : mvT (natsT o) (facT ks) = facT (movedN ks o) := by
  unfold mvT
  rw [natL_nats]
  show T.t (movedL (ks.map natsT) o) = T.t ((movedN ks o).map natsT)
  congr 1
  unfold movedL movedN
  have e0 : (List.replicate o.length (T.t [])) = (List.replicate o.length ([] : List Nat)).map natsT := by rw [List.map_replicate]; rfl
  rw [e0, List.zip_map_left, List.foldl_map]
  generalize List.replicate o.length ([] : List Nat) = f
  generalize ks.zip o = l
  induction l generalizing f with
  | nil => rfl
  | cons p r ih =>
    rw [List.foldl_cons, List.foldl_cons, ← ih]
    congr 1
    show (f.map natsT).set p.2 (natsT p.1) = _
    rw [List.map_set]
theorem phi_fac (R : List (List Rat)) (fs : List (List Nat)) : phi R (facT fs) = prodL ((fs.zip R).map fun q => numR q.2 q.1) := by unfold phi; rw [keyN_fac]
/-- the mean over the orders -/
def ordV (n : Nat) (ks : List (List Nat)) (R : List (List Rat)) : Rat := mkRat 1 (ordL n).length * sumL ((ordL n).map fun o => prodL (((movedN ks o).zip R).map fun q => numR q.2 q.1))
def bpN (n c : Nat) (fs : List (List Nat)) : List (List Nat) := fs ++ List.replicate (n - fs.length) (List.replicate c 0)
theorem bpK_fac (n c : Nat) (fs : List (List Nat)) : bpK n c fs = facT (bpN n c fs) := by
  unfold bpK bpN facT
  rw [List.map_append, List.map_replicate]
theorem bpF_val (n c : Nat) (W : Wish) (R : List (List Rat)) : formR (bpF n c W) R = sumL (W.map fun p => p.2 * ordV n (bpN n c p.1) R) := by
  have hev : formR (bpF n c W) R = mkRat 1 (ordL n).length * sumL ((ordL n).map fun o => linR (fun k => phi R (mvT (natsT o) k)) (bpP n c W)) := by
    have step : ∀ o, linR (phi R) ((gatF (bpP n c W)).map fun p => (mvT o p.1, p.2)) = linR (fun k => phi R (mvT o k)) (bpP n c W) := fun o => by
      rw [← gat_lin (fun k => phi R (mvT o k)) (bpP n c W)]
      unfold linR
      rw [List.map_map]; rfl
    have main : linR (phi R) (evP n (gatF (bpP n c W))) = sumL ((ordL n).map fun o => linR (fun k => phi R (mvT (natsT o) k)) (bpP n c W)) := by
      unfold evP
      rw [linR_flat]
      unfold ordT
      rw [sumL_perm ((srtT_perm _).map _), List.map_map]
      congr 1
      refine List.map_congr_left fun o _ => ?_
      exact step (natsT o)
    rw [formR_lin]
    unfold bpF evF
    split
    · rename_i h
      rw [← main, h]
      unfold evP
      rw [linR_flat]
      have : ((ordT n).map fun x => linR (phi R) (([] : List (T × Rat)).map fun p => (mvT x p.1, p.2))) = (ordT n).map fun _ => (0 : Rat) := rfl
      rw [this, sumL_map_zero, linR_nil]; grind
    · rw [gat_lin, scP_lin, gat_lin, main]
  rw [hev]
  have e2 : ((ordL n).map fun o => linR (fun k => phi R (mvT (natsT o) k)) (bpP n c W)) = (ordL n).map fun o => sumL (W.map fun p => p.2 * prodL (((movedN (bpN n c p.1) o).zip R).map fun q => numR q.2 q.1)) := List.map_congr_left fun o _ => by
    unfold linR bpP
    rw [List.map_map]
    congr 1
    refine List.map_congr_left fun p _ => ?_
    show p.2 * phi R (mvT (natsT o) (bpK n c p.1)) = _
    rw [bpK_fac, moved_fac, phi_fac]
  rw [e2, sumL_swap, ← sumL_map_mul]
  congr 1
  refine List.map_congr_left fun p _ => ?_
  rw [sumL_map_mul]
  unfold ordV
  grind
end Kd
-- K68P2
set_option maxRecDepth 100000
set_option maxHeartbeats 4000000
/-! The plain law: means over orders and over injections. -/
namespace Kd
open PySem PySem.Spec PyProof.Rows L2 KdIt
theorem prodL_ones {l : List Rat} (h : ∀ x ∈ l, x = 1) : prodL l = 1 := by
  induction l with
  | nil => rfl
  | cons x r ih => rw [prodL_cons, h x (List.mem_cons_self ..), ih fun y hy => h y (List.mem_cons_of_mem _ hy), Rat.one_mul]
theorem numR_zero (r : List Rat) (c : Nat) : numR r (List.replicate c 0) = 1 := by
  unfold numR
  refine prodL_ones fun x hx => ?_
  obtain ⟨p, hp, rfl⟩ := List.mem_map.mp hx
  have : p.2 = 0 := List.eq_of_mem_replicate (List.of_mem_zip (a := p.1) (b := p.2) hp).2
  rw [this, Rat.pow_zero]
def bestV (R : List (List Rat)) (fs : List (List Nat)) : Rat := mkRat 1 (imgL R.length fs.length).length * sumL ((imgL R.length fs.length).map fun lane => laneR R fs lane (lane.zip fs).length)
theorem bestR_val (R : List (List Rat)) (W : Wish) : bestR R W = sumL (W.map fun p => p.2 * bestV R p.1) := by
  unfold bestR bestL
  have := sumL_flatMap W (fun p => (imgL R.length p.1.length).map (best1 R p)) id
  rw [List.map_id] at this
  rw [this]
  congr 1
  refine List.map_congr_left fun p _ => ?_
  rw [List.map_id]
  unfold bestV best1
  rw [sumL_map_mul]
  grind
theorem inv_eq (k : Nat) : mkRat 1 k = 1 / (k : Rat) := by rw [Rat.mkRat_eq_div]; simp
theorem laneR_full (R : List (List Rat)) (fs : List (List Nat)) (lane : List Nat) : laneR R fs lane (lane.zip fs).length = prodL ((lane.zip fs).map fun q => numR (R.getD q.1 []) q.2) := by unfold laneR; rw [List.take_length]
theorem o1 : ordL 1 = [[0]] := by decide
theorem o2 : ordL 2 = [[1, 0], [0, 1]] := by decide
theorem o3 : ordL 3 = [[2, 1, 0], [1, 2, 0], [1, 0, 2], [2, 0, 1], [0, 2, 1], [0, 1, 2]] := by decide
theorem i20 (n : Nat) : imgL n 0 = [[]] := rfl
theorem i11 : imgL 1 1 = [[0]] := by decide
theorem i21 : imgL 2 1 = [[0], [1]] := by decide
theorem i31 : imgL 3 1 = [[0], [1], [2]] := by decide
theorem i41 : imgL 4 1 = [[0], [1], [2], [3]] := by decide
theorem i22 : imgL 2 2 = [[0, 1], [1, 0]] := by decide
theorem i32 : imgL 3 2 = [[0, 1], [0, 2], [1, 0], [1, 2], [2, 0], [2, 1]] := by decide
theorem i42 : imgL 4 2 = [[0, 1], [0, 2], [0, 3], [1, 0], [1, 2], [1, 3], [2, 0], [2, 1], [2, 3], [3, 0], [3, 1], [3, 2]] := by decide
theorem o4 : ordL 4 = [[3, 2, 1, 0], [2, 3, 1, 0], [2, 1, 3, 0], [2, 1, 0, 3], [3, 1, 2, 0], [1, 3, 2, 0], [1, 2, 3, 0], [1, 2, 0, 3], [3, 1, 0, 2], [1, 3, 0, 2], [1, 0, 3, 2], [1, 0, 2, 3], [3, 2, 0, 1], [2, 3, 0, 1], [2, 0, 3, 1], [2, 0, 1, 3], [3, 0, 2, 1], [0, 3, 2, 1], [0, 2, 3, 1], [0, 2, 1, 3], [3, 0, 1, 2], [0, 3, 1, 2], [0, 1, 3, 2], [0, 1, 2, 3]] := by decide
theorem ord_1_0 (c : Nat) (r : List Rat) : ordV 1 (bpN 1 c []) [r] = bestV [r] [] := by
  simp [ordV, bestV, o1, i20, bpN, movedN, laneR, sumL, prodL, numR_zero, inv_eq]
  try grind
theorem ord_1_1 (c : Nat) (r : List Rat) (a : List Nat) : ordV 1 (bpN 1 c [a]) [r] = bestV [r] [a] := by
  simp [ordV, bestV, o1, i11, bpN, movedN, laneR, sumL, prodL, numR_zero, inv_eq]
  try grind
theorem ord_2_0 (c : Nat) (r s : List Rat) : ordV 2 (bpN 2 c []) [r, s] = bestV [r, s] [] := by
  simp [ordV, bestV, o2, i20, bpN, movedN, laneR, sumL, prodL, numR_zero, inv_eq]
  try grind
theorem ord_2_1 (c : Nat) (r s : List Rat) (a : List Nat) : ordV 2 (bpN 2 c [a]) [r, s] = bestV [r, s] [a] := by
  simp [ordV, bestV, o2, i21, bpN, movedN, laneR, sumL, prodL, numR_zero, inv_eq]
  try grind
theorem ord_2_2 (c : Nat) (r s : List Rat) (a b : List Nat) : ordV 2 (bpN 2 c [a, b]) [r, s] = bestV [r, s] [a, b] := by
  simp [ordV, bestV, o2, i22, bpN, movedN, laneR, sumL, prodL, numR_zero, inv_eq]
  try grind
theorem ord_3_0 (c : Nat) (r s t : List Rat) : ordV 3 (bpN 3 c []) [r, s, t] = bestV [r, s, t] [] := by
  simp [ordV, bestV, o3, i20, bpN, movedN, laneR, sumL, prodL, numR_zero, inv_eq]
  try grind
theorem ord_3_1 (c : Nat) (r s t : List Rat) (a : List Nat) : ordV 3 (bpN 3 c [a]) [r, s, t] = bestV [r, s, t] [a] := by
  simp [ordV, bestV, o3, i31, bpN, movedN, laneR, sumL, prodL, numR_zero, inv_eq]
  try grind
theorem ord_3_2 (c : Nat) (r s t : List Rat) (a b : List Nat) : ordV 3 (bpN 3 c [a, b]) [r, s, t] = bestV [r, s, t] [a, b] := by
  simp [ordV, bestV, o3, i32, bpN, movedN, laneR, sumL, prodL, numR_zero, inv_eq]
  try grind
theorem ord_4_0 (c : Nat) (r s t u : List Rat) : ordV 4 (bpN 4 c []) [r, s, t, u] = bestV [r, s, t, u] [] := by
  simp [ordV, bestV, o4, i20, bpN, movedN, laneR, sumL, prodL, numR_zero, inv_eq]
  try grind
theorem ord_4_1 (c : Nat) (r s t u : List Rat) (a : List Nat) : ordV 4 (bpN 4 c [a]) [r, s, t, u] = bestV [r, s, t, u] [a] := by
  simp [ordV, bestV, o4, i41, bpN, movedN, laneR, sumL, prodL, numR_zero, inv_eq]
  try grind
theorem ord_4_2 (c : Nat) (r s t u : List Rat) (a b : List Nat) : ordV 4 (bpN 4 c [a, b]) [r, s, t, u] = bestV [r, s, t, u] [a, b] := by
  simp [ordV, bestV, o4, i42, bpN, movedN, laneR, sumL, prodL, numR_zero, inv_eq]
  try grind
/-- the mean over the orders is the mean over the injections -/
theorem ord_best (c : Nat) (R : List (List Rat)) (fs : List (List Nat)) (h0 : 1 ≤ R.length) (h1 : R.length ≤ 4) (h2 : fs.length ≤ 2) (h3 : fs.length ≤ R.length) : ordV R.length (bpN R.length c fs) R = bestV R fs := by
  match R, fs, h0, h1, h2, h3 with
  | [r], [], _, _, _, _ => exact ord_1_0 c r 
  | [r], [a], _, _, _, _ => exact ord_1_1 c r a
  | [r, s], [], _, _, _, _ => exact ord_2_0 c r s 
  | [r, s], [a], _, _, _, _ => exact ord_2_1 c r s a
  | [r, s], [a, b], _, _, _, _ => exact ord_2_2 c r s a b
  | [r, s, t], [], _, _, _, _ => exact ord_3_0 c r s t 
  | [r, s, t], [a], _, _, _, _ => exact ord_3_1 c r s t a
  | [r, s, t], [a, b], _, _, _, _ => exact ord_3_2 c r s t a b
  | [r, s, t, u], [], _, _, _, _ => exact ord_4_0 c r s t u 
  | [r, s, t, u], [a], _, _, _, _ => exact ord_4_1 c r s t u a
  | [r, s, t, u], [a, b], _, _, _, _ => exact ord_4_2 c r s t u a b
  | [r], _ :: _ :: _, _, _, _, h => simp at h
  | _ :: _ :: _ :: _ :: _ :: _, _, _, h, _, _ => simp at h
  | _, _ :: _ :: _ :: _, _, _, h, _ => simp at h
/-- the best program's value is the law's best -/
theorem best_value (c : Nat) (W : Wish) (R : List (List Rat)) (hW : WishOk c W) (h0 : 1 ≤ R.length) (h1 : R.length ≤ 4) (hd : degW W ≤ R.length) : formR (bpF R.length c W) R = bestR R W := by
  rw [bpF_val, bestR_val]
  congr 1
  refine List.map_congr_left fun p hp => ?_
  rw [ord_best c R p.1 h0 h1 (hW.fac p hp).1 (Nat.le_trans (deg_le hp) hd)]
end Kd
-- K68P3
set_option maxRecDepth 100000
set_option maxHeartbeats 4000000
/-! The plain law: the parts' values. -/
namespace Kd
open PySem PySem.Spec PyProof.Rows L2 KdIt
def Ub (r : List Rat) (a : List Nat) : Rat := if a = [] then 1 else numR r a
def Mb (S : Src) (a : List Nat) : Rat := if a = [] then 1 else meanR S a
theorem num_or (r : List Rat) (c : Nat) (a : List Nat) : numR r (orB c a) = Ub r a := by
  unfold orB Ub
  split
  · exact numR_zero r c
  · rfl
def mnV (S : Src) (full : List (List Nat)) (im : List Nat) : Rat := prodL (full.zipIdx.map fun p => if p.2 ∈ im then 1 else Mb S p.1)
theorem mn_eq (S : Src) (full : List (List Nat)) (im : List Nat) : prodL (mnL S full im full.length) = mnV S full im := by
  unfold mnL mnV
  rw [List.take_of_length_le (by rw [List.length_zipIdx]; exact Nat.le_refl _)]
  generalize full.zipIdx = l
  induction l with
  | nil => rfl
  | cons p r ih =>
    rw [List.map_cons, prodL_cons, ← ih, List.filter_cons]
    unfold Mb
    by_cases h1 : p.2 ∈ im
    · simp [h1, Rat.one_mul]
    · by_cases h2 : p.1 = []
      · simp [h1, h2, Rat.one_mul]
      · simp [h1, h2, prodL_cons]
def toldV (S : Src) (c k m : Nat) (full : List (List Nat)) (lt : List Nat) (R : List (List Rat)) : Rat :=
  sumL ((outsP m lt.length).map fun im => mkRat 1 (outsP m lt.length).length * mnV S full im * phi R (tmK c k full lt im))
theorem tmP_val (S : Src) (c k m : Nat) (W : Wish) (lt : List Nat) (R : List (List Rat)) : linR (phi R) (tmP S c k m W lt) = sumL (W.map fun p => p.2 * toldV S c k m (fullN m p.1) lt R) := by
  unfold tmP
  rw [linR_flat]
  congr 1
  refine List.map_congr_left fun p _ => ?_
  unfold linR toldV
  rw [List.map_map, ← sumL_map_mul]
  congr 1
  refine List.map_congr_left fun im _ => ?_
  show tmY S (fullN m p.1) p.2 (outsP m lt.length).length im (fullN m p.1).length * phi R (tmK c k (fullN m p.1) lt im) = _
  unfold tmY
  rw [mn_eq]
  grind
def partV (S : Src) (c k m : Nat) (full : List (List Nat)) (R : List (List Rat)) : Rat := sumL ((List.range (k + 1)).map fun many => sumL ((outsC k many).map fun lt => sgn (k - many) * toldV S c k m full lt R))
theorem pfF_val (S : Src) (c k : Nat) (W : Wish) (R : List (List Rat)) : formR (pfF S c k W) R = sumL (W.map fun p => p.2 * partV S c k (degW W) (fullN (degW W) p.1) R) := by
  rw [formR_lin]
  unfold pfF
  rw [gat_lin]
  unfold pfP
  rw [linR_flat]
  have e1 : ((List.range (k + 1)).map fun many => linR (phi R) (pfM S c k (degW W) W many)) = (List.range (k + 1)).map fun many => sumL (W.map fun p => p.2 * sumL ((outsC k many).map fun lt => sgn (k - many) * toldV S c k (degW W) (fullN (degW W) p.1) lt R)) := by
    refine List.map_congr_left fun many _ => ?_
    unfold pfM
    rw [linR_flat]
    have e2 : ((outsC k many).map fun lt => linR (phi R) (sgP (sgn (k - many)) (tmP S c k (degW W) W lt))) = (outsC k many).map fun lt => sumL (W.map fun p => p.2 * (sgn (k - many) * toldV S c k (degW W) (fullN (degW W) p.1) lt R)) := by
      refine List.map_congr_left fun lt _ => ?_
      rw [sgP_lin, tmP_val, ← sumL_map_mul]
      congr 1
      refine List.map_congr_left fun p _ => ?_
      grind
    rw [e2, sumL_swap]
    congr 1
    refine List.map_congr_left fun p _ => ?_
    rw [sumL_map_mul]
  rw [e1, sumL_swap]
  congr 1
  refine List.map_congr_left fun p _ => ?_
  rw [sumL_map_mul]
  rfl
theorem tmK_phi (c k : Nat) (full : List (List Nat)) (lt im : List Nat) (R : List (List Rat)) : phi R (tmK c k full lt im) = prodL (((tmPow c k full lt im (lt.zip im).length).zip R).map fun q => numR q.2 q.1) := by
  unfold tmK; rw [phi_fac]
theorem pv_0_0 (S : Src) (c : Nat) : partV S c 0 0 [] [] = 1 := by
  simp [partV, toldV, outsP, outsC, sgn, mnV, tmK_phi, tmPow, sumL, prodL, inv_eq, List.range, List.range.loop, num_or, numR_zero]
  try grind
theorem pv_1_0 (S : Src) (c : Nat) (a : List Nat) : partV S c 0 1 [a] [] = Mb S a := by
  simp [partV, toldV, outsP, outsC, sgn, mnV, tmK_phi, tmPow, sumL, prodL, inv_eq, List.range, List.range.loop, num_or, numR_zero]
  try grind
theorem pv_1_1 (S : Src) (c : Nat) (a : List Nat) (r : List Rat) : partV S c 1 1 [a] [r] = Ub r a - Mb S a := by
  simp [partV, toldV, outsP, outsC, sgn, mnV, tmK_phi, tmPow, sumL, prodL, inv_eq, List.range, List.range.loop, num_or, numR_zero]
  try grind
theorem pv_2_0 (S : Src) (c : Nat) (a b : List Nat) : partV S c 0 2 [a, b] [] = Mb S a * Mb S b := by
  simp [partV, toldV, outsP, outsC, sgn, mnV, tmK_phi, tmPow, sumL, prodL, inv_eq, List.range, List.range.loop, num_or, numR_zero]
  try grind
theorem pv_2_1 (S : Src) (c : Nat) (a b : List Nat) (r : List Rat) : partV S c 1 2 [a, b] [r] = 1 / 2 * (Ub r a * Mb S b + Ub r b * Mb S a) - Mb S a * Mb S b := by
  simp [partV, toldV, outsP, outsC, sgn, mnV, tmK_phi, tmPow, sumL, prodL, inv_eq, List.range, List.range.loop, num_or, numR_zero]
  try grind
theorem pv_2_2 (S : Src) (c : Nat) (a b : List Nat) (r s : List Rat) : partV S c 2 2 [a, b] [r, s] = 1 / 2 * (Ub r a * Ub s b + Ub r b * Ub s a) - 1 / 2 * (Ub r a * Mb S b + Ub r b * Mb S a) - 1 / 2 * (Ub s a * Mb S b + Ub s b * Mb S a) + Mb S a * Mb S b := by
  simp [partV, toldV, outsP, outsC, sgn, mnV, tmK_phi, tmPow, sumL, prodL, inv_eq, List.range, List.range.loop, num_or, numR_zero]
  try grind
end Kd
-- K68P4
set_option maxRecDepth 100000
set_option maxHeartbeats 4000000
/-! The plain law: the layers add up. -/
namespace Kd
open PySem PySem.Spec PyProof.Rows L2 KdIt
theorem Ub_nil (r : List Rat) : Ub r [] = 1 := rfl
theorem Mb_nil (S : Src) : Mb S [] = 1 := rfl
theorem Ub_ne {r : List Rat} {a : List Nat} (h : a ≠ []) : Ub r a = numR r a := if_neg h
theorem Mb_ne {S : Src} {a : List Nat} (h : a ≠ []) : Mb S a = meanR S a := if_neg h
/-- the values of a wish's term, by its length -/
theorem part0_val (S : Src) (c m : Nat) (fs : List (List Nat)) (hm : m ≤ 2) (hl : fs.length ≤ m) (hne : ∀ a ∈ fs, a ≠ []) : partV S c 0 m (fullN m fs) [] = prodL (fs.map (meanR S)) := by
  match m, fs, hm, hl, hne with
  | 0, [], _, _, _ => exact pv_0_0 S c
  | 1, [], _, _, _ => rw [show fullN 1 [] = [[]] from rfl, pv_1_0, Mb_nil]; rfl
  | 1, [a], _, _, h => rw [show fullN 1 [a] = [a] from rfl, pv_1_0, Mb_ne (h a (by simp))]; simp [prodL]
  | 2, [], _, _, _ => rw [show fullN 2 [] = [[], []] from rfl, pv_2_0, Mb_nil]; simp [prodL]
  | 2, [a], _, _, h => rw [show fullN 2 [a] = [a, []] from rfl, pv_2_0, Mb_nil, Mb_ne (h a (by simp))]; simp [prodL]
  | 2, [a, b], _, _, h => rw [show fullN 2 [a, b] = [a, b] from rfl, pv_2_0, Mb_ne (h a (by simp)), Mb_ne (h b (by simp))]; simp [prodL]
  | 0, _ :: _, _, h, _ => simp at h
  | 1, _ :: _ :: _, _, h, _ => simp at h
  | 2, _ :: _ :: _ :: _, _, h, _ => simp at h
  | m + 3, _, h, _, _ => omega
theorem ne_of_c {c : Nat} {W : Wish} (hW : WishOk c W) (hc : 1 ≤ c) {p : List (List Nat) × Rat} (hp : p ∈ W) : ∀ a ∈ p.1, a ≠ [] := fun a ha z => by
  have := ((hW.fac p hp).2 a ha).1
  rw [z] at this
  simp at this; omega
/-- the nought layer's value is the law's worth -/
theorem worth_value (S : Src) (c : Nat) (W : Wish) (hW : WishOk c W) (hc : 1 ≤ c) : formR (pfF S c 0 W) [] = worthR S W := by
  rw [pfF_val]
  unfold worthR worth1
  congr 1
  refine List.map_congr_left fun p hp => ?_
  rw [part0_val S c _ _ (deg_two hW) (deg_le hp) (ne_of_c hW hc hp)]
/-! ### the mean of a part over its last row -/
theorem mean_Ub (S : Src) (hs : sumL (S.map (·.2)) = 1) (a : List Nat) : sumL (S.map fun p => p.2 * Ub p.1 a) = Mb S a := by
  unfold Ub Mb meanR
  split
  · have e : (S.map fun p => p.2 * 1) = S.map (·.2) := List.map_congr_left fun p _ => by rw [Rat.mul_one]
    rw [e, hs]
  · rfl
theorem mean_lin (S : Src) (hs : sumL (S.map (·.2)) = 1) (a b : List Nat) (x y z : Rat) : sumL (S.map fun p => p.2 * (x + y * Ub p.1 a + z * Ub p.1 b)) = x + y * Mb S a + z * Mb S b := by
  have e : (S.map fun p => p.2 * (x + y * Ub p.1 a + z * Ub p.1 b)) = S.map fun p => (x * p.2 + y * (p.2 * Ub p.1 a)) + z * (p.2 * Ub p.1 b) := List.map_congr_left fun p _ => by grind
  rw [e, sumL_map_add, sumL_map_add, sumL_map_mul, sumL_map_mul, sumL_map_mul, hs, mean_Ub S hs, mean_Ub S hs]; grind
theorem full_cases (m : Nat) (fs : List (List Nat)) (hm : m ≤ 2) (hl : fs.length ≤ m) : (m = 0 ∧ fullN m fs = []) ∨ (m = 1 ∧ ∃ a, fullN m fs = [a]) ∨ (m = 2 ∧ ∃ a b, fullN m fs = [a, b]) := by
  have hlen : (fullN m fs).length = m := by unfold fullN; rw [List.length_append, List.length_replicate]; omega
  have : m = 0 ∨ m = 1 ∨ m = 2 := by omega
  rcases this with rfl | rfl | rfl
  · exact .inl ⟨rfl, List.length_eq_zero_iff.mp hlen⟩
  · obtain ⟨a, h⟩ := List.length_eq_one_iff.mp hlen
    exact .inr (.inl ⟨rfl, a, h⟩)
  · match hf : fullN 2 fs, hlen with
    | [a, b], _ => exact .inr (.inr ⟨rfl, a, b, rfl⟩)
theorem tell_zero (S : Src) (hs : sumL (S.map (·.2)) = 1) (c k m : Nat) (fs : List (List Nat)) (hm : m ≤ 2) (hl : fs.length ≤ m) (hk1 : 1 ≤ k) (hk : k ≤ m) (ahead : List (List Rat)) (ha : ahead.length = k - 1) :
    sumL (S.map fun p => p.2 * partV S c k m (fullN m fs) (ahead ++ [p.1])) = 0 := by
  rcases full_cases m fs hm hl with ⟨rfl, h⟩ | ⟨rfl, a, h⟩ | ⟨rfl, a, b, h⟩
  · omega
  · have : k = 1 := by omega
    subst this
    have : ahead = [] := List.length_eq_zero_iff.mp ha
    subst this
    rw [h]
    have e : (S.map fun p => p.2 * partV S c 1 1 [a] ([] ++ [p.1])) = S.map fun p => p.2 * (-(Mb S a) + 1 * Ub p.1 a + 0 * Ub p.1 a) := List.map_congr_left fun p _ => by
      rw [List.nil_append, pv_1_1]; grind
    rw [e, mean_lin S hs]; grind
  · have : k = 1 ∨ k = 2 := by omega
    rcases this with rfl | rfl
    · have : ahead = [] := List.length_eq_zero_iff.mp ha
      subst this
      rw [h]
      have e : (S.map fun p => p.2 * partV S c 1 2 [a, b] ([] ++ [p.1])) = S.map fun p => p.2 * (-(Mb S a * Mb S b) + (1 / 2 * Mb S b) * Ub p.1 a + (1 / 2 * Mb S a) * Ub p.1 b) := List.map_congr_left fun p _ => by
        rw [List.nil_append, pv_2_1]; grind
      rw [e, mean_lin S hs]; grind
    · obtain ⟨r, hr⟩ := List.length_eq_one_iff.mp ha
      subst hr
      rw [h]
      have e : (S.map fun p => p.2 * partV S c 2 2 [a, b] ([r] ++ [p.1])) = S.map fun p => p.2 * ((Mb S a * Mb S b - 1 / 2 * (Ub r a * Mb S b + Ub r b * Mb S a)) + (1 / 2 * Ub r b - 1 / 2 * Mb S b) * Ub p.1 a + (1 / 2 * Ub r a - 1 / 2 * Mb S a) * Ub p.1 b) := List.map_congr_left fun p _ => by
        show p.2 * partV S c 2 2 [a, b] [r, p.1] = _
        rw [pv_2_2]; grind
      rw [e, mean_lin S hs]; grind
theorem told_zero (S : Src) (hs : sumL (S.map (·.2)) = 1) (c k : Nat) (W : Wish) (hW : WishOk c W) (hk1 : 1 ≤ k) (hk : k ≤ degW W) (ahead : List (List Rat)) (ha : ahead.length = k - 1) :
    sumL (S.map fun p => p.2 * formR (pfF S c k W) (ahead ++ [p.1])) = 0 := by
  have e : (S.map fun p => p.2 * formR (pfF S c k W) (ahead ++ [p.1])) = S.map fun p => sumL (W.map fun w => w.2 * (p.2 * partV S c k (degW W) (fullN (degW W) w.1) (ahead ++ [p.1]))) := List.map_congr_left fun p _ => by
    rw [pfF_val, ← sumL_map_mul]
    congr 1
    exact List.map_congr_left fun w _ => by grind
  rw [e, sumL_swap]
  have e2 : (W.map fun w => sumL (S.map fun p => w.2 * (p.2 * partV S c k (degW W) (fullN (degW W) w.1) (ahead ++ [p.1])))) = W.map fun _ => (0 : Rat) := List.map_congr_left fun w hw => by
    rw [sumL_map_mul, tell_zero S hs c k _ _ (deg_two hW) (deg_le hw) hk1 hk ahead ha]; grind
  rw [e2, sumL_map_zero]
/-! ### the sum over the lots -/
def lotV (S : Src) (c m : Nat) (full : List (List Nat)) (R : List (List Rat)) : Rat := sumL ((lotL m R.length).map fun lot => mkRat (chN m lot.length) (chN R.length lot.length) * partV S c lot.length m full (lot.map fun j => R.getD j []))
theorem l01 : lotL 0 1 = [[]] := by decide
theorem l02 : lotL 0 2 = [[]] := by decide
theorem l03 : lotL 0 3 = [[]] := by decide
theorem l04 : lotL 0 4 = [[]] := by decide
theorem l11 : lotL 1 1 = [[], [0]] := by decide
theorem l12 : lotL 1 2 = [[], [0], [1]] := by decide
theorem l13 : lotL 1 3 = [[], [0], [1], [2]] := by decide
theorem l14 : lotL 1 4 = [[], [0], [1], [2], [3]] := by decide
theorem l22 : lotL 2 2 = [[], [0], [1], [0, 1]] := by decide
theorem l23 : lotL 2 3 = [[], [0], [1], [0, 1], [2], [0, 2], [1, 2]] := by decide
theorem l24 : lotL 2 4 = [[], [0], [1], [0, 1], [2], [0, 2], [1, 2], [3], [0, 3], [1, 3], [2, 3]] := by decide
theorem lot_0_1_0 (S : Src) (c : Nat) (r : List Rat)  : lotV S c 0 [] [r] = bestV [r] [] := by
  simp [lotV, bestV, l01, i20, chN, pv_0_0, pv_1_0, pv_1_1, pv_2_0, pv_2_1, pv_2_2, Ub_nil, Mb_nil, laneR, sumL, prodL, Rat.mkRat_eq_div]
  try grind
theorem lot_0_2_0 (S : Src) (c : Nat) (r s : List Rat)  : lotV S c 0 [] [r, s] = bestV [r, s] [] := by
  simp [lotV, bestV, l02, i20, chN, pv_0_0, pv_1_0, pv_1_1, pv_2_0, pv_2_1, pv_2_2, Ub_nil, Mb_nil, laneR, sumL, prodL, Rat.mkRat_eq_div]
  try grind
theorem lot_0_3_0 (S : Src) (c : Nat) (r s t : List Rat)  : lotV S c 0 [] [r, s, t] = bestV [r, s, t] [] := by
  simp [lotV, bestV, l03, i20, chN, pv_0_0, pv_1_0, pv_1_1, pv_2_0, pv_2_1, pv_2_2, Ub_nil, Mb_nil, laneR, sumL, prodL, Rat.mkRat_eq_div]
  try grind
theorem lot_0_4_0 (S : Src) (c : Nat) (r s t u : List Rat)  : lotV S c 0 [] [r, s, t, u] = bestV [r, s, t, u] [] := by
  simp [lotV, bestV, l04, i20, chN, pv_0_0, pv_1_0, pv_1_1, pv_2_0, pv_2_1, pv_2_2, Ub_nil, Mb_nil, laneR, sumL, prodL, Rat.mkRat_eq_div]
  try grind
theorem lot_1_1_0 (S : Src) (c : Nat) (r : List Rat)  : lotV S c 1 [[]] [r] = bestV [r] [] := by
  simp [lotV, bestV, l11, i20, chN, pv_0_0, pv_1_0, pv_1_1, pv_2_0, pv_2_1, pv_2_2, Ub_nil, Mb_nil, laneR, sumL, prodL, Rat.mkRat_eq_div]
  try grind
theorem lot_1_1_1 (S : Src) (c : Nat) (r : List Rat) (a : List Nat) (ha : a ≠ []) : lotV S c 1 [a] [r] = bestV [r] [a] := by
  simp [lotV, bestV, l11, i11, chN, pv_0_0, pv_1_0, pv_1_1, pv_2_0, pv_2_1, pv_2_2, Ub_nil, Mb_nil, Ub_ne ha, Mb_ne ha, laneR, sumL, prodL, Rat.mkRat_eq_div]
  try grind
theorem lot_1_2_0 (S : Src) (c : Nat) (r s : List Rat)  : lotV S c 1 [[]] [r, s] = bestV [r, s] [] := by
  simp [lotV, bestV, l12, i20, chN, pv_0_0, pv_1_0, pv_1_1, pv_2_0, pv_2_1, pv_2_2, Ub_nil, Mb_nil, laneR, sumL, prodL, Rat.mkRat_eq_div]
  try grind
theorem lot_1_2_1 (S : Src) (c : Nat) (r s : List Rat) (a : List Nat) (ha : a ≠ []) : lotV S c 1 [a] [r, s] = bestV [r, s] [a] := by
  simp [lotV, bestV, l12, i21, chN, pv_0_0, pv_1_0, pv_1_1, pv_2_0, pv_2_1, pv_2_2, Ub_nil, Mb_nil, Ub_ne ha, Mb_ne ha, laneR, sumL, prodL, Rat.mkRat_eq_div]
  try grind
theorem lot_1_3_0 (S : Src) (c : Nat) (r s t : List Rat)  : lotV S c 1 [[]] [r, s, t] = bestV [r, s, t] [] := by
  simp [lotV, bestV, l13, i20, chN, pv_0_0, pv_1_0, pv_1_1, pv_2_0, pv_2_1, pv_2_2, Ub_nil, Mb_nil, laneR, sumL, prodL, Rat.mkRat_eq_div]
  try grind
theorem lot_1_3_1 (S : Src) (c : Nat) (r s t : List Rat) (a : List Nat) (ha : a ≠ []) : lotV S c 1 [a] [r, s, t] = bestV [r, s, t] [a] := by
  simp [lotV, bestV, l13, i31, chN, pv_0_0, pv_1_0, pv_1_1, pv_2_0, pv_2_1, pv_2_2, Ub_nil, Mb_nil, Ub_ne ha, Mb_ne ha, laneR, sumL, prodL, Rat.mkRat_eq_div]
  try grind
theorem lot_1_4_0 (S : Src) (c : Nat) (r s t u : List Rat)  : lotV S c 1 [[]] [r, s, t, u] = bestV [r, s, t, u] [] := by
  simp [lotV, bestV, l14, i20, chN, pv_0_0, pv_1_0, pv_1_1, pv_2_0, pv_2_1, pv_2_2, Ub_nil, Mb_nil, laneR, sumL, prodL, Rat.mkRat_eq_div]
  try grind
theorem lot_1_4_1 (S : Src) (c : Nat) (r s t u : List Rat) (a : List Nat) (ha : a ≠ []) : lotV S c 1 [a] [r, s, t, u] = bestV [r, s, t, u] [a] := by
  simp [lotV, bestV, l14, i41, chN, pv_0_0, pv_1_0, pv_1_1, pv_2_0, pv_2_1, pv_2_2, Ub_nil, Mb_nil, Ub_ne ha, Mb_ne ha, laneR, sumL, prodL, Rat.mkRat_eq_div]
  try grind
theorem lot_2_2_0 (S : Src) (c : Nat) (r s : List Rat)  : lotV S c 2 [[], []] [r, s] = bestV [r, s] [] := by
  simp [lotV, bestV, l22, i20, chN, pv_0_0, pv_1_0, pv_1_1, pv_2_0, pv_2_1, pv_2_2, Ub_nil, Mb_nil, laneR, sumL, prodL, Rat.mkRat_eq_div]
  try grind
theorem lot_2_2_1 (S : Src) (c : Nat) (r s : List Rat) (a : List Nat) (ha : a ≠ []) : lotV S c 2 [a, []] [r, s] = bestV [r, s] [a] := by
  simp [lotV, bestV, l22, i21, chN, pv_0_0, pv_1_0, pv_1_1, pv_2_0, pv_2_1, pv_2_2, Ub_nil, Mb_nil, Ub_ne ha, Mb_ne ha, laneR, sumL, prodL, Rat.mkRat_eq_div]
  try grind
theorem lot_2_2_2 (S : Src) (c : Nat) (r s : List Rat) (a b : List Nat) (ha : a ≠ []) (hb : b ≠ []) : lotV S c 2 [a, b] [r, s] = bestV [r, s] [a, b] := by
  simp [lotV, bestV, l22, i22, chN, pv_0_0, pv_1_0, pv_1_1, pv_2_0, pv_2_1, pv_2_2, Ub_nil, Mb_nil, Ub_ne ha, Mb_ne ha, Ub_ne hb, Mb_ne hb, laneR, sumL, prodL, Rat.mkRat_eq_div]
  try grind
theorem lot_2_3_0 (S : Src) (c : Nat) (r s t : List Rat)  : lotV S c 2 [[], []] [r, s, t] = bestV [r, s, t] [] := by
  simp [lotV, bestV, l23, i20, chN, pv_0_0, pv_1_0, pv_1_1, pv_2_0, pv_2_1, pv_2_2, Ub_nil, Mb_nil, laneR, sumL, prodL, Rat.mkRat_eq_div]
  try grind
theorem lot_2_3_1 (S : Src) (c : Nat) (r s t : List Rat) (a : List Nat) (ha : a ≠ []) : lotV S c 2 [a, []] [r, s, t] = bestV [r, s, t] [a] := by
  simp [lotV, bestV, l23, i31, chN, pv_0_0, pv_1_0, pv_1_1, pv_2_0, pv_2_1, pv_2_2, Ub_nil, Mb_nil, Ub_ne ha, Mb_ne ha, laneR, sumL, prodL, Rat.mkRat_eq_div]
  try grind
theorem lot_2_3_2 (S : Src) (c : Nat) (r s t : List Rat) (a b : List Nat) (ha : a ≠ []) (hb : b ≠ []) : lotV S c 2 [a, b] [r, s, t] = bestV [r, s, t] [a, b] := by
  simp [lotV, bestV, l23, i32, chN, pv_0_0, pv_1_0, pv_1_1, pv_2_0, pv_2_1, pv_2_2, Ub_nil, Mb_nil, Ub_ne ha, Mb_ne ha, Ub_ne hb, Mb_ne hb, laneR, sumL, prodL, Rat.mkRat_eq_div]
  try grind
theorem lot_2_4_0 (S : Src) (c : Nat) (r s t u : List Rat)  : lotV S c 2 [[], []] [r, s, t, u] = bestV [r, s, t, u] [] := by
  simp [lotV, bestV, l24, i20, chN, pv_0_0, pv_1_0, pv_1_1, pv_2_0, pv_2_1, pv_2_2, Ub_nil, Mb_nil, laneR, sumL, prodL, Rat.mkRat_eq_div]
  try grind
theorem lot_2_4_1 (S : Src) (c : Nat) (r s t u : List Rat) (a : List Nat) (ha : a ≠ []) : lotV S c 2 [a, []] [r, s, t, u] = bestV [r, s, t, u] [a] := by
  simp [lotV, bestV, l24, i41, chN, pv_0_0, pv_1_0, pv_1_1, pv_2_0, pv_2_1, pv_2_2, Ub_nil, Mb_nil, Ub_ne ha, Mb_ne ha, laneR, sumL, prodL, Rat.mkRat_eq_div]
  try grind
theorem lot_2_4_2 (S : Src) (c : Nat) (r s t u : List Rat) (a b : List Nat) (ha : a ≠ []) (hb : b ≠ []) : lotV S c 2 [a, b] [r, s, t, u] = bestV [r, s, t, u] [a, b] := by
  simp [lotV, bestV, l24, i42, chN, pv_0_0, pv_1_0, pv_1_1, pv_2_0, pv_2_1, pv_2_2, Ub_nil, Mb_nil, Ub_ne ha, Mb_ne ha, Ub_ne hb, Mb_ne hb, laneR, sumL, prodL, Rat.mkRat_eq_div]
  try grind
theorem lot_best (S : Src) (c m : Nat) (R : List (List Rat)) (fs : List (List Nat)) (h0 : 1 ≤ R.length) (h1 : R.length ≤ 4) (hm : m ≤ 2) (hmn : m ≤ R.length) (h2 : fs.length ≤ m) (hne : ∀ a ∈ fs, a ≠ []) : lotV S c m (fullN m fs) R = bestV R fs := by
  match m, R, fs, h0, h1, hm, hmn, h2, hne with
  | 0, [r], [], _, _, _, _, _, h => exact lot_0_1_0 S c r  
  | 0, [r, s], [], _, _, _, _, _, h => exact lot_0_2_0 S c r s  
  | 0, [r, s, t], [], _, _, _, _, _, h => exact lot_0_3_0 S c r s t  
  | 0, [r, s, t, u], [], _, _, _, _, _, h => exact lot_0_4_0 S c r s t u  
  | 1, [r], [], _, _, _, _, _, h => exact lot_1_1_0 S c r  
  | 1, [r], [a], _, _, _, _, _, h => exact lot_1_1_1 S c r a (h a (by simp))
  | 1, [r, s], [], _, _, _, _, _, h => exact lot_1_2_0 S c r s  
  | 1, [r, s], [a], _, _, _, _, _, h => exact lot_1_2_1 S c r s a (h a (by simp))
  | 1, [r, s, t], [], _, _, _, _, _, h => exact lot_1_3_0 S c r s t  
  | 1, [r, s, t], [a], _, _, _, _, _, h => exact lot_1_3_1 S c r s t a (h a (by simp))
  | 1, [r, s, t, u], [], _, _, _, _, _, h => exact lot_1_4_0 S c r s t u  
  | 1, [r, s, t, u], [a], _, _, _, _, _, h => exact lot_1_4_1 S c r s t u a (h a (by simp))
  | 2, [r, s], [], _, _, _, _, _, h => exact lot_2_2_0 S c r s  
  | 2, [r, s], [a], _, _, _, _, _, h => exact lot_2_2_1 S c r s a (h a (by simp))
  | 2, [r, s], [a, b], _, _, _, _, _, h => exact lot_2_2_2 S c r s a b (h a (by simp)) (h b (by simp))
  | 2, [r, s, t], [], _, _, _, _, _, h => exact lot_2_3_0 S c r s t  
  | 2, [r, s, t], [a], _, _, _, _, _, h => exact lot_2_3_1 S c r s t a (h a (by simp))
  | 2, [r, s, t], [a, b], _, _, _, _, _, h => exact lot_2_3_2 S c r s t a b (h a (by simp)) (h b (by simp))
  | 2, [r, s, t, u], [], _, _, _, _, _, h => exact lot_2_4_0 S c r s t u  
  | 2, [r, s, t, u], [a], _, _, _, _, _, h => exact lot_2_4_1 S c r s t u a (h a (by simp))
  | 2, [r, s, t, u], [a, b], _, _, _, _, _, h => exact lot_2_4_2 S c r s t u a b (h a (by simp)) (h b (by simp))
  | 0, _, _ :: _, _, _, _, _, h, _ => simp at h
  | 1, _, _ :: _ :: _, _, _, _, _, h, _ => simp at h
  | 2, _, _ :: _ :: _ :: _, _, _, _, _, h, _ => simp at h
  | 2, [_], _, _, _, _, h, _, _ => simp at h
  | _, _ :: _ :: _ :: _ :: _ :: _, _, _, h, _, _, _, _ => simp at h
  | m + 3, _, _, _, _, h, _, _, _ => omega
/-- the layers add up to the best -/
theorem lots_value (S : Src) (c : Nat) (W : Wish) (R : List (List Rat)) (hW : WishOk c W) (hc : 1 ≤ c) (h0 : 1 ≤ R.length) (h1 : R.length ≤ 4) (hd : degW W ≤ R.length) :
    sumL ((lotL (degW W) R.length).map fun lot => mkRat (chN (degW W) lot.length) (chN R.length lot.length) * formR (pfF S c lot.length W) (lot.map fun j => R.getD j [])) = bestR R W := by
  rw [bestR_val]
  have e : ((lotL (degW W) R.length).map fun lot => mkRat (chN (degW W) lot.length) (chN R.length lot.length) * formR (pfF S c lot.length W) (lot.map fun j => R.getD j [])) = (lotL (degW W) R.length).map fun lot => sumL (W.map fun p => p.2 * (mkRat (chN (degW W) lot.length) (chN R.length lot.length) * partV S c lot.length (degW W) (fullN (degW W) p.1) (lot.map fun j => R.getD j []))) := List.map_congr_left fun lot _ => by
    rw [pfF_val, ← sumL_map_mul]
    congr 1
    exact List.map_congr_left fun w _ => by grind
  rw [e, sumL_swap]
  congr 1
  refine List.map_congr_left fun p hp => ?_
  rw [sumL_map_mul]
  have := lot_best S c (degW W) R p.1 h0 h1 (deg_two hW) hd (deg_le hp) (ne_of_c hW hc hp)
  unfold lotV at this
  rw [this]
end Kd
-- K68L6
set_option maxRecDepth 100000
set_option maxHeartbeats 4000000
/-! Walks: _law_case_right. -/
namespace Kd
open PySem PySem.Spec PyProof.Rows L2 KdIt
/-! ### keys -/
theorem KeyM_gat {n : Nat} {ps : List (T × Rat)} (h : ∀ p ∈ ps, KeyM n p.1) : ∀ p ∈ gatF ps, KeyM n p.1 := fun p hp => by
  obtain ⟨q, hq, e⟩ := List.mem_map.mp (gatF_key hp)
  have e : q.1 = p.1 := e
  rw [← e]; exact h q hq
theorem movedN_len (ks : List (List Nat)) (o : List Nat) : (movedN ks o).length = o.length := by
  unfold movedN
  have : ∀ (l : List (List Nat × Nat)) (f : List (List Nat)), (l.foldl (fun f p => f.set p.2 p.1) f).length = f.length := by
    intro l
    induction l with
    | nil => intro f; rfl
    | cons p r ih => intro f; rw [List.foldl_cons, ih, List.length_set]
  rw [this, List.length_replicate]
theorem movedN_in (ks : List (List Nat)) (o : List Nat) : ∀ a ∈ movedN ks o, a ∈ ks ∨ a = [] := by
  unfold movedN
  have : ∀ (l : List (List Nat × Nat)) (f : List (List Nat)), (∀ p ∈ l, p.1 ∈ ks) → (∀ a ∈ f, a ∈ ks ∨ a = []) → ∀ a ∈ l.foldl (fun f p => f.set p.2 p.1) f, a ∈ ks ∨ a = [] := by
    intro l
    induction l with
    | nil => intro f _ h; exact h
    | cons p r ih =>
      intro f hl h
      rw [List.foldl_cons]
      refine ih _ (fun q hq => hl q (List.mem_cons_of_mem _ hq)) fun a ha => ?_
      rcases List.mem_or_eq_of_mem_set ha with ha | ha
      · exact h a ha
      · exact .inl (by rw [ha]; exact hl p (List.mem_cons_self ..))
  exact this _ _ (fun p hp => (List.of_mem_zip (a := p.1) (b := p.2) hp).1) fun a ha => .inr (List.eq_of_mem_replicate ha)
theorem bpP_keyM {n c : Nat} {W : Wish} (hW : WishOk c W) (hd : degW W ≤ n) : ∀ p ∈ bpP n c W, KeyM n p.1 := fun p hp => by
  obtain ⟨q, hq, rfl⟩ := List.mem_map.mp hp
  have h3 := deg_le hq
  refine ⟨bpN n c q.1, bpK_fac n c q.1, by unfold bpN; rw [List.length_append, List.length_replicate]; omega, fun a ha => ?_⟩
  unfold bpN at ha
  rcases List.mem_append.mp ha with ha | ha
  · exact mom_of hW hq ha
  · rw [List.eq_of_mem_replicate ha]
    exact ⟨by rw [List.length_replicate]; exact hW.c2, fun n hn => by rw [List.eq_of_mem_replicate hn]; omega⟩
theorem bpF_keyM {n c : Nat} {W : Wish} (hW : WishOk c W) (hd : degW W ≤ n) (hn : n ≤ 4) : ∀ p ∈ bpF n c W, KeyM n p.1 := by
  unfold bpF evF
  split
  · intro p hp; cases hp
  · refine KeyM_gat fun p hp => ?_
    obtain ⟨q, hq, rfl⟩ := List.mem_map.mp hp
    refine KeyM_gat (ps := evP n (gatF (bpP n c W))) (fun p hp => ?_) q hq
    obtain ⟨o, ho, hp⟩ := List.mem_flatMap.mp hp
    obtain ⟨q, hq, rfl⟩ := List.mem_map.mp hp
    obtain ⟨l, rfl, hl, _⟩ := ordT_mem hn ho
    obtain ⟨fs, h1, h2, h3⟩ := (KeyM_gat (bpP_keyM hW hd) q hq).ex
    show KeyM n (mvT (natsT l) q.1)
    rw [h1, moved_fac]
    refine ⟨_, rfl, by rw [movedN_len, hl], fun a ha => ?_⟩
    rcases movedN_in _ _ a ha with h | rfl
    · exact h3 a h
    · exact ⟨by simp, by simp⟩
theorem tmP_keyM {S : Src} {c k m : Nat} {W : Wish} {lt : List Nat} (hW : WishOk c W) (hd : degW W ≤ m) (hm : m ≤ 2) : ∀ p ∈ tmP S c k m W lt, KeyM k p.1 := fun p hp => by
  obtain ⟨w, hw, hp⟩ := List.mem_flatMap.mp hp
  obtain ⟨im, him, rfl⟩ := List.mem_map.mp hp
  obtain ⟨_, hfo⟩ := full_ok hW hw hd hm
  refine ⟨_, rfl, tmPow_len, fun a ha => ?_⟩
  rcases tmPow_in a ha with rfl | ⟨h1, h2⟩
  · exact ⟨by rw [List.length_replicate]; exact hW.c2, fun n hn => by rw [List.eq_of_mem_replicate hn]; omega⟩
  · exact ((hfo a h1).resolve_left h2).1
theorem pfF_keyM {S : Src} {c k : Nat} {W : Wish} (hW : WishOk c W) : ∀ p ∈ pfF S c k W, KeyM k p.1 := by
  unfold pfF
  refine KeyM_gat fun p hp => ?_
  obtain ⟨many, _, hp⟩ := List.mem_flatMap.mp hp
  obtain ⟨lt, _, hp⟩ := List.mem_flatMap.mp hp
  obtain ⟨q, hq, rfl⟩ := List.mem_map.mp hp
  exact tmP_keyM hW (Nat.le_refl _) (deg_two hW) q hq
/-! ### sizes -/
theorem pfF_ok {S : Src} {c k : Nat} {W : Wish} (hW : WishOk c W) (hS : SrcOk S) (hk : k ≤ degW W) : EvOk k tmD (36 * tmM) 36 (pfF S c k W) := (pfP_ok hW hS (Nat.le_refl _) (deg_two hW) hk).gatF
theorem bpF_ok {n c : Nat} {W : Wish} (hW : WishOk c W) (hd : degW W ≤ n) (hn : n ≤ 4) : ∃ L, L ≤ 24 ∧ 0 < L ∧ EvOk n (1 * L) (24 * 3 * (24 * 3 * (3 * 9) * 1)) (24 * 3) (bpF n c W) := by
  have hl := ordL_len n hn
  have hp := ordL_pos n hn
  refine ⟨(ordL n).length, hl, hp, ?_⟩
  have h := (((((bpP_ok hW hd).gatF).ev hn).gatF).sc (bd_inv (ordL n).length hp)).gatF
  unfold bpF evF
  split
  · exact ⟨fun p hp => by (cases hp), fun p hp => by (cases hp), Nat.zero_le _⟩
  · exact h
theorem formR_bd {ps : List (T × Rat)} {n D M N : Nat} (h : EvOk n D M N ps) (hk : ∀ p ∈ ps, KeyM n p.1) (hn : n ≤ 4) {R : List (List Rat)} (hR : RowsOk R) : Bd (D * 16 ^ 4) (N * (M * 10000 ^ 4)) (formR ps R) := by
  have hphi : ∀ k, phi R k = phiR k R ((keyN k).zip R).length := fun k => by unfold phi phiR; rw [List.take_length]
  unfold formR
  refine (Bd.sum (l := ps.map fun p => p.2 * phi R p.1) fun x hx => ?_).mono (Nat.mul_le_mul_right _ (by rw [List.length_map]; exact h.len))
  obtain ⟨p, hp, rfl⟩ := List.mem_map.mp hx
  rw [hphi]
  exact (h.bd p hp).mul (phiR_bd (hk p hp) hn hR _)
def pfD : Nat := tmD * 16 ^ 4
def pfMx : Nat := 36 * (36 * tmM * 10000 ^ 4)
theorem share_bd {m n k : Nat} (hm : m ≤ 2) (hn : n ≤ 4) (hk : k ≤ m) (hkn : k ≤ n) : Bd 12 48 (mkRat (chN m k) (chN n k)) ∧ 0 < chN n k ∧ chN n k ≤ 12 := by
  have key : ∀ b : Nat, ∀ a : Nat, a ≤ 2 → b ∈ [1, 2, 3, 4, 6] → Bd 12 48 (mkRat (a : Nat) b) ∧ 0 < b ∧ b ≤ 12 := by
    intro b a ha hb
    have h1 : b ∈ [1, 2, 3, 4, 6, 12] := by simp at hb ⊢; omega
    obtain ⟨h2, h3⟩ := inv12 h1
    have e : mkRat (a : Nat) b = (((a : Nat) : Int) : Rat) * mkRat 1 b := by
      rw [Rat.mkRat_eq_div, Rat.mkRat_eq_div]
      generalize (((a : Nat) : Int) : Rat) = x
      rw [show ((1 : Int) : Rat) = 1 from rfl]
      grind
    have h4 := (Bd.int (a : Int)).mul h2
    rw [← e] at h4
    refine ⟨?_, h3, by simp at hb; omega⟩
    have h5 : Bd (1 * 12) 48 (mkRat (a : Nat) b) := h4.mono (by rw [Int.natAbs_natCast]; omega)
    exact h5
  have t1 : ∀ m, m ≤ 2 → ∀ k, k ≤ m → chN m k ≤ 2 := by decide
  have t2 : ∀ n, n ≤ 4 → ∀ k, k ≤ 2 → k ≤ n → chN n k ∈ [1, 2, 3, 4, 6] := by decide
  exact key _ _ (t1 m hm k hk) (t2 n hn k (by omega) hkn)
end Kd
-- K68L7
set_option maxRecDepth 100000
set_option maxHeartbeats 4000000
/-! Walks: _law_case_right. -/
namespace Kd
open PySem PySem.Spec PyProof.Rows L2 KdIt
theorem ss_weak {B : Hp} {X : Cx} {δ δ1 : Dl} {sts : List Stmt} {M : Dl → Prop} {Rt : VK} (h : DSs B X sts δ1 M Rt) (hl : δ1.length = δ.length) (hw : ∀ (i : Nat) (s : Sd), δ1[i]? = some s → s = .no ∨ δ[i]? = some s) : DSs B X sts δ M Rt := fun σ H S => h σ H (S.weak hl hw)
structure CaseOk (W : Wish) (S : Src) (c : Nat) (R : List (List Rat)) : Prop where
  w : WishOk c W
  c1 : 1 ≤ c
  s : SrcC c S
  sum : sumL (S.map (·.2)) = 1
  r : RowsOk R
  r1 : 1 ≤ R.length
  d : degW W ≤ R.length
def NB (s : Sd) : Prop := ∀ p xs, s ≠ .bas p xs
theorem NB.no : NB .no := fun _ _ z => nomatch z
theorem NB.d {x : T} : NB (.d x) := fun _ _ z => nomatch z
def FCase (as : List Ad) (b : Bool) : Prop := b = true ∧ ∃ a0 W S c R, CaseOk W S c R ∧ as = [a0, .d (wishT W), .d (srcT S), .d (rowsT R)]
abbrev sCase : Stmt := topS 59
theorem scCase : FnScope ["_law_urn", "_law_wish_in", "_law_source_in", "_law_rows_in", "_law_m", "_law_n", "_law_c", "_law_forms", "_law_k", "_law_total", "_law_lot", "_law_share", "_law_j", "_law_told_so", "_law_ahead", "_law_own", "_law_chance"] ["_law_urn", "_law_wish_in", "_law_source_in", "_law_rows_in"] (defScope sCase) := ⟨rfl, rfl, rfl, by decide +kernel, rfl, by decide +kernel, by decide +kernel⟩
theorem given4 {a : Ad} {b c d : T} {δ1 : Dl} (g : Paired Given [a, .d b, .d c, .d d] δ1) : ∃ s, δ1 = [s, .d b, .d c, .d d] := by
  cases g with
  | cons h t => exact ⟨_, by rw [given3 t]⟩
theorem rows_sub {R : List (List Rat)} (hR : RowsOk R) {lot : List Nat} (hl : lot.length ≤ 4) (h : ∀ j ∈ lot, j < R.length) : RowsOk (lot.map fun j => R.getD j []) :=
  ⟨by rw [List.length_map]; exact hl, fun r hr => by obtain ⟨j, hj, rfl⟩ := List.mem_map.mp hr; exact (getD_row hR (h j hj)).2⟩
theorem form_sm {D M N : Nat} {q : Rat} (h : Bd D M q) (hD : 0 < D) (h1 : D < 2 ^ 200) (h2 : M < 2 ^ 200) : Sm q := h.lv hD h1 h2
theorem part_bd {W : Wish} {S : Src} {c k : Nat} {R : List (List Rat)} (hW : WishOk c W) (hS : SrcOk S) (hk : k ≤ degW W) (hR : RowsOk R) : Bd pfD pfMx (formR (pfF S c k W) R) :=
  formR_bd (pfF_ok hW hS hk) (pfF_keyM hW) (by have := deg_two hW; omega) hR
theorem pfD0 : 0 < pfD := by decide
theorem fform {W : Wish} {S : Src} {c k : Nat} {R : List (List Rat)} (hW : WishOk c W) (hS : SrcOk S) (hk : k ≤ degW W) (hR : RowsOk R) : FLForm [.d (formT (pfF S c k W)), .d (rowsT R)] (fr (formR (pfF S c k W) R)) :=
  ⟨pfF S c k W, R, k, tmD, 36 * tmM, pfF_keyM hW, by have := deg_two hW; omega, hR, (pfF_ok hW hS hk).bd, by have := (pfF_ok hW hS hk).len; omega, by decide, by decide, by decide, rfl, rfl⟩
theorem fform_best {W : Wish} {n c : Nat} {R : List (List Rat)} (hW : WishOk c W) (hd : degW W ≤ n) (hn : n ≤ 4) (hR : RowsOk R) : FLForm [.d (formT (bpF n c W)), .d (rowsT R)] (fr (formR (bpF n c W) R)) := by
  obtain ⟨L, h1, h2, h3⟩ := bpF_ok hW hd hn
  exact ⟨bpF n c W, R, n, 1 * L, _, bpF_keyM hW hd hn, hn, hR, h3.bd, by have := h3.len; omega, by omega, by omega, by decide, rfl, rfl⟩
noncomputable def lotR (W : Wish) (S : Src) (c : Nat) (R : List (List Rat)) (lot : List Nat) : Rat := mkRat (chN (degW W) lot.length) (chN R.length lot.length) * formR (pfF S c lot.length W) (lot.map fun j => R.getD j [])
section
variable {P : Program} {w : World} {K : PySem.W.Frag} {mg : Str → Option Value} {base : Heap}
theorem ok_case (D : Def K mg "_law_case_right" sCase ["_law_urn", "_law_wish_in", "_law_source_in", "_law_rows_in"]) (ml : mg "len" = none) (mr : mg "range" = none) (mt : mg "tuple" = none)
    (GD : FnAt P w K mg base 17 "_law_degree" ["_law_wish_in"] (spF K FDeg)) (GP : FnAt P w K mg base 17 "part_form" ["wish", "source", "k"] (spF K FPart)) (GB : FnAt P w K mg base 17 "best_program" ["wish", "n", "c"] (spF K FBest)) (GL : FnAt P w K mg base 17 "_law_lots" ["_law_many", "_law_most_in"] (spN K FLot)) (GC : FnAt P w K mg base 17 "_law_choose" ["_law_n", "_law_many"] (spF K FCho))
    (GW : FnAt P w K mg base 17 "_law_low" ["_law_high", "_law_deep"] (spF K FFrac)) (GM : FnAt P w K mg base 17 "_law_mul" ["_law_x", "_law_y"] (spF K FTimes)) (GA : FnAt P w K mg base 17 "_law_add" ["_law_x", "_law_y"] (spF K FPlus)) (GS : FnAt P w K mg base 17 "_law_sum" ["_law_some"] (spF K FSum))
    (GF : FnAt P w K mg base 17 "_law_form" ["_law_form_in", "_law_rows_in"] (spF K FLForm)) (GE : FnAt P w K mg base 17 "_law_same" ["_law_got", "_law_goal"] (spB K (FSame 8))) (GX : FnAt P w K mg base 17 "_law_best" ["_law_wish_in", "_law_rows_in"] (spF K FLBest)) (GO : FnAt P w K mg base 17 "_law_worth" ["_law_wish_in", "_law_source_in"] (spF K FWorth)) :
    FnAt P w K mg base 18 "_law_case_right" ["_law_urn", "_law_wish_in", "_law_source_in", "_law_rows_in"] (spB K FCase) := by
  refine D.b scCase (by decide) (fun as d h => ?_) fun f cdv A outer s H E hr as d δ1 hF g => ?_
  · obtain ⟨_, _, _, _, _, _, _, rfl⟩ := h; rfl
  · obtain ⟨rfl, a0, W, S, c, R, ⟨hW, hc1, hSc, hsum, hR, hR1, hd⟩, rfl⟩ := hF
    obtain ⟨s0, rfl⟩ := given4 g
    have hu := hr.units
    have hS := hSc.ok
    have hm2 := deg_two hW
    have hn4 := hR.len
    have eR : (R.map rowT).length = R.length := List.length_map _
    obtain ⟨p0, S', hS0, hp0⟩ := id hSc.ne
    have e0 : L2.atI (S.map srP) 0 = some (srP p0) := by rw [hS0]; exact atI_0
    refine ss_weak (δ1 := [.no, .d (wishT W), .d (srcT S), .d (rowsT R), .no, .no, .no, .no, .no, .no, .no, .no, .no, .no, .no, .no, .no]) ?_ rfl (fun i s hs => ?_)
    rotate_left
    · match i with
      | 0 => exact .inl (Option.some.inj hs).symm
      | i + 1 => exact .inr hs
    refine ss_cons (s_par3 4 5 6 scCase.nd (DR.fd (u := .i (degW W)) (r_call GD hr (da_1 (r_var 1)) ⟨c, W, hW, rfl, rfl⟩)) (DR.fd (u := .i (R.length : Nat)) (DR.is (r_lenT ml (r_var 3)) (by rw [eR]))) (DR.fd (u := .i (c : Nat)) (DR.is (r_lenT ml (r_ixT (r_ixT (r_var 2) r_int e0) r_int (show L2.atI [rowT p0.1, fr p0.2] 0 = some (.t (p0.1.map fr)) from atI_0))) (by rw [List.length_map, hp0])))) ?_
    rintro δ' ⟨s1, s2, s3, k1, k2, k3, rfl⟩
    rw [k1.d', k2.d', k3.d']
    -- the forms
    refine ss_cons (s_setN 7 scCase.nd (n_lcA (own := [("_law_k", 8)]) (List.range (degW W + 1)) (fun (k : Nat) => T.i k) (fun _ => true) (fun k => formT (pfF S c k W)) (fun k => [.no, .d (wishT W), .d (srcT S), .d (rowsT R), .d (.i (degW W)), .d (.i (R.length : Nat)), .d (.i (c : Nat)), .no, .d (.i (k : Nat)), .no, .no, .no, .no, .no, .no, .no, .no]) scCase.nd (blkOk_by (by rfl)) (it_range1 (n := degW W + 1) mr (r_add (m := (degW W : Int)) (n := 1) (r_var 4) r_int) (by omega)).s (by rw [List.length_range]; omega) (fun s H C cl fp k hk => g_name 8 scCase.nd) (fun s H C cl fp k hk => ts_nil) (fun s H C cl fp k hk _ => r_call GP hr (da_cons (r_var 1) (da_cons (r_var 2) (da_1 (r_var 8)))) ⟨W, S, c, k, hW, hSc, by have := List.mem_range.mp hk; omega, rfl, rfl⟩))) ?_
    rintro δ' ⟨q, rfl⟩
    rw [List.filter_eq_self.mpr (fun _ _ => rfl)]
    have hform : ∀ k : Nat, k ≤ degW W → L2.atI ((List.range (degW W + 1)).map fun k => formT (pfF S c k W)) ((k : Nat) : Int) = some (formT (pfF S c k W)) := fun k hk => by
      refine atI_map (j := k) (ixN_nat (by rw [List.length_map, List.length_range]; omega)) ?_
      rw [List.getElem?_map, List.getElem?_range (by omega)]; rfl
    refine ss_set (s_set 9 scCase.nd (r_tup (dd_cons r_int (dd_cons r_int dd_nil)))) ?_
    -- the lots
    have hlot := lotL_in R.length hn4 (degW W) hm2
    have hlb : ∀ lot ∈ lotL (degW W) R.length, Bd (12 * pfD) (48 * pfMx) (lotR W S c R lot) := fun lot hl => by
      obtain ⟨h1, h2, h3⟩ := hlot lot hl
      exact (share_bd hm2 hn4 h1 h2).1.mul (part_bd hW hS h1 (rows_sub hR (by omega) h3))
    have hll : (lotL (degW W) R.length).length ≤ 11 := lotL_len _ hn4 _ hm2
    refine ss_cons (s_forN (xs := (lotL (degW W) R.length).map natsT) (fun i δ' => ∃ z8 z10 z11, NB z8 ∧ NB z10 ∧ NB z11 ∧ δ' = [.no, .d (wishT W), .d (srcT S), .d (rowsT R), .d (.i (degW W)), .d (.i (R.length : Nat)), .d (.i (c : Nat)), .own q ((List.range (degW W + 1)).map fun k => formT (pfF S c k W)), z8, .d (fr (sumL (((lotL (degW W) R.length).map (lotR W S c R)).take i))), z10, z11, .no, .no, .no, .no, .no]) (n_call GL hr (da_cons (r_var 5) (da_1 (r_var 4))) ⟨R.length, degW W, hn4, hm2, rfl, rfl⟩) ⟨.no, .no, .no, NB.no, NB.no, NB.no, rfl⟩ ?_ ?_ ?_) ?_
    · intro i p zs h
      have := List.mem_of_getElem? h
      simp at this
    · rintro δ' ⟨z8, z10, z11, h8, h10, h11, rfl⟩ i p zs h
      have := List.mem_of_getElem? h
      simp at this
      rcases this with h | h | h
      · exact h8 _ _ h.symm
      · exact h10 _ _ h.symm
      · exact h11 _ _ h.symm
    · rintro B' hB i x δ1 hx ⟨z8, z10, z11, _, _, _, rfl⟩
      rw [List.getElem?_map] at hx
      cases hlo : (lotL (degW W) R.length)[i]? with
      | none => rw [hlo] at hx; cases hx
      | some lot =>
        rw [hlo] at hx; cases hx
        have hlm := List.mem_of_getElem? hlo
        obtain ⟨g1, g2, g3⟩ := hlot lot hlm
        have elt : (lot.map fun (n : Nat) => T.i n).length = lot.length := List.length_map _
        obtain ⟨sb, sp, sq⟩ := share_bd hm2 hn4 g1 g2
        refine ⟨_, [10], g_name 10 scCase.nd, ?_⟩
        refine ss_set (s_set 8 scCase.nd (u := .i (lot.length : Nat)) (DR.is (r_lenT ml (r_var 10)) (by rw [elt]))) ?_
        refine ss_set (s_set 11 scCase.nd (r_call GW hr (da_cons (r_call GC hr (da_cons (r_var 4) (da_1 (r_var 8))) ⟨degW W, lot.length, by omega, g1, rfl, rfl⟩) (da_1 (r_call GC hr (da_cons (r_var 5) (da_1 (r_var 8))) ⟨R.length, lot.length, hn4, g2, rfl, rfl⟩))) ⟨_, chN R.length lot.length, sp, Nat.lt_of_le_of_lt sq (by decide), rfl, rfl⟩)) ?_
        have hget : ((lotL (degW W) R.length).map (lotR W S c R))[i]? = some (lotR W S c R lot) := by rw [List.getElem?_map, hlo]; rfl
        have hRl := rows_sub hR (lot := lot) (by omega) g3
        refine ss_one ((s_set 9 scCase.nd (r_call GA hr (da_cons (r_var 9) (da_1 (r_call GM hr (da_cons (r_var 11) (da_1 (r_call GF hr (da_cons (r_ixL (r_var 7) (r_var 8) (hform lot.length g1)) (da_1 (DR.is (ad := .d (.t ((lot.filter fun _ => true).map fun j => rowT (R.getD j [])))) (r_tupL mt (DN.dl (n_lcA (own := [("_law_j", 12)]) lot (fun (j : Nat) => T.i j) (fun _ => true) (fun j => rowT (R.getD j [])) (fun j => [.no, .d (wishT W), .d (srcT S), .d (rowsT R), .d (.i (degW W)), .d (.i (R.length : Nat)), .d (.i (c : Nat)), .own q ((List.range (degW W + 1)).map fun k => formT (pfF S c k W)), .d (.i (lot.length : Nat)), .d (fr (sumL (((lotL (degW W) R.length).map (lotR W S c R)).take i))), .d (natsT lot), .d (fr (mkRat (chN (degW W) lot.length) (chN R.length lot.length))), .d (.i (j : Nat)), .no, .no, .no, .no]) scCase.nd (blkOk_by (by rfl)) (it_tup (r_var 10)).s (by omega) (fun s H C cl fp j hj => g_name 12 scCase.nd) (fun s H C cl fp j hj => ts_nil) ?_))) (by rw [List.filter_eq_self.mpr (fun _ _ => rfl)]; unfold rowsT; rw [List.map_map]; rfl)))) (fform hW hS g1 hRl)))) ⟨_, _, sb.lv (by decide) (by decide) (by decide), (part_bd hW hS g1 hRl).lv pfD0 (by decide) (by decide), rfl, rfl⟩))) ⟨_, lotR W S c R lot, sums_sm (D := 12 * pfD) (M := 48 * pfMx) (fun x hx => ?_) ?_ (by decide) (by decide) (by decide), (hlb lot hlm).lv (by decide) (by decide) (by decide), rfl, rfl⟩)).imp ?_)
        · intro s H C cl fp j hj _
          have hat : L2.atI (R.map rowT) ((j : Nat) : Int) = some (rowT (R.getD j [])) := by
            refine atI_map (j := j) (ixN_nat (by rw [eR]; exact g3 j hj)) ?_
            rw [List.getElem?_map, (getD_row hR (g3 j hj)).1]; rfl
          exact r_ixT (r_var 3) (r_var 12) hat
        · have := List.mem_of_mem_take hx
          obtain ⟨l, h1, rfl⟩ := List.mem_map.mp this
          exact hlb l h1
        · rw [List.length_take, List.length_map]; omega
        · rintro δ' rfl
          refine ⟨.d (.i (lot.length : Nat)), .d (natsT lot), .d (fr (mkRat (chN (degW W) lot.length) (chN R.length lot.length))), NB.d, NB.d, NB.d, ?_⟩
          rw [List.take_add_one, hget, Option.toList_some, sumL_snoc]; rfl
    rintro δ' ⟨z8, z10, z11, _, _, _, rfl⟩
    have etot : sumL (((lotL (degW W) R.length).map (lotR W S c R)).take ((lotL (degW W) R.length).map natsT).length) = bestR R W := by
      rw [List.length_map, ← List.length_map (f := lotR W S c R), List.take_length]
      exact lots_value S c W R hW hc1 hR1 hn4 hd
    rw [etot]
    -- told
    have hR0 : RowsOk [] := ⟨by simp, by simp⟩
    have eb := best_value c W R hW hR1 hn4 hd
    have ew := worth_value S c W hW hc1
    refine ss_cons (s_setN 13 scCase.nd (xs := [fr (bestR R W), fr (worthR S W)]) (n_lst (dd_cons (by rw [← eb]; exact r_call GF hr (da_cons (r_call GB hr (da_cons (r_var 1) (da_cons (r_var 5) (da_1 (r_var 6)))) ⟨W, R.length, c, hW, hd, hn4, rfl, rfl⟩) (da_1 (r_var 3))) (fform_best hW hd hn4 hR)) (dd_cons (by rw [← ew]; exact r_call GF hr (da_cons (r_ixL (r_var 7) r_int (hform 0 (Nat.zero_le _))) (da_1 (r_tup dd_nil))) (fform (k := 0) hW hS (Nat.zero_le _) hR0)) dd_nil)))) ?_
    rintro δ' ⟨q2, rfl⟩
    refine ss_set (s_skip (t_not (t_val (b_call GE hr (da_cons (n_catO 13 rfl (n_lst (dd_cons (r_var 9) dd_nil)) (by simp)).dl (da_1 (n_lst (dd_cons (r_call GX hr (da_cons (r_var 1) (da_1 (r_var 3))) ⟨W, R, c, hW, hR, hd, rfl, rfl⟩) (dd_cons (r_call GO hr (da_cons (r_var 1) (da_1 (r_var 2))) ⟨W, S, c, hW, hS, rfl, rfl⟩) (dd_cons (r_call GX hr (da_cons (r_var 1) (da_1 (r_var 3))) ⟨W, R, c, hW, hR, hd, rfl, rfl⟩) dd_nil)))).dl)) ⟨rfl, .inr ⟨[fr (bestR R W), fr (worthR S W), fr (bestR R W)], by simp [T.depths, fr_depth], by simp, by simp [T.wds, fr_wd], rfl⟩⟩))) rfl) ?_
    -- the last rows
    refine ss_cons (s_for (xs := (List.range (degW W + 1 - 1)).map fun (i : Nat) => T.i ((1 : Nat) + (i : Nat) : Int)) (fun i δ' => ∃ z8 z14, δ' = [.no, .d (wishT W), .d (srcT S), .d (rowsT R), .d (.i (degW W)), .d (.i (R.length : Nat)), .d (.i (c : Nat)), .own q ((List.range (degW W + 1)).map fun k => formT (pfF S c k W)), z8, .d (fr (bestR R W)), z10, z11, .no, .own q2 [fr (bestR R W), fr (worthR S W)], z14, .no, .no]) (it_range2 (n := 1) (m := degW W + 1) mr r_int (r_add (m := (degW W : Int)) (n := 1) (r_var 4) r_int) (by omega) (by omega)) ⟨z8, .no, rfl⟩ ?_) ?_
    · rintro i x δ1 hx ⟨z8, z14, rfl⟩
      have hi : i < degW W := by
        have := (List.getElem?_eq_some_iff.mp hx).1
        simpa using this
      have hxi : x = .i ((i + 1 : Nat) : Int) := by
        rw [List.getElem?_map, List.getElem?_range (by omega)] at hx
        have := (Option.some.inj hx).symm
        have e : (((1 : Nat) : Int) + ((i : Nat) : Int)) = ((i + 1 : Nat) : Int) := by omega
        rw [this, ← e]
      subst hxi
      refine ⟨_, [8], g_name 8 scCase.nd, ?_⟩
      have hcut : cutT (R.map rowT) none (some (((i + 1 : Nat) : Int) - 1)) = (R.take i).map rowT := by
        have e1 : ((i + 1 : Nat) : Int) - 1 = ((i : Nat) : Int) := by omega
        rw [e1, cut_to (by rw [eR]; omega), List.map_take]
      refine ss_set (s_set 14 scCase.nd (u := .t ((R.take i).map rowT)) (DR.is (r_cut (r_var 3) o_none (o_some (r_sub (r_var 8) r_int))) (by rw [hcut]))) ?_
      have hRp : ∀ p ∈ S, RowsOk (R.take i ++ [p.1]) := fun p hp => ⟨by rw [List.length_append, List.length_take]; simp; omega, fun r hr => by
        rcases List.mem_append.mp hr with hr | hr
        · exact hR.row r (List.mem_of_mem_take hr)
        · rw [List.mem_singleton.mp hr]; exact hS.row p hp⟩
      have hz : sumL (S.map fun p => p.2 * formR (pfF S c (i + 1) W) (R.take i ++ [p.1])) = 0 := told_zero S hsum c (i + 1) W hW (by omega) (by omega) (R.take i) (by rw [List.length_take]; omega)
      have hsm : SmSums (S.map fun p => p.2 * formR (pfF S c (i + 1) W) (R.take i ++ [p.1])) := SmSums.of (D := 2520 * pfD) (M := 2520 * pfMx) (n := 3) (fun x hx => by
        obtain ⟨p, hp, rfl⟩ := List.mem_map.mp hx
        exact (hS.bd p hp).mul (part_bd hW hS (by omega) (hRp p hp))) (by decide) (by decide) (by rw [List.length_map]; exact hS.len) (by decide) (by decide)
      refine ss_one ((s_skip (k := !decide (fr 0 = fr 0)) (t_neD hu (u := fr 0) (v := fr 0) (r_call GS hr (da_1 (DN.dl (xs := (S.filter fun _ => true).map fun p => fr (p.2 * formR (pfF S c (i + 1) W) (R.take i ++ [p.1]))) ?_)) ⟨_, hsm, ?_, by rw [hz]⟩) (r_tup (dd_cons r_int (dd_cons r_int dd_nil))) (by rw [fr_depth]; decide) (by rw [fr_depth]; decide)) (by simp)).imp ?_)
      · refine n_lcA (own := [("_law_own", 15), ("_law_chance", 16)]) S srP (fun _ => true) (fun p => fr (p.2 * formR (pfF S c (i + 1) W) (R.take i ++ [p.1]))) (fun p => [.no, .d (wishT W), .d (srcT S), .d (rowsT R), .d (.i (degW W)), .d (.i (R.length : Nat)), .d (.i (c : Nat)), .own q ((List.range (degW W + 1)).map fun k => formT (pfF S c k W)), .d (.i ((i + 1 : Nat) : Int)), .d (fr (bestR R W)), z10, z11, .no, .own q2 [fr (bestR R W), fr (worthR S W)], .d (.t ((R.take i).map rowT)), .d (rowT p.1), .d (fr p.2)]) scCase.nd (blkOk_by (by rfl)) (it_tup (r_var 2)).s (by have := hS.len; omega) (fun s H C cl fp p hp => g_two (i := 15) (j := 16) scCase.nd) (fun s H C cl fp p hp => ts_nil) ?_
        intro s H C cl fp p hp _
        refine r_call GM hr (da_cons (r_var 16) (da_1 (r_call GF hr (da_cons (r_ixL (r_var 7) (r_var 8) (hform (i + 1) (by omega))) (da_1 (DR.is (ad := .d (.t ((R.take i).map rowT ++ [rowT p.1]))) (r_cat (r_var 14) (r_tup (dd_cons (r_var 15) dd_nil)) (by rw [List.length_map, List.length_take]; simp; omega)) (by unfold rowsT; rw [List.map_append]; rfl)))) (fform hW hS (by omega) (hRp p hp))))) ⟨p.2, _, (hS.bd p hp).lv (by decide) (by decide) (by decide), (part_bd hW hS (by omega) (hRp p hp)).lv pfD0 (by decide) (by decide), rfl, rfl⟩
      · rw [List.filter_eq_self.mpr (fun _ _ => rfl), List.map_map]; rfl
      · rintro δ' rfl
        exact ⟨_, _, rfl⟩
    · rintro δ' ⟨z8, z14, rfl⟩
      exact ss_one (s_retV r_bl fun H' e => ⟨e, rfl⟩)
end
end Kd
-- K68P5
set_option maxRecDepth 100000
set_option maxHeartbeats 4000000
/-! Plain law: loads over their sum. -/
namespace Kd
open KdIt
theorem mkRat_eq (a : Int) {b : Nat} (hb : 0 < b) : mkRat a b * (b : Rat) = (a : Rat) := by
  rw [Rat.mkRat_eq_div, Rat.div_mul_cancel]
  intro h
  have := congrArg Rat.num h
  simp at this
  omega
theorem loads_sum (L : List Nat) {t : Nat} (ht : 0 < t) : sumL (L.map fun (l : Nat) => mkRat (l : Int) t) * (t : Rat) = ((L.sum : Nat) : Rat) := by
  induction L with
  | nil => rw [List.map_nil, sumL_nil, List.sum_nil]; simp
  | cons l r ih => rw [List.map_cons, sumL_cons, Rat.add_mul, ih, mkRat_eq _ ht, List.sum_cons, Rat.natCast_add]; rfl
theorem loads_one {L : List Nat} (h : 0 < L.sum) : sumL (L.map fun (l : Nat) => mkRat (l : Int) L.sum) = 1 := by
  have h1 := loads_sum L h
  have h2 : ((L.sum : Nat) : Rat) ≠ 0 := by
    intro e
    have := congrArg Rat.num e
    simp at this
    omega
  rw [← Rat.mul_div_cancel (a := sumL _) h2, h1]
  have := Rat.mul_div_cancel (a := 1) h2
  rw [Rat.one_mul] at this
  exact this
theorem load_bd {l t : Nat} (h0 : 0 < t) (hl : l ≤ t) (ht : t ≤ 9) : Bd 2520 2520 (mkRat (l : Int) t) := by
  have hd : ∃ k : Nat, t * k = 2520 := by
    have : t = 1 ∨ t = 2 ∨ t = 3 ∨ t = 4 ∨ t = 5 ∨ t = 6 ∨ t = 7 ∨ t = 8 ∨ t = 9 := by omega
    rcases this with rfl | rfl | rfl | rfl | rfl | rfl | rfl | rfl | rfl
    · exact ⟨2520, rfl⟩
    · exact ⟨1260, rfl⟩
    · exact ⟨840, rfl⟩
    · exact ⟨630, rfl⟩
    · exact ⟨504, rfl⟩
    · exact ⟨420, rfl⟩
    · exact ⟨360, rfl⟩
    · exact ⟨315, rfl⟩
    · exact ⟨280, rfl⟩
  obtain ⟨k, hk⟩ := hd
  refine ⟨((l * k : Nat) : Int), ?_, ?_⟩
  · have := mkRat_eq (l : Int) h0
    rw [← hk, Rat.natCast_mul, ← Rat.mul_assoc, this, Int.natCast_mul, Rat.intCast_mul]
    rfl
  · have : l * k ≤ t * k := Nat.mul_le_mul_right _ hl
    omega
theorem loads_le {L : List Nat} (h : ∀ l ∈ L, 1 ≤ l ∧ l ≤ 3) : L.length ≤ L.sum ∧ L.sum ≤ 3 * L.length ∧ ∀ l ∈ L, l ≤ L.sum := by
  induction L with
  | nil => exact ⟨by simp, by simp, fun _ h => by cases h⟩
  | cons x r ih =>
    obtain ⟨h1, h2, h3⟩ := ih fun l hl => h l (List.mem_cons_of_mem _ hl)
    have := h x (List.mem_cons_self ..)
    rw [List.length_cons, List.sum_cons]
    refine ⟨by omega, by omega, fun l hl => ?_⟩
    rcases List.mem_cons.mp hl with rfl | hl
    · omega
    · have := h3 l hl; omega
end Kd
-- K68U5
set_option maxRecDepth 100000
set_option maxHeartbeats 4000000
/-! Walks: _law_source. -/
namespace Kd
open PySem PySem.Spec PyProof.Rows L2 KdIt
def poolR : List Rat := [-1, 0, mkRat 1 2, 1, 2]
theorem poolT : T.t [.t [.i (-1), .i 1], .t [.i 0, .i 1], .t [.i 1, .i 2], .t [.i 1, .i 1], .t [.i 2, .i 1]] = .t (poolR.map fr) := by
  show _ = T.t [fr (-1), fr 0, fr (mkRat 1 2), fr 1, fr 2]
  rw [fr_inv (by decide)]; rfl
def FSource (as : List Ad) (R : T → Prop) : Prop := ∃ c : Nat, 1 ≤ c ∧ c ≤ 2 ∧ as = [.d (.i (c : Nat)), .d (.i 3)] ∧ R = fun d => ∃ S, d = srcT S ∧ SrcC c S ∧ sumL (S.map (·.2)) = 1
abbrev sSource : Stmt := topS 54
theorem scSource : FnScope ["_law_urn", "_law_c", "_law_most", "_law_pool", "_law_spots", "_law_loads", "_law_rows_in", "_law_k", "_law_lap", "_law_own", "_law_load"] ["_law_urn", "_law_c", "_law_most"] (defScope sSource) := ⟨rfl, rfl, rfl, by decide +kernel, rfl, by decide +kernel, by decide +kernel⟩
theorem DItS.is {B : Hp} {X : Cx} {tg iter : Expr} {δ : Dl} {xs ys : List T} (h : DItS B X tg iter δ xs) (e : xs = ys) : DItS B X tg iter δ ys := e ▸ h
theorem zipT_map {α β : Type} (f : α → T) (g : β → T) (l : List α) (m : List β) : zipT (l.map f) (m.map g) = (l.zip m).map fun p => T.t [f p.1, g p.2] := by
  unfold zipT
  rw [List.zip_map, List.map_map]; rfl
theorem sum_cast (L : List Nat) : (L.map fun (l : Nat) => (l : Int)).sum = ((L.sum : Nat) : Int) := by
  induction L with
  | nil => rfl
  | cons x r ih => rw [List.map_cons, List.sum_cons, List.sum_cons, ih]; simp
theorem paired_mem {α β : Type} {R : α → β → Prop} {l : List α} {m : List β} (h : Paired R l m) {y : β} (hy : y ∈ m) : ∃ x ∈ l, R x y := by
  induction h with
  | nil => cases hy
  | cons h t ih =>
    rcases List.mem_cons.mp hy with rfl | hy
    · exact ⟨_, List.mem_cons_self .., h⟩
    · obtain ⟨x, h1, h2⟩ := ih hy
      exact ⟨x, List.mem_cons_of_mem _ h1, h2⟩
theorem paired_len {α β : Type} {R : α → β → Prop} {l : List α} {m : List β} (h : Paired R l m) : m.length = l.length := (Paired.length h).symm
/-- drawn places -/
theorem drawn_ns {N : Nat} {xs ys : List T} (h : Paired (fun _ y => ∃ t : Nat, y = T.i (t : Nat) ∧ t < N) xs ys) : ∃ ns : List Nat, ys = (ns.map fun (n : Nat) => (n : Int)).map T.i ∧ ns.length = xs.length ∧ ∀ n ∈ ns, n < N := by
  induction h with
  | nil => exact ⟨[], rfl, rfl, fun _ h => by cases h⟩
  | cons h t ih =>
    obtain ⟨ns, h1, h2, h3⟩ := ih
    obtain ⟨n, rfl, hn⟩ := h
    refine ⟨n :: ns, by rw [h1]; rfl, by rw [List.length_cons, List.length_cons, h2], fun m hm => ?_⟩
    rcases List.mem_cons.mp hm with rfl | hm
    · exact hn
    · exact h3 m hm
theorem spots_ns {c : Nat} {ys : List T} (h : ∀ x ∈ ys, ∃ ns, x = tI ns ∧ ns.length = c ∧ ∃ ns' : List Nat, ns.map T.i = (ns'.map fun (n : Nat) => (n : Int)).map T.i ∧ ns'.length = c ∧ ∀ n ∈ ns', n < 5) :
    ∃ Z : List (List Nat), ys = Z.map natsT ∧ ∀ ns ∈ Z, ns.length = c ∧ ∀ n ∈ ns, n < 5 := by
  induction ys with
  | nil => exact ⟨[], rfl, fun _ h => by cases h⟩
  | cons y r ih =>
    obtain ⟨Z, h1, h2⟩ := ih fun x hx => h x (List.mem_cons_of_mem _ hx)
    obtain ⟨ns, rfl, _, ns', h3, h4, h5⟩ := h y (List.mem_cons_self ..)
    refine ⟨ns' :: Z, ?_, fun m hm => ?_⟩
    · rw [List.map_cons, ← h1]
      congr 1
      show T.t (ns.map T.i) = natsT ns'
      rw [h3, List.map_map]; rfl
    · rcases List.mem_cons.mp hm with rfl | hm
      · exact ⟨h4, h5⟩
      · exact h2 m hm
theorem drawn_loads {xs ys : List T} (h : Paired (fun _ y => ∃ j, y = T.i (1 + j) ∧ ∃ t : Nat, j = (t : Int) ∧ t < 3) xs ys) : ∃ L : List Nat, ys = L.map (fun (l : Nat) => T.i (l : Int)) ∧ L.length = xs.length ∧ ∀ l ∈ L, 1 ≤ l ∧ l ≤ 3 := by
  induction h with
  | nil => exact ⟨[], rfl, rfl, fun _ h => by cases h⟩
  | cons h t ih =>
    obtain ⟨L, h1, h2, h3⟩ := ih
    obtain ⟨_, rfl, n, rfl, hn⟩ := h
    refine ⟨(1 + n) :: L, by rw [h1, List.map_cons]; simp, by rw [List.length_cons, List.length_cons, h2], fun m hm => ?_⟩
    rcases List.mem_cons.mp hm with rfl | hm
    · omega
    · exact h3 m hm
def rowP (ns : List Nat) : List Rat := ns.map fun k => poolR.getD k 0
theorem pool_bd : ∀ n, n < 5 → Bd 2 10 (poolR.getD n 0)
  | 0, _ => ⟨-2, by decide +kernel, by decide⟩
  | 1, _ => ⟨0, by decide +kernel, by decide⟩
  | 2, _ => ⟨1, by decide +kernel, by decide⟩
  | 3, _ => ⟨2, by decide +kernel, by decide⟩
  | 4, _ => ⟨4, by decide +kernel, by decide⟩
  | n + 5, h => by omega
theorem rowP_ok {c : Nat} {ns : List Nat} (hc : c ≤ 2) (h : ns.length = c ∧ ∀ n ∈ ns, n < 5) : RowOk (rowP ns) := ⟨by unfold rowP; rw [List.length_map]; omega, fun x hx => by
  obtain ⟨n, hn, rfl⟩ := List.mem_map.mp hx
  exact pool_bd n (h.2 n hn)⟩
/-- the source of the places Z and the loads L -/
def srcZ (Z : List (List Nat)) (L : List Nat) : Src := (Z.zip L).map fun p => (rowP p.1, mkRat (p.2 : Int) L.sum)
theorem srcZ_ok {c : Nat} {Z : List (List Nat)} {L : List Nat} (hc : c ≤ 2) (hZ : ∀ ns ∈ Z, ns.length = c ∧ ∀ n ∈ ns, n < 5) (hL : ∀ l ∈ L, 1 ≤ l ∧ l ≤ 3) (hl : L.length = Z.length) (h0 : Z ≠ []) (h3 : Z.length ≤ 3) : SrcC c (srcZ Z L) ∧ sumL ((srcZ Z L).map (·.2)) = 1 := by
  obtain ⟨g1, g2, g3⟩ := loads_le hL
  have hp : 0 < Z.length := List.length_pos_iff.mpr h0
  refine ⟨⟨⟨?_, fun p hp => ?_, fun p hp => ?_⟩, ?_⟩, ?_⟩
  · unfold srcZ; rw [List.length_map, List.length_zip]; omega
  · obtain ⟨q, hq, rfl⟩ := List.mem_map.mp hp
    exact rowP_ok hc (hZ _ (List.of_mem_zip hq).1)
  · obtain ⟨q, hq, rfl⟩ := List.mem_map.mp hp
    exact load_bd (by omega) (g3 _ (List.of_mem_zip hq).2) (by omega)
  · match Z, L, hl with
    | z :: Z', l :: L', _ => exact ⟨_, _, rfl, by show (rowP z).length = c; unfold rowP; rw [List.length_map]; exact (hZ z (List.mem_cons_self ..)).1⟩
    | [], _, _ => exact absurd rfl h0
  · have : (srcZ Z L).map (·.2) = L.map fun (l : Nat) => mkRat (l : Int) L.sum := by
      unfold srcZ
      rw [List.map_map]
      have e : ((fun p : List Rat × Rat => p.2) ∘ fun p : List Nat × Nat => (rowP p.1, mkRat (p.2 : Int) L.sum)) = (fun (l : Nat) => mkRat (l : Int) L.sum) ∘ Prod.snd := rfl
      rw [e, ← List.map_map, List.map_snd_zip (by omega)]
    rw [this]
    exact loads_one (by omega)
section
variable {P : Program} {w : World} {K : PySem.W.Frag} {mg : Str → Option Value} {base : Heap}
theorem ok_source (D : Def K mg "_law_source" sSource ["_law_urn", "_law_c", "_law_most"]) (ms : mg "sorted" = none) (me : mg "set" = none) (mt : mg "tuple" = none) (mr : mg "range" = none) (mz : mg "zip" = none) (mu : mg "sum" = none)
    (GT : FnAt P w K mg base 2 "_law_take" ["_law_urn", "_law_low_so"] (spU K 1 FTake)) (GL : FnAt P w K mg base 2 "_law_low" ["_law_high", "_law_deep"] (spF K FFrac)) :
    FnAt P w K mg base 3 "_law_source" ["_law_urn", "_law_c", "_law_most"] (spU K 20 FSource) := by
  refine D.u scSource (by decide) (fun as R h => ?_) fun f cdv A outer s H E hr u n as R δ1 hC hn g => ?_
  · obtain ⟨_, _, _, rfl, _⟩ := h; rfl
  · obtain ⟨c, hc1, hc2, rfl, rfl⟩ := hC
    cases g with
    | cons g t =>
    cases t with
    | cons g2 t =>
    cases t
    cases g
    cases g2
    refine ss_set (s_set 3 scSource.nd (u := .t (poolR.map fr)) ?pl) ?_
    case pl =>
      rw [← poolT]
      exact r_tup (dd_cons (r_tup (dd_cons (r_neg r_int) (dd_cons r_int dd_nil))) (dd_cons (r_tup (dd_cons r_int (dd_cons r_int dd_nil))) (dd_cons (r_tup (dd_cons r_int (dd_cons r_int dd_nil))) (dd_cons (r_tup (dd_cons r_int (dd_cons r_int dd_nil))) (dd_cons (r_tup (dd_cons r_int (dd_cons r_int dd_nil))) dd_nil)))))
    have hu := hr.units
    refine ss_cons (s_setUN 3 scSource.nd (m := n + c * 3) (un_sset (d := c) (N := 3) (Bd := 5) (RL := fun l => ∃ ns : List Nat, l = (ns.map fun (n : Nat) => (n : Int)).map T.i ∧ ns.length = c ∧ ∀ n ∈ ns, n < 5) rfl hu ms me hc1 (by decide) (DUN.imp (m := n + c * 3) (un_lc (own := [("_law_lap", 8)]) (bd := fun x => [.d (.i c), .d (.i 3), .d (.t (poolR.map fr)), .no, .no, .no, .no, .d x, .no, .no]) (Rel := fun _ y => ∃ ns : List Nat, y = .t ((ns.map fun (n : Nat) => (n : Int)).map T.i) ∧ ns.length = c ∧ ∀ n ∈ ns, n < 5) c scSource.nd (blkOk_by (by rfl)) (it_range1 (n := 3) mr (r_var 2) (by decide)).iu (by simp) (fun s H C cl fp x m hx => g_name 8 scSource.nd) (fun s H C cl fp i x hx => ?elt)) ?spec))) ?_
    case elt =>
      refine DU.imp (u_tup mt (un_lc (own := [("_law_k", 7)]) (bd := fun y => [.d (.i c), .d (.i 3), .d (.t (poolR.map fr)), .no, .no, .no, .d y, .d x, .no, .no]) (Rel := fun _ y => ∃ t : Nat, y = T.i (t : Nat) ∧ t < 5) 1 scSource.nd (blkOk_by (by rfl)) (it_range1 (n := c) mr (r_var 1) (by omega)).iu (by simp; omega) (fun s H C cl fp x m hx => g_name 7 scSource.nd) (fun s H C cl fp j y hy => ?take))) ?elt2 ?cost
      case take =>
        have hj := (List.getElem?_eq_some_iff.mp hy).1
        have hi := (List.getElem?_eq_some_iff.mp hx).1
        rw [List.length_map, List.length_range] at hi hj
        have : c * i ≤ c * 3 := Nat.mul_le_mul_left _ (by omega)
        exact DU.imp (u_call GT hr (ua_X r_int ua_nil) (R := fun y => ∃ t : Nat, y = T.i (t : Nat) ∧ t < 5) (fun as has => by obtain ⟨bs, h3, h4⟩ := has; subst h4; exact ⟨5, by decide, by decide, h3, rfl⟩) (by omega)) (fun _ h => h) (by omega)
      case elt2 =>
        rintro y ⟨ys, rfl, hp⟩
        obtain ⟨ns, h1, h2, h3⟩ := drawn_ns hp
        exact ⟨ns, by rw [h1], by simpa using h2, h3⟩
      case cost => rw [List.length_map, List.length_range, Nat.mul_add]; omega
    case spec =>
      intro ys hp
      have hl := paired_len hp
      rw [List.length_map, List.length_range] at hl
      refine ⟨by omega, fun e => (by rw [e] at hl; cases hl), fun y hy => ?_⟩
      obtain ⟨x, _, ns, rfl, h1, h2⟩ := paired_mem hp hy
      refine ⟨_, rfl, by rw [List.length_map]; exact h1, fun z hz => ?_, ns, rfl, h1, h2⟩
      obtain ⟨m, hm, rfl⟩ := List.mem_map.mp hz
      have := h2 m hm
      omega
    rintro δ' ⟨q, ys, ⟨hl, hne, hnd, hys⟩, rfl⟩
    obtain ⟨Z, rfl, hZ⟩ := spots_ns hys
    rw [List.length_map] at hl
    have hZ0 : Z ≠ [] := fun e => hne (by rw [e]; rfl)
    refine ss_cons (s_setUN 4 scSource.nd (m := n + c * 3 + 3) (DUN.imp (un_lc (own := [("_law_own", 9)]) (bd := fun x => [.d (.i c), .d (.i 3), .d (.t (poolR.map fr)), .own q (Z.map natsT), .no, .no, .no, .no, .d x, .no]) (Rel := fun _ y => ∃ j, y = T.i (1 + j) ∧ ∃ t : Nat, j = (t : Int) ∧ t < 3) 1 scSource.nd (blkOk_by (by rfl)) (iu_own 3 rfl) (by rw [List.length_map]; omega) (fun s H C cl fp x m hx => g_name 9 scSource.nd) (fun s H C cl fp i x hx => ?elt)) (fun _ h => h) (by rw [List.length_map]; omega))) ?_
    case elt =>
      have hi := (List.getElem?_eq_some_iff.mp hx).1
      rw [List.length_map] at hi
      exact DU.imp (u_addR r_int (DU.imp (m := n + c * 3 + 1 * i + 1) (u_call GT hr (ua_X r_int ua_nil) (R := fun y => ∃ t : Nat, y = T.i (t : Nat) ∧ t < 3) (fun as has => by obtain ⟨bs, h3, h4⟩ := has; subst h4; exact ⟨3, by decide, by decide, h3, rfl⟩) (by omega)) (R' := fun y => ∃ j, y = T.i j ∧ ∃ t : Nat, j = (t : Int) ∧ t < 3) (fun y ⟨t, h, h2⟩ => ⟨t, h, t, rfl, h2⟩) (Nat.le_refl _))) (fun _ h => h) (by omega)
    rintro δ' ⟨q2, ys2, hys2, rfl⟩
    obtain ⟨L, rfl, hL1, hL2⟩ := drawn_loads hys2
    rw [List.length_map] at hL1
    have hsrc := srcZ_ok hc2 hZ hL2 hL1 hZ0 hl
    obtain ⟨l1, l2, l3⟩ := loads_le hL2
    have hZp : 0 < Z.length := List.length_pos_iff.mpr hZ0
    refine ss_cons (s_setLcA (own := [("_law_own", 9)]) 6 Z natsT (fun _ => true) (fun ns => rowT (rowP ns)) (fun ns => [.urn u (n + c * 3 + 3), .d (.i c), .d (.i 3), .d (.t (poolR.map fr)), .own q (Z.map natsT), .own q2 (L.map fun (l : Nat) => T.i (l : Int)), .no, .no, .no, .d (natsT ns), .no]) scSource.nd (blkOk_by (by rfl)) (by rfl) (it_lst (r_var 4)) (by omega) (fun s H C cl fp ns hns => g_name 9 scSource.nd) (fun s H C cl fp ns hns => ts_nil) (fun s H C cl fp ns hns _ => ?row)) ?_
    case row =>
      refine DR.is (r_tupL mt (DN.dl (n_lcA (own := [("_law_k", 7)]) ns (fun (k : Nat) => T.i (k : Int)) (fun _ => true) (fun k => fr (poolR.getD k 0)) (fun k => [.urn u (n + c * 3 + 3), .d (.i c), .d (.i 3), .d (.t (poolR.map fr)), .own q (Z.map natsT), .own q2 (L.map fun (l : Nat) => T.i (l : Int)), .no, .d (.i (k : Nat)), .no, .d (natsT ns), .no]) scSource.nd (blkOk_by (by rfl)) (it_tup (r_var 9)).s (by have := (hZ ns hns).1; omega) (fun s H C cl fp k hk => g_name 7 scSource.nd) (fun s H C cl fp k hk => ts_nil) (fun s H C cl fp k hk _ => r_ixT (r_var 3) (r_var 7) ?ix)))) ?is
      case ix =>
        have := (hZ ns hns).2 k hk
        have h5 : k < (poolR.map fr).length := this
        rw [atI_nat h5, List.getElem_map, List.getD_eq_getElem?_getD, List.getElem?_eq_getElem this]; rfl
      case is =>
        rw [List.filter_eq_self.mpr (fun _ _ => rfl)]
        show Ad.d (T.t (ns.map fun k => fr (poolR.getD k 0))) = Ad.d (T.t ((rowP ns).map fr))
        unfold rowP; rw [List.map_map]; rfl
    rintro δ' ⟨q3, rfl⟩
    rw [List.filter_eq_self.mpr (fun _ _ => rfl)]
    refine ss_one (s_retU (m := n + c * 3 + 3) (DX.du (d := srcT (srcZ Z L)) (DR.is (r_tupL mt (DN.dl (n_lcA (own := [("_law_own", 9), ("_law_load", 10)]) (Z.zip L) (fun p => T.t [rowT (rowP p.1), T.i (p.2 : Int)]) (fun _ => true) (fun p => T.t [rowT (rowP p.1), fr (mkRat (p.2 : Int) L.sum)]) (fun p => [.urn u (n + c * 3 + 3), .d (.i c), .d (.i 3), .d (.t (poolR.map fr)), .own q (Z.map natsT), .own q2 (L.map fun (l : Nat) => T.i (l : Int)), .own q3 (Z.map fun ns => rowT (rowP ns)), .no, .no, .d (rowT (rowP p.1)), .d (.i (p.2 : Int))]) scSource.nd (blkOk_by (by rfl)) ?zip (by rw [List.length_zip]; omega) (fun s H C cl fp p hp => g_two (i := 9) (j := 10) scSource.nd) (fun s H C cl fp p hp => ts_nil) (fun s H C cl fp p hp _ => ?elt)))) ?is)) fun v d H' hd e g r => ?fin)
    case zip =>
      exact DItS.is (it_zipL mz (r_var 6) (r_var 5)) (zipT_map _ _ _ _)
    case elt =>
      refine r_tup (dd_cons (r_var 9) (dd_cons (r_call GL hr (da_cons (r_var 10) (da_1 (r_sum (ns := L.map fun (l : Nat) => (l : Int)) mu (DR.is (r_var 5) (by rw [List.map_map]; rfl))))) ⟨p.2, L.sum, by omega, Nat.lt_of_le_of_lt (show L.sum ≤ 9 by omega) (by decide), by rw [sum_cast], rfl⟩) dd_nil))
    case is =>
      rw [List.filter_eq_self.mpr (fun _ _ => rfl)]
      unfold srcT srcZ
      rw [List.map_map]; rfl
    case fin =>
      subst hd
      exact ⟨_, ⟨srcZ Z L, rfl, hsrc.1, hsrc.2⟩, r, e, g.mono (by have : c * 3 ≤ 2 * 3 := Nat.mul_le_mul_right _ hc2; omega)⟩
end
end Kd
-- K68U6
set_option maxRecDepth 100000
set_option maxHeartbeats 4000000
/-! Walks: _law_wish. -/
namespace Kd
open PySem PySem.Spec PyProof.Rows L2 KdIt
section
variable {B : Hp} {X : Cx} {u : Addr} {n m : Nat} {r : Dl} {b e : Expr} {x : Str} {pos : Pos} {k : T} {kvs : List (T × T)} {R : T → Prop} {Rt : VK}
/-- d[k] = e, drawn -/
theorem s_dputU (i : Nat) {q : Addr} {px tpos : Pos} (hu : X.A.units + 64 < cLine) (h : r[i]? = some (.dct q kvs)) (he : DU B X u n m e r R) (hb : DX B X b (.urn u m :: r) k) (hd : k.depth ≤ 8) (ht : ∃ l, k = .t l) (hl : kvs.length < 100000) (hN : X.N[i + 1]? = some x := by rfl)
    (hv : Vis X.env.scope x := by first | exact Or.inl rfl | exact Or.inr (Or.inl rfl) | exact Or.inr (Or.inr rfl))
    (hdb : (x == ("__debug__" : Str)) = false := by decide) (hcd : (x == ("__classdict__" : Str)) = false := by decide)
    (hs : swapsWith e (some (.Subscript (.Name x px) b tpos)) pos.line X.env = pure false := by rfl) :
    DS B X (.Assign [.Subscript (.Name x px) b tpos] e pos) (.urn u n :: r) (fun δ' => ∃ d, R d ∧ δ' = .urn u m :: r.set i (.dct q (pT kvs k d))) Rt := fun σ H S D q1 q2 =>
  (ps_kput hu (pe_var hN hv hdb hcd) pe_D pe_D hs).to (he σ H S _ fun v d H1 hr kk g r1 => by
    have S1 := S.drawn kk g
    have hi : (Sd.urn u m :: r)[i + 1]? = some (.dct q kvs) := by simpa using h
    obtain ⟨g1, g2, g3⟩ := S1.ok (i + 1) _ hi
    refine ⟨_, g1, hb σ H1 S1 _ fun w H2 e2 r2 => ?_⟩
    refine ⟨q, kvs, k, d, rfl, g3.keep e2.tex fun o ho => e2 q o ho, r2.dat, hd, ht, r1.ex e2, sz_lt hl, fun H4 t4 k4 d4 => ?_⟩
    exact q1 _ _ _ ⟨d, hr, rfl⟩ ((S1.to e2).write hi rfl rfl t4 k4 ⟨rfl, g2, d4⟩) ((kk.tex S.urn0.1).trans (e2.tex.trans t4)))
end
/-- a call whose promise hangs on what was drawn for it -/
theorem u_callE {B : Hp} {X : Cx} {u : Addr} {n m k : Nat} {r : Dl} {es : List Expr} {x : Str} {p pos : Pos} {R : T → Prop} {RA : List Ad → Prop} {C : List Ad → (T → Prop) → Prop} {kk : Nat} {ps : List Str} {p0 : Pos} {y0 : Str} (G : FnAt X.prog X.w X.K X.mg X.base kk x ps (spU X.K k C)) (hr : Room kk X.A) (ha : DUA B X u n m es r RA) (hC : ∀ as, RA as → ∃ R0, C as R0 ∧ ∀ d, R0 d → R d) (hn : m + k ≤ 1000000) (h0 : X.N[0]? = some y0 := by rfl)
    (hv : Vis X.env.scope y0 := by first | exact Or.inl rfl | exact Or.inr (Or.inl rfl) | exact Or.inr (Or.inr rfl))
    (hd0 : (y0 == ("__debug__" : Str)) = false := by decide) (hcd0 : (y0 == ("__classdict__" : Str)) = false := by decide)
    (hg : Gl X x := by rfl) (hdb : (x == ("__debug__" : Str)) = false := by decide) (he : starEach (.Name y0 p0 :: es) X.env = (false, eval (.Name y0 p0) X.env) :: starEach es X.env := by rfl) (hpl : (backTo pos (starEach es X.env)).any (·.1) = false := by rfl) :
    DU B X u n (m + k) (.Call (.Name x p) (.Name y0 p0 :: es) [] pos) r R := fun σ H S Q q => by
  obtain ⟨f, fd, G, gm, kp, bd⟩ := G.ex
  refine (pe_call G hr hg gm kp bd .nil pass0 pa_D hdb he hpl).to ((pa_cons (pe_var h0 hv hd0 hcd0) pa_D he).to ⟨_, (S.ok 0 _ rfl).1, ha σ H S _ fun vs as H1 has k1 g1 r1 => ?_⟩)
  show spU X.K k C ((V.ref u :: vs) ++ []) H1 Q E0
  rw [List.append_nil]
  obtain ⟨R0, c0, hR⟩ := hC as has
  exact ⟨u, m, vs, as, R0, rfl, g1, hn, r1, c0, fun v d H' hd k2 g2 r2 => q v d H' (hR d hd) (k1.trans k2) g2 r2⟩
/-- i + a draw -/
theorem u_addN {B : Hp} {X : Cx} {u : Addr} {n m k i : Nat} {r : Dl} {a b : Expr} {pos : Pos} (ha : DI B X a (.urn u n :: r) (i : Nat)) (hb : DU B X u n m b r (fun x => ∃ t : Nat, x = T.i (t : Nat) ∧ t < k)) : DU B X u n m (.BinOp a .Add b pos) r (fun x => ∃ t : Nat, x = T.i (t : Nat) ∧ i ≤ t ∧ t < i + k) :=
  DU.imp (u_addR ha (g := fun j => ∃ t : Nat, j = (t : Int) ∧ t < k) (DU.imp hb (fun y ⟨t, h, h2⟩ => ⟨t, h, t, rfl, h2⟩) (Nat.le_refl _))) (fun y ⟨j, h, t, h2, h3⟩ => ⟨i + t, by rw [h, h2]; rfl, by omega, by omega⟩) (Nat.le_refl _)
theorem u_take {B : Hp} {X : Cx} {u : Addr} {n k kk : Nat} {r : Dl} {b : Expr} {p pos p0 : Pos} {ps : List Str} (G : FnAt X.prog X.w X.K X.mg X.base kk "_law_take" ps (spU X.K 1 FTake)) (hr : Room kk X.A) (hb : DI B X b (.urn u n :: r) (k : Nat)) (hk : 0 < k ∧ k ≤ 1000) (hn : n + 1 ≤ 1000000) (h0 : X.N[0]? = some ("_law_urn" : Str) := by rfl)
    (hv : Vis X.env.scope "_law_urn" := by first | exact Or.inl rfl | exact Or.inr (Or.inl rfl) | exact Or.inr (Or.inr rfl))
    (hg : Gl X "_law_take" := by rfl) (he : starEach (.Name "_law_urn" p0 :: [b]) X.env = (false, eval (.Name "_law_urn" p0) X.env) :: starEach [b] X.env := by rfl) (he2 : starEach [b] X.env = (false, eval b X.env) :: starEach [] X.env := by rfl) (hpl : (backTo pos (starEach [b] X.env)).any (·.1) = false := by rfl) :
    DU B X u n (n + 1) (.Call (.Name "_law_take" p) [.Name "_law_urn" p0, b] [] pos) r (fun x => ∃ t : Nat, x = T.i (t : Nat) ∧ t < k) :=
  u_call G hr (ua_X hb ua_nil he2) (fun as has => by obtain ⟨bs, h3, h4⟩ := has; subst h4; exact ⟨k, hk.1, hk.2, h3, rfl⟩) hn (h0 := h0) (hv := hv) (hg := hg) (he := he) (hpl := hpl)
def KeyF (c : Nat) (k : T) : Prop := ∃ fs : List (List Nat), k = facT fs ∧ fs.length ≤ 2 ∧ ∀ a ∈ fs, a.length = c ∧ ∀ n ∈ a, n ≤ 2
def SumsOk (c i : Nat) (kvs : List (T × T)) : Prop := kvs.length ≤ i ∧ ∀ p ∈ kvs, KeyF c p.1 ∧ ∃ z : Int, p.2 = .i z ∧ z.natAbs ≤ 3 * i
def FWish (as : List Ad) (R : T → Prop) : Prop := ∃ c : Nat, 1 ≤ c ∧ c ≤ 2 ∧ as = [.d (.i (c : Nat)), .d (.i 2)] ∧ R = fun d => ∃ W, d = wishT W ∧ WishOk c W
abbrev sWish : Stmt := topS 55
theorem scWish : FnScope ["_law_urn", "_law_c", "_law_most", "_law_sums", "_law_lap", "_law_factors", "_law_k", "_law_own", "_law_key", "_law_column_in"] ["_law_urn", "_law_c", "_law_most"] (defScope sWish) := ⟨rfl, rfl, rfl, by decide +kernel, rfl, by decide +kernel, by decide +kernel⟩
theorem sums_get {c i : Nat} {kvs : List (T × T)} (h : SumsOk c i kvs) (k : T) : ∃ z : Int, (gT kvs k).getD (.i 0) = .i z ∧ z.natAbs ≤ 3 * i := by
  unfold gT
  cases q : kvs.find? (fun kv => decide (kv.1 = k)) with
  | none => exact ⟨0, rfl, by simp⟩
  | some p =>
    obtain ⟨_, z, h1, h2⟩ := h.2 p (List.mem_of_find?_eq_some q)
    exact ⟨z, h1, h2⟩
theorem sums_put {c i : Nat} {kvs : List (T × T)} {k : T} {z : Int} (h : SumsOk c i kvs) (hk : KeyF c k) (hz : z.natAbs ≤ 3 * (i + 1)) : SumsOk c (i + 1) (pT kvs k (.i z)) := by
  refine ⟨Nat.le_trans (pT_length kvs k (.i z)) (by have := h.1; omega), fun p hp => ?_⟩
  have old : ∀ p ∈ kvs, KeyF c p.1 ∧ ∃ z : Int, p.2 = .i z ∧ z.natAbs ≤ 3 * (i + 1) := fun p hp => by
    obtain ⟨h1, z', h2, h3⟩ := h.2 p hp
    exact ⟨h1, z', h2, by omega⟩
  unfold pT at hp
  split at hp
  · obtain ⟨p', hp', rfl⟩ := List.mem_map.mp hp
    split
    · exact ⟨(old p' hp').1, z, rfl, hz⟩
    · exact old p' hp'
  · rcases List.mem_append.mp hp with hp | hp
    · exact old p hp
    · rw [List.mem_singleton.mp hp]; exact ⟨hk, z, rfl, hz⟩
/-- drawn entries -/
theorem drawn_in {xs ys : List T} (h : Paired (fun _ y => y ∈ [T.i 0, T.i 1, T.i 1, T.i 2]) xs ys) : ∃ ns : List Nat, ys = ns.map (fun (n : Nat) => T.i (n : Int)) ∧ ns.length = xs.length ∧ ∀ n ∈ ns, n ≤ 2 := by
  induction h with
  | nil => exact ⟨[], rfl, rfl, fun _ h => by cases h⟩
  | cons h t ih =>
    obtain ⟨ns, h1, h2, h3⟩ := ih
    have hn : ∀ {b : T}, b ∈ [T.i 0, T.i 1, T.i 1, T.i 2] → ∃ n : Nat, b = T.i (n : Int) ∧ n ≤ 2 := fun h => by
      rcases List.mem_cons.mp h with rfl | h
      · exact ⟨0, rfl, by decide⟩
      · rcases List.mem_cons.mp h with rfl | h
        · exact ⟨1, rfl, by decide⟩
        · rcases List.mem_cons.mp h with rfl | h
          · exact ⟨1, rfl, by decide⟩
          · rw [List.mem_singleton.mp h]; exact ⟨2, rfl, by decide⟩
    obtain ⟨n, rfl, hn⟩ := hn h
    refine ⟨n :: ns, by rw [h1]; rfl, by rw [List.length_cons, List.length_cons, h2], fun m hm => ?_⟩
    rcases List.mem_cons.mp hm with rfl | hm
    · exact hn
    · exact h3 m hm
theorem depths_nats (ns : List Nat) : T.depths (ns.map fun (n : Nat) => T.i (n : Int)) ≤ 1 := by
  induction ns with
  | nil => simp [T.depths]
  | cons n r ih => rw [List.map_cons]; simp [T.depths, T.depth]; exact ih
/-- the factor that is kept -/
def facK (c : Nat) (ns : List Nat) : List Nat := if ns = List.replicate c 0 then List.replicate c 1 else ns
theorem facK_ok {c : Nat} {ns : List Nat} (h1 : ns.length = c) (h2 : ∀ n ∈ ns, n ≤ 2) : (facK c ns).length = c ∧ ∀ n ∈ facK c ns, n ≤ 2 := by
  unfold facK
  split
  · exact ⟨List.length_replicate, fun n hn => by rw [List.eq_of_mem_replicate hn]; decide⟩
  · exact ⟨h1, h2⟩
theorem nats_inj {a b : List Nat} (h : (a.map fun (n : Nat) => T.i (n : Int)) = b.map fun (n : Nat) => T.i (n : Int)) : a = b := by
  induction a generalizing b with
  | nil => cases b with
    | nil => rfl
    | cons _ _ => cases h
  | cons x r ih => cases b with
    | nil => cases h
    | cons y t =>
      rw [List.map_cons, List.map_cons] at h
      injection h with h1 h2
      injection h1 with h1
      rw [Int.ofNat_inj.mp h1, ih h2]
/-- the number under a key -/
def vI (kvs : List (T × T)) (k : T) : Int := match gT kvs k with
  | some (.i z) => z
  | _ => 0
theorem vI_get {c i : Nat} {kvs : List (T × T)} (h : SumsOk c i kvs) {k : T} (hk : k ∈ kvs.map (·.1)) : gT kvs k = some (.i (vI kvs k)) ∧ (vI kvs k).natAbs ≤ 3 * i ∧ KeyF c k := by
  obtain ⟨p, hp, rfl⟩ := List.mem_map.mp hk
  have hkf := (h.2 p hp).1
  cases q : gT kvs p.1 with
  | none => exact absurd hk (gT_none q)
  | some v =>
    have q' := q
    unfold gT at q'
    obtain ⟨p', hp', rfl⟩ := Option.map_eq_some_iff.mp q'
    obtain ⟨_, z, h1, h2⟩ := h.2 p' (List.mem_of_find?_eq_some hp')
    have e : vI kvs p.1 = z := by unfold vI; rw [q, h1]
    rw [e, h1]; exact ⟨rfl, h2, hkf⟩
theorem wish_of {c : Nat} {val : T → Int} : ∀ (ks : List T), (∀ k ∈ ks, KeyF c k ∧ (val k).natAbs ≤ 9) → ∃ W : Wish, ks.map (fun k => T.t [k, .t [.i (val k), .i 1]]) = W.map wP ∧ W.length = ks.length ∧ ∀ p ∈ W, (p.1.length ≤ 2 ∧ ∀ a ∈ p.1, a.length = c ∧ ∀ n ∈ a, n ≤ 2) ∧ Bd 1 9 p.2
  | [], _ => ⟨[], rfl, rfl, fun _ h => by cases h⟩
  | k :: r, h => by
    obtain ⟨W, h1, h2, h3⟩ := wish_of r fun x hx => h x (List.mem_cons_of_mem _ hx)
    obtain ⟨⟨fs, rfl, hf1, hf2⟩, hv⟩ := h k (List.mem_cons_self ..)
    refine ⟨(fs, ((val (facT fs) : Int) : Rat)) :: W, by rw [List.map_cons, List.map_cons, h1]; rfl, by rw [List.length_cons, List.length_cons, h2], fun p hp => ?_⟩
    rcases List.mem_cons.mp hp with rfl | hp
    · exact ⟨⟨hf1, hf2⟩, (Bd.int _).mono hv⟩
    · exact h3 p hp
theorem of_nats (fs : List (List Nat)) : ∀ l : List T, (∀ x ∈ l, x ∈ fs.map natsT) → ∃ gs : List (List Nat), l = gs.map natsT ∧ ∀ a ∈ gs, a ∈ fs
  | [], _ => ⟨[], rfl, fun _ h => by cases h⟩
  | x :: r, h => by
    obtain ⟨gs, h1, h2⟩ := of_nats fs r fun y hy => h y (List.mem_cons_of_mem _ hy)
    obtain ⟨a, ha, rfl⟩ := List.mem_map.mp (h x (List.mem_cons_self ..))
    refine ⟨a :: gs, by rw [h1]; rfl, fun b hb => ?_⟩
    rcases List.mem_cons.mp hb with rfl | hb
    · exact ha
    · exact h2 b hb
theorem srt_nats (fs : List (List Nat)) : ∃ gs : List (List Nat), srtT (fs.map natsT) = gs.map natsT ∧ gs.length = fs.length ∧ ∀ a ∈ gs, a ∈ fs := by
  obtain ⟨gs, h1, h2⟩ := of_nats fs _ fun x hx => (srtT_perm (fs.map natsT)).mem_iff.mp hx
  refine ⟨gs, h1, ?_, h2⟩
  have := (srtT_perm (fs.map natsT)).length_eq
  rw [h1, List.length_map, List.length_map] at this
  exact this
theorem fac_shp (fs : List (List Nat)) : shp 2 (facT fs) = true := by
  unfold facT
  rw [shp]
  exact shps_all.mpr fun y hy => by obtain ⟨a, _, rfl⟩ := List.mem_map.mp hy; exact shp_nats a
section
variable {P : Program} {w : World} {K : PySem.W.Frag} {mg : Str → Option Value} {base : Heap}
theorem ok_wish (D : Def K mg "_law_wish" sWish ["_law_urn", "_law_c", "_law_most"]) (ms : mg "sorted" = none) (mt : mg "tuple" = none) (mr : mg "range" = none)
    (GT : FnAt P w K mg base 3 "_law_take" ["_law_urn", "_law_low_so"] (spU K 1 FTake)) (GO : FnAt P w K mg base 3 "_law_of" ["_law_urn", "_law_some_so"] (spU K 1 FOf)) :
    FnAt P w K mg base 4 "_law_wish" ["_law_urn", "_law_c", "_law_most"] (spU K 100 FWish) := by
  refine D.u scWish (by decide) (fun as R h => ?_) fun f cdv A outer s H E hr u n as R δ1 hC hn g => ?_
  · obtain ⟨_, _, _, rfl, _⟩ := h; rfl
  · obtain ⟨c, hc1, hc2, rfl, rfl⟩ := hC
    cases g with
    | cons g t =>
    cases t with
    | cons g2 t =>
    cases t
    cases g
    cases g2
    have hu := hr.units
    refine ss_cons (s_dnew 3 scWish.nd) ?_
    rintro δ' ⟨q, rfl⟩
    refine ss_cons (s_forU (N := 3) (m := n + 1) (fun i δ => ∃ kvs z4 z5 z6 z7 z8, SumsOk c i kvs ∧ δ = [.urn u (n + 1 + 20 * i), .d (.i c), .d (.i 2), .dct q kvs, z4, z5, z6, z7, z8, .no]) mr (DU.imp (u_addN (i := 1) (k := 3) r_int (u_take GT hr r_int (by decide) (by omega))) (fun y ⟨t, h1, h2, h3⟩ => ⟨t, h1, by omega⟩) (Nat.le_refl _)) (by decide) ?h0 ?hb) ?_
    case h0 => exact ⟨[], .no, .no, .no, .no, .no, ⟨by simp, fun p hp => by cases hp⟩, rfl⟩
    case hb =>
      rintro i δ1 hi ⟨kvs, z4, z5, z6, z7, z8, hk, rfl⟩
      refine ⟨_, [4], g_name 4 scWish.nd, ?_⟩
      refine ss_cons (s_setN 5 scWish.nd (n_lst dd_nil)) ?_
      rintro δ' ⟨q5, rfl⟩
      have h20 : n + 1 + 20 * i ≤ n + 60 := by omega
      refine ss_cons (s_forU (N := 2) (m := n + 1 + 20 * i + 2) (fun j δ => ∃ (fs : List (List Nat)) (z4 z6 z7 z8 : Sd), fs.length = j ∧ (∀ a ∈ fs, a.length = c ∧ ∀ n ∈ a, n ≤ 2) ∧ δ = [.urn u (n + 1 + 20 * i + 2 + c * j), .d (.i c), .d (.i 2), .dct q kvs, .d (.i (i : Nat)), .own q5 (fs.map natsT), z6, z7, z8, .no]) mr (DU.imp (m := n + 1 + 20 * i + 1 + 1) (u_callE (k := 1) (R := fun y => ∃ t : Nat, y = T.i (t : Nat) ∧ t ≤ 2) GO hr (ua_L (un_lst (ud_cons (DX.du r_int) (ud_cons (DX.du (r_var 2)) (ud_cons (DX.du (r_var 2)) (ud_cons (u_take (k := 3) GT hr (r_add (m := 2) (n := 1) (r_var 2) r_int) (by decide) (by omega)) ud_nil)))) ?ll)) ?oc (by omega)) (fun _ h => h) (Nat.le_refl _)) (by decide) ?h0 ?hb) ?_
      case ll =>
        rintro xs ⟨d1, _, rfl, rfl, d2, _, rfl, rfl, d3, _, rfl, rfl, d4, _, rfl, ⟨t, rfl, ht⟩, rfl⟩
        simp
      case oc =>
        rintro as ⟨xs, rfl, d1, _, rfl, rfl, d2, _, rfl, rfl, d3, _, rfl, rfl, d4, _, rfl, ⟨t, rfl, ht⟩, rfl⟩
        refine ⟨_, ⟨_, rfl, by simp, by simp, rfl⟩, fun d hd => ?_⟩
        simp only [List.mem_cons, List.not_mem_nil, or_false] at hd
        rcases hd with rfl | rfl | rfl | rfl
        · exact ⟨1, rfl, by decide⟩
        · exact ⟨2, rfl, by decide⟩
        · exact ⟨2, rfl, by decide⟩
        · exact ⟨t, rfl, by omega⟩
      case h0 => exact ⟨[], .d (.i (i : Nat)), z6, z7, z8, rfl, fun a ha => (by cases ha), rfl⟩
      case hb =>
        rintro j δ1 hj ⟨fs, z4, z6, z7, z8, hf1, hf2, rfl⟩
        refine ⟨_, [6], g_name 6 scWish.nd, ?_⟩
        show DSs _ _ _ [.urn u (n + 1 + 20 * i + 2 + c * j), .d (.i c), .d (.i 2), .dct q kvs, .d (.i (i : Nat)), .own q5 (fs.map natsT), .d (.i (j : Nat)), z7, z8, .no] _ _
        refine ss_cons (s_setLcU (own := [("_law_column_in", 9)]) (Rt := _) (u := u) (n := n + 1 + 20 * i + 2 + c * j) (r := [.d (.i c), .d (.i 2), .dct q kvs, .d (.i (i : Nat)), .own q5 (fs.map natsT), .d (.i (j : Nat)), z7, z8, .no]) (bd := fun x => [.d (.i c), .d (.i 2), .dct q kvs, .d (.i (i : Nat)), .own q5 (fs.map natsT), .d (.i (j : Nat)), z7, z8, .d x]) (Rel := fun _ y => y ∈ [T.i 0, T.i 1, T.i 1, T.i 2]) 6 1 scWish.nd (blkOk_by (by rfl)) (by rfl) (it_range1 (n := c) mr (r_var 1) (by omega)).iu (by simp; omega) (fun s H C cl fp x m hx => g_name 9 scWish.nd) (fun s H C cl fp l x hx => ?elt)) ?_
        case elt =>
          have hl := (List.getElem?_eq_some_iff.mp hx).1
          have hcj : c * j ≤ 2 * 2 := Nat.mul_le_mul hc2 (by omega)
          rw [List.length_map, List.length_range] at hl
          exact DU.imp (u_call GO hr (ua_L (DN.dun (n_lst (dd_cons r_int (dd_cons r_int (dd_cons r_int (dd_cons r_int dd_nil))))))) (R := fun y => y ∈ [T.i 0, T.i 1, T.i 1, T.i 2]) (fun as has => by obtain ⟨xs, h3, h4⟩ := has; subst h4; exact ⟨_, h3, by simp, by simp, rfl⟩) (by omega)) (fun _ h => h) (by omega)
        rintro δ' ⟨q7, ys, hys, rfl⟩
        obtain ⟨ns, rfl, hn1, hn2⟩ := drawn_in hys
        rw [List.length_map, List.length_range] at hn1
        refine ss_one ((s_append 5 (q := q5) (xs := fs.map natsT) (u := natsT (facK c ns)) rfl (r_if (t_neL hu (r_var 7) (n_rep1 (k := c) (n_lst (dd_cons r_int dd_nil)) (r_var 1) (by omega)).dl (Nat.le_trans (depths_nats ns) (by decide)) ?dep) (fun hk => DR.is (r_tupL mt (r_var 7)) ?i1) (fun hk => DR.is (r_rep1 (k := c) (r_tup (dd_cons r_int dd_nil)) (r_var 1) (by omega)) ?i2)) ?z).imp ?nx)
        case dep => exact Nat.le_trans (T.depths_le.mpr fun x hx => by rw [List.eq_of_mem_replicate hx]; simp [T.depth]) (show 1 ≤ 63 by decide)
        case i1 =>
          have hne : ¬ ns = List.replicate c 0 := fun e => by
            rw [e, List.map_replicate] at hk
            simp at hk
          unfold facK; rw [if_neg hne]; rfl
        case i2 =>
          have he : ns = List.replicate c 0 := by
            have : (ns.map fun (n : Nat) => T.i (n : Int)) = List.replicate c (T.i 0) := by simpa using hk
            apply nats_inj
            rw [this, List.map_replicate]; rfl
          unfold facK; rw [if_pos he]
          show _ = Ad.d (T.t ((List.replicate c 1).map fun (n : Nat) => T.i (n : Int)))
          rw [List.map_replicate]; rfl
        case z => rw [List.length_map]; omega
        case nx =>
          rintro δ' rfl
          have hok := facK_ok hn1 hn2
          refine ⟨fs ++ [facK c ns], .no, .d (.i (j : Nat)), .own q7 (ns.map fun (n : Nat) => T.i (n : Int)), z8, by simp [hf1], fun a ha => ?_, ?_⟩
          · rcases List.mem_append.mp ha with ha | ha
            · exact hf2 a ha
            · rw [List.mem_singleton.mp ha]; exact hok
          · rw [List.map_append, List.length_map, List.length_range, Nat.mul_add c j 1, Nat.mul_one, Nat.one_mul, ← Nat.add_assoc]; rfl
      rintro δ' ⟨j, hj, fs, z4', z6', z7', z8', hf1, hf2, rfl⟩
      obtain ⟨gs, hg1, hg2, hg3⟩ := srt_nats fs
      have hcj : c * j ≤ 2 * 2 := Nat.mul_le_mul hc2 hj
      have hdep : (facT gs).depth ≤ 8 := Nat.le_trans (shp_depth _ _ (fac_shp gs)) (by decide)
      refine ss_set (s_set 8 scWish.nd (u := facT gs) (DR.is (r_tupL mt (n_sortedL (n := 0) hu ms (r_var 5) (shps_all.mpr fun x hx => by obtain ⟨a, _, rfl⟩ := List.mem_map.mp hx; exact shp_nats a) (by decide)).dl) (by rw [hg1]; rfl))) ?_
      obtain ⟨z, hz, hzb⟩ := sums_get hk (facT gs)
      refine ss_one ((s_dputU (m := n + 1 + 20 * (i + 1)) (R := fun x => ∃ y, x = T.i (z + y) ∧ y.natAbs ≤ 3) 2 hu rfl (DU.imp (m := n + 1 + 20 * i + 2 + c * j + 1) (u_addR (g := fun y => y.natAbs ≤ 3) (DR.is (r_dgetOr (d := .i 0) 3 hu rfl (r_var 8) r_int hdep ⟨_, rfl⟩) (by rw [hz])) (DU.imp (u_call (k := 1) GO hr (ua_L (DN.dun (n_lst (dd_cons r_int (dd_cons r_int (dd_cons (r_neg r_int) (dd_cons (r_neg r_int) dd_nil))))))) (R := fun y => y ∈ [T.i 1, T.i 2, T.i (-1), T.i (-3)]) (fun as has => by obtain ⟨xs, h3, h4⟩ := has; subst h4; exact ⟨_, h3, by simp, by simp, rfl⟩) (by omega)) ?mem (Nat.le_refl _))) (fun _ h => h) (by omega)) (r_var 8) hdep ⟨_, rfl⟩ ?len).imp ?nx)
      case mem =>
        intro y hy
        simp only [List.mem_cons, List.not_mem_nil, or_false] at hy
        rcases hy with rfl | rfl | rfl | rfl
        · exact ⟨_, rfl, by decide⟩
        · exact ⟨_, rfl, by decide⟩
        · exact ⟨_, rfl, by decide⟩
        · exact ⟨_, rfl, by decide⟩
      case len => have := hk.1; omega
      case nx =>
        rintro δ' ⟨_, ⟨y, rfl, hy⟩, rfl⟩
        refine ⟨_, _, _, _, _, _, sums_put hk ⟨gs, rfl, by omega, fun a ha => hf2 a (hg3 a ha)⟩ (z := z + y) (by omega), rfl⟩
    rintro δ' ⟨i, hi, kvs, z4, z5, z6, z7, z8, hk, rfl⟩
    have hmem : ∀ x, x ∈ srtT (kvs.map (·.1)) → x ∈ kvs.map (·.1) := fun x hx => (srtT_perm _).mem_iff.mp hx
    have hks : shps 2 (kvs.map (·.1)) = true := shps_all.mpr fun x hx => by
      obtain ⟨fs, rfl, _⟩ := (vI_get hk hx).2.2
      exact fac_shp fs
    have hget : ∀ x, x ∈ srtT (kvs.map (·.1)) → gT kvs x = some (.i (vI kvs x)) ∧ x.depth ≤ 8 ∧ ∃ l, x = .t l := fun x hx => by
      have h1 := shps_all.mp hks x (hmem x hx)
      exact ⟨(vI_get hk (hmem x hx)).1, Nat.le_trans (shp_depth _ _ h1) (by decide), shp_tup h1⟩
    obtain ⟨W, hW1, hW2, hW3⟩ := wish_of (c := c) (val := vI kvs) ((srtT (kvs.map (·.1))).filter fun k => !decide (vI kvs k = 0)) fun k hk' => by
      have h1 := vI_get hk (hmem k (List.mem_filter.mp hk').1)
      exact ⟨h1.2.2, by omega⟩
    have hlen : (srtT (kvs.map (·.1))).length ≤ 3 := by
      rw [(srtT_perm _).length_eq, List.length_map]
      have := hk.1; omega
    refine ss_one (s_retU (m := n + 1 + 20 * i) (DX.du (d := wishT W) (DR.is (r_tupL mt (n_lc (own := [("_law_key", 8)]) (fun k => !decide (vI kvs k = 0)) (fun k => .t [k, .t [.i (vI kvs k), .i 1]]) (fun k => [.urn u (n + 1 + 20 * i), .d (.i c), .d (.i 2), .dct q kvs, z4, z5, z6, z7, .d k, .no]) scWish.nd (blkOk_by (by rfl)) (it_lst (n_sortedK (n := 1) 3 rfl hu ms rfl hks (by decide)).dl) (by omega) ?tg ?ts ?el).dl) ?is)) fun v d H' hd e g r => ?fin)
    case tg =>
      intro s H C cl fp x hx
      exact g_name 8 scWish.nd
    case ts =>
      intro s H C cl fp x hx
      obtain ⟨h1, h2, h3⟩ := hget x hx
      exact ts_one (t_ne (r_dget 3 hu rfl (r_var 8) h1 h2 h3) r_int)
    case el =>
      intro s H C cl fp x hx hf
      obtain ⟨h1, h2, h3⟩ := hget x hx
      exact r_tup (dd_cons (r_var 8) (dd_cons (r_tup (dd_cons (r_dget 3 hu rfl (r_var 8) h1 h2 h3) (dd_cons r_int dd_nil))) dd_nil))
    case is => rw [hW1, wishT_eq]
    case fin =>
      subst hd
      refine ⟨_, ⟨W, rfl, ⟨?_, hc2, fun p hp => (hW3 p hp).1, fun p hp => (hW3 p hp).2⟩⟩, r, e, g.mono (by omega)⟩
      have := List.length_filter_le (fun k => !decide (vI kvs k = 0)) (srtT (kvs.map (·.1)))
      omega
end
end Kd
-- K68U7
set_option maxRecDepth 100000
set_option maxHeartbeats 4000000
/-! Walks: _law_right. -/
namespace Kd
open PySem PySem.Spec PyProof.Rows L2 KdIt
section
variable {B : Hp} {X : Cx} {u : Addr} {n m l : Nat} {r : Dl} {a b : Expr} {x y : Str} {p pos : Pos} {R R' : T → Prop} {Rt : VK}
/-- a, b = e, f, both drawn -/
theorem s_parU {kt k2 : Nat} {px py pt pt2 : Pos} (i j : Nat) (hN : X.N.Nodup) (ha : DU B X u n m a r R) (hb : DU B X u m l b r R') (hi : X.N[i + 1]? = some x := by rfl) (hj : X.N[j + 1]? = some y := by rfl) (hij : i + 1 ≠ j + 1 := by decide) (hx : X.env.scope.names.lookup x = some .local := by rfl) (hy : X.env.scope.names.lookup y = some .local := by rfl)
    (hw : swappedStores [.Tuple [.Name x px, .Name y py] kt pt] (.Tuple [a, b] k2 pt2) X.env = pure (some [x, y]) := by rfl) (hc : X.calm = true := by rfl)
    (hs : swapsWithSole [.Tuple [.Name x px, .Name y py] kt pt] (.Tuple [a, b] k2 pt2) pos.line X.env = pure false := by rfl) (hs1 : starEach [a, b] X.env = (false, eval a X.env) :: starEach [b] X.env := by rfl) (hs2 : starEach [b] X.env = (false, eval b X.env) :: starEach [] X.env := by rfl) :
    DS B X (.Assign [.Tuple [.Name x px, .Name y py] kt pt] (.Tuple [a, b] k2 pt2) pos) (.urn u n :: r) (fun δ' => ∃ d e, R d ∧ R' e ∧ δ' = .urn u l :: (r.set i (.d d)).set j (.d e)) Rt := fun σ H S D q1 q2 =>
  (ps_par hc hN hi hj hij hx hy (pa_cons pe_D (pa_cons pe_D pa_nil hs2) hs1) hw hs).to (ha σ H S _ fun v d H1 hd k1 g1 r1 => hb σ H1 (S.drawn k1 g1) _ fun w e H2 he k2' g2 r2 => by
    have S2 := (S.drawn k1 g1).drawn k2' g2
    exact ⟨v, w, rfl, q1 _ _ _ ⟨d, e, hd, he, rfl⟩ ((S2.set0 (i := i + 1) (v := some v) (s := .d d) ⟨v, rfl, Rep.tex (k2'.tex g1) _ r1⟩ rfl).set0 (i := j + 1) (v := some w) (s := .d e) ⟨w, rfl, r2⟩ rfl) ((k1.tex S.urn0.1).trans (k2'.tex g1))⟩)
/-- max of an int and a draw -/
theorem u_max2 {i : Int} {g : Int → Prop} (hm : X.mg "max" = none) (ha : DI B X a (.urn u n :: r) i) (hb : DU B X u n m b r (fun x => ∃ j, x = .i j ∧ g j)) (hc : X.calm = true := by rfl) (hg : Gl X "max" := by rfl) (hs : starEach [a, b] X.env = (false, eval a X.env) :: starEach [b] X.env := by rfl) (hs2 : starEach [b] X.env = (false, eval b X.env) :: starEach [] X.env := by rfl) (hpl : (backTo pos (starEach [b] X.env)).any (·.1) = false := by rfl) :
    DU B X u n m (.Call (.Name "max" p) [a, b] [] pos) r (fun x => ∃ j, x = .i (max i j) ∧ g j) := fun σ H S Q q =>
  (pe_callB (call_max2 hc) hg hm (by decide +kernel) (pa_cons pe_D (pa_cons pe_D pa_nil hs2) hs) (he := hs) (hpl := hpl)).to (ha σ H S _ fun v H1 e1 r1 => hb σ H1 (S.to e1) _ fun w x H2 ⟨j, ej, hgj⟩ k2 g2 r2 => by
    subst ej
    refine ⟨i, j, by rw [r1.int, r2.int], ?_⟩
    have e : (if j > i then j else i) = max i j := by split <;> omega
    rw [e]
    exact q _ _ H2 ⟨j, rfl, hgj⟩ (e1.kp.trans k2) g2 (.i _))
end
/-- True, and all but the urn stays -/
def spUB (K : PySem.W.Frag) : Sp := fun vs H Q _ => ∃ u, vs = [.ref u] ∧ UrnAt H u 0 ∧ ∀ H', Kp u H H' → Q (.bl true) H'
def numsR : List Rat := [0, 1, -2, mkRat 3 2, 5]
theorem f32 : fr (mkRat 3 2) = .t [.i 3, .i 2] := by rw [fr_mk _ _ (by decide)]; decide
theorem numsT : [T.t [.i 0, .i 1], .t [.i 1, .i 1], .t [.i (-2), .i 1], .t [.i 3, .i 2], .t [.i 5, .i 1]] = numsR.map fr := by
  show _ = [fr 0, fr 1, fr (-2), fr (mkRat 3 2), fr 5]
  rw [f32]; rfl
theorem nums_bd : ∀ q ∈ numsR, Bd 2 10 q := fun q hq => by
  unfold numsR at hq
  simp only [List.mem_cons, List.not_mem_nil, or_false] at hq
  rcases hq with rfl | rfl | rfl | rfl | rfl
  · exact ⟨0, by decide +kernel, by decide⟩
  · exact ⟨2, by decide +kernel, by decide⟩
  · exact ⟨-4, by decide +kernel, by decide⟩
  · exact ⟨3, by decide +kernel, by decide⟩
  · exact ⟨10, by decide +kernel, by decide⟩
theorem drawn_row {xs ys : List T} (h : Paired (fun _ y => y ∈ numsR.map fr) xs ys) : ∃ r : List Rat, ys = r.map fr ∧ r.length = xs.length ∧ ∀ q ∈ r, Bd 2 10 q := by
  induction h with
  | nil => exact ⟨[], rfl, rfl, fun _ h => by cases h⟩
  | cons h t ih =>
    obtain ⟨r, h1, h2, h3⟩ := ih
    obtain ⟨q, hq, rfl⟩ := List.mem_map.mp h
    refine ⟨q :: r, by rw [h1]; rfl, by rw [List.length_cons, List.length_cons, h2], fun z hz => ?_⟩
    rcases List.mem_cons.mp hz with rfl | hz
    · exact nums_bd _ hq
    · exact h3 z hz
theorem drawn_rows {xs ys : List T} (h : Paired (fun _ y => ∃ r : List Rat, y = rowT r ∧ RowOk r) xs ys) : ∃ R : List (List Rat), ys = R.map rowT ∧ R.length = xs.length ∧ ∀ r ∈ R, RowOk r := by
  induction h with
  | nil => exact ⟨[], rfl, rfl, fun _ h => by cases h⟩
  | cons h t ih =>
    obtain ⟨R, h1, h2, h3⟩ := ih
    obtain ⟨r, rfl, hr⟩ := h
    refine ⟨r :: R, by rw [h1]; rfl, by rw [List.length_cons, List.length_cons, h2], fun z hz => ?_⟩
    rcases List.mem_cons.mp hz with rfl | hz
    · exact hr
    · exact h3 z hz
abbrev sRight : Stmt := topS 60
theorem scRight : FnScope ["_law_urn", "_law_c", "_law_wish_in", "_law_source_in", "_law_n", "_law_numbers", "_law_rows_in", "_law_lap", "_law_column_in"] ["_law_urn"] (defScope sRight) := ⟨rfl, rfl, rfl, by decide +kernel, rfl, by decide +kernel, by decide +kernel⟩
section
variable {P : Program} {w : World} {K : PySem.W.Frag} {mg : Str → Option Value} {base : Heap}
theorem ok_right (D : Def K mg "_law_right" sRight ["_law_urn"]) (mm : mg "max" = none) (mt : mg "tuple" = none) (mr : mg "range" = none)
    (GT : FnAt P w K mg base 18 "_law_take" ["_law_urn", "_law_low_so"] (spU K 1 FTake)) (GO : FnAt P w K mg base 18 "_law_of" ["_law_urn", "_law_some_so"] (spU K 1 FOf))
    (GW : FnAt P w K mg base 18 "_law_wish" ["_law_urn", "_law_c", "_law_most"] (spU K 100 FWish)) (GS : FnAt P w K mg base 18 "_law_source" ["_law_urn", "_law_c", "_law_most"] (spU K 20 FSource))
    (GD : FnAt P w K mg base 18 "_law_degree" ["_law_wish_in"] (spF K FDeg)) (GC : FnAt P w K mg base 18 "_law_case_right" ["_law_urn", "_law_wish_in", "_law_source_in", "_law_rows_in"] (spB K FCase)) :
    FnAt P w K mg base 19 "_law_right" ["_law_urn"] (spUB K) := by
  obtain ⟨f, fd, Fn, gm, bd⟩ := D.ex
  refine ⟨f, fd, Fn.ok scRight (fun vs H Q E h => ?_) (fun cdv A outer s H vs Q E hr h => ?_), gm, Fn.kp, bd⟩
  · obtain ⟨u, rfl, _⟩ := h; rfl
  · obtain ⟨u, rfl, g, q⟩ := h
    obtain ⟨δ1, g1, S1⟩ := sto_startU (P := P) (w := w) (N' := ["_law_c", "_law_wish_in", "_law_source_in", "_law_n", "_law_numbers", "_law_rows_in", "_law_lap", "_law_column_in"]) (y0 := "_law_urn") (vs := []) (as := []) g .nil (by decide)
    cases g1
    refine ⟨_, pss_D, (show DSs (Hm u H) (bdX P w K mg base ["_law_urn", "_law_c", "_law_wish_in", "_law_source_in", "_law_n", "_law_numbers", "_law_rows_in", "_law_lap", "_law_column_in"] "_law_right" sRight f cdv A outer s H E) (defBody sRight) [.urn u 0, .no, .no, .no, .no, .no, .no, .no, .no] (fun _ => False) (fun v H' => v = .bl true ∧ Same (Hm u H) H') from ?_) _ H S1 _ (fun _ _ _ z => z.elim) fun v H' ⟨h1, h2⟩ => by subst h1; exact q H' (Kp.of_same h2)⟩
    have hr : Room 18 (bdX P w K mg base ["_law_urn", "_law_c", "_law_wish_in", "_law_source_in", "_law_n", "_law_numbers", "_law_rows_in", "_law_lap", "_law_column_in"] "_law_right" sRight f cdv A outer s H E).A := hr
    have hu := hr.units
    refine ss_cons (s_setU 0 scRight.nd (m := 1) (u_addN (i := 1) (k := 2) r_int (u_take GT hr r_int (by decide) (by omega)))) ?_
    rintro δ' ⟨_, ⟨c, rfl, hc1, hc2⟩, rfl⟩
    refine ss_cons (s_parU 1 2 scRight.nd (m := 1 + 100) (l := 1 + 100 + 20) (u_call GW hr (ua_X (r_var 1) (ua_X r_int ua_nil)) (R := fun d => ∃ W, d = wishT W ∧ WishOk c W) (fun as has => by obtain ⟨bs, rfl, bs', rfl, rfl⟩ := has; exact ⟨c, hc1, by omega, rfl, rfl⟩) (by omega)) (u_call GS hr (ua_X (r_var 1) (ua_X r_int ua_nil)) (R := fun d => ∃ S, d = srcT S ∧ SrcC c S ∧ sumL (S.map (·.2)) = 1) (fun as has => by obtain ⟨bs, rfl, bs', rfl, rfl⟩ := has; exact ⟨c, hc1, by omega, rfl, rfl⟩) (by omega))) ?_
    rintro δ' ⟨_, _, ⟨W, rfl, hW⟩, ⟨S, rfl, hS, hsum⟩, rfl⟩
    have hd2 := deg_two hW
    refine ss_cons (s_setU 3 scRight.nd (m := 1 + 100 + 20 + 1) (R := fun x => ∃ N : Nat, x = T.i (N : Nat) ∧ degW W ≤ N ∧ 1 ≤ N ∧ N ≤ 4) (DU.imp (u_max2 (i := (degW W : Nat)) (g := fun j => ∃ t : Nat, j = (t : Int) ∧ 1 ≤ t ∧ t < 1 + 4) mm (r_call GD hr (da_1 (r_var 2)) ⟨c, W, hW, rfl, rfl⟩) (DU.imp (u_addN (i := 1) (k := 4) r_int (u_take GT hr r_int (by decide) (by omega))) (fun y ⟨t, h1, h2, h3⟩ => ⟨t, h1, t, rfl, h2, h3⟩) (Nat.le_refl _))) ?mx (Nat.le_refl _))) ?_
    case mx =>
      rintro y ⟨_, rfl, t, rfl, h2, h3⟩
      exact ⟨max (degW W) t, by congr 1; omega, by omega, by omega, by omega⟩
    rintro δ' ⟨_, ⟨N, rfl, hN1, hN2, hN3⟩, rfl⟩
    refine ss_cons (s_setN 5 scRight.nd (xs := numsR.map fr) (by
      rw [← numsT]
      exact n_lst (dd_cons (r_tup (dd_cons r_int (dd_cons r_int dd_nil))) (dd_cons (r_tup (dd_cons r_int (dd_cons r_int dd_nil))) (dd_cons (r_tup (dd_cons (r_neg r_int) (dd_cons r_int dd_nil))) (dd_cons (r_tup (dd_cons r_int (dd_cons r_int dd_nil))) (dd_cons (r_tup (dd_cons r_int (dd_cons r_int dd_nil))) dd_nil))))))) ?_
    rintro δ' ⟨q5, rfl⟩
    refine ss_cons (s_setU 5 scRight.nd (m := 1 + 100 + 20 + 1 + c * N) (R := fun d => ∃ R : List (List Rat), d = rowsT R ∧ R.length = N ∧ ∀ r ∈ R, RowOk r) (DU.imp (m := 1 + 100 + 20 + 1 + c * N) (u_tup mt (DUN.imp (un_lc (own := [("_law_lap", 7)]) (bd := fun x => [.d (.i c), .d (wishT W), .d (srcT S), .d (.i (N : Nat)), .own q5 (numsR.map fr), .no, .d x, .no]) (Rel := fun _ y => ∃ r : List Rat, y = rowT r ∧ RowOk r) c scRight.nd (blkOk_by (by rfl)) (it_range1 (n := N) mr (r_var 4) (by omega)).iu (by simp; omega) (fun s H C cl fp x m hx => g_name 7 scRight.nd) (fun s H C cl fp i x hx => ?elt)) (fun _ h => h) (by simp))) ?rows (Nat.le_refl _))) ?_
    case elt =>
      refine DU.imp (u_tup mt (un_lc (own := [("_law_column_in", 8)]) (bd := fun y => [.d (.i c), .d (wishT W), .d (srcT S), .d (.i (N : Nat)), .own q5 (numsR.map fr), .no, .d x, .d y]) (Rel := fun _ y => y ∈ numsR.map fr) 1 scRight.nd (blkOk_by (by rfl)) (it_range1 (n := c) mr (r_var 1) (by omega)).iu (by simp; omega) (fun s H C cl fp y m hy => g_name 8 scRight.nd) (fun s H C cl fp j y hy => ?of))) ?row ?cost
      case of =>
        have hj := (List.getElem?_eq_some_iff.mp hy).1
        have hi := (List.getElem?_eq_some_iff.mp hx).1
        rw [List.length_map, List.length_range] at hi hj
        have : c * i ≤ 2 * 4 := Nat.mul_le_mul (by omega) (by omega)
        exact DU.imp (u_call GO hr (ua_own 4 rfl) (R := fun y => y ∈ numsR.map fr) (fun as has => by subst has; exact ⟨_, rfl, by decide, by decide, rfl⟩) (by omega)) (fun _ h => h) (by omega)
      case row =>
        rintro y ⟨ys, rfl, hp⟩
        obtain ⟨r, h1, h2, h3⟩ := drawn_row hp
        rw [List.length_map, List.length_range] at h2
        exact ⟨r, by rw [h1]; rfl, by omega, h3⟩
      case cost => rw [List.length_map, List.length_range, Nat.mul_add]; omega
    case rows =>
      rintro y ⟨ys, rfl, hp⟩
      obtain ⟨R, h1, h2, h3⟩ := drawn_rows hp
      rw [List.length_map, List.length_range] at h2
      exact ⟨R, by rw [h1]; rfl, h2, h3⟩
    rintro δ' ⟨_, ⟨R, rfl, hR1, hR2⟩, rfl⟩
    exact ss_one (s_retV (b_call GC hr (da_cons (r_var 0) (da_cons (r_var 2) (da_cons (r_var 3) (da_1 (r_var 6))))) ⟨rfl, _, W, S, c, R, ⟨hW, hc1, hS, hsum, ⟨by omega, hR2⟩, by omega, by omega⟩, rfl⟩) fun H' e => ⟨rfl, e⟩)
end
end Kd
-- K68U8
set_option maxRecDepth 100000
set_option maxHeartbeats 4000000
/-! Walks: _law_box, _law_cells. -/
namespace Kd
open PySem PySem.Spec PyProof.Rows L2 KdIt
section
variable {B : Hp} {X : Cx} {δ : Dl} {a b : Expr} {rest : List Expr} {pos : Pos} {xs ys : List T}
/-- a or b, new lists -/
theorem n_orL (ha : DN B X a δ xs) (h1 : xs ≠ [] → xs = ys) (h2 : xs = [] → DN B X (.BoolOp .Or (b :: rest) pos) δ ys) : DN B X (.BoolOp .Or (a :: b :: rest) pos) δ ys := fun σ H S Q q =>
  (pe_orT pe_D pe_D).to (ha σ H S _ fun p vs H1 hn e1 g1 r1 => ⟨_, (RepA.l (SqL.of g1) r1).truL, by
    cases xs with
    | nil => exact (if_neg Bool.false_ne_true).mpr (h2 rfl σ H1 (S.to e1) Q fun p2 ws H2 hn2 e2 g2 r2 => q p2 ws H2 (e1.free hn2) (e1.trans e2) g2 r2)
    | cons y r =>
      have e := h1 (by simp)
      subst e
      exact (if_pos rfl).mpr (q p vs H1 hn e1 g1 r1)⟩)
theorem DN.is (h : DN B X a δ xs) (he : xs = ys) : DN B X a δ ys := he ▸ h
theorem n_one {op : BoolOp} (h : DN B X a δ xs) : DN B X (.BoolOp op [a] pos) δ xs := fun σ H S Q q => (pe_one pe_D).to (h σ H S Q q)
end
theorem cut_pre (xs : List T) (p : Nat) : cutT xs none (some (p : Int)) = xs.take p := by
  unfold cutT
  rw [HT.sIx_nat, HT.sIx_none, List.drop_zero, Nat.sub_zero]
  rcases Nat.le_total p xs.length with h | h
  · rw [Nat.min_eq_left h]
  · rw [Nat.min_eq_right h, List.take_length, List.take_of_length_le h]
theorem cut_mid (xs : List T) (p q : Nat) (hq : xs.length ≤ q) : cutT xs (some (p : Int)) (some (q : Int)) = xs.drop p := by
  unfold cutT
  rw [HT.sIx_nat, HT.sIx_nat, Nat.min_eq_right hq, List.take_of_length_le (by rw [List.length_drop]; omega)]
  rcases Nat.le_total p xs.length with h | h
  · rw [Nat.min_eq_left h]
  · rw [Nat.min_eq_right h, List.drop_length, List.drop_eq_nil_of_le h]
/-! ### _law_box -/
def boxA (z : Int) : Int := (z.natAbs : Int) * (if decide ((10 : Int) ^ (18 : Int).toNat ≤ (z.natAbs : Int)) then 1 else 0)
def boxB (z : Int) (k : Nat) : Int := z % 2305843009213693951 + 39373 * (k : Int) + 88168
theorem box_ok {z : Int} {k : Nat} (hk : k ≤ 2) : UrnOk 0 (boxA z) (boxB z k) 0 := by
  have h1 := Int.emod_nonneg z (b := 2305843009213693951) (by decide)
  have h2 := Int.emod_lt_of_pos z (b := 2305843009213693951) (by decide)
  refine ⟨?_, ?_, ?_, Int.le_refl _, Int.le_refl _⟩
  · unfold boxA; split <;> omega
  · unfold boxB; omega
  · unfold boxB; omega
def FBox (as : List Ad) (ds : List T) : Prop := ∃ (xs : List Int) (k : Nat), k ≤ 2 ∧ as = [.l (xs.map T.i), .d (.i (k : Nat))] ∧ ds = [.i (boxA (xs.getD k 0)), .i (boxB (xs.getD k 0) k), .i 0]
abbrev sBox : Stmt := topS 39
theorem scBox : FnScope ["_law_script", "_law_k", "_law_cell"] ["_law_script", "_law_k"] (defScope sBox) := ⟨rfl, rfl, rfl, by decide +kernel, rfl, by decide +kernel, by decide +kernel⟩
/-! ### _law_cells -/
def cells0 (xs : List Int) : List Int := if xs = [] then [0] else xs.take 2
def cellsP (l0 zs : List Int) : Nat → List Int
  | 0 => l0
  | i + 1 => (cellsP l0 zs i).set (i % 2) ((cellsP l0 zs i).getD (i % 2) 0 + zs.getD i 0 * ((i : Int) + 2))
theorem cellsP_length (l0 zs : List Int) : ∀ i, (cellsP l0 zs i).length = l0.length
  | 0 => rfl
  | i + 1 => by rw [cellsP, List.length_set, cellsP_length l0 zs i]
def cellsF (xs : List Int) : List Int := cellsP (cells0 xs) (xs.drop 2) (xs.drop 2).length
theorem cells_length (xs : List Int) : (cellsF xs).length ≤ 2 := by
  unfold cellsF
  rw [cellsP_length]
  unfold cells0
  split
  · decide
  · rw [List.length_take]; omega
def FCells (as : List Ad) (ds : List T) : Prop := ∃ xs : List Int, xs.length ≤ 63 ∧ as = [.l (xs.map T.i), .d (.i 2)] ∧ ds = (cellsF xs).map T.i
abbrev sCells : Stmt := topS 41
theorem scCells : FnScope ["_law_script", "_law_top", "_law_cells_here", "_law_k", "_law_cell", "_law_at_so"] ["_law_script", "_law_top"] (defScope sCells) := ⟨rfl, rfl, rfl, by decide +kernel, rfl, by decide +kernel, by decide +kernel⟩
theorem ss_bas {B : Hp} {X : Cx} {p : Addr} {xs : List T} {r : Dl} {sts : List Stmt} {M : Dl → Prop} {Rt : VK} (h : ∀ vs, SqL X.K B p vs → Reps X.K B vs xs → DSs B X sts (.bas p xs :: r) M Rt) : DSs B X sts (.bas p xs :: r) M Rt := fun σ H S => by
  obtain ⟨_, vs, h1, h2⟩ := S.ok 0 _ rfl
  exact h vs h1 h2 σ H S
section
variable {P : Program} {w : World} {K : PySem.W.Frag} {mg : Str → Option Value} {base : Heap}
theorem ok_box (D : Def K mg "_law_box" sBox ["_law_script", "_law_k"]) (ml : mg "len" = none) (ma : mg "abs" = none) (mi : mg "int" = none) : FnAt P w K mg base 1 "_law_box" ["_law_script", "_law_k"] (spN K FBox) := by
  refine D.n scBox (by decide) (fun as d h => ?_) fun f cdv A outer s H E hr as d δ1 hF g => ?_
  · obtain ⟨_, _, _, rfl, _⟩ := h; rfl
  · obtain ⟨xs, k, hk, rfl, rfl⟩ := hF
    cases g with
    | cons g t =>
    cases t with
    | cons g2 t =>
    cases t
    cases g2
    cases g with
    | l p =>
    refine ss_set (s_set 2 scBox.nd (u := .i (xs.getD k 0)) (r_if (t_lt (r_var 1) (r_lenL ml (r_var 0))) (fun h => ?_) (fun h => ?_))) ?_
    · have h' : k < (xs.map T.i).length := by have := of_decide_eq_true h; omega
      refine DR.is (r_ixL (r_var 0) (r_var 1) (atI_nat h')) ?_
      rw [List.getElem_map, List.getD_eq_getElem?_getD, List.getElem?_eq_getElem (by rwa [List.length_map] at h')]; rfl
    · have h' := of_decide_eq_false h
      rw [List.length_map] at h'
      refine DR.is r_int ?_
      rw [List.getD_eq_getElem?_getD, List.getElem?_eq_none (by omega)]; rfl
    · exact ss_one (s_retN (n_lst (dd_cons (r_mul (r_abs ma (r_var 2)) (r_intB mi (r_ge (r_abs ma (r_var 2)) (r_pow r_int r_int ⟨by decide, by decide, by decide⟩))) (.inr (by split <;> decide))) (dd_cons (r_add (r_add (r_mod (r_intI mi (r_var 2)) r_int (by decide)) (r_mul r_int (r_var 1) (.inl (by decide)))) r_int) (dd_cons r_int dd_nil)))) fun p ws H' hn e h1 r1 => ⟨p, ws, rfl, hn, e, h1, r1⟩)
theorem ok_cells (D : Def K mg "_law_cells" sCells ["_law_script", "_law_top"]) (ml : mg "list" = none) (me : mg "enumerate" = none) (mi : mg "int" = none) : FnAt P w K mg base 1 "_law_cells" ["_law_script", "_law_top"] (spN K FCells) := by
  refine D.n scCells (by decide) (fun as d h => ?_) fun f cdv A outer s H E hr as d δ1 hF g => ?_
  · obtain ⟨_, _, rfl, _⟩ := h; rfl
  · obtain ⟨xs, hlen, rfl, rfl⟩ := hF
    cases g with
    | cons g t =>
    cases t with
    | cons g2 t =>
    cases t
    cases g2
    cases g with
    | l p =>
    refine ss_bas fun vs hb1 hb2 => ?_
    refine ss_cons (s_setN 2 scCells.nd (xs := (cells0 xs).map T.i) (n_orL (xs := (xs.take 2).map T.i) (n_listL ml (DR.is (n_cut (r_var 0) o_none (o_some (r_var 1))).dl (by rw [show (2 : Int) = ((2 : Nat) : Int) from rfl, cut_pre, List.map_take]))) (fun h => ?_) (fun h => ?_))) ?_
    · unfold cells0
      rw [if_neg (fun e => h (by rw [e]; rfl))]
    · have e : xs = [] := by
        match xs, h with
        | [], _ => rfl
      subst e
      exact n_one (n_lst (dd_cons r_int dd_nil))
    rintro δ' ⟨q, rfl⟩
    have hz : ((xs.drop 2).map T.i).length = (xs.drop 2).length := List.length_map _
    refine ss_cons (s_forEn (xs := (xs.drop 2).map T.i) (fun i δ' => ∃ z3 z4 z5, NB z3 ∧ NB z4 ∧ NB z5 ∧ δ' = [.bas p (xs.map T.i), .d (.i 2), .own q ((cellsP (cells0 xs) (xs.drop 2) i).map T.i), z3, z4, z5]) me ?it ⟨.no, .no, .no, NB.no, NB.no, NB.no, rfl⟩ ?hnb ?hb) ?_
    case it =>
      exact DN.is (n_cut (r_var 0) (o_some (r_var 1)) (o_some r_int)) (by rw [show (2 : Int) = ((2 : Nat) : Int) from rfl, show (63 : Int) = ((63 : Nat) : Int) from rfl, cut_mid _ _ _ (by rw [List.length_map]; exact hlen), ← List.map_drop])
    case hnb =>
      rintro δ' ⟨z3, z4, z5, h3, h4, h5, rfl⟩ i q' zs h
      have := List.mem_of_getElem? h
      simp only [List.mem_cons, List.not_mem_nil, or_false] at this
      rcases this with h | h | h | h | h | h
      · cases h; exact ⟨vs, hb1, hb2⟩
      · cases h
      · cases h
      · exact absurd h.symm (h3 _ _)
      · exact absurd h.symm (h4 _ _)
      · exact absurd h.symm (h5 _ _)
    case hb =>
      rintro B' hB i x δ1 hx ⟨z3, z4, z5, _, _, _, rfl⟩
      rw [enumFrom_get, List.getElem?_map] at hx
      cases hq : (xs.drop 2)[i]? with
      | none => rw [hq] at hx; cases hx
      | some z =>
        rw [hq] at hx
        have ex : x = T.t [.i (i : Nat), .i z] := by
          have := (Option.some.inj hx).symm
          rw [this, Nat.zero_add]
        subst ex
        have hi : i < (xs.drop 2).length := (List.getElem?_eq_some_iff.mp hq).1
        have hi3 : 3 ≤ xs.length := by rw [List.length_drop] at hi; omega
        have hi61 : i < 61 := by rw [List.length_drop] at hi; omega
        have hl0 : (cells0 xs).length = 2 := by
          unfold cells0
          rw [if_neg (fun e => by rw [e] at hi3; simp at hi3), List.length_take]; omega
        have hlp : (cellsP (cells0 xs) (xs.drop 2) i).length = 2 := by rw [cellsP_length, hl0]
        have hm2 : i % 2 < ((cellsP (cells0 xs) (xs.drop 2) i).map T.i).length := by rw [List.length_map, hlp]; exact Nat.mod_lt _ (by decide)
        refine ⟨_, [3, 4], g_two (i := 3) (j := 4) scCells.nd, ?_⟩
        refine ss_set (s_set 5 scCells.nd (u := .i ((i % 2 : Nat) : Int)) (DR.is (r_mod (r_intI mi (r_var 3)) (r_var 1) (by decide)) (by rw [Int.natCast_emod]; rfl))) ?_
        refine ss_one ((s_put 2 (q := q) (j := i % 2) rfl (u := .i ((cellsP (cells0 xs) (xs.drop 2) i).getD (i % 2) 0 + (xs.drop 2).getD i 0 * ((i : Int) + 2))) (DR.is (r_add (r_ixL (r_var 2) (r_var 5) (v := .i ((cellsP (cells0 xs) (xs.drop 2) i).getD (i % 2) 0)) ?att) (r_mul (r_var 4) (r_add (r_var 3) r_int) (.inr (by omega)))) ?is) (r_var 5) hm2).imp ?nx)
        case att =>
          rw [atI_nat hm2, List.getElem_map, List.getD_eq_getElem?_getD, List.getElem?_eq_getElem (by rwa [List.length_map] at hm2)]; rfl
        case is => rw [List.getD_eq_getElem?_getD (l := xs.drop 2), hq]; rfl
        case nx =>
          rintro δ' rfl
          refine ⟨.d (.i (i : Nat)), .d (.i z), .d (.i ((i % 2 : Nat) : Int)), NB.d, NB.d, NB.d, ?_⟩
          rw [cellsP, List.map_set]; rfl
    rintro δ' ⟨z3, z4, z5, _, _, _, rfl⟩
    rw [hz]
    exact ss_one (s_retO 2 rfl fun p ws H' hn e h1 r1 => ⟨p, ws, rfl, hn, e, h1, r1⟩)
end
end Kd
-- K68L8
set_option maxRecDepth 100000
set_option maxHeartbeats 4000000
/-! Walks: _law_by_hand_right. -/
namespace Kd
open PySem PySem.Spec PyProof.Rows L2 KdIt
def W0 : Wish := [([[1], [1]], 1)]
def S0 : Src := [([0], mkRat 1 2), ([1], mkRat 1 2)]
def R1 : List (List Rat) := [[2]]
def R2 : List (List Rat) := [[2], [3]]
def R3 : List (List Rat) := [[2], [3], [5]]
theorem bd_int (z : Int) (h : z.natAbs ≤ 5) : Bd 2 10 (z : Rat) := ⟨2 * z, by rw [Rat.intCast_mul]; have : (((2 : Nat)) : Rat) = ((2 : Int) : Rat) := rfl; rw [this]; grind, by omega⟩
theorem W0_ok : WishOk 1 W0 := ⟨by decide, by decide, by decide, fun p hp => by
  unfold W0 at hp
  rw [List.mem_singleton.mp hp]
  exact Bd.one.mono (by decide)⟩
theorem rowok1 {z : Int} (h : z.natAbs ≤ 5) : RowOk [(z : Rat)] := ⟨by simp, fun x hx => by rw [List.mem_singleton.mp hx]; exact bd_int z h⟩
theorem S0_ok : SrcC 1 S0 := by
  refine ⟨⟨by decide, fun p hp => ?_, fun p hp => ?_⟩, ⟨_, _, rfl, rfl⟩⟩
  · unfold S0 at hp
    rcases List.mem_cons.mp hp with rfl | hp
    · exact rowok1 (z := 0) (by decide)
    · rw [List.mem_singleton.mp hp]; exact rowok1 (z := 1) (by decide)
  · have h : Bd 2520 2520 (mkRat 1 2) := ((bd_inv 2 (by decide)).scale 1260).mono (by decide)
    unfold S0 at hp
    rcases List.mem_cons.mp hp with rfl | hp
    · exact h
    · rw [List.mem_singleton.mp hp]; exact h
theorem S0_sum : sumL (S0.map (·.2)) = 1 := by decide +kernel
theorem R3_ok : RowsOk R3 := ⟨by decide, fun r hr => by
  unfold R3 at hr
  rcases List.mem_cons.mp hr with rfl | hr
  · exact rowok1 (z := 2) (by decide)
  · rcases List.mem_cons.mp hr with rfl | hr
    · exact rowok1 (z := 3) (by decide)
    · rw [List.mem_singleton.mp hr]; exact rowok1 (z := 5) (by decide)⟩
theorem R2_ok : RowsOk R2 := ⟨by decide, fun r hr => by
  unfold R2 at hr
  rcases List.mem_cons.mp hr with rfl | hr
  · exact rowok1 (z := 2) (by decide)
  · rw [List.mem_singleton.mp hr]; exact rowok1 (z := 3) (by decide)⟩
theorem R1_ok : RowsOk R1 := ⟨by decide, fun r hr => by
  unfold R1 at hr
  rw [List.mem_singleton.mp hr]; exact rowok1 (z := 2) (by decide)⟩
theorem deg0 : degW W0 = 2 := by decide
theorem pf_val0 (k : Nat) (R : List (List Rat)) : formR (pfF S0 1 k W0) R = partV S0 1 k 2 [[1], [1]] R := by
  rw [pfF_val, deg0]
  show sumL [1 * partV S0 1 k 2 (fullN 2 [[1], [1]]) R] = _
  rw [show fullN 2 [[1], [1]] = [[1], [1]] from rfl, sumL_cons, show sumL [] = 0 from rfl]; grind
theorem mb0 : Mb S0 [1] = 1 / 2 := by decide +kernel
theorem ub2 : Ub [2] [1] = 2 := by decide +kernel
theorem ub3 : Ub [3] [1] = 3 := by decide +kernel
theorem val0 : formR (pfF S0 1 0 W0) [] = mkRat 1 4 := by rw [pf_val0, pv_2_0, mb0]; decide +kernel
theorem val1 : formR (pfF S0 1 1 W0) R1 = mkRat 3 4 := by rw [pf_val0]; unfold R1; rw [pv_2_1, mb0, ub2]; decide +kernel
theorem val2 : formR (pfF S0 1 2 W0) R2 = mkRat 15 4 := by rw [pf_val0]; unfold R2; rw [pv_2_2, mb0, ub2, ub3]; decide +kernel
theorem val3 : formR (bpF 3 1 W0) R3 = mkRat 31 3 := by
  have := best_value 1 W0 R3 W0_ok (by decide) (by decide) (by decide)
  rw [show R3.length = 3 from rfl] at this
  rw [this]
  decide +kernel
theorem gat_nodup (ps : List (T × Rat)) : ((gatF ps).map (·.1)).Nodup := by
  unfold gatF
  rw [List.map_map]
  have e : ((fun p : T × Rat => p.1) ∘ fun k => (k, gVal ps k)) = id := rfl
  rw [e, List.map_id]
  exact ((srtT_perm _).nodup_iff.mpr (gTab_nodup ps)).filter _
theorem part00 : formT (pfF S0 1 0 W0) = .t [.t [.t [], fr (mkRat 1 4)]] := by
  have hk : ∀ p ∈ pfF S0 1 0 W0, p.1 = .t [] := fun p hp => by
    obtain ⟨fs, h1, h2, _⟩ := (pfF_keyM W0_ok p hp).ex
    rw [h1, List.length_eq_zero_iff.mp h2]; rfl
  have hn : ((pfF S0 1 0 W0).map (·.1)).Nodup := gat_nodup _
  have hv := val0
  match h : pfF S0 1 0 W0 with
  | [] => rw [h] at hv; exact absurd hv (by decide +kernel)
  | [p] =>
    rw [h] at hv hk
    have h1 := hk p (by simp)
    obtain ⟨a, b⟩ := p
    have h1 : a = .t [] := h1
    subst h1
    have : b = mkRat 1 4 := by
      rw [← hv]
      show b = sumL [b * phi [] (.t [])]
      rw [show phi [] (.t []) = 1 from rfl, sumL_cons, show sumL [] = 0 from rfl]; grind
    rw [this]; rfl
  | p :: p' :: r =>
    rw [h] at hn hk
    have h1 := hk p (by simp)
    have h2 := hk p' (by simp)
    rw [List.map_cons, List.map_cons, List.nodup_cons] at hn
    exact absurd (by rw [h1, h2]; simp) hn.1
def cTs (f : Expr → Option T) : List Expr → Option (List T)
  | [] => some []
  | e :: r => (f e).bind fun x => (cTs f r).map (x :: ·)
def cT : Nat → Expr → Option T
  | 0, _ => none
  | _ + 1, .Constant (.int z) _ _ => some (.i z)
  | n + 1, .Tuple es _ _ => (cTs (cT n) es).bind fun xs => if xs.length ≤ 1000 then some (.t xs) else none
  | _ + 1, _ => none
section
variable {B : Hp} {X : Cx} {δ : Dl} {es rest : List Expr} {k j : Nat} {pos : Pos} {c : Const} {u v : T} {xs : List T} {z : Int}
theorem st_tup {env : Env} : starEach (.Tuple es k pos :: rest) env = (false, eval (.Tuple es k pos) env) :: starEach rest env := by rfl
theorem st_con {env : Env} : starEach (.Constant c j pos :: rest) env = (false, eval (.Constant c j pos) env) :: starEach rest env := by rfl
theorem cs_dd {n : Nat} (f : Expr → Option T) (hf : ∀ e u, f e = some u → DX B X e δ u ∧ ∀ (rest : List Expr) (env : Env), starEach (e :: rest) env = (false, eval e env) :: starEach rest env) : ∀ (es : List Expr) (xs : List T), cTs f es = some xs → DD B X es δ xs
  | [], xs, h => by cases h; exact dd_nil
  | e :: r, xs, h => by
    unfold cTs at h
    cases he : f e with
    | none => rw [he] at h; cases h
    | some u =>
      rw [he] at h
      cases hr : cTs f r with
      | none => rw [hr] at h; cases h
      | some us =>
        rw [hr] at h; cases h
        obtain ⟨h1, h2⟩ := hf e u he
        exact dd_cons h1 (cs_dd (n := n) f hf r us hr) (h2 r X.env)
theorem c_dx : ∀ (n : Nat) (e : Expr) (u : T), cT n e = some u → DX B X e δ u ∧ ∀ (rest : List Expr) (env : Env), starEach (e :: rest) env = (false, eval e env) :: starEach rest env
  | 0, _, _, h => by cases h
  | n + 1, .Constant (.int z) j pos, u, h => by cases h; exact ⟨r_int, fun _ _ => st_con⟩
  | n + 1, .Tuple es k pos, u, h => by
    unfold cT at h
    cases hs : cTs (cT n) es with
    | none => rw [hs] at h; cases h
    | some xs =>
      rw [hs] at h
      simp only [Option.bind_some] at h
      split at h
      · rename_i hl
        cases h
        exact ⟨r_tup (cs_dd (n := n) (cT n) (c_dx n) es xs hs) (by omega), fun _ _ => st_tup⟩
      · cases h
/-- nested tuples of ints, as written -/
theorem r_c {e : Expr} (n : Nat) (h : cT n e = some u) : DX B X e δ u := (c_dx n e u h).1
end
def FHand (as : List Ad) (b : Bool) : Prop := b = true ∧ ∃ xs, as = [.l xs]
abbrev sHand : Stmt := topS 61
theorem scHand : FnScope ["_law_urn", "_law_square", "_law_coin", "_law_got"] ["_law_urn"] (defScope sHand) := ⟨rfl, rfl, rfl, by decide +kernel, rfl, by decide +kernel, by decide +kernel⟩
theorem f12 : fr (mkRat 1 2) = .t [.i 1, .i 2] := fr_inv (by decide)
theorem f14 : fr (mkRat 1 4) = .t [.i 1, .i 4] := fr_inv (by decide)
theorem f34 : fr (mkRat 3 4) = .t [.i 3, .i 4] := by rw [fr_mk _ _ (by decide)]; decide
theorem f154 : fr (mkRat 15 4) = .t [.i 15, .i 4] := by rw [fr_mk _ _ (by decide)]; decide
theorem f313 : fr (mkRat 31 3) = .t [.i 31, .i 3] := by rw [fr_mk _ _ (by decide)]; decide
theorem tS0 : srcT S0 = .t [.t [.t [.t [.i 0, .i 1]], .t [.i 1, .i 2]], .t [.t [.t [.i 1, .i 1]], .t [.i 1, .i 2]]] := by
  show T.t [.t [.t [fr 0], fr (mkRat 1 2)], .t [.t [fr 1], fr (mkRat 1 2)]] = _
  rw [f12]; rfl
theorem tW0 : wishT W0 = .t [.t [.t [.t [.i 1], .t [.i 1]], .t [.i 1, .i 1]]] := rfl
theorem tR1 : rowsT R1 = .t [.t [.t [.i 2, .i 1]]] := rfl
theorem tR2 : rowsT R2 = .t [.t [.t [.i 2, .i 1]], .t [.t [.i 3, .i 1]]] := rfl
theorem tR3 : rowsT R3 = .t [.t [.t [.i 2, .i 1]], .t [.t [.i 3, .i 1]], .t [.t [.i 5, .i 1]]] := rfl
section
variable {P : Program} {w : World} {K : PySem.W.Frag} {mg : Str → Option Value} {base : Heap}
theorem ok_hand (D : Def K mg "_law_by_hand_right" sHand ["_law_urn"])
    (GP : FnAt P w K mg base 18 "part_form" ["wish", "source", "k"] (spF K FPart)) (GB : FnAt P w K mg base 18 "best_program" ["wish", "n", "c"] (spF K FBest))
    (GF : FnAt P w K mg base 18 "_law_form" ["_law_form_in", "_law_rows_in"] (spF K FLForm)) (GE : FnAt P w K mg base 18 "_law_same" ["_law_got", "_law_goal"] (spB K (FSame 8))) (GC : FnAt P w K mg base 18 "_law_case_right" ["_law_urn", "_law_wish_in", "_law_source_in", "_law_rows_in"] (spB K FCase)) :
    FnAt P w K mg base 19 "_law_by_hand_right" ["_law_urn"] (spB K FHand) := by
  refine D.b scHand (by decide) (fun as d h => ?_) fun f cdv A outer s H E hr as d δ1 hF g => ?_
  · obtain ⟨_, _, rfl⟩ := h; rfl
  · obtain ⟨rfl, xs, rfl⟩ := hF
    obtain ⟨p, rfl⟩ := givenL g
    refine ss_set (δ1 := [.bas p xs, .d (wishT W0), .d (srcT S0), .no]) ?a ?_
    case a =>
      refine s_unp (js := [1, 2]) (u := .t [wishT W0, srcT S0]) ?b ?c ?d ?e ?f
      case b =>
        rw [tS0, tW0]
        exact (c_dx 8 _ _ (by decide +kernel)).1
      case c => exact g_two (js := [1, 2]) (i := 1) (j := 2) scHand.nd
      case d => rfl
      case e => kernel_rfl
      case f => rfl
    have hpart : ∀ k : Nat, k ≤ 2 → FPart [.d (wishT W0), .d (srcT S0), .d (.i (k : Nat))] (formT (pfF S0 1 k W0)) := fun k hk => ⟨W0, S0, 1, k, W0_ok, S0_ok, by rw [deg0]; exact hk, rfl, rfl⟩
    have hbest : FBest [.d (wishT W0), .d (.i ((3 : Nat) : Int)), .d (.i ((1 : Nat) : Int))] (formT (bpF 3 1 W0)) := ⟨W0, 3, 1, W0_ok, by decide, by decide, rfl, rfl⟩
    have hffb : FLForm [.d (formT (bpF 3 1 W0)), .d (rowsT R3)] (fr (formR (bpF 3 1 W0) R3)) := fform_best W0_ok (by decide) (by decide) R3_ok
    refine ss_cons (s_setN 3 scHand.nd (xs := [.t [.t [.t [], .t [.i 1, .i 4]]], .t [.i 3, .i 4]]) (n_lst (dd_cons (by rw [← f14, ← part00]; exact r_call GP hr (da_cons (r_var 1) (da_cons (r_var 2) (da_1 r_int))) (hpart 0 (by decide))) (dd_cons (by
      rw [← f34, ← val1]
      exact r_call GF hr (da_cons (r_call GP hr (da_cons (r_var 1) (da_cons (r_var 2) (da_1 r_int))) (hpart 1 (by decide))) (da_1 (by rw [tR1]; exact (c_dx 8 _ _ (by decide +kernel)).1) st_tup)) (fform W0_ok S0_ok.ok (by decide) R1_ok)) dd_nil)))) ?_
    rintro δ' ⟨q, rfl⟩
    refine ss_cons (s_setN 3 scHand.nd (n_catO 3 rfl (ys := [.t [.i 15, .i 4]]) (n_lst (dd_cons (by
      rw [← f154, ← val2]
      exact r_call GF hr (da_cons (r_call GP hr (da_cons (r_var 1) (da_cons (r_var 2) (da_1 r_int))) (hpart 2 (by decide))) (da_1 (by rw [tR2]; exact (c_dx 8 _ _ (by decide +kernel)).1) st_tup)) (fform W0_ok S0_ok.ok (by decide) R2_ok)) dd_nil)) (by simp))) ?_
    rintro δ' ⟨q, rfl⟩
    refine ss_cons (s_setN 3 scHand.nd (n_catO 3 rfl (ys := [.t [.i 31, .i 3]]) (n_lst (dd_cons (by
      rw [← f313, ← val3]
      refine r_call GF hr (da_cons (?bp) (da_1 (?c3) st_tup)) hffb
      case bp => exact r_call GB hr (da_cons (r_var 1) (da_cons r_int (da_1 r_int))) hbest
      case c3 => rw [tR3]; exact (c_dx 8 _ _ (by decide +kernel)).1) dd_nil)) (by simp))) ?_
    rintro δ' ⟨q, rfl⟩
    refine ss_set (s_skip (t_not (t_val (b_call GE hr (da_cons (r_var 3) (da_1 (n_lst (xs := [.t [.t [.t [], .t [.i 1, .i 4]]], .t [.i 3, .i 4], .t [.i 15, .i 4], .t [.i 31, .i 3]]) (cs_dd (n := 8) (cT 8) (c_dx 8) _ _ (by decide +kernel))).dl)) ⟨rfl, .inr ⟨_, by decide, by simp, by decide, rfl⟩⟩))) rfl) ?_
    refine ss_one (s_retV (b_call GC hr (da_cons (r_var 0) (da_cons (r_var 1) (da_cons (r_var 2) (da_1 (ad := .d (rowsT R3)) (c_dx 8 _ _ (by decide +kernel)).1 st_tup)))) ⟨rfl, _, W0, S0, 1, R3, ⟨W0_ok, by decide, S0_ok, S0_sum, R3_ok, by decide, by decide⟩, rfl⟩) fun H' e => ⟨e, rfl⟩)
end
end Kd
-- K68U9
set_option maxRecDepth 100000
set_option maxHeartbeats 4000000
/-! Walks: law. -/
namespace Kd
open PySem PySem.Spec PyProof.Rows L2 KdIt
/-- _law_right(a new list) -/
theorem b_right {B : Hp} {X : Cx} {δ : Dl} {a : Expr} {p pos : Pos} {kk : Nat} {ps : List Str} {x y : Int} (GR : FnAt X.prog X.w X.K X.mg X.base kk "_law_right" ps (spUB X.K)) (hr : Room kk X.A) (ha : DN B X a δ [.i x, .i y, .i 0]) (hu : UrnOk 0 x y 0)
    (hg : Gl X "_law_right" := by rfl) (hdb : (("_law_right" : Str) == ("__debug__" : Str)) = false := by decide) (he : starEach [a] X.env = (false, eval a X.env) :: starEach [] X.env := by rfl) (hpl : (backTo pos (starEach [] X.env)).any (·.1) = false := by rfl) :
    DBl B X (.Call (.Name "_law_right" p) [a] [] pos) δ true := fun σ H S Q q => by
  obtain ⟨f, fd, G, gm, kp, bd⟩ := GR.ex
  refine (pe_call G hr hg gm kp bd .nil pass0 (pa_cons pe_D pa_nil he) hdb he hpl).to (ha σ H S _ fun u ws H1 hn e1 h1 r1 => ?_)
  refine ⟨u, rfl, ⟨x, y, 0, ?_, hu⟩, fun H2 k2 => q _ H2 (fun b o ho => k2 b (fun z => by rw [z, hn] at ho; cases ho) o (e1 b o ho)) (.v _)⟩
  cases r1 with
  | cons x1 t => cases t with
    | cons x2 t => cases t with
      | cons x3 t => cases t; rw [x1.int, x2.int, x3.int] at h1; exact h1
def FLaw (as : List Ad) (b : Bool) : Prop := b = true ∧ ∃ xs : List Int, xs.length ≤ 63 ∧ as = [.l (xs.map T.i)]
abbrev sLaw : Stmt := topS 62
theorem scLaw : FnScope ["_law_script", "_law_cells_so", "_law_k"] ["_law_script"] (defScope sLaw) := ⟨rfl, rfl, rfl, by decide +kernel, rfl, by decide +kernel, by decide +kernel⟩
section
variable {P : Program} {w : World} {K : PySem.W.Frag} {mg : Str → Option Value} {base : Heap}
theorem ok_law {f : Addr} {fd : FuncData} (Fn : Fun K "law" "law" sLaw f fd) (ml : mg "len" = none) (mr : mg "range" = none) (ma : mg "all" = none)
    (GB : FnAt P w K mg base 19 "_law_box" ["_law_script", "_law_k"] (spN K FBox)) (GC : FnAt P w K mg base 19 "_law_cells" ["_law_script", "_law_top"] (spN K FCells))
    (GH : FnAt P w K mg base 19 "_law_by_hand_right" ["_law_urn"] (spB K FHand)) (GR : FnAt P w K mg base 19 "_law_right" ["_law_urn"] (spUB K)) : FnOk P w K mg base CX0 20 f fd ["_law_script"] (spB K FLaw) := by
  refine Fn.ok scLaw (fun vs H Q E h => ?_) (fun cdv A outer s H vs Q E hr h => ?_)
  · obtain ⟨as, d, r, ⟨_, _, _, rfl⟩, _⟩ := h
    rw [Paired.length r]; rfl
  · obtain ⟨as, d, r, ⟨rfl, xs, hlen, rfl⟩, q⟩ := h
    obtain ⟨δ1, g1, S1⟩ := sto_start (P := P) (w := w) (N := ["_law_script", "_law_cells_so", "_law_k"]) r (show 1 ≤ 3 by decide)
    obtain ⟨p, rfl⟩ := givenL g1
    refine ⟨_, pss_D, (show DSs H (bdX P w K mg base ["_law_script", "_law_cells_so", "_law_k"] "law" sLaw f cdv A outer s H E) (defBody sLaw) [.bas p (xs.map T.i), .no, .no] (fun _ => False) (fun v H' => v = .bl true ∧ Same H H') from ?_) _ H S1 _ (fun _ _ _ z => z.elim) fun v H' ⟨h1, h2⟩ => by subst h1; exact q H' h2⟩
    have hr : Room 19 (bdX P w K mg base ["_law_script", "_law_cells_so", "_law_k"] "law" sLaw f cdv A outer s H E).A := hr
    refine ss_set (s_skip (t_not (t_val (b_call GH hr (da_1 (n_call GB hr (da_cons (n_lst (dd_cons r_int dd_nil)).dl (da_1 r_int)) ⟨[3], 0, by decide, rfl, rfl⟩).dl) ⟨rfl, _, rfl⟩))) rfl) ?_
    refine ss_cons (s_setN 1 scLaw.nd (n_call GC hr (da_cons (r_var 0) (da_1 r_int)) ⟨xs, hlen, rfl, rfl⟩)) ?_
    rintro δ' ⟨q1, rfl⟩
    have hc := cells_length xs
    refine ss_one (s_retV (w := .bl true) (DR.is (r_all (own := [("_law_k", 2)]) (fun _ => true) (fun x => [.bas p (xs.map T.i), .own q1 ((cellsF xs).map T.i), .d x]) ma scLaw.nd (blkOk_by (by rfl)) (it_range1 (n := (cellsF xs).length) mr (DR.is (r_lenL ml (r_var 1)) (by rw [List.length_map])) (by omega)).s (by simp; omega) (fun s H C cl fp x hx => g_name 2 scLaw.nd) (fun s H C cl fp x hx => ?el)) (by simp)) fun H' e => ⟨rfl, e⟩)
    case el =>
      obtain ⟨k, hk, rfl⟩ := List.mem_map.mp hx
      have hk := List.mem_range.mp hk
      exact b_right GR hr (n_call GB hr (da_cons (r_var 1) (da_1 (r_var 2))) ⟨cellsF xs, k, by omega, rfl, rfl⟩) (box_ok (by omega))
end
end Kd
-- K68Z
set_option maxRecDepth 100000
set_option maxHeartbeats 4000000
/-! All levels joined; what the top has left. -/
namespace Kd
open PySem PySem.Spec PyProof.Rows L2 KdIt
/-- what the top has left -/
structure Top (K : PySem.W.Frag) (mg : Str → Option Value) : Prop where
  d__filled : Def K mg "_filled" sFill ["factors", "degree"]
  d__law_add : Def K mg "_law_add" sLAdd ["_law_x", "_law_y"]
  d__law_best : Def K mg "_law_best" sLBest ["_law_wish_in", "_law_rows_in"]
  d__law_box : Def K mg "_law_box" sBox ["_law_script", "_law_k"]
  d__law_by_hand_right : Def K mg "_law_by_hand_right" sHand ["_law_urn"]
  d__law_case_right : Def K mg "_law_case_right" sCase ["_law_urn", "_law_wish_in", "_law_source_in", "_law_rows_in"]
  d__law_cells : Def K mg "_law_cells" sCells ["_law_script", "_law_top"]
  d__law_choose : Def K mg "_law_choose" sCho ["_law_n", "_law_many"]
  d__law_degree : Def K mg "_law_degree" sLDeg ["_law_wish_in"]
  d__law_form : Def K mg "_law_form" sLForm ["_law_form_in", "_law_rows_in"]
  d__law_images : Def K mg "_law_images" sImg ["_law_n", "_law_many"]
  d__law_lots : Def K mg "_law_lots" sLot ["_law_many", "_law_most_in"]
  d__law_low : Def K mg "_law_low" sLow ["_law_high", "_law_deep"]
  d__law_mean : Def K mg "_law_mean" sLMean ["_law_source_in", "_law_moment_in"]
  d__law_mul : Def K mg "_law_mul" sLMul ["_law_x", "_law_y"]
  d__law_number : Def K mg "_law_number" sLNum ["_law_row_in", "_law_moment_in"]
  d__law_of : Def K mg "_law_of" sOf ["_law_urn", "_law_some_so"]
  d__law_right : Def K mg "_law_right" sRight ["_law_urn"]
  d__law_same : Def K mg "_law_same" sSame ["_law_got", "_law_goal"]
  d__law_source : Def K mg "_law_source" sSource ["_law_urn", "_law_c", "_law_most"]
  d__law_sum : Def K mg "_law_sum" sLSum ["_law_some"]
  d__law_take : Def K mg "_law_take" sTake ["_law_urn", "_law_low_so"]
  d__law_wish : Def K mg "_law_wish" sWish ["_law_urn", "_law_c", "_law_most"]
  d__law_worth : Def K mg "_law_worth" sLWorth ["_law_wish_in", "_law_source_in"]
  d__power : Def K mg "_power" sPow0 ["number", "many"]
  d__told_mean : Def K mg "_told_mean" sTold ["wish", "source", "lot", "k", "degree"]
  d_best_program : Def K mg "best_program" sBest ["wish", "n", "c"]
  d_evened : Def K mg "evened" sEv ["form"]
  d_fraction : Def K mg "fraction" sFrac ["top", "bottom"]
  d_gathered : Def K mg "gathered" sGat ["pairs"]
  d_moment_at : Def K mg "moment_at" sMean ["source", "moment"]
  d_moved_powers : Def K mg "moved_powers" sMoved ["powers", "order"]
  d_orders_of : Def K mg "orders_of" sOrd ["n"]
  d_part_form : Def K mg "part_form" sPart ["wish", "source", "k"]
  d_plus : Def K mg "plus" sPlus ["x", "y"]
  d_power_of : Def K mg "power_of" sPow ["x", "many"]
  d_row_moment : Def K mg "row_moment" sRow ["row", "moment"]
  d_scaled_form : Def K mg "scaled_form" sScaled ["form", "x"]
  d_sum_of : Def K mg "sum_of" sSum ["fractions"]
  d_times : Def K mg "times" sTimes ["x", "y"]
  d_tuple_of : Def K mg "tuple_of" sTup ["thing"]
  d_wish_degree : Def K mg "wish_degree" sDeg ["wish"]
  n_abs : mg "abs" = none
  n_all : mg "all" = none
  n_bool : mg "bool" = none
  n_enumerate : mg "enumerate" = none
  n_int : mg "int" = none
  n_isinstance : mg "isinstance" = none
  n_len : mg "len" = none
  n_list : mg "list" = none
  n_max : mg "max" = none
  n_range : mg "range" = none
  n_set : mg "set" = none
  n_sorted : mg "sorted" = none
  n_str : mg "str" = none
  n_sum : mg "sum" = none
  n_tuple : mg "tuple" = none
  n_zip : mg "zip" = none
  b_combinations : mg "combinations" = some (.type "itertools.combinations")
  b_gcd : mg "gcd" = some (.builtin "math.gcd")
  b_permutations : mg "permutations" = some (.type "itertools.permutations")
  c_BLANK : Cst K mg "BLANK" (.t [])
  c_LESS : Cst K mg "LESS" (fr (-1))
  c_ONE_layers : Cst K mg "ONE_layers" (fr 1)
  c_ONE_sources : Cst K mg "ONE_sources" (fr 1)
  c_ZERO_forms : Cst K mg "ZERO_forms" (fr 0)
  c_ZERO_sources : Cst K mg "ZERO_sources" (fr 0)
theorem Top.law {P : Program} {w : World} {K : PySem.W.Frag} {mg : Str → Option Value} {base : Heap} (T : Top K mg) {f : Addr} {fd : FuncData} (Fn : Fun K "law" "law" sLaw f fd) : FnOk P w K mg base CX0 20 f fd ["_law_script"] (spB K FLaw) := by
  have G__filled := ok_fill (P := P) (w := w) (base := base) T.d__filled T.n_len T.c_BLANK
  have G__law_low := ok_low (P := P) (w := w) (base := base) T.d__law_low T.n_abs T.n_int
  have G__law_add := ok_ladd (P := P) (w := w) (base := base) T.d__law_add (G__law_low.mono (by decide))
  have G__law_mul := ok_lmul (P := P) (w := w) (base := base) T.d__law_mul (G__law_low.mono (by decide))
  have G__law_number := ok_lnum (P := P) (w := w) (base := base) T.d__law_number T.n_zip T.n_range (G__law_low.mono (by decide))
  have G__law_images := ok_img (P := P) (w := w) (base := base) T.d__law_images T.n_range
  have G__law_best := ok_lbest (P := P) (w := w) (base := base) T.d__law_best T.n_len T.n_zip (G__law_mul.mono (by decide)) (G__law_add.mono (by decide)) (G__law_number.mono (by decide)) (G__law_images.mono (by decide))
  have G__law_box := ok_box (P := P) (w := w) (base := base) T.d__law_box T.n_len T.n_abs T.n_int
  have G_tuple_of := ok_tuple_of (P := P) (w := w) (base := base) T.d_tuple_of T.n_isinstance T.n_list T.n_tuple 12
  have G_wish_degree := ok_deg (P := P) (w := w) (base := base) T.d_wish_degree T.n_max T.n_len
  have G_fraction := ok_fraction (P := P) (w := w) (base := base) T.d_fraction T.b_gcd
  have G_times := ok_times (P := P) (w := w) (base := base) T.d_times (G_fraction.mono (by decide))
  have G_plus := ok_plus (P := P) (w := w) (base := base) T.d_plus (G_fraction.mono (by decide))
  have G_sum_of := ok_sum (P := P) (w := w) (base := base) T.d_sum_of T.c_ZERO_sources (G_plus.mono (by decide))
  have G__power := ok_pow0 (P := P) (w := w) (base := base) T.d__power
  have G_power_of := ok_pow (P := P) (w := w) (base := base) T.d_power_of (G__power.mono (by decide))
  have G_row_moment := ok_row (P := P) (w := w) (base := base) T.d_row_moment T.n_zip T.c_ONE_sources (G_times.mono (by decide)) (G_power_of.mono (by decide))
  have G_moment_at := ok_mean (P := P) (w := w) (base := base) T.d_moment_at (G_tuple_of.mono (by decide)) (G_times.mono (by decide)) (G_sum_of.mono (by decide)) (G_row_moment.mono (by decide))
  have G__told_mean := ok_told (P := P) (w := w) (base := base) T.d__told_mean T.n_len T.n_list T.n_range T.n_tuple T.n_zip T.n_enumerate T.b_permutations T.c_BLANK (G_times.mono (by decide)) (G_fraction.mono (by decide)) (G_moment_at.mono (by decide)) (G__filled.mono (by decide))
  have G_gathered := ok_gathered (P := P) (w := w) (base := base) T.d_gathered T.n_sorted T.n_tuple T.c_ZERO_forms (G_plus.mono (by decide))
  have G_part_form := ok_part (P := P) (w := w) (base := base) T.d_part_form T.n_range T.b_combinations T.c_ONE_layers T.c_LESS (G_tuple_of.mono (by decide)) (G_wish_degree.mono (by decide)) (G_times.mono (by decide)) (G__told_mean.mono (by decide)) (G_gathered.mono (by decide))
  have G_orders_of := ok_orders (P := P) (w := w) (base := base) T.d_orders_of T.n_len T.n_range T.n_sorted
  have G_moved_powers := ok_moved (P := P) (w := w) (base := base) T.d_moved_powers T.n_len T.n_zip T.n_tuple
  have G_scaled_form := ok_scaled (P := P) (w := w) (base := base) T.d_scaled_form (G_tuple_of.mono (by decide)) (G_times.mono (by decide)) (G_gathered.mono (by decide))
  have G_evened := ok_evened (P := P) (w := w) (base := base) T.d_evened T.n_len (G_tuple_of.mono (by decide)) (G_orders_of.mono (by decide)) (G_moved_powers.mono (by decide)) (G_gathered.mono (by decide)) (G_fraction.mono (by decide)) (G_scaled_form.mono (by decide))
  have G_best_program := ok_best (P := P) (w := w) (base := base) T.d_best_program T.n_len (G_tuple_of.mono (by decide)) (G_wish_degree.mono (by decide)) (G_gathered.mono (by decide)) (G_evened.mono (by decide))
  have G__law_form := ok_lform (P := P) (w := w) (base := base) T.d__law_form T.n_zip (G__law_mul.mono (by decide)) (G__law_add.mono (by decide)) (G__law_number.mono (by decide))
  have G__law_same := ok_same (P := P) (w := w) (base := base) T.d__law_same T.n_isinstance T.n_list T.n_tuple T.n_bool T.n_str T.n_int T.n_len T.n_all T.n_zip 8
  have G__law_degree := ok_ldeg (P := P) (w := w) (base := base) T.d__law_degree T.n_max T.n_len
  have G__law_lots := ok_lot (P := P) (w := w) (base := base) T.d__law_lots T.n_len T.n_range
  have G__law_choose := ok_cho (P := P) (w := w) (base := base) T.d__law_choose T.n_range
  have G__law_sum := ok_lsum (P := P) (w := w) (base := base) T.d__law_sum (G__law_add.mono (by decide))
  have G__law_mean := ok_lmean (P := P) (w := w) (base := base) T.d__law_mean (G__law_mul.mono (by decide)) (G__law_sum.mono (by decide)) (G__law_number.mono (by decide))
  have G__law_worth := ok_lworth (P := P) (w := w) (base := base) T.d__law_worth (G__law_mul.mono (by decide)) (G__law_add.mono (by decide)) (G__law_mean.mono (by decide))
  have G__law_case_right := ok_case (P := P) (w := w) (base := base) T.d__law_case_right T.n_len T.n_range T.n_tuple (G__law_degree.mono (by decide)) (G_part_form.mono (by decide)) (G_best_program.mono (by decide)) (G__law_lots.mono (by decide)) (G__law_choose.mono (by decide)) (G__law_low.mono (by decide)) (G__law_mul.mono (by decide)) (G__law_add.mono (by decide)) (G__law_sum.mono (by decide)) (G__law_form.mono (by decide)) (G__law_same.mono (by decide)) (G__law_best.mono (by decide)) (G__law_worth.mono (by decide))
  have G__law_by_hand_right := ok_hand (P := P) (w := w) (base := base) T.d__law_by_hand_right (G_part_form.mono (by decide)) (G_best_program.mono (by decide)) (G__law_form.mono (by decide)) (G__law_same.mono (by decide)) (G__law_case_right.mono (by decide))
  have G__law_cells := ok_cells (P := P) (w := w) (base := base) T.d__law_cells T.n_list T.n_enumerate T.n_int
  have G__law_take := ok_take (P := P) (w := w) (base := base) T.d__law_take T.n_int
  have G__law_of := ok_of (P := P) (w := w) (base := base) T.d__law_of T.n_len (G__law_take.mono (by decide))
  have G__law_wish := ok_wish (P := P) (w := w) (base := base) T.d__law_wish T.n_sorted T.n_tuple T.n_range (G__law_take.mono (by decide)) (G__law_of.mono (by decide))
  have G__law_source := ok_source (P := P) (w := w) (base := base) T.d__law_source T.n_sorted T.n_set T.n_tuple T.n_range T.n_zip T.n_sum (G__law_take.mono (by decide)) (G__law_low.mono (by decide))
  have G__law_right := ok_right (P := P) (w := w) (base := base) T.d__law_right T.n_max T.n_tuple T.n_range (G__law_take.mono (by decide)) (G__law_of.mono (by decide)) (G__law_wish.mono (by decide)) (G__law_source.mono (by decide)) (G__law_degree.mono (by decide)) (G__law_case_right.mono (by decide))
  exact ok_law Fn T.n_len T.n_range T.n_all (G__law_box.mono (by decide)) (G__law_cells.mono (by decide)) (G__law_by_hand_right.mono (by decide)) (G__law_right.mono (by decide))
/-- a def of the top -/
structure Stands (K : PySem.W.Frag) (x : Str) (st : Stmt) : Prop where
  ex : ∃ (f : Addr) (oc : Value) (od an : Option Addr) (osl : Array (Option Value)) (kV doc pm cdv ct : Value),
    PySem.W.nsIn K mainGlobals x = some (some (.ref f)) ∧ K.lookup f = some ⟨oc, od, .func (PySem.W.fnOf x x (defArgs st) (defBody st) (defScope st) .none kV doc pm an cdv ct), osl⟩ ∧ PySem.W.codeIn K cdv x = true ∧ PySem.W.keepIn K (.ref f) = true
theorem stands {K : PySem.W.Frag} {x : Str} {st : Stmt} {f : Addr} {oc : Value} {od an : Option Addr} {osl : Array (Option Value)} {kV doc pm cdv ct : Value}
    (a : PySem.W.nsIn K mainGlobals x = some (some (.ref f))) (l : K.lookup f = some ⟨oc, od, .func (PySem.W.fnOf x x (defArgs st) (defBody st) (defScope st) .none kV doc pm an cdv ct), osl⟩) (c : PySem.W.codeIn K cdv x = true) (k : PySem.W.keepIn K (.ref f) = true) : Stands K x st := ⟨_, _, _, _, _, _, _, _, _, _, a, l, c, k⟩
section
variable {K : PySem.W.Frag} {h : Heap} {mg : Str → Option Value} {x : Str} {st : Stmt} {ps : List Str}
theorem Stands.def (S : Stands K x st) (X : K.In h) (G : h.Ns mainGlobals mg)
    (hb : ∀ (kV doc pm : Value) (an : Option Addr) (cdv ct : Value) (us : List Value), us.length = ps.length → bindArgs (PySem.W.fnOf x x (defArgs st) (defBody st) (defScope st) .none kV doc pm an cdv ct) ⟨us, []⟩ = pure (ps.zip us)) : Def K mg x st ps := by
  obtain ⟨f, _, _, _, _, _, _, _, _, _, a, l, c, k⟩ := S.ex
  have F := fun_mk l c k
  exact ⟨f, _, F, PySem.W.mg_of X G a, F.binds hb⟩
theorem cst2 {q : Addr} {dd : Option Addr} {m n : Int} {t u : Tok} {k : Nat} {sl : Array (Option Value)} (X : K.In h) (G : h.Ns mainGlobals mg) (a : PySem.W.nsIn K mainGlobals x = some (some (.ref q))) (l : K.lookup q = some ⟨.type "tuple", dd, .seq #[.int m t, .int n u] k, sl⟩) : Cst K mg x (.t [.i m, .i n]) :=
  ⟨q, PySem.W.mg_of X G a, fun H => .t (vs := [.int m, .int n]) (.inr ⟨_, _, _, l, rfl, rfl, by show 2 ≤ sizeLine; decide, .cons ⟨_, rfl⟩ (.cons ⟨_, rfl⟩ .nil)⟩) (.cons (.i _) (.cons (.i _) .nil))⟩
theorem cst0 {q : Addr} {dd : Option Addr} {k : Nat} {sl : Array (Option Value)} (X : K.In h) (G : h.Ns mainGlobals mg) (a : PySem.W.nsIn K mainGlobals x = some (some (.ref q))) (l : K.lookup q = some ⟨.type "tuple", dd, .seq #[] k, sl⟩) : Cst K mg x (.t []) :=
  ⟨q, PySem.W.mg_of X G a, fun H => .t (vs := []) (.inr ⟨_, _, _, l, rfl, rfl, Nat.zero_le _, .nil⟩) .nil⟩
end
theorem top_mk {K : PySem.W.Frag} {h : Heap} {mg : Str → Option Value} (X : K.In h) (G : h.Ns mainGlobals mg)
    (s__filled : Stands K "_filled" sFill)
    (s__law_add : Stands K "_law_add" sLAdd)
    (s__law_best : Stands K "_law_best" sLBest)
    (s__law_box : Stands K "_law_box" sBox)
    (s__law_by_hand_right : Stands K "_law_by_hand_right" sHand)
    (s__law_case_right : Stands K "_law_case_right" sCase)
    (s__law_cells : Stands K "_law_cells" sCells)
    (s__law_choose : Stands K "_law_choose" sCho)
    (s__law_degree : Stands K "_law_degree" sLDeg)
    (s__law_form : Stands K "_law_form" sLForm)
    (s__law_images : Stands K "_law_images" sImg)
    (s__law_lots : Stands K "_law_lots" sLot)
    (s__law_low : Stands K "_law_low" sLow)
    (s__law_mean : Stands K "_law_mean" sLMean)
    (s__law_mul : Stands K "_law_mul" sLMul)
    (s__law_number : Stands K "_law_number" sLNum)
    (s__law_of : Stands K "_law_of" sOf)
    (s__law_right : Stands K "_law_right" sRight)
    (s__law_same : Stands K "_law_same" sSame)
    (s__law_source : Stands K "_law_source" sSource)
    (s__law_sum : Stands K "_law_sum" sLSum)
    (s__law_take : Stands K "_law_take" sTake)
    (s__law_wish : Stands K "_law_wish" sWish)
    (s__law_worth : Stands K "_law_worth" sLWorth)
    (s__power : Stands K "_power" sPow0)
    (s__told_mean : Stands K "_told_mean" sTold)
    (s_best_program : Stands K "best_program" sBest)
    (s_evened : Stands K "evened" sEv)
    (s_fraction : Stands K "fraction" sFrac)
    (s_gathered : Stands K "gathered" sGat)
    (s_moment_at : Stands K "moment_at" sMean)
    (s_moved_powers : Stands K "moved_powers" sMoved)
    (s_orders_of : Stands K "orders_of" sOrd)
    (s_part_form : Stands K "part_form" sPart)
    (s_plus : Stands K "plus" sPlus)
    (s_power_of : Stands K "power_of" sPow)
    (s_row_moment : Stands K "row_moment" sRow)
    (s_scaled_form : Stands K "scaled_form" sScaled)
    (s_sum_of : Stands K "sum_of" sSum)
    (s_times : Stands K "times" sTimes)
    (s_tuple_of : Stands K "tuple_of" sTup)
    (s_wish_degree : Stands K "wish_degree" sDeg)
    (n_abs : PySem.W.nsIn K mainGlobals "abs" = some none)
    (n_all : PySem.W.nsIn K mainGlobals "all" = some none)
    (n_bool : PySem.W.nsIn K mainGlobals "bool" = some none)
    (n_enumerate : PySem.W.nsIn K mainGlobals "enumerate" = some none)
    (n_int : PySem.W.nsIn K mainGlobals "int" = some none)
    (n_isinstance : PySem.W.nsIn K mainGlobals "isinstance" = some none)
    (n_len : PySem.W.nsIn K mainGlobals "len" = some none)
    (n_list : PySem.W.nsIn K mainGlobals "list" = some none)
    (n_max : PySem.W.nsIn K mainGlobals "max" = some none)
    (n_range : PySem.W.nsIn K mainGlobals "range" = some none)
    (n_set : PySem.W.nsIn K mainGlobals "set" = some none)
    (n_sorted : PySem.W.nsIn K mainGlobals "sorted" = some none)
    (n_str : PySem.W.nsIn K mainGlobals "str" = some none)
    (n_sum : PySem.W.nsIn K mainGlobals "sum" = some none)
    (n_tuple : PySem.W.nsIn K mainGlobals "tuple" = some none)
    (n_zip : PySem.W.nsIn K mainGlobals "zip" = some none)
    (b_combinations : PySem.W.nsIn K mainGlobals "combinations" = some (some (.type "itertools.combinations")))
    (b_gcd : PySem.W.nsIn K mainGlobals "gcd" = some (some (.builtin "math.gcd")))
    (b_permutations : PySem.W.nsIn K mainGlobals "permutations" = some (some (.type "itertools.permutations")))
    (c_BLANK : Cst K mg "BLANK" (.t []))
    (c_LESS : Cst K mg "LESS" (.t [.i (-1), .i 1]))
    (c_ONE_layers : Cst K mg "ONE_layers" (.t [.i 1, .i 1]))
    (c_ONE_sources : Cst K mg "ONE_sources" (.t [.i 1, .i 1]))
    (c_ZERO_forms : Cst K mg "ZERO_forms" (.t [.i 0, .i 1]))
    (c_ZERO_sources : Cst K mg "ZERO_sources" (.t [.i 0, .i 1])) : Top K mg where
  d__filled := s__filled.def X G fun _ _ _ _ _ _ us hl => match us, hl with | [_, _], _ => rfl
  d__law_add := s__law_add.def X G fun _ _ _ _ _ _ us hl => match us, hl with | [_, _], _ => rfl
  d__law_best := s__law_best.def X G fun _ _ _ _ _ _ us hl => match us, hl with | [_, _], _ => rfl
  d__law_box := s__law_box.def X G fun _ _ _ _ _ _ us hl => match us, hl with | [_, _], _ => rfl
  d__law_by_hand_right := s__law_by_hand_right.def X G fun _ _ _ _ _ _ us hl => match us, hl with | [_], _ => rfl
  d__law_case_right := s__law_case_right.def X G fun _ _ _ _ _ _ us hl => match us, hl with | [_, _, _, _], _ => rfl
  d__law_cells := s__law_cells.def X G fun _ _ _ _ _ _ us hl => match us, hl with | [_, _], _ => rfl
  d__law_choose := s__law_choose.def X G fun _ _ _ _ _ _ us hl => match us, hl with | [_, _], _ => rfl
  d__law_degree := s__law_degree.def X G fun _ _ _ _ _ _ us hl => match us, hl with | [_], _ => rfl
  d__law_form := s__law_form.def X G fun _ _ _ _ _ _ us hl => match us, hl with | [_, _], _ => rfl
  d__law_images := s__law_images.def X G fun _ _ _ _ _ _ us hl => match us, hl with | [_, _], _ => rfl
  d__law_lots := s__law_lots.def X G fun _ _ _ _ _ _ us hl => match us, hl with | [_, _], _ => rfl
  d__law_low := s__law_low.def X G fun _ _ _ _ _ _ us hl => match us, hl with | [_, _], _ => rfl
  d__law_mean := s__law_mean.def X G fun _ _ _ _ _ _ us hl => match us, hl with | [_, _], _ => rfl
  d__law_mul := s__law_mul.def X G fun _ _ _ _ _ _ us hl => match us, hl with | [_, _], _ => rfl
  d__law_number := s__law_number.def X G fun _ _ _ _ _ _ us hl => match us, hl with | [_, _], _ => rfl
  d__law_of := s__law_of.def X G fun _ _ _ _ _ _ us hl => match us, hl with | [_, _], _ => rfl
  d__law_right := s__law_right.def X G fun _ _ _ _ _ _ us hl => match us, hl with | [_], _ => rfl
  d__law_same := s__law_same.def X G fun _ _ _ _ _ _ us hl => match us, hl with | [_, _], _ => rfl
  d__law_source := s__law_source.def X G fun _ _ _ _ _ _ us hl => match us, hl with | [_, _, _], _ => rfl
  d__law_sum := s__law_sum.def X G fun _ _ _ _ _ _ us hl => match us, hl with | [_], _ => rfl
  d__law_take := s__law_take.def X G fun _ _ _ _ _ _ us hl => match us, hl with | [_, _], _ => rfl
  d__law_wish := s__law_wish.def X G fun _ _ _ _ _ _ us hl => match us, hl with | [_, _, _], _ => rfl
  d__law_worth := s__law_worth.def X G fun _ _ _ _ _ _ us hl => match us, hl with | [_, _], _ => rfl
  d__power := s__power.def X G fun _ _ _ _ _ _ us hl => match us, hl with | [_, _], _ => rfl
  d__told_mean := s__told_mean.def X G fun _ _ _ _ _ _ us hl => match us, hl with | [_, _, _, _, _], _ => rfl
  d_best_program := s_best_program.def X G fun _ _ _ _ _ _ us hl => match us, hl with | [_, _, _], _ => rfl
  d_evened := s_evened.def X G fun _ _ _ _ _ _ us hl => match us, hl with | [_], _ => rfl
  d_fraction := s_fraction.def X G fun _ _ _ _ _ _ us hl => match us, hl with | [_, _], _ => rfl
  d_gathered := s_gathered.def X G fun _ _ _ _ _ _ us hl => match us, hl with | [_], _ => rfl
  d_moment_at := s_moment_at.def X G fun _ _ _ _ _ _ us hl => match us, hl with | [_, _], _ => rfl
  d_moved_powers := s_moved_powers.def X G fun _ _ _ _ _ _ us hl => match us, hl with | [_, _], _ => rfl
  d_orders_of := s_orders_of.def X G fun _ _ _ _ _ _ us hl => match us, hl with | [_], _ => rfl
  d_part_form := s_part_form.def X G fun _ _ _ _ _ _ us hl => match us, hl with | [_, _, _], _ => rfl
  d_plus := s_plus.def X G fun _ _ _ _ _ _ us hl => match us, hl with | [_, _], _ => rfl
  d_power_of := s_power_of.def X G fun _ _ _ _ _ _ us hl => match us, hl with | [_, _], _ => rfl
  d_row_moment := s_row_moment.def X G fun _ _ _ _ _ _ us hl => match us, hl with | [_, _], _ => rfl
  d_scaled_form := s_scaled_form.def X G fun _ _ _ _ _ _ us hl => match us, hl with | [_, _], _ => rfl
  d_sum_of := s_sum_of.def X G fun _ _ _ _ _ _ us hl => match us, hl with | [_], _ => rfl
  d_times := s_times.def X G fun _ _ _ _ _ _ us hl => match us, hl with | [_, _], _ => rfl
  d_tuple_of := s_tuple_of.def X G fun _ _ _ _ _ _ us hl => match us, hl with | [_], _ => rfl
  d_wish_degree := s_wish_degree.def X G fun _ _ _ _ _ _ us hl => match us, hl with | [_], _ => rfl
  n_abs := PySem.W.mg_none_of X G n_abs
  n_all := PySem.W.mg_none_of X G n_all
  n_bool := PySem.W.mg_none_of X G n_bool
  n_enumerate := PySem.W.mg_none_of X G n_enumerate
  n_int := PySem.W.mg_none_of X G n_int
  n_isinstance := PySem.W.mg_none_of X G n_isinstance
  n_len := PySem.W.mg_none_of X G n_len
  n_list := PySem.W.mg_none_of X G n_list
  n_max := PySem.W.mg_none_of X G n_max
  n_range := PySem.W.mg_none_of X G n_range
  n_set := PySem.W.mg_none_of X G n_set
  n_sorted := PySem.W.mg_none_of X G n_sorted
  n_str := PySem.W.mg_none_of X G n_str
  n_sum := PySem.W.mg_none_of X G n_sum
  n_tuple := PySem.W.mg_none_of X G n_tuple
  n_zip := PySem.W.mg_none_of X G n_zip
  b_combinations := PySem.W.mg_of X G b_combinations
  b_gcd := PySem.W.mg_of X G b_gcd
  b_permutations := PySem.W.mg_of X G b_permutations
  c_BLANK := c_BLANK
  c_LESS := c_LESS
  c_ONE_layers := c_ONE_layers
  c_ONE_sources := c_ONE_sources
  c_ZERO_forms := c_ZERO_forms
  c_ZERO_sources := c_ZERO_sources
theorem all_mk {P : Program} {w : World} {K : PySem.W.Frag} {h : Heap} {mg : Str → Option Value} {fa : Addr} (X : K.In h) (G : h.Ns mainGlobals mg) (hfa : mg "law" = some (.ref fa)) (T : Top K mg) (S : Stands K "law" sLaw) :
    ∃ fd : FuncData, (∀ (s : Shared) (v : Value), BindsTo s fd ⟨[v], []⟩ [("_law_script", v)]) ∧ ∀ base : Heap, K.In base → base.Ns mainGlobals mg → FnOk P w K mg base CX0 20 fa fd ["_law_script"] (spB K FLaw) := by
  obtain ⟨f, _, _, _, _, _, _, _, _, _, a, l, c, k⟩ := S.ex
  have e := hfa.symm.trans (PySem.W.mg_of X G a)
  cases e
  exact ⟨_, fun s v => .of_eq rfl, fun base _ _ => T.law (fun_mk l c k)⟩
end Kd
-- K68END
set_option maxRecDepth 100000
open PySem PySem.W PyProof.Rows
set_option maxHeartbeats 0 in
theorem PySem.Challenge.cw_everysource_k68_whole_programs_told_by_t_holds : PySem.Challenge.rw_everysource_k68_whole_programs_told_by_t.Holds := by
  w_on; o_law; k_head; (case hw => w_witness2)
  k_fill
  refine L2.walk_of (l := PySem.Challenge.rw_everysource_k68_whole_programs_told_by_t) (n := 63) (k := 20) (x := "_law_script") (CX := fun _ => L2.CX0) (sp := fun w => Kd.spB _ Kd.FLaw) rfl (by decide) rfl ⟨rfl, by decide, by decide⟩ (fun w h Y => PySem.W.kIn_of Y) ?F (fun w H a ns hl _ hS => ⟨[.l (ns.map Kd.T.i)], true, .cons (.l hS (Kd.Reps.of_ints ns)) .nil, ⟨rfl, ns, hl, rfl⟩, fun _ _ => rfl⟩) (fun _ _ _ _ _ h => h)
  case F =>
    intro w mg fa h KX G hmg
    refine' Kd.all_mk KX G hmg (Kd.top_mk KX G ?s__filled ?s__law_add ?s__law_best ?s__law_box ?s__law_by_hand_right ?s__law_case_right ?s__law_cells ?s__law_choose ?s__law_degree ?s__law_form ?s__law_images ?s__law_lots ?s__law_low ?s__law_mean ?s__law_mul ?s__law_number ?s__law_of ?s__law_right ?s__law_same ?s__law_source ?s__law_sum ?s__law_take ?s__law_wish ?s__law_worth ?s__power ?s__told_mean ?s_best_program ?s_evened ?s_fraction ?s_gathered ?s_moment_at ?s_moved_powers ?s_orders_of ?s_part_form ?s_plus ?s_power_of ?s_row_moment ?s_scaled_form ?s_sum_of ?s_times ?s_tuple_of ?s_wish_degree ?n_abs ?n_all ?n_bool ?n_enumerate ?n_int ?n_isinstance ?n_len ?n_list ?n_max ?n_range ?n_set ?n_sorted ?n_str ?n_sum ?n_tuple ?n_zip ?b_combinations ?b_gcd ?b_permutations ?c_BLANK ?c_LESS ?c_ONE_layers ?c_ONE_sources ?c_ZERO_forms ?c_ZERO_sources) ?s_law
    (case s__filled => refine' Kd.stands ?a ?l ?c ?k; (case a => k_is); (case l => k_is); (case c => k_is); (case k => k_is))
    (case s__law_add => refine' Kd.stands ?a ?l ?c ?k; (case a => k_is); (case l => k_is); (case c => k_is); (case k => k_is))
    (case s__law_best => refine' Kd.stands ?a ?l ?c ?k; (case a => k_is); (case l => k_is); (case c => k_is); (case k => k_is))
    (case s__law_box => refine' Kd.stands ?a ?l ?c ?k; (case a => k_is); (case l => k_is); (case c => k_is); (case k => k_is))
    (case s__law_by_hand_right => refine' Kd.stands ?a ?l ?c ?k; (case a => k_is); (case l => k_is); (case c => k_is); (case k => k_is))
    (case s__law_case_right => refine' Kd.stands ?a ?l ?c ?k; (case a => k_is); (case l => k_is); (case c => k_is); (case k => k_is))
    (case s__law_cells => refine' Kd.stands ?a ?l ?c ?k; (case a => k_is); (case l => k_is); (case c => k_is); (case k => k_is))
    (case s__law_choose => refine' Kd.stands ?a ?l ?c ?k; (case a => k_is); (case l => k_is); (case c => k_is); (case k => k_is))
    (case s__law_degree => refine' Kd.stands ?a ?l ?c ?k; (case a => k_is); (case l => k_is); (case c => k_is); (case k => k_is))
    (case s__law_form => refine' Kd.stands ?a ?l ?c ?k; (case a => k_is); (case l => k_is); (case c => k_is); (case k => k_is))
    (case s__law_images => refine' Kd.stands ?a ?l ?c ?k; (case a => k_is); (case l => k_is); (case c => k_is); (case k => k_is))
    (case s__law_lots => refine' Kd.stands ?a ?l ?c ?k; (case a => k_is); (case l => k_is); (case c => k_is); (case k => k_is))
    (case s__law_low => refine' Kd.stands ?a ?l ?c ?k; (case a => k_is); (case l => k_is); (case c => k_is); (case k => k_is))
    (case s__law_mean => refine' Kd.stands ?a ?l ?c ?k; (case a => k_is); (case l => k_is); (case c => k_is); (case k => k_is))
    (case s__law_mul => refine' Kd.stands ?a ?l ?c ?k; (case a => k_is); (case l => k_is); (case c => k_is); (case k => k_is))
    (case s__law_number => refine' Kd.stands ?a ?l ?c ?k; (case a => k_is); (case l => k_is); (case c => k_is); (case k => k_is))
    (case s__law_of => refine' Kd.stands ?a ?l ?c ?k; (case a => k_is); (case l => k_is); (case c => k_is); (case k => k_is))
    (case s__law_right => refine' Kd.stands ?a ?l ?c ?k; (case a => k_is); (case l => k_is); (case c => k_is); (case k => k_is))
    (case s__law_same => refine' Kd.stands ?a ?l ?c ?k; (case a => k_is); (case l => k_is); (case c => k_is); (case k => k_is))
    (case s__law_source => refine' Kd.stands ?a ?l ?c ?k; (case a => k_is); (case l => k_is); (case c => k_is); (case k => k_is))
    (case s__law_sum => refine' Kd.stands ?a ?l ?c ?k; (case a => k_is); (case l => k_is); (case c => k_is); (case k => k_is))
    (case s__law_take => refine' Kd.stands ?a ?l ?c ?k; (case a => k_is); (case l => k_is); (case c => k_is); (case k => k_is))
    (case s__law_wish => refine' Kd.stands ?a ?l ?c ?k; (case a => k_is); (case l => k_is); (case c => k_is); (case k => k_is))
    (case s__law_worth => refine' Kd.stands ?a ?l ?c ?k; (case a => k_is); (case l => k_is); (case c => k_is); (case k => k_is))
    (case s__power => refine' Kd.stands ?a ?l ?c ?k; (case a => k_is); (case l => k_is); (case c => k_is); (case k => k_is))
    (case s__told_mean => refine' Kd.stands ?a ?l ?c ?k; (case a => k_is); (case l => k_is); (case c => k_is); (case k => k_is))
    (case s_best_program => refine' Kd.stands ?a ?l ?c ?k; (case a => k_is); (case l => k_is); (case c => k_is); (case k => k_is))
    (case s_evened => refine' Kd.stands ?a ?l ?c ?k; (case a => k_is); (case l => k_is); (case c => k_is); (case k => k_is))
    (case s_fraction => refine' Kd.stands ?a ?l ?c ?k; (case a => k_is); (case l => k_is); (case c => k_is); (case k => k_is))
    (case s_gathered => refine' Kd.stands ?a ?l ?c ?k; (case a => k_is); (case l => k_is); (case c => k_is); (case k => k_is))
    (case s_moment_at => refine' Kd.stands ?a ?l ?c ?k; (case a => k_is); (case l => k_is); (case c => k_is); (case k => k_is))
    (case s_moved_powers => refine' Kd.stands ?a ?l ?c ?k; (case a => k_is); (case l => k_is); (case c => k_is); (case k => k_is))
    (case s_orders_of => refine' Kd.stands ?a ?l ?c ?k; (case a => k_is); (case l => k_is); (case c => k_is); (case k => k_is))
    (case s_part_form => refine' Kd.stands ?a ?l ?c ?k; (case a => k_is); (case l => k_is); (case c => k_is); (case k => k_is))
    (case s_plus => refine' Kd.stands ?a ?l ?c ?k; (case a => k_is); (case l => k_is); (case c => k_is); (case k => k_is))
    (case s_power_of => refine' Kd.stands ?a ?l ?c ?k; (case a => k_is); (case l => k_is); (case c => k_is); (case k => k_is))
    (case s_row_moment => refine' Kd.stands ?a ?l ?c ?k; (case a => k_is); (case l => k_is); (case c => k_is); (case k => k_is))
    (case s_scaled_form => refine' Kd.stands ?a ?l ?c ?k; (case a => k_is); (case l => k_is); (case c => k_is); (case k => k_is))
    (case s_sum_of => refine' Kd.stands ?a ?l ?c ?k; (case a => k_is); (case l => k_is); (case c => k_is); (case k => k_is))
    (case s_times => refine' Kd.stands ?a ?l ?c ?k; (case a => k_is); (case l => k_is); (case c => k_is); (case k => k_is))
    (case s_tuple_of => refine' Kd.stands ?a ?l ?c ?k; (case a => k_is); (case l => k_is); (case c => k_is); (case k => k_is))
    (case s_wish_degree => refine' Kd.stands ?a ?l ?c ?k; (case a => k_is); (case l => k_is); (case c => k_is); (case k => k_is))
    (case n_abs => k_is)
    (case n_all => k_is)
    (case n_bool => k_is)
    (case n_enumerate => k_is)
    (case n_int => k_is)
    (case n_isinstance => k_is)
    (case n_len => k_is)
    (case n_list => k_is)
    (case n_max => k_is)
    (case n_range => k_is)
    (case n_set => k_is)
    (case n_sorted => k_is)
    (case n_str => k_is)
    (case n_sum => k_is)
    (case n_tuple => k_is)
    (case n_zip => k_is)
    (case b_combinations => k_is)
    (case b_gcd => k_is)
    (case b_permutations => k_is)
    (case c_BLANK => refine' Kd.cst0 KX G ?a ?l; (case a => k_is); (case l => k_is))
    (case c_LESS => refine' Kd.cst2 KX G ?a ?l; (case a => k_is); (case l => k_is))
    (case c_ONE_layers => refine' Kd.cst2 KX G ?a ?l; (case a => k_is); (case l => k_is))
    (case c_ONE_sources => refine' Kd.cst2 KX G ?a ?l; (case a => k_is); (case l => k_is))
    (case c_ZERO_forms => refine' Kd.cst2 KX G ?a ?l; (case a => k_is); (case l => k_is))
    (case c_ZERO_sources => refine' Kd.cst2 KX G ?a ?l; (case a => k_is); (case l => k_is))
    (case s_law => refine' Kd.stands ?a ?l ?c ?k; (case a => k_is); (case l => k_is); (case c => k_is); (case k => k_is))
