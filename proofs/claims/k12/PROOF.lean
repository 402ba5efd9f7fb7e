import PyProof.Rows.All
import Wide.All
import OpenK.AllK
import Wide.FinOn
import HandS.ForMost
import HandS.ForExc
import HandS.CallSlots
import HandS.Wide
import HandS.IsInst
import KE.SortData
import HandS.More
import HandS.Deep
import HandS.Style
import HandS.Zip
import KE.DataAny
import HandS.ForDict
import HandS.Small
import HandS.Conv
import HandS.DictComp
import PyProof.P3In
import HandS.TupLe
import HandS.TupAny
import HandS.TryOnly
import HandS.Iter
import HandS.DictEq
import KE.KEqDict
import HandS.Finally
import HandS.DictTup
import KE.KDictSum
import HandS.ExcValue
import HandS.Comp
import HandS.Defaults
import PySem.Challenge.RW_threecrossings_k12_whole_histories_in_pa
set_option Elab.async false
set_option linter.all false
set_option maxRecDepth 100000
set_option maxHeartbeats 4000000
/-! Values as trees over the hand layer: T, what a tree is in a heap (Tr), the state of a def's frame (Rel). -/
namespace TX
open PySem PySem.Spec L2

/-- who owns an address: nobody (shared, never changed), somebody further out, or the tree at root r, at path p -/
inductive Lb where
  | free
  | foreign
  | at (r : Nat) (p : List Nat)
  deriving DecidableEq
abbrev Own := Addr → Lb
def msk (O : Own) (H : Hp) : Hp := fun b => if O b = .free then H b else none
theorem msk_of {O : Own} {H : Hp} {b : Addr} (h : O b = .free) : msk O H b = H b := by unfold msk; rw [if_pos h]
theorem msk_some {O : Own} {H : Hp} {b : Addr} {o : HO} (h : msk O H b = some o) : O b = .free ∧ H b = some o := by
  unfold msk at h
  split at h
  · exact ⟨by assumption, h⟩
  · cases h

/-- a value of the program as a tree: d data that is shared; l, m, o, s a list, a dict, an object, a set of one's own; raw anything that never changes; lk a dict of data, locked; a a place in a tree -/
inductive T where
  | d (x : PyData)
  | l (xs : List T)
  | m (tk : Bool) (ks : List PyData) (xs : List T)
  | o (C : Addr) (ns : List Str) (xs : List T)
  | s (S : Int → Bool) (n : Nat)
  | raw (v : V)
  | fz (ns : List Int)
  | lk (tk : Bool) (ks xs : List PyData)
  | a (r : Nat) (p : List Nat)

def keyD : Key → PyData
  | .inl i => .int i
  | .inr x => .str x

/-! ### data in a heap -/
mutual
inductive Rp (K : PySem.W.Frag) (H : Hp) : V → PyData → Prop
  | non : Rp K H .non .none
  | bl (b : Bool) : Rp K H (.bl b) (.bool b)
  | int (i : Int) : Rp K H (.int i) (.int i)
  | str (x : Str) : Rp K H (.str x) (.str x)
  | lst {a : Addr} {xs : List V} {ds : List PyData} : H a = some (.lst xs) → RpAll K H xs ds → Rp K H (.ref a) (.list ds)
  | tup {a : Addr} {xs : List V} {ds : List PyData} : H a = some (.tup xs) → RpAll K H xs ds → Rp K H (.ref a) (.tuple ds)
  | dk {a : Addr} {kvs : List (Key × V)} {ps : List (PyData × PyData)} : Rd H a (.dK kvs) → ps.map (·.1) = kvs.map (fun q => keyD q.1) → RpAll K H (kvs.map (·.2)) (ps.map (·.2)) → Rp K H (.ref a) (.dict ps)
  | dt {a : Addr} {kvs : List (List Key × V)} {ps : List (PyData × PyData)} : Rd H a (.dT kvs) → ps.map (·.1) = kvs.map (fun q => PyData.tuple (q.1.map keyD)) → RpAll K H (kvs.map (·.2)) (ps.map (·.2)) → Rp K H (.ref a) (.dict ps)
inductive RpAll (K : PySem.W.Frag) (H : Hp) : List V → List PyData → Prop
  | nil : RpAll K H [] []
  | cons {v : V} {vs : List V} {d : PyData} {ds : List PyData} : Rp K H v d → RpAll K H vs ds → RpAll K H (v :: vs) (d :: ds)
end
section
variable {K : PySem.W.Frag} {H H' : Hp}
theorem rd_mono (k : ∀ b o, H b = some o → H' b = some o) {a : Addr} {u : HO} (h : Rd H a u) : Rd H' a u := by
  rcases h with h | ⟨o, h⟩
  · exact .inl (k _ _ h)
  · exact .inr ⟨o, k _ _ h⟩
theorem sql_mono (k : ∀ b o, H b = some o → H' b = some o) {a : Addr} {xs : List V} (h : SqL K H a xs) : SqL K H' a xs := by
  rcases h with h | h
  · exact .inl (rd_mono k h)
  · exact .inr h
mutual
theorem Rp.mono (k : ∀ b o, H b = some o → H' b = some o) : ∀ (d : PyData) (v : V), Rp K H v d → Rp K H' v d
  | .none, _, h => by cases h; exact .non
  | .bool b, _, h => by cases h; exact .bl b
  | .int b, _, h => by cases h; exact .int b
  | .str b, _, h => by cases h; exact .str b
  | .list ds, _, h => by
    cases h with
    | lst h1 h2 => exact .lst (k _ _ h1) (RpAll.mono k ds _ h2)
  | .tuple ds, _, h => by
    cases h with
    | tup h1 h2 => exact .tup (k _ _ h1) (RpAll.mono k ds _ h2)
  | .dict ps, _, h => by
    cases h with
    | dk h1 h2 h3 => exact .dk (rd_mono k h1) h2 (RpAll.monoKv k ps _ h3)
    | dt h1 h2 h3 => exact .dt (rd_mono k h1) h2 (RpAll.monoKv k ps _ h3)
theorem RpAll.mono (k : ∀ b o, H b = some o → H' b = some o) : ∀ (ds : List PyData) (vs : List V), RpAll K H vs ds → RpAll K H' vs ds
  | [], _, h => by cases h; exact .nil
  | d :: ds, _, h => by
    cases h with
    | cons h1 h2 => exact .cons (Rp.mono k d _ h1) (RpAll.mono k ds _ h2)
theorem RpAll.monoKv (k : ∀ b o, H b = some o → H' b = some o) : ∀ (ps : List (PyData × PyData)) (vs : List V), RpAll K H vs (ps.map (·.2)) → RpAll K H' vs (ps.map (·.2))
  | [], _, h => by cases h; exact .nil
  | (a, b) :: ps, _, h => by
    cases h with
    | cons h1 h2 => exact .cons (Rp.mono k b _ h1) (RpAll.monoKv k ps _ h2)
end
theorem RpAll.length : ∀ {vs : List V} {ds : List PyData}, RpAll K H vs ds → vs.length = ds.length
  | _, _, .nil => rfl
  | _, _, .cons _ t => congrArg (· + 1) (RpAll.length t)
theorem RpAll.get : ∀ {vs : List V} {ds : List PyData} {i : Nat} {d : PyData}, RpAll K H vs ds → ds[i]? = some d → ∃ v, vs[i]? = some v ∧ Rp K H v d
  | _, _, _, _, .nil, e => by simp at e
  | _, _, 0, _, .cons r _, e => by simp at e; subst e; exact ⟨_, rfl, r⟩
  | _, _, i + 1, _, .cons _ t, e => by
    obtain ⟨v, h1, h2⟩ := RpAll.get (i := i) t (by simpa using e)
    exact ⟨v, by simpa using h1, h2⟩
theorem RpAll.append : ∀ {vs ws : List V} {ds es : List PyData}, RpAll K H vs ds → RpAll K H ws es → RpAll K H (vs ++ ws) (ds ++ es)
  | _, _, _, _, .nil, s => s
  | _, _, _, _, .cons r t, s => .cons r (RpAll.append t s)
theorem RpAll.take : ∀ {vs : List V} {ds : List PyData} (n : Nat), RpAll K H vs ds → RpAll K H (vs.take n) (ds.take n)
  | _, _, 0, _ => .nil
  | _, _, _ + 1, .nil => .nil
  | _, _, n + 1, .cons r t => .cons r (RpAll.take n t)
theorem RpAll.drop : ∀ {vs : List V} {ds : List PyData} (n : Nat), RpAll K H vs ds → RpAll K H (vs.drop n) (ds.drop n)
  | _, _, 0, r => r
  | _, _, _ + 1, .nil => .nil
  | _, _, n + 1, .cons _ t => RpAll.drop n t
theorem RpAll.reverse : ∀ {vs : List V} {ds : List PyData}, RpAll K H vs ds → RpAll K H vs.reverse ds.reverse
  | _, _, .nil => .nil
  | _, _, .cons r t => by
    rw [List.reverse_cons, List.reverse_cons]
    exact (RpAll.reverse t).append (.cons r .nil)
theorem RpAll.eraseIdx : ∀ {vs : List V} {ds : List PyData} (i : Nat), RpAll K H vs ds → RpAll K H (vs.eraseIdx i) (ds.eraseIdx i)
  | _, _, _, .nil => .nil
  | _, _, 0, .cons _ t => t
  | _, _, i + 1, .cons r t => .cons r (RpAll.eraseIdx i t)
theorem RpAll.set {x : V} {d : PyData} (r : Rp K H x d) : ∀ {vs : List V} {ds : List PyData} (i : Nat), RpAll K H vs ds → RpAll K H (vs.set i x) (ds.set i d)
  | _, _, _, .nil => .nil
  | _, _, 0, .cons _ t => .cons r t
  | _, _, i + 1, .cons q t => .cons q (RpAll.set r i t)
end

/-! data without lists and dicts in it -/
mutual
def imm : PyData → Bool
  | .list _ => false
  | .dict _ => false
  | .tuple xs => immAll xs
  | _ => true
def immAll : List PyData → Bool
  | [] => true
  | x :: xs => imm x && immAll xs
end
/-- what owned addresses hold -/
def ownable : HO → Prop
  | .lst _ => True
  | .dK _ => True
  | .dT _ => True
  | .set _ _ => True
  | .ins _ _ _ => True
  | _ => False
mutual
theorem Rp.imm {K : PySem.W.Frag} {H : Hp} {O : Own} (k : ∀ b, O b ≠ .free → ∃ o, H b = some o ∧ ownable o) : ∀ (d : PyData) (v : V), imm d = true → Rp K H v d → Rp K (msk O H) v d
  | .none, _, _, h => by cases h; exact .non
  | .bool b, _, _, h => by cases h; exact .bl b
  | .int b, _, _, h => by cases h; exact .int b
  | .str b, _, _, h => by cases h; exact .str b
  | .list ds, _, e, h => by simp [TX.imm] at e
  | .tuple ds, _, e, h => by
    cases h with
    | @tup a xs _ h1 h2 =>
      refine .tup ?_ (RpAll.imm k ds _ (by simpa [TX.imm] using e) h2)
      by_cases z : O a = .free
      · rw [msk_of z]; exact h1
      · obtain ⟨o', e', w⟩ := k a z
        rw [h1] at e'; cases e'
        exact absurd w (fun q => q)
  | .dict ps, _, e, h => by simp [TX.imm] at e
theorem RpAll.imm {K : PySem.W.Frag} {H : Hp} {O : Own} (k : ∀ b, O b ≠ .free → ∃ o, H b = some o ∧ ownable o) : ∀ (ds : List PyData) (vs : List V), immAll ds = true → RpAll K H vs ds → RpAll K (msk O H) vs ds
  | [], _, _, h => by cases h; exact .nil
  | d :: ds, _, e, h => by
    cases h with
    | cons h1 h2 =>
      simp [immAll] at e
      exact .cons (Rp.imm k d _ e.1 h1) (RpAll.imm k ds _ e.2 h2)
end

/-! ### trees in a heap -/
mutual
inductive Tr (K : PySem.W.Frag) (H : Hp) (O : Own) : Nat → List Nat → V → T → Prop
  | d {r p v x} : Rp K (msk O H) v x → Tr K H O r p v (.d x)
  | l {r p a vs ts} : O a = .at r p → H a = some (.lst vs) → TrAll K H O r p 0 vs ts → Tr K H O r p (.ref a) (.l ts)
  | mk {r p a kvs ks ts} : O a = .at r p → H a = some (.dK kvs) → ks = kvs.map (fun q => keyD q.1) → TrAll K H O r p 0 (kvs.map (·.2)) ts → Tr K H O r p (.ref a) (.m false ks ts)
  | mt {r p a kvs ks ts} : O a = .at r p → H a = some (.dT kvs) → ks = kvs.map (fun q => PyData.tuple (q.1.map keyD)) → TrAll K H O r p 0 (kvs.map (·.2)) ts → Tr K H O r p (.ref a) (.m true ks ts)
  | o {r p a C dx fs ns ts} : O a = .at r p → H a = some (.ins C dx fs) → ns = fs.map (·.1) → TrAll K H O r p 0 (fs.map (·.2)) ts → Tr K H O r p (.ref a) (.o C ns ts)
  | s {r p a S n} : O a = .at r p → H a = some (.set S n) → Tr K H O r p (.ref a) (.s S n)
  | raw {r p v} : Tr K H O r p v (.raw v)
  | fz {r p a ns} : SqL K (msk O H) a (ns.map V.int) → Tr K H O r p (.ref a) (.fz ns)
  | lk {r p a od kvs ks xs} : O a = .free → H a = some (.frz od (.dK kvs)) → ks = kvs.map (fun q => keyD q.1) → RpAll K (msk O H) (kvs.map (·.2)) xs → Tr K H O r p (.ref a) (.lk false ks xs)
  | lt {r p a od kvs ks xs} : O a = .free → H a = some (.frz od (.dT kvs)) → ks = kvs.map (fun q => PyData.tuple (q.1.map keyD)) → RpAll K (msk O H) (kvs.map (·.2)) xs → Tr K H O r p (.ref a) (.lk true ks xs)
inductive TrAll (K : PySem.W.Frag) (H : Hp) (O : Own) : Nat → List Nat → Nat → List V → List T → Prop
  | nil {r p k} : TrAll K H O r p k [] []
  | cons {r p k v vs t ts} : Tr K H O r (p ++ [k]) v t → TrAll K H O r p (k + 1) vs ts → TrAll K H O r p k (v :: vs) (t :: ts)
end

/-! what a tree's being there leans on: free objects, and the objects at labels of its own root that begin with its path; moved to another root and path -/
mutual
theorem Tr.move {K : PySem.W.Frag} {H H' : Hp} {O O' : Own} {r r' : Nat} {p0 p1 : List Nat} (hf : ∀ b o, H b = some o → O b = .free → H' b = some o ∧ O' b = .free)
    (hl : ∀ b o q, H b = some o → O b = .at r (p0 ++ q) → H' b = some o ∧ O' b = .at r' (p1 ++ q)) : ∀ (t : T) (q : List Nat) (v : V), Tr K H O r (p0 ++ q) v t → Tr K H' O' r' (p1 ++ q) v t
  | .d x, q, v, h => by
    cases h with
    | d h => exact .d (Rp.mono (fun b o e => by obtain ⟨e1, e2⟩ := msk_some e; obtain ⟨z1, z2⟩ := hf b o e2 e1; rw [msk_of z2]; exact z1) _ _ h)
  | .l ts, q, v, h => by
    cases h with
    | l h1 h2 h3 => obtain ⟨z1, z2⟩ := hl _ _ q h2 h1; exact .l z2 z1 (TrAll.move hf hl ts q 0 _ h3)
  | .m tk ks ts, q, v, h => by
    cases h with
    | mk h1 h2 h3 h4 => obtain ⟨z1, z2⟩ := hl _ _ q h2 h1; exact .mk z2 z1 h3 (TrAll.move hf hl ts q 0 _ h4)
    | mt h1 h2 h3 h4 => obtain ⟨z1, z2⟩ := hl _ _ q h2 h1; exact .mt z2 z1 h3 (TrAll.move hf hl ts q 0 _ h4)
  | .o C ns ts, q, v, h => by
    cases h with
    | o h1 h2 h3 h4 => obtain ⟨z1, z2⟩ := hl _ _ q h2 h1; exact .o z2 z1 h3 (TrAll.move hf hl ts q 0 _ h4)
  | .s S n, q, v, h => by
    cases h with
    | s h1 h2 => obtain ⟨z1, z2⟩ := hl _ _ q h2 h1; exact .s z2 z1
  | .raw v', q, v, h => by cases h; exact .raw
  | .fz ns, q, v, h => by
    cases h with
    | fz h => exact .fz (sql_mono (fun b o e => by obtain ⟨e1, e2⟩ := msk_some e; obtain ⟨z1, z2⟩ := hf b o e2 e1; rw [msk_of z2]; exact z1) h)
  | .lk tk ks xs, q, v, h => by
    have m : ∀ b o, msk O H b = some o → msk O' H' b = some o := fun b o e => by obtain ⟨e1, e2⟩ := msk_some e; obtain ⟨z1, z2⟩ := hf b o e2 e1; rw [msk_of z2]; exact z1
    cases h with
    | lk h1 h2 h3 h4 => obtain ⟨z1, z2⟩ := hf _ _ h2 h1; exact .lk z2 z1 h3 (RpAll.mono m _ _ h4)
    | lt h1 h2 h3 h4 => obtain ⟨z1, z2⟩ := hf _ _ h2 h1; exact .lt z2 z1 h3 (RpAll.mono m _ _ h4)
  | .a _ _, q, v, h => by cases h
theorem TrAll.move {K : PySem.W.Frag} {H H' : Hp} {O O' : Own} {r r' : Nat} {p0 p1 : List Nat} (hf : ∀ b o, H b = some o → O b = .free → H' b = some o ∧ O' b = .free)
    (hl : ∀ b o q, H b = some o → O b = .at r (p0 ++ q) → H' b = some o ∧ O' b = .at r' (p1 ++ q)) : ∀ (ts : List T) (q : List Nat) (k : Nat) (vs : List V), TrAll K H O r (p0 ++ q) k vs ts → TrAll K H' O' r' (p1 ++ q) k vs ts
  | [], q, k, vs, h => by cases h; exact .nil
  | t :: ts, q, k, vs, h => by
    cases h with
    | cons h1 h2 =>
      refine .cons ?_ (TrAll.move hf hl ts q (k + 1) _ h2)
      have := Tr.move hf hl t (q ++ [k]) _ (by rw [← List.append_assoc]; exact h1)
      rw [← List.append_assoc] at this
      exact this
end
theorem TrAll.length {K : PySem.W.Frag} {H : Hp} {O : Own} {r : Nat} {p : List Nat} : ∀ {vs : List V} {ts : List T} {k : Nat}, TrAll K H O r p k vs ts → vs.length = ts.length
  | _, _, _, .nil => rfl
  | _, _, _, .cons _ t => congrArg (· + 1) (TrAll.length t)
theorem TrAll.get {K : PySem.W.Frag} {H : Hp} {O : Own} {r : Nat} {p : List Nat} : ∀ {vs : List V} {ts : List T} {k i : Nat} {t : T}, TrAll K H O r p k vs ts → ts[i]? = some t → ∃ v, vs[i]? = some v ∧ Tr K H O r (p ++ [k + i]) v t
  | _, _, _, _, _, .nil, e => by simp at e
  | _, _, k, 0, _, .cons h _, e => by simp at e; subst e; exact ⟨_, rfl, h⟩
  | _, _, k, i + 1, _, .cons _ h, e => by
    obtain ⟨v, e1, e2⟩ := TrAll.get (i := i) h (by simpa using e)
    exact ⟨v, by simpa using e1, by rw [show k + (i + 1) = k + 1 + i by omega]; exact e2⟩
theorem TrAll.append {K : PySem.W.Frag} {H : Hp} {O : Own} {r : Nat} {p : List Nat} : ∀ {vs ws : List V} {ts us : List T} {k : Nat}, TrAll K H O r p k vs ts → TrAll K H O r p (k + ts.length) ws us → TrAll K H O r p k (vs ++ ws) (ts ++ us)
  | _, _, _, _, _, .nil, s => by simpa using s
  | _, _, _, _, k, .cons h t, s => .cons h (TrAll.append t (by simp only [List.length_cons] at s; rw [Nat.add_assoc, Nat.add_comm 1]; exact s))

theorem TrAll.of_get {K : PySem.W.Frag} {H : Hp} {O : Own} {r : Nat} {p : List Nat} : ∀ {vs : List V} {ts : List T} {k : Nat}, vs.length = ts.length →
    (∀ i v t, vs[i]? = some v → ts[i]? = some t → Tr K H O r (p ++ [k + i]) v t) → TrAll K H O r p k vs ts
  | [], [], _, _, _ => .nil
  | [], _ :: _, _, e, _ => by simp at e
  | _ :: _, [], _, e, _ => by simp at e
  | v :: vs, t :: ts, k, e, h => .cons (h 0 v t rfl rfl) (TrAll.of_get (by simpa using e) fun i v' t' e1 e2 => by
      have := h (i + 1) v' t' (by simpa using e1) (by simpa using e2)
      rwa [show k + (i + 1) = k + 1 + i by omega] at this)
theorem TrAll.data {K : PySem.W.Frag} {H : Hp} {O : Own} {r : Nat} {p : List Nat} : ∀ {vs : List V} {ds : List PyData} {k : Nat}, TrAll K H O r p k vs (ds.map T.d) → RpAll K (msk O H) vs ds
  | _, [], _, h => by cases h; exact .nil
  | _, d :: ds, _, h => by
    cases h with
    | cons h1 h2 => cases h1 with | d h1 => exact .cons h1 (TrAll.data h2)
theorem TrAll.ofData {K : PySem.W.Frag} {H : Hp} {O : Own} {r : Nat} {p : List Nat} : ∀ {vs : List V} {ds : List PyData} {k : Nat}, RpAll K (msk O H) vs ds → TrAll K H O r p k vs (ds.map T.d)
  | _, [], _, h => by cases h; exact .nil
  | _, d :: ds, _, h => by
    cases h with
    | cons h1 h2 => exact .cons (.d h1) (TrAll.ofData h2)

/-! ### places in a tree -/
def kid : T → Nat → Option T
  | .l ts, k => ts[k]?
  | .m _ _ ts, k => ts[k]?
  | .o _ _ ts, k => ts[k]?
  | _, _ => none
def setKid : T → Nat → T → T
  | .l ts, k, u => .l (ts.set k u)
  | .m tk ks ts, k, u => .m tk ks (ts.set k u)
  | .o C ns ts, k, u => .o C ns (ts.set k u)
  | t, _, _ => t
def subT : T → List Nat → Option T
  | t, [] => some t
  | t, k :: q => match kid t k with
    | some u => subT u q
    | none => none
def putT : T → T → List Nat → T
  | _, u, [] => u
  | t, u, k :: q => match kid t k with
    | some c => setKid t k (putT c u q)
    | none => t
def isNode : T → Bool
  | .l _ => true
  | .m _ _ _ => true
  | .o _ _ _ => true
  | .s _ _ => true
  | _ => false
theorem subT_append : ∀ {t : T} {q q' : List Nat} {u : T}, subT t q = some u → subT t (q ++ q') = subT u q'
  | t, [], q', u, h => by cases h; rfl
  | t, k :: q, q', u, h => by
    simp only [subT, List.cons_append] at h ⊢
    cases e : kid t k with
    | none => rw [e] at h; cases h
    | some c => rw [e] at h; exact subT_append h
theorem set_self {α : Type} : ∀ {l : List α} {k : Nat} {x : α}, l[k]? = some x → ∀ y, (l.set k y)[k]? = some y
  | [], _, _, h, _ => by simp at h
  | _ :: _, 0, _, _, _ => rfl
  | _ :: l, k + 1, x, h, y => by simpa using set_self (l := l) (by simpa using h) y
theorem kid_set {t : T} {k : Nat} {c : T} (h : kid t k = some c) (u : T) (j : Nat) : kid (setKid t k u) j = if j = k then some u else kid t j := by
  have gen : ∀ (ts : List T), ts[k]? = some c → (ts.set k u)[j]? = if j = k then some u else ts[j]? := fun ts h => by
    by_cases e : j = k
    · subst e; rw [if_pos rfl]; exact set_self h u
    · rw [if_neg e, List.getElem?_set_ne (fun z => e z.symm)]
  cases t with
  | l ts => exact gen ts h
  | m tk ks ts => exact gen ts h
  | o C ns ts => exact gen ts h
  | _ => cases h
theorem subT_put : ∀ {q : List Nat} {t c u : T}, subT t q = some c → subT (putT t u q) q = some u
  | [], t, c, u, h => rfl
  | k :: q, t, c, u, h => by
    simp only [subT] at h
    cases e : kid t k with
    | none => rw [e] at h; cases h
    | some z =>
      rw [e] at h
      simp only [putT, e]
      simp only [subT]
      rw [kid_set e, if_pos rfl]
      exact subT_put h
/-- at a place that does not lie under q the tree is a node where it was -/
theorem setKid_node {t : T} {k : Nat} {u : T} : isNode (setKid t k u) = isNode t := by cases t <;> rfl
theorem subT_put_ne : ∀ {q : List Nat} {t c u : T} {q' : List Nat} {z : T}, subT t q = some c → ¬ q <+: q' → subT t q' = some z → isNode z = true → ∃ z', subT (putT t u q) q' = some z' ∧ isNode z' = true
  | [], _, _, _, q', _, _, h, _, _ => absurd (List.nil_prefix) h
  | k :: q, t, c, u, [], z, h, _, e, n => by
    simp only [subT, Option.some.injEq] at e
    subst e
    simp only [subT] at h
    cases e : kid t k with
    | none => rw [e] at h; cases h
    | some w =>
      simp only [putT, e]
      exact ⟨_, rfl, by rw [setKid_node]; exact n⟩
  | k :: q, t, c, u, j :: q', z, h, np, e, n => by
    simp only [subT] at h
    cases e1 : kid t k with
    | none => rw [e1] at h; cases h
    | some w =>
      rw [e1] at h
      simp only [putT, e1]
      simp only [subT] at e ⊢
      rw [kid_set e1]
      by_cases hj : j = k
      · subst hj
        rw [if_pos rfl]
        rw [e1] at e
        exact subT_put_ne h (fun z => np (List.prefix_cons_inj _ |>.mpr z)) e n
      · rw [if_neg hj]
        exact ⟨z, e, n⟩
theorem Tr.sub {K : PySem.W.Frag} {H : Hp} {O : Own} {r : Nat} : ∀ {q : List Nat} {t u : T} {p : List Nat} {v : V}, Tr K H O r p v t → subT t q = some u → ∃ w, Tr K H O r (p ++ q) w u
  | [], t, u, p, v, h, e => by cases e; exact ⟨v, by rw [List.append_nil]; exact h⟩
  | k :: q, t, u, p, v, h, e => by
    simp only [subT] at e
    have all : ∀ {vs : List V} {ts : List T} {c : T}, TrAll K H O r p 0 vs ts → ts[k]? = some c → subT c q = some u → ∃ w, Tr K H O r (p ++ k :: q) w u := fun {vs ts c} ha hk hs => by
      obtain ⟨w, _, hw⟩ := ha.get hk
      obtain ⟨w', hw'⟩ := hw.sub hs
      refine ⟨w', ?_⟩
      rw [Nat.zero_add] at hw'
      simpa [List.append_assoc] using hw'
    cases e1 : kid t k with
    | none => rw [e1] at e; cases e
    | some c =>
      rw [e1] at e
      cases h with
      | l _ _ h3 => exact all h3 e1 e
      | mk _ _ _ h3 => exact all h3 e1 e
      | mt _ _ _ h3 => exact all h3 e1 e
      | o _ _ _ h3 => exact all h3 e1 e
      | d _ => cases e1
      | s _ _ => cases e1
      | raw => cases e1
      | fz _ => cases e1
      | lk _ _ _ _ => cases e1
      | lt _ _ _ _ => cases e1
/-- one place of a tree is changed -/
theorem Tr.upd {K : PySem.W.Frag} {H H' : Hp} {O O' : Own} {r : Nat} {u' : T} (hf : ∀ b o, H b = some o → O b = .free → H' b = some o ∧ O' b = .free) : ∀ {q : List Nat} {t u : T} {p : List Nat} {v : V},
    (∀ b o p', H b = some o → O b = .at r p' → ¬ (p ++ q) <+: p' → H' b = some o ∧ O' b = .at r p') → subT t q = some u → (∀ w, Tr K H O r (p ++ q) w u → Tr K H' O' r (p ++ q) w u') → Tr K H O r p v t → Tr K H' O' r p v (putT t u' q)
  | [], t, u, p, v, _, e, hw, h => by
    cases e
    have := hw v (by rw [List.append_nil]; exact h)
    rw [List.append_nil] at this
    exact this
  | k :: q, t, u, p, v, hk, e, hw, h => by
    simp only [subT] at e
    have all : ∀ {vs : List V} {ts : List T} {c : T}, TrAll K H O r p 0 vs ts → ts[k]? = some c → subT c q = some u → TrAll K H' O' r p 0 vs (ts.set k (putT c u' q)) := fun {vs ts c} ha hc hs => by
      refine TrAll.of_get (by rw [List.length_set]; exact ha.length) fun i v' t' e1 e2 => ?_
      by_cases hi : i = k
      · subst hi
        rw [set_self hc] at e2
        cases e2
        obtain ⟨w, e3, hw'⟩ := ha.get hc
        rw [e1] at e3; cases e3
        refine Tr.upd hf (p := p ++ [0 + i]) (fun b o p' h1 h2 h3 => hk b o p' h1 h2 fun z => h3 ?_) hs (fun w hh => ?_) hw'
        · rw [List.append_assoc, Nat.zero_add]; exact z
        · have := hw w (by rw [Nat.zero_add, List.append_assoc] at hh; exact hh)
          rw [Nat.zero_add, List.append_assoc]
          exact this
      · rw [List.getElem?_set_ne (fun z => hi z.symm)] at e2
        obtain ⟨w, e3, hw'⟩ := ha.get e2
        rw [e1] at e3; cases e3
        have := Tr.move (r' := r) (p0 := p ++ [0 + i]) (p1 := p ++ [0 + i]) hf (fun b o q' h1 h2 => hk b o _ h1 h2 fun z => ?_) t' [] _ (by rw [List.append_nil]; exact hw')
        · rw [List.append_nil] at this; exact this
        · rw [List.append_assoc, List.prefix_append_right_inj] at z
          obtain ⟨x, hx⟩ := z
          simp at hx
          exact hi hx.1.symm
    have top : ∀ b o, H b = some o → O b = .at r p → H' b = some o ∧ O' b = .at r p := fun b o h1 h2 => hk b o p h1 h2 fun z => by
      have := z.length_le
      simp at this
      omega
    cases e1 : kid t k with
    | none => rw [e1] at e; cases e
    | some c =>
      rw [e1] at e
      simp only [putT, e1]
      cases h with
      | l h1 h2 h3 => obtain ⟨z1, z2⟩ := top _ _ h2 h1; exact .l z2 z1 (all h3 e1 e)
      | mk h1 h2 h3 h4 => obtain ⟨z1, z2⟩ := top _ _ h2 h1; exact .mk z2 z1 h3 (all h4 e1 e)
      | mt h1 h2 h3 h4 => obtain ⟨z1, z2⟩ := top _ _ h2 h1; exact .mt z2 z1 h3 (all h4 e1 e)
      | o h1 h2 h3 h4 => obtain ⟨z1, z2⟩ := top _ _ h2 h1; exact .o z2 z1 h3 (all h4 e1 e)
      | d _ => cases e1
      | s _ _ => cases e1
      | raw => cases e1
      | fz _ => cases e1
      | lk _ _ _ _ => cases e1
      | lt _ _ _ _ => cases e1

/-! ### a tree as data -/
mutual
def erase : T → Option PyData
  | .d x => some x
  | .l ts => (eraseAll ts).map .list
  | .m _ ks ts => (eraseAll ts).map fun ds => .dict (ks.zip ds)
  | .lk _ ks xs => some (.dict (ks.zip xs))
  | _ => none
def eraseAll : List T → Option (List PyData)
  | [] => some []
  | t :: ts => match erase t, eraseAll ts with
    | some x, some xs => some (x :: xs)
    | _, _ => none
end
theorem eraseAll_d : ∀ ds : List PyData, eraseAll (ds.map T.d) = some ds
  | [] => rfl
  | d :: ds => by simp [eraseAll, erase, eraseAll_d ds]
def vis (r : Nat) (O : Own) (H : Hp) : Hp := fun b => match O b with
  | .free => H b
  | .foreign => none
  | .at r' _ => if r' = r then H b else none
theorem vis_le {r : Nat} {O : Own} {H : Hp} : ∀ b o, vis r O H b = some o → H b = some o := fun b o h => by
  unfold vis at h
  split at h
  · exact h
  · cases h
  · split at h
    · exact h
    · cases h
theorem vis_at {r : Nat} {O : Own} {H : Hp} {b : Addr} {p : List Nat} (h : O b = .at r p) : vis r O H b = H b := by
  unfold vis; rw [h]; simp
theorem vis_free {r : Nat} {O : Own} {H : Hp} {b : Addr} (h : O b = .free) : vis r O H b = H b := by
  unfold vis; rw [h]
theorem zip_fst {α β : Type} : ∀ {l : List α} {r : List β}, l.length = r.length → (l.zip r).map (·.1) = l
  | [], [], _ => rfl
  | _ :: _, _ :: _, h => by simp only [List.zip_cons_cons, List.map_cons]; rw [zip_fst (by simpa using h)]
  | [], _ :: _, h => by simp at h
  | _ :: _, [], h => by simp at h
theorem zip_snd {α β : Type} : ∀ {l : List α} {r : List β}, l.length = r.length → (l.zip r).map (·.2) = r
  | [], [], _ => rfl
  | _ :: _, _ :: _, h => by simp only [List.zip_cons_cons, List.map_cons]; rw [zip_snd (by simpa using h)]
  | [], _ :: _, h => by simp at h
  | _ :: _, [], h => by simp at h
mutual
theorem Tr.view {K : PySem.W.Frag} {H : Hp} {O : Own} {r : Nat} : ∀ (t : T) (p : List Nat) (v : V) (x : PyData), erase t = some x → Tr K H O r p v t → Rp K (vis r O H) v x
  | .d y, p, v, x, e, h => by
    cases h with
    | d h => simp only [erase, Option.some.injEq] at e; subst e; exact Rp.mono (fun b o z => by obtain ⟨z1, z2⟩ := msk_some z; rw [vis_free z1]; exact z2) _ _ h
  | .l ts, p, v, x, e, h => by
    simp only [erase, Option.map_eq_some_iff] at e
    obtain ⟨ds, e1, rfl⟩ := e
    cases h with
    | l h1 h2 h3 => exact .lst (by rw [vis_at h1]; exact h2) (TrAll.view ts p 0 _ ds e1 h3)
  | .m tk ks ts, p, v, x, e, h => by
    simp only [erase, Option.map_eq_some_iff] at e
    obtain ⟨ds, e1, rfl⟩ := e
    cases h with
    | mk h1 h2 h3 h4 =>
      have r := TrAll.view ts p 0 _ ds e1 h4
      have el : ks.length = ds.length := by rw [h3, ← r.length]; simp
      exact .dk (.inl (by rw [vis_at h1]; exact h2)) (by rw [zip_fst el]; exact h3) (by rw [zip_snd el]; exact r)
    | mt h1 h2 h3 h4 =>
      have r := TrAll.view ts p 0 _ ds e1 h4
      have el : ks.length = ds.length := by rw [h3, ← r.length]; simp
      exact .dt (.inl (by rw [vis_at h1]; exact h2)) (by rw [zip_fst el]; exact h3) (by rw [zip_snd el]; exact r)
  | .o _ _ _, p, v, x, e, h => by simp [erase] at e
  | .s _ _, p, v, x, e, h => by simp [erase] at e
  | .raw _, p, v, x, e, h => by simp [erase] at e
  | .fz _, p, v, x, e, h => by simp [erase] at e
  | .lk tk ks xs, p, v, x, e, h => by
    simp only [erase, Option.some.injEq] at e
    subst e
    have m : ∀ b o, msk O H b = some o → vis r O H b = some o := fun b o z => by obtain ⟨z1, z2⟩ := msk_some z; rw [vis_free z1]; exact z2
    cases h with
    | lk h1 h2 h3 h4 =>
      have el : ks.length = xs.length := by rw [h3, ← h4.length]; simp
      exact .dk (.inr ⟨_, by rw [vis_free h1]; exact h2⟩) (by rw [zip_fst el]; exact h3) (by rw [zip_snd el]; exact RpAll.mono m _ _ h4)
    | lt h1 h2 h3 h4 =>
      have el : ks.length = xs.length := by rw [h3, ← h4.length]; simp
      exact .dt (.inr ⟨_, by rw [vis_free h1]; exact h2⟩) (by rw [zip_fst el]; exact h3) (by rw [zip_snd el]; exact RpAll.mono m _ _ h4)
  | .a _ _, p, v, x, e, h => by simp [erase] at e
theorem TrAll.view {K : PySem.W.Frag} {H : Hp} {O : Own} {r : Nat} : ∀ (ts : List T) (p : List Nat) (k : Nat) (vs : List V) (xs : List PyData), eraseAll ts = some xs → TrAll K H O r p k vs ts → RpAll K (vis r O H) vs xs
  | [], p, k, vs, xs, e, h => by cases h; simp [eraseAll] at e; subst e; exact .nil
  | t :: ts, p, k, vs, xs, e, h => by
    cases h with
    | cons h1 h2 =>
      simp only [eraseAll] at e
      cases e1 : erase t with
      | none => rw [e1] at e; cases e
      | some y =>
        cases e2 : eraseAll ts with
        | none => rw [e1, e2] at e; cases e
        | some ys =>
          rw [e1, e2] at e
          simp only [Option.some.injEq] at e
          subst e
          exact .cons (Tr.view t _ _ y e1 h1) (TrAll.view ts p (k + 1) _ ys e2 h2)
end
end TX

/-! The state of a def's frame as trees (Rel), how it is carried, and the judgements LE, LA, LT. -/
namespace TX
open PySem PySem.Spec L2

/-- a def's entry: its heap, its owners, how many names, which parameters are handed in to be changed -/
structure Ctx where
  H0 : Hp
  O0 : Own
  N : Nat
  io : List Nat
abbrev Rho := List (Option T)

/-- the table of modules is none of what the def makes -/
def isLD : HO → Bool
  | .lst _ => true
  | .dK _ => true
  | .dT _ => true
  | .frz _ (.dK _) => true
  | .frz _ (.dT _) => true
  | _ => false
def Sm (_ : PySem.W.Frag) (_ : Hp) (_ : Own) : Prop := True
structure Rel (K : PySem.W.Frag) (C : Ctx) (n : Nat) (σ : St) (H : Hp) (O : Own) (ρ : Rho) : Prop where
  fr : ∀ b o, C.H0 b = some o → (C.O0 b = .free ∨ C.O0 b = .foreign) → H b = some o ∧ O b = C.O0 b
  nt : ∀ b, O b ≠ .free → ∃ o, H b = some o ∧ ownable o
  lt : ∀ b r p, O b = .at r p → r < n
  inj : ∀ a b r p, O a = .at r p → O b = .at r p → a = b
  val : ∀ b r p, O b = .at r p → r < C.N → ∃ t z, ρ[r]? = some (some t) ∧ subT t p = some z ∧ isNode z = true
  ln : σ.length = C.N
  lr : ρ.length = C.N
  sl : ∀ (i : Nat) (t : T), ρ[i]? = some (some t) → ∃ v, σ[i]? = some (some v) ∧ Tr K H O i [] v t
  hN : C.N ≤ n
  fo : ∀ b, O b = .foreign → ∃ o, C.H0 b = some o ∧ C.O0 b = .foreign
  pz : ∀ b j p, C.O0 b = .at j p → j < C.N ∧ O b = .at j p
  sm : Sm K C.H0 C.O0 ∧ ∀ b j p, C.O0 b = .at j p → j ∈ C.io

def Fre (H : Hp) (O : Own) (H' : Hp) (O' : Own) : Prop := ∀ b o, H b = some o → O b = .free → H' b = some o ∧ O' b = .free
/-- what an expression leaves: what is shared, the places of the frame's trees, the values on the way (roots N up to n) -/
structure Frm (N n : Nat) (H : Hp) (O : Own) (H' : Hp) (O' : Own) : Prop where
  fre : Fre H O H' O'
  pl : ∀ b r p, O b = .at r p → r < N → O' b = .at r p
  tm : ∀ b o r p, H b = some o → O b = .at r p → N ≤ r → r < n → H' b = some o ∧ O' b = .at r p
  nw : ∀ b r p, O' b = .at r p → N ≤ r → r < n → O b = .at r p
section
variable {N n m : Nat} {H H' H2 : Hp} {O O' O2 : Own}
theorem Fre.refl : Fre H O H O := fun _ _ h e => ⟨h, e⟩
theorem Fre.trans (a : Fre H O H' O') (b : Fre H' O' H2 O2) : Fre H O H2 O2 := fun x o h e => let ⟨h1, e1⟩ := a x o h e; b x o h1 e1
theorem Frm.refl : Frm N n H O H O := ⟨Fre.refl, fun _ _ _ h _ => h, fun _ _ _ _ h e _ _ => ⟨h, e⟩, fun _ _ _ h _ _ => h⟩
theorem Frm.trans (a : Frm N n H O H' O') (b : Frm N m H' O' H2 O2) (h : n ≤ m) : Frm N n H O H2 O2 :=
  ⟨a.fre.trans b.fre, fun x r p e l => b.pl x r p (a.pl x r p e l) l,
    fun x o r p e1 e2 l1 l2 => let ⟨z1, z2⟩ := a.tm x o r p e1 e2 l1 l2; b.tm x o r p z1 z2 l1 (Nat.lt_of_lt_of_le l2 h),
    fun x r p e l1 l2 => a.nw x r p (b.nw x r p e l1 (Nat.lt_of_lt_of_le l2 h)) l1 l2⟩
theorem Frm.le (a : Frm N m H O H' O') (h : n ≤ m) : Frm N n H O H' O' :=
  ⟨a.fre, a.pl, fun x o r p e1 e2 l1 l2 => a.tm x o r p e1 e2 l1 (Nat.lt_of_lt_of_le l2 h), fun x r p e l1 l2 => a.nw x r p e l1 (Nat.lt_of_lt_of_le l2 h)⟩
end

/-- a value on the way, at root n -/
def Val (K : PySem.W.Frag) (H : Hp) (O : Own) (n : Nat) (v : V) : T → Prop
  | .a r p => (∃ a, v = .ref a ∧ O a = .at r p ∧ r < n) ∧ ∀ b q, O b ≠ .at n q
  | t => Tr K H O n [] v t ∧ ∀ b p, O b = .at n p → ∃ z, subT t p = some z ∧ isNode z = true
def cut (n : Nat) (O : Own) : Own := fun b => match O b with
  | .at r p => if r < n then .at r p else .free
  | z => z
theorem cut_at {n : Nat} {O : Own} {b : Addr} {r : Nat} {p : List Nat} : cut n O b = .at r p ↔ O b = .at r p ∧ r < n := by
  unfold cut
  cases e : O b with
  | free => simp
  | foreign => simp
  | «at» r' p' =>
    simp only
    by_cases h : r' < n
    · rw [if_pos h]
      simp only [Lb.at.injEq]
      refine ⟨fun ⟨h1, h2⟩ => ⟨⟨h1, h2⟩, h1 ▸ h⟩, fun ⟨h1, _⟩ => h1⟩
    · rw [if_neg h]
      simp only [Lb.at.injEq, reduceCtorEq, false_iff]
      rintro ⟨⟨rfl, _⟩, h'⟩
      exact h h'
theorem cut_free {n : Nat} {O : Own} {b : Addr} (h : O b = .free) : cut n O b = .free := by unfold cut; rw [h]
theorem cut_foreign {n : Nat} {O : Own} {b : Addr} : cut n O b = .foreign ↔ O b = .foreign := by
  unfold cut
  cases e : O b with
  | free => simp
  | foreign => simp
  | «at» r' p' =>
    simp only
    by_cases h : r' < n
    · simp [h]
    · simp [h]
def dropR (i : Nat) (O : Own) : Own := fun b => match O b with
  | .at r p => if r = i then .free else .at r p
  | z => z
theorem dropR_at {i : Nat} {O : Own} {b : Addr} {r : Nat} {p : List Nat} : dropR i O b = .at r p ↔ O b = .at r p ∧ r ≠ i := by
  unfold dropR
  cases e : O b with
  | free => simp
  | foreign => simp
  | «at» r' p' =>
    simp only
    by_cases h : r' = i
    · rw [if_pos h]
      simp only [Lb.at.injEq, reduceCtorEq, false_iff]
      rintro ⟨⟨rfl, _⟩, h'⟩
      exact h' h
    · rw [if_neg h]
      simp only [Lb.at.injEq]
      refine ⟨fun ⟨h1, h2⟩ => ⟨⟨h1, h2⟩, h1 ▸ h⟩, fun ⟨h1, _⟩ => h1⟩
theorem dropR_free {i : Nat} {O : Own} {b : Addr} (h : O b = .free) : dropR i O b = .free := by unfold dropR; rw [h]
theorem dropR_foreign {i : Nat} {O : Own} {b : Addr} : dropR i O b = .foreign ↔ O b = .foreign := by
  unfold dropR
  cases e : O b with
  | free => simp
  | foreign => simp
  | «at» r' p' =>
    simp only
    by_cases h : r' = i
    · simp [h]
    · simp [h]
/-- root j becomes root i -/
def mvR (j i : Nat) (O : Own) : Own := fun b => match O b with
  | .at r p => if r = j then .at i p else .at r p
  | z => z
theorem mvR_at {i j : Nat} {O : Own} {b : Addr} {r : Nat} {p : List Nat} (h : mvR j i O b = .at r p) : (r = i ∧ O b = .at j p) ∨ (r ≠ j ∧ O b = .at r p) := by
  unfold mvR at h
  cases e : O b with
  | free => rw [e] at h; cases h
  | foreign => rw [e] at h; cases h
  | «at» r' p' =>
    rw [e] at h
    simp only at h
    by_cases hh : r' = j
    · rw [if_pos hh] at h; cases h; exact .inl ⟨rfl, by rw [hh]⟩
    · rw [if_neg hh] at h; cases h; exact .inr ⟨hh, rfl⟩
theorem mvR_root {i j : Nat} {O : Own} {b : Addr} {p : List Nat} (h : O b = .at j p) : mvR j i O b = .at i p := by unfold mvR; rw [h]; simp
theorem mvR_ne {i j : Nat} {O : Own} {b : Addr} {r : Nat} {p : List Nat} (h : O b = .at r p) (n : r ≠ j) : mvR j i O b = .at r p := by unfold mvR; rw [h]; simp [n]
theorem mvR_free {i j : Nat} {O : Own} {b : Addr} : mvR j i O b = .free ↔ O b = .free := by
  unfold mvR
  cases e : O b with
  | free => simp
  | foreign => simp
  | «at» r' p' =>
    simp only
    by_cases h : r' = j <;> simp [h]
theorem mvR_foreign {i j : Nat} {O : Own} {b : Addr} : mvR j i O b = .foreign ↔ O b = .foreign := by
  unfold mvR
  cases e : O b with
  | free => simp
  | foreign => simp
  | «at» r' p' =>
    simp only
    by_cases h : r' = j <;> simp [h]

section
variable {K : PySem.W.Frag} {C : Ctx} {n m : Nat} {σ : St} {H H' : Hp} {O O' : Own} {ρ : Rho}
theorem Rel.up (R : Rel K C n σ H O ρ) (h : n ≤ m) : Rel K C m σ H O ρ :=
  ⟨R.fr, R.nt, fun b r p e => Nat.lt_of_lt_of_le (R.lt b r p e) h, R.inj, R.val, R.ln, R.lr, R.sl, Nat.le_trans R.hN h, R.fo, R.pz, R.sm⟩
theorem Rel.smH (_ : Rel K C n σ H O ρ) : Sm K H O := trivial
theorem Rel.slt (R : Rel K C n σ H O ρ) {i : Nat} {t : Option T} (h : ρ[i]? = some t) : i < C.N := by
  have := (List.getElem?_eq_some_iff.mp h).1
  rw [R.lr] at this
  exact this
theorem Rel.fresh (R : Rel K C n σ H O ρ) {b : Addr} (h : H b = none) : O b = .free := by
  by_cases e : O b = .free
  · exact e
  · obtain ⟨o, z, _⟩ := R.nt b e
    rw [h] at z; cases z
theorem Rel.tracked (R : Rel K C n σ H O ρ) {b : Addr} {r : Nat} {p : List Nat} (h : O b = .at r p) : ∃ o, H b = some o ∧ ownable o := R.nt b (by rw [h]; intro z; cases z)
/-- values on the way from root n on are let go -/
theorem Rel.cut (R : Rel K C m σ H O ρ) (h1 : C.N ≤ n) : Rel K C n σ H (cut n O) ρ where
  fr b o e1 e2 := by
    obtain ⟨z1, z2⟩ := R.fr b o e1 e2
    refine ⟨z1, ?_⟩
    rcases e2 with e2 | e2
    · rw [e2] at z2 ⊢; exact cut_free z2
    · rw [e2] at z2 ⊢; exact cut_foreign.mpr z2
  nt b h := R.nt b fun z => h (cut_free z)
  lt b r p h := (cut_at.mp h).2
  inj a b r p e1 e2 := R.inj a b r p (cut_at.mp e1).1 (cut_at.mp e2).1
  val b r p e l := R.val b r p (cut_at.mp e).1 l
  ln := R.ln
  lr := R.lr
  sl i t e := by
    obtain ⟨v, h2, h3⟩ := R.sl i t e
    refine ⟨v, h2, ?_⟩
    have := Tr.move (H' := H) (O' := TX.cut n O) (r' := i) (p0 := []) (p1 := []) (fun b o e1 e2 => ⟨e1, cut_free e2⟩) (fun b o q e1 e2 => ⟨e1, cut_at.mpr ⟨e2, Nat.lt_of_lt_of_le (R.slt e) h1⟩⟩) t [] v h3
    exact this
  hN := h1
  fo b h := R.fo b (cut_foreign.mp h)
  pz b j p h := let ⟨z1, z2⟩ := R.pz b j p h; ⟨z1, cut_at.mpr ⟨z2, Nat.lt_of_lt_of_le z1 h1⟩⟩
  sm := R.sm
theorem frm_cut (N n : Nat) (H : Hp) (O : Own) (h : N ≤ n) : Frm N n H O H (cut n O) :=
  ⟨fun _ _ e1 e2 => ⟨e1, cut_free e2⟩, fun _ _ _ e l => cut_at.mpr ⟨e, Nat.lt_of_lt_of_le l h⟩, fun _ _ _ _ e1 e2 _ l => ⟨e1, cut_at.mpr ⟨e2, l⟩⟩, fun _ _ _ e _ _ => (cut_at.mp e).1⟩
/-- data that is scalar -/
inductive Sc : V → PyData → Prop
  | non : Sc .non .none
  | bl (b : Bool) : Sc (.bl b) (.bool b)
  | int (i : Int) : Sc (.int i) (.int i)
  | str (x : Str) : Sc (.str x) (.str x)
theorem Sc.rp {v : V} {x : PyData} (h : Sc v x) : Rp K H v x := by cases h <;> constructor
/-- a value of data at root n: no places there -/
theorem Rel.val_d (R : Rel K C n σ H O ρ) {v : V} {x : PyData} (h : Rp K (msk O H) v x) : Val K H O n v (.d x) := ⟨.d h, fun b p e => absurd (R.lt b n p e) (Nat.lt_irrefl _)⟩
theorem Rel.val_raw (R : Rel K C n σ H O ρ) {v : V} : Val K H O n v (.raw v) := ⟨.raw, fun b p e => absurd (R.lt b n p e) (Nat.lt_irrefl _)⟩
theorem Rel.val_fz (R : Rel K C n σ H O ρ) {a : Addr} {ns : List Int} (h : SqL K (msk O H) a (ns.map V.int)) : Val K H O n (.ref a) (.fz ns) := ⟨.fz h, fun b p e => absurd (R.lt b n p e) (Nat.lt_irrefl _)⟩
theorem Rel.val_lk (R : Rel K C n σ H O ρ) {a : Addr} {od : Obj} {kvs : List (Key × V)} {ks xs : List PyData} (h1 : O a = .free) (h2 : H a = some (.frz od (.dK kvs))) (h3 : ks = kvs.map fun q => keyD q.1) (h4 : RpAll K (msk O H) (kvs.map (·.2)) xs) : Val K H O n (.ref a) (.lk false ks xs) := ⟨.lk h1 h2 h3 h4, fun b p e => absurd (R.lt b n p e) (Nat.lt_irrefl _)⟩
theorem Rel.val_lt (R : Rel K C n σ H O ρ) {a : Addr} {od : Obj} {kvs : List (List Key × V)} {ks xs : List PyData} (h1 : O a = .free) (h2 : H a = some (.frz od (.dT kvs))) (h3 : ks = kvs.map fun q => PyData.tuple (q.1.map keyD)) (h4 : RpAll K (msk O H) (kvs.map (·.2)) xs) : Val K H O n (.ref a) (.lk true ks xs) := ⟨.lt h1 h2 h3 h4, fun b p e => absurd (R.lt b n p e) (Nat.lt_irrefl _)⟩
/-- carried over what comes behind -/
theorem Val.carry {v : V} {t : T} (h : Val K H O n v t) (hn : C.N ≤ n) (lt : ∀ b r p, O b = .at r p → r < n + 1) (nt : ∀ b, O b ≠ .free → ∃ o, H b = some o ∧ ownable o) (F : Frm C.N (n + 1) H O H' O') : Val K H' O' n v t := by
  have gen : ∀ t : T, (Tr K H O n [] v t ∧ ∀ b p, O b = .at n p → ∃ z, subT t p = some z ∧ isNode z = true) → (Tr K H' O' n [] v t ∧ ∀ b p, O' b = .at n p → ∃ z, subT t p = some z ∧ isNode z = true) := fun t h =>
    ⟨Tr.move (r' := n) (p0 := []) (p1 := []) F.fre (fun b o q e1 e2 => F.tm b o n q e1 e2 hn (Nat.lt_succ_self n)) t [] v h.1, fun b p e => h.2 b p (F.nw b n p e hn (Nat.lt_succ_self n))⟩
  cases t with
  | a r p =>
    obtain ⟨⟨a, e1, e2, l⟩, h2⟩ := h
    refine ⟨⟨a, e1, ?_, l⟩, fun b q e => h2 b q (F.nw b n q e hn (Nat.lt_succ_self n))⟩
    by_cases hr : r < C.N
    · exact F.pl a r p e2 hr
    · obtain ⟨o, ho, _⟩ := nt a (by rw [e2]; intro z; cases z)
      exact (F.tm a o r p ho e2 (by omega) (by omega)).2
  | _ => exact gen _ h
/-- a scalar is handed on -/
theorem Rel.fin_sc {N0 : Nat} (R : Rel K C m σ H O ρ) (hn : C.N ≤ n) {v : V} {x : PyData} (s : Sc v x) : Rel K C (n + 1) σ H (TX.cut n O) ρ ∧ Val K H (TX.cut n O) n v (.d x) :=
  ⟨(R.cut hn).up (Nat.le_succ _), (R.cut hn).val_d s.rp⟩

/-- what a slot holds, as a value -/
def nmv (i : Nat) (t : T) : T := if isNode t then .a i [] else t
theorem tr_root {r : Nat} {v : V} {t : T} {p : List Nat} (h : Tr K H O r p v t) (n : isNode t = true) : ∃ a, v = .ref a ∧ O a = .at r p := by
  cases h with
  | d _ => cases n
  | lk _ _ _ _ => cases n
  | lt _ _ _ _ => cases n
  | raw => cases n
  | fz _ => cases n
  | l h1 _ _ => exact ⟨_, rfl, h1⟩
  | mk h1 _ _ _ => exact ⟨_, rfl, h1⟩
  | mt h1 _ _ _ => exact ⟨_, rfl, h1⟩
  | o h1 _ _ _ => exact ⟨_, rfl, h1⟩
  | s h1 _ => exact ⟨_, rfl, h1⟩
theorem Rel.val_name (R : Rel K C n σ H O ρ) {i : Nat} {t : T} {v : V} (e : ρ[i]? = some (some t)) (h : Tr K H O i [] v t) : Val K H O n v (nmv i t) := by
  have none : ∀ b q, O b ≠ .at n q := fun b q e => absurd (R.lt b n q e) (Nat.lt_irrefl _)
  unfold nmv
  by_cases hn : isNode t = true
  · rw [if_pos hn]
    obtain ⟨a, e1, e2⟩ := tr_root h hn
    exact ⟨⟨a, e1, e2, Nat.lt_of_lt_of_le (R.slt e) R.hN⟩, none⟩
  · rw [if_neg hn]
    cases h with
    | d h => exact R.val_d h
    | raw => exact R.val_raw
    | fz h => exact R.val_fz h
    | lk h1 h2 h3 h4 => exact R.val_lk h1 h2 h3 h4
    | lt h1 h2 h3 h4 => exact R.val_lt h1 h2 h3 h4
    | l _ _ _ => exact absurd rfl hn
    | mk _ _ _ _ => exact absurd rfl hn
    | mt _ _ _ _ => exact absurd rfl hn
    | o _ _ _ _ => exact absurd rfl hn
    | s _ _ => exact absurd rfl hn

/-! ### what a value shows -/
def getT (ρ : Rho) (r : Nat) (p : List Nat) : Option T := match ρ[r]? with
  | some (some t) => subT t p
  | _ => none
/-- as data, read now -/
def vw (ρ : Rho) : T → Option PyData
  | .a r p => match getT ρ r p with
    | some t => erase t
    | none => none
  | t => erase t
theorem getT_some {r : Nat} {p : List Nat} {u : T} (h : getT ρ r p = some u) : ∃ t, ρ[r]? = some (some t) ∧ subT t p = some u := by
  unfold getT at h
  split at h
  · exact ⟨_, by assumption, h⟩
  · cases h
theorem Rel.at (R : Rel K C n σ H O ρ) {r : Nat} {p : List Nat} {u : T} (h : getT ρ r p = some u) : ∃ w, Tr K H O r p w u := by
  obtain ⟨t, e1, e2⟩ := getT_some h
  obtain ⟨v, _, ht⟩ := R.sl r t e1
  have := ht.sub e2
  simpa using this
theorem Rel.alias (R : Rel K C n σ H O ρ) {r : Nat} {p : List Nat} {u : T} {a : Addr} (h : getT ρ r p = some u) (hn : isNode u = true) (ha : O a = .at r p) : Tr K H O r p (.ref a) u := by
  obtain ⟨w, hw⟩ := R.at h
  obtain ⟨b, rfl, hb⟩ := tr_root hw hn
  rw [R.inj a b r p ha hb]
  exact hw
/-- a place's own node: where the place is owned, the tree there is a node -/
theorem Rel.place (R : Rel K C n σ H O ρ) {r : Nat} {p : List Nat} {a : Addr} (ha : O a = .at r p) (hr : r < C.N) : ∃ u, getT ρ r p = some u ∧ isNode u = true ∧ Tr K H O r p (.ref a) u := by
  obtain ⟨t, z, e1, e2, e3⟩ := R.val a r p ha hr
  have g : getT ρ r p = some z := by unfold getT; rw [e1]; exact e2
  exact ⟨z, g, e3, R.alias g e3 ha⟩
/-- read as data, from the heap as it stands -/
theorem Rel.view (R : Rel K C n σ H O ρ) {k : Nat} {v : V} {t : T} {x : PyData} (h : Val K H O k v t) (e : vw ρ t = some x) : ∃ r, Rp K (vis r O H) v x := by
  cases t with
  | a r p =>
    obtain ⟨⟨a, rfl, e2, l⟩, _⟩ := h
    cases g : getT ρ r p with
    | none => simp [vw, g] at e
    | some u =>
      obtain ⟨t, e3, _⟩ := getT_some g
      obtain ⟨u', g', hn, ht⟩ := R.place e2 (R.slt e3)
      rw [g] at g'; cases g'
      simp only [vw, g] at e
      exact ⟨r, Tr.view u p _ x e ht⟩
  | _ => exact ⟨k, Tr.view _ [] _ x e h.1⟩
theorem Rel.viewH (R : Rel K C n σ H O ρ) {k : Nat} {v : V} {t : T} {x : PyData} (h : Val K H O k v t) (e : vw ρ t = some x) : Rp K H v x :=
  let ⟨_, z⟩ := R.view h e; Rp.mono vis_le _ _ z

/-! ### lists read item by item -/
def allD : List T → Option (List PyData)
  | [] => some []
  | .d x :: ts => (allD ts).map (x :: ·)
  | _ :: _ => none
theorem allD_map : ∀ ds : List PyData, allD (ds.map T.d) = some ds
  | [] => rfl
  | d :: ds => by simp [allD, allD_map ds]
theorem allD_eq : ∀ {ts : List T} {ds : List PyData}, allD ts = some ds → ts = ds.map T.d
  | [], ds, h => by simp [allD] at h; subst h; rfl
  | t :: ts, ds, h => by
    cases t with
    | d x =>
      simp only [allD, Option.map_eq_some_iff] at h
      obtain ⟨es, h1, rfl⟩ := h
      rw [allD_eq h1]; rfl
    | _ => simp [allD] at h
def flatL : T → Option (List PyData)
  | .d (.list xs) => some xs
  | .l ts => allD ts
  | _ => none
def lsq (ρ : Rho) : T → Option (List PyData)
  | .a r p => match getT ρ r p with
    | some t => flatL t
    | none => none
  | t => flatL t
theorem flat_tr {r : Nat} {p : List Nat} {v : V} {t : T} {xs : List PyData} (h : Tr K H O r p v t) (e : flatL t = some xs) : ∃ a vs, v = .ref a ∧ H a = some (.lst vs) ∧ RpAll K (msk O H) vs xs := by
  cases h with
  | d h =>
    cases h with
    | lst h1 h2 =>
      simp only [flatL, Option.some.injEq] at e
      subst e
      exact ⟨_, _, rfl, (msk_some h1).2, h2⟩
    | _ => simp [flatL] at e
  | l h1 h2 h3 =>
    simp only [flatL] at e
    rw [allD_eq e] at h3
    exact ⟨_, _, rfl, h2, TrAll.data h3⟩
  | _ => simp [flatL] at e
theorem Rel.lsqV (R : Rel K C n σ H O ρ) {k : Nat} {v : V} {t : T} {xs : List PyData} (h : Val K H O k v t) (e : lsq ρ t = some xs) : ∃ a vs, v = .ref a ∧ H a = some (.lst vs) ∧ RpAll K (msk O H) vs xs := by
  cases t with
  | a r p =>
    obtain ⟨⟨a, rfl, e2, l⟩, _⟩ := h
    cases g : getT ρ r p with
    | none => simp [lsq, g] at e
    | some u =>
      obtain ⟨t, e3, _⟩ := getT_some g
      obtain ⟨u', g', hn, ht⟩ := R.place e2 (R.slt e3)
      rw [g] at g'; cases g'
      simp only [lsq, g] at e
      exact flat_tr ht e
  | _ => exact flat_tr h.1 e
def tsq : T → Option (List PyData)
  | .d (.tuple xs) => some xs
  | _ => none
theorem Rel.tsqV (R : Rel K C n σ H O ρ) {k : Nat} {v : V} {t : T} {xs : List PyData} (h : Val K H O k v t) (e : tsq t = some xs) : ∃ a vs, v = .ref a ∧ H a = some (.tup vs) ∧ RpAll K (msk O H) vs xs := by
  cases t with
  | d y =>
    cases y with
    | tuple ys =>
      simp only [tsq, Option.some.injEq] at e
      subst e
      have h := h.1
      cases h with
      | d h => cases h with | tup h1 h2 => exact ⟨_, _, rfl, (msk_some h1).2, h2⟩
    | _ => simp [tsq] at e
  | _ => simp [tsq] at e

/-! ### new objects -/
def lay (n : Nat) (p : Addr) (O : Own) : Own := fun b => if b = p then .at n [] else O b
theorem lay_same {n : Nat} {p : Addr} : lay n p O p = .at n [] := by unfold lay; rw [if_pos rfl]
theorem lay_ne {n : Nat} {p b : Addr} (h : b ≠ p) : lay n p O b = O b := by unfold lay; rw [if_neg h]
/-- a new object at root n, without children of its own -/
theorem Rel.alloc (R : Rel K C n σ H O ρ) {p : Addr} {o : HO} (hp : H p = none) (ho : ownable o) : Rel K C (n + 1) σ (upd H p o) (lay n p O) ρ ∧ Frm C.N n H O (upd H p o) (lay n p O) ∧ (∀ b q, lay n p O b = .at n q → b = p ∧ q = []) := by
  have of := R.fresh hp
  have keep : ∀ b u, H b = some u → upd H p o b = some u ∧ lay n p O b = O b := fun b u e => ⟨by rw [upd_ne (ne_of_none e hp)]; exact e, lay_ne (ne_of_none e hp)⟩
  have lb : ∀ b r q, O b = .at r q → lay n p O b = .at r q := fun b r q e => by
    obtain ⟨u, hu, _⟩ := R.tracked e
    rw [(keep b u hu).2]; exact e
  have bl : ∀ b r q, lay n p O b = .at r q → (b = p ∧ r = n ∧ q = []) ∨ (b ≠ p ∧ O b = .at r q) := fun b r q e => by
    by_cases h : b = p
    · subst h; rw [lay_same] at e; cases e; exact .inl ⟨rfl, rfl, rfl⟩
    · rw [lay_ne h] at e; exact .inr ⟨h, e⟩
  refine ⟨⟨fun b u e1 e2 => ?_, fun b h => ?_, fun b r q e => ?_, fun a b r q e1 e2 => ?_, fun b r q e l => ?_, R.ln, R.lr, fun i t e => ?_, Nat.le_succ_of_le R.hN, fun b e => ?_, fun b j q e => ?_, R.sm⟩, ⟨fun b u e1 e2 => ?_, fun b r q e _ => lb b r q e, fun b u r q e1 e2 _ _ => ?_, fun b r q e _ l => ?_⟩, fun b q e => ?_⟩
  · obtain ⟨z1, z2⟩ := R.fr b u e1 e2
    obtain ⟨k1, k2⟩ := keep b u z1
    exact ⟨k1, k2.trans z2⟩
  · by_cases hb : b = p
    · subst hb; exact ⟨o, upd_same, ho⟩
    · rw [lay_ne hb] at h
      obtain ⟨u, e, w⟩ := R.nt b h
      exact ⟨u, (keep b u e).1, w⟩
  · rcases bl b r q e with ⟨_, h, _⟩ | ⟨_, h⟩
    · omega
    · exact Nat.lt_succ_of_lt (R.lt b r q h)
  · rcases bl a r q e1 with ⟨h1, h2, _⟩ | ⟨_, h⟩ <;> rcases bl b r q e2 with ⟨h1', h2', _⟩ | ⟨_, h'⟩
    · rw [h1, h1']
    · exact absurd (R.lt b r q h') (by omega)
    · exact absurd (R.lt a r q h) (by omega)
    · exact R.inj a b r q h h'
  · rcases bl b r q e with ⟨_, h, _⟩ | ⟨_, h⟩
    · have := R.hN; omega
    · exact R.val b r q h l
  · obtain ⟨v, h2, h3⟩ := R.sl i t e
    exact ⟨v, h2, Tr.move (r' := i) (p0 := []) (p1 := []) (fun b u e1 e2 => ⟨(keep b u e1).1, (keep b u e1).2.trans e2⟩) (fun b u q e1 e2 => ⟨(keep b u e1).1, lb b i q e2⟩) t [] v h3⟩
  · by_cases hb : b = p
    · subst hb; rw [lay_same] at e; cases e
    · rw [lay_ne hb] at e; exact R.fo b e
  · obtain ⟨z1, z2⟩ := R.pz b j q e
    exact ⟨z1, lb b j q z2⟩
  · exact ⟨(keep b u e1).1, (keep b u e1).2.trans e2⟩
  · exact ⟨(keep b u e1).1, lb b r q e2⟩
  · rcases bl b r q e with ⟨_, h, _⟩ | ⟨_, h⟩
    · omega
    · exact h
  · rcases bl b n q e with ⟨h1, _, h3⟩ | ⟨_, h⟩
    · exact ⟨h1, h3⟩
    · exact absurd (R.lt b n q h) (Nat.lt_irrefl _)
/-- a new list of data -/
theorem Rel.newL (R : Rel K C m σ H O ρ) (hn : C.N ≤ n) {p : Addr} {ws : List V} {zs : List PyData} (hp : H p = none) (hz : RpAll K (msk O H) ws zs) :
    ∃ O', Rel K C (n + 1) σ (upd H p (.lst ws)) O' ρ ∧ Frm C.N n H O (upd H p (.lst ws)) O' ∧ Val K (upd H p (.lst ws)) O' n (.ref p) (.l (zs.map T.d)) := by
  obtain ⟨R1, F1, u1⟩ := (R.cut hn).alloc (o := .lst ws) hp trivial
  refine ⟨_, R1, (frm_cut C.N n H O hn).trans F1 (Nat.le_refl _), .l lay_same upd_same (TrAll.ofData (RpAll.mono (fun b o e => ?_) _ _ hz)), fun b q e => ?_⟩
  · obtain ⟨z1, z2⟩ := msk_some e
    rw [msk_of (by rw [lay_ne (ne_of_none z2 hp)]; exact cut_free z1), upd_ne (ne_of_none z2 hp)]
    exact z2
  · obtain ⟨rfl, rfl⟩ := u1 b q e
    exact ⟨_, rfl, rfl⟩
/-- a new tuple -/
theorem Rel.newT (R : Rel K C m σ H O ρ) (hn : C.N ≤ n) {p : Addr} {ws : List V} {zs : List PyData} (hp : H p = none) (hz : RpAll K (msk O H) ws zs) :
    ∃ O', Rel K C (n + 1) σ (upd H p (.tup ws)) O' ρ ∧ Frm C.N n H O (upd H p (.tup ws)) O' ∧ Val K (upd H p (.tup ws)) O' n (.ref p) (.d (.tuple zs)) := by
  have R0 := R.cut (n := n) hn
  have of := R0.fresh hp
  have keep : ∀ b u, H b = some u → upd H p (.tup ws) b = some u := fun b u e => by rw [upd_ne (ne_of_none e hp)]; exact e
  have R1 : Rel K C n σ (upd H p (.tup ws)) (TX.cut n O) ρ := ⟨fun b u e1 e2 => ⟨keep _ _ (R0.fr b u e1 e2).1, (R0.fr b u e1 e2).2⟩, fun b h => let ⟨u, e, w⟩ := R0.nt b h; ⟨u, keep b u e, w⟩, R0.lt, R0.inj, R0.val, R0.ln, R0.lr,
    fun i t e => let ⟨v, h2, h3⟩ := R0.sl i t e; ⟨v, h2, Tr.move (r' := i) (p0 := []) (p1 := []) (fun b u e1 e2 => ⟨keep b u e1, e2⟩) (fun b u q e1 e2 => ⟨keep b u e1, e2⟩) t [] v h3⟩, R0.hN, R0.fo, R0.pz, R0.sm⟩
  refine ⟨_, R1.up (Nat.le_succ _), (frm_cut C.N n H O hn).trans ⟨fun b u e1 e2 => ⟨keep b u e1, e2⟩, fun _ _ _ e _ => e, fun b u r q e1 e2 _ _ => ⟨keep b u e1, e2⟩, fun _ _ _ e _ _ => e⟩ (Nat.le_refl _), R1.val_d (.tup (by rw [msk_of of]; exact upd_same) (RpAll.mono (fun b o e => ?_) _ _ hz))⟩
  obtain ⟨z1, z2⟩ := msk_some e
  rw [msk_of (cut_free z1)]
  exact keep b o z2

/-! ### a place is changed -/
def putAt (ρ : Rho) (r : Nat) (p : List Nat) (u : T) : Rho := match ρ[r]? with
  | some (some t) => ρ.set r (some (putT t u p))
  | _ => ρ
theorem Rel.upd (R : Rel K C m σ H O ρ) (hN : C.N ≤ n) {r : Nat} {p : List Nat} {u u' : T} (hg : getT ρ r p = some u)
    (hf : Fre H O H' O') (hfo : ∀ b o, H b = some o → O b = .foreign → H' b = some o ∧ O' b = .foreign)
    (hk : ∀ b o r' p', H b = some o → O b = .at r' p' → r' < C.N → ¬ (r' = r ∧ p <+: p') → H' b = some o ∧ O' b = .at r' p')
    (hpl : ∀ b r' p', O b = .at r' p' → r' < C.N → O' b = .at r' p') (hw : ∀ w, Tr K H O r p w u → Tr K H' O' r p w u')
    (hnt : ∀ b, O' b ≠ .free → ∃ o, H' b = some o ∧ ownable o) (hlt : ∀ b r p, O' b = .at r p → r < n) (hinj : ∀ a b r p, O' a = .at r p → O' b = .at r p → a = b)
    (hval : ∀ b q, O' b = .at r (p ++ q) → ∃ z, subT u' q = some z ∧ isNode z = true)
    (hold : ∀ b r' p', O' b = .at r' p' → r' < C.N → (r' = r ∧ p <+: p') ∨ O b = .at r' p') (hfb : ∀ b, O' b = .foreign → O b = .foreign) : Rel K C n σ H' O' (putAt ρ r p u') := by
  obtain ⟨t, e1, e2⟩ := getT_some hg
  have hr := R.slt e1
  have eput : putAt ρ r p u' = ρ.set r (some (putT t u' p)) := by unfold putAt; rw [e1]
  rw [eput]
  have hrl : r < ρ.length := by rw [R.lr]; exact hr
  refine ⟨fun b o z1 z2 => ?_, hnt, hlt, hinj, fun b r' p' e l => ?_, R.ln, by rw [List.length_set]; exact R.lr, fun i t' e => ?_, hN, fun b e => R.fo b (hfb b e), fun b j q e => ?_, R.sm⟩
  · obtain ⟨h1, h2⟩ := R.fr b o z1 z2
    rcases z2 with z2 | z2
    · rw [z2] at h2; rw [z2]; exact hf b o h1 h2
    · rw [z2] at h2; rw [z2]; exact hfo b o h1 h2
  · rcases hold b r' p' e l with ⟨rfl, x, rfl⟩ | e'
    · obtain ⟨z, h1, h2⟩ := hval b x e
      refine ⟨_, z, List.getElem?_set_self hrl, ?_, h2⟩
      rw [subT_append (subT_put e2)]
      exact h1
    · obtain ⟨t', z, h1, h2, h3⟩ := R.val b r' p' e' l
      by_cases hh : r' = r
      · subst hh
        rw [e1] at h1; cases h1
        by_cases hp : p <+: p'
        · obtain ⟨x, rfl⟩ := hp
          obtain ⟨z, g1, g2⟩ := hval b x e
          exact ⟨_, z, List.getElem?_set_self hrl, by rw [subT_append (subT_put e2)]; exact g1, g2⟩
        · obtain ⟨z', g1, g2⟩ := subT_put_ne (u := u') e2 hp h2 h3
          exact ⟨_, z', List.getElem?_set_self hrl, g1, g2⟩
      · exact ⟨t', z, by rw [List.getElem?_set_ne (fun q => hh q.symm)]; exact h1, h2, h3⟩
  · by_cases hi : i = r
    · subst hi
      rw [List.getElem?_set_self hrl] at e
      cases e
      obtain ⟨v, h2, h3⟩ := R.sl i t e1
      refine ⟨v, h2, Tr.upd hf (p := []) (fun b o p' z1 z2 z3 => hk b o i p' z1 z2 hr fun q => z3 (by simpa using q.2)) e2 (fun w h => ?_) h3⟩
      rw [List.nil_append] at h ⊢
      exact hw w h
    · rw [List.getElem?_set_ne (fun q => hi q.symm)] at e
      obtain ⟨v, h2, h3⟩ := R.sl i t' e
      exact ⟨v, h2, Tr.move (r' := i) (p0 := []) (p1 := []) hf (fun b o q z1 z2 => hk b o i q z1 z2 (R.slt e) fun z => hi z.1) t' [] v h3⟩
  · obtain ⟨z1, z2⟩ := R.pz b j q e
    exact ⟨z1, hpl b j q z2 z1⟩
end
end TX

/-! The judgements over trees (LE, LA, LT, LW) and the rules of expressions. -/
namespace TX
open PySem PySem.Spec L2

abbrev ExK := Addr → Rho → Prop
abbrev TwE := Rho → (T → Rho → Prop) → ExK → Prop
abbrev TwA := Rho → (List T → Rho → Prop) → ExK → Prop
abbrev TwT := Rho → (Bool → Rho → Prop) → ExK → Prop

theorem _root_.L2.PE.imp {X : Cx} {e : Expr} {t t' : TE} (h : PE X e t) (k : ∀ σ H Q, t' σ H Q → t σ H Q) : PE X e t' := ⟨fun pins s σ H Q I q => h.run pins s σ H Q I (k _ _ _ q)⟩
theorem _root_.L2.PT.imp {X : Cx} {e : Expr} {t t' : TT} (h : PT X e t) (k : ∀ σ H Q, t' σ H Q → t σ H Q) : PT X e t' := ⟨fun pins s σ H Q I q => h.run pins s σ H Q I (k _ _ _ q)⟩
theorem _root_.L2.PW.imp {X : Cx} {e : Expr} {t t' : TT} (h : PW X e t) (k : ∀ σ H Q, t' σ H Q → t σ H Q) : PW X e t' := ⟨fun wh pins s σ H Q I q => h.run wh pins s σ H Q I (k _ _ _ q)⟩
theorem _root_.L2.PA.imp {X : Cx} {e : List Expr} {t t' : TA} (h : PA X e t) (k : ∀ σ H Q, t' σ H Q → t σ H Q) : PA X e t' := ⟨fun pos pins s σ H Q I q => h.run pos pins s σ H Q I (k _ _ _ q)⟩
theorem _root_.L2.PS.imp {X : Cx} {e : Stmt} {t t' : TS} (h : PS X e t) (k : ∀ D σ H, t' D σ H → t D σ H) : PS X e t' := ⟨fun pins s σ H Q I q => h.run pins s σ H Q I (k _ _ _ q)⟩
theorem _root_.L2.PSs.imp {X : Cx} {e : List Stmt} {t t' : TS} (h : PSs X e t) (k : ∀ D σ H, t' D σ H → t D σ H) : PSs X e t' := ⟨fun pins s σ H Q I q => h.run pins s σ H Q I (k _ _ _ q)⟩

/-- an exception leaves: what is wanted at the trees, of what is wanted at the heap -/
def exK (K : PySem.W.Frag) (C : Ctx) (W : WX) (H : Hp) (O : Own) : ExK := fun c ρ' => ∀ σ' H' O', Rel K C C.N σ' H' O' ρ' → Fre H O H' O' → W (.ref c) none σ' H'
theorem exK.on {K : PySem.W.Frag} {C : Ctx} {W : WX} {H H1 : Hp} {O O1 : Own} (f : Fre H O H1 O1) (c : Addr) (ρ' : Rho) (h : exK K C W H O c ρ') : exK K C W H1 O1 c ρ' := fun σ' H' O' R F => h σ' H' O' R (f.trans F)
inductive ValAll (K : PySem.W.Frag) (H : Hp) (O : Own) : Nat → List V → List T → Prop
  | nil {n} : ValAll K H O n [] []
  | cons {n v vs t ts} : Val K H O n v t → ValAll K H O (n + 1) vs ts → ValAll K H O n (v :: vs) (t :: ts)
def lfE (K : PySem.W.Frag) (C : Ctx) (W : WX) (n : Nat) (tw : TwE) : TE := fun σ H Q => ∃ O ρ, Rel K C n σ H O ρ ∧
  tw ρ (fun t ρ' => ∀ v H' O', Rel K C (n + 1) σ H' O' ρ' → Frm C.N n H O H' O' → Val K H' O' n v t → Q v H') (exK K C W H O)
def lfA (K : PySem.W.Frag) (C : Ctx) (W : WX) (n : Nat) (tw : TwA) : TA := fun σ H Q => ∃ O ρ, Rel K C n σ H O ρ ∧
  tw ρ (fun ts ρ' => ∀ vs H' O', Rel K C (n + ts.length) σ H' O' ρ' → Frm C.N n H O H' O' → ValAll K H' O' n vs ts → Q vs H') (exK K C W H O)
def lfT (K : PySem.W.Frag) (C : Ctx) (W : WX) (n : Nat) (tw : TwT) : TT := fun σ H Q => ∃ O ρ, Rel K C n σ H O ρ ∧
  tw ρ (fun b ρ' => ∀ H' O', Rel K C n σ H' O' ρ' → Frm C.N n H O H' O' → Q b H') (exK K C W H O)
def MonE {α : Type} (tw : Rho → (α → Rho → Prop) → ExK → Prop) : Prop := ∀ ρ (Q Q' : α → Rho → Prop) (E E' : ExK), (∀ t ρ', Q t ρ' → Q' t ρ') → (∀ c ρ', E c ρ' → E' c ρ') → tw ρ Q E → tw ρ Q' E'
structure LE (X : Cx) (e : Expr) (tw : TwE) : Prop where
  mono : MonE tw
  run : ∀ (C : Ctx) (W : WX) (n : Nat), C.N = X.N.length → C.N ≤ n → Takes X W → PE X e (lfE X.K C W n tw)
structure LA (X : Cx) (es : List Expr) (tw : TwA) : Prop where
  mono : MonE tw
  len : ∀ ρ Q E, tw ρ Q E → tw ρ (fun ts ρ' => ts.length = es.length ∧ Q ts ρ') E
  run : ∀ (C : Ctx) (W : WX) (n : Nat), C.N = X.N.length → C.N ≤ n → Takes X W → PA X es (lfA X.K C W n tw)
structure LT (X : Cx) (e : Expr) (tw : TwT) : Prop where
  mono : MonE tw
  run : ∀ (C : Ctx) (W : WX) (n : Nat), C.N = X.N.length → C.N ≤ n → Takes X W → PT X e (lfT X.K C W n tw)
structure LW (X : Cx) (e : Expr) (tw : TwT) : Prop where
  mono : MonE tw
  run : ∀ (C : Ctx) (W : WX) (n : Nat), C.N = X.N.length → C.N ≤ n → Takes X W → PW X e (lfT X.K C W n tw)
theorem LW.lt {X : Cx} {e : Expr} {tw : TwT} (h : LW X e tw) : LT X e tw := ⟨h.mono, fun C W n a b c => (h.run C W n a b c).pt⟩

section
variable {X : Cx} {pos : Pos} {a b c : Expr} {ta tb tc : TwE}

/-! ### names, constants -/
def wVar (i : Nat) : TwE := fun ρ Q _ => ∃ t, ρ[i]? = some (some t) ∧ Q (nmv i t) ρ
def wC (t : T) : TwE := fun ρ Q _ => Q t ρ
theorem lv (i : Nat) {x : Str} {pos : Pos} (hN : X.N[i]? = some x := by rfl) (hv : Vis X.env.scope x := by first | exact Or.inl rfl | exact Or.inr (Or.inl rfl) | exact Or.inr (Or.inr rfl)) (hd : (x == ("__debug__" : Str)) = false := by decide)
    (hcd : (x == ("__classdict__" : Str)) = false := by decide) : LE X (.Name x pos) (wVar i) := by
  refine ⟨fun ρ Q Q' E E' h _ ⟨t, e, q⟩ => ⟨t, e, h _ _ q⟩, fun C W n hC hn tk => (pe_var (i := i) hN hv hd hcd).imp fun σ H Q ⟨O, ρ, R, t, e, q⟩ => ?_⟩
  obtain ⟨v, h1, h2⟩ := R.sl i t e
  exact ⟨v, h1, q v H O (R.up (Nat.le_succ _)) .refl (R.val_name e h2)⟩
theorem le_sc {e : Expr} {v : V} {x : PyData} (s : Sc v x) (h : PE X e (tC v)) : LE X e (wC (.d x)) :=
  ⟨fun ρ Q Q' E E' h _ q => h _ _ q, fun C W n hC hn tk => h.imp fun σ H Q ⟨O, ρ, R, q⟩ => q v H O (R.up (Nat.le_succ _)) .refl (R.val_d s.rp)⟩
theorem le_raw {e : Expr} {v : V} (h : PE X e (tC v)) : LE X e (wC (.raw v)) :=
  ⟨fun ρ Q Q' E E' h _ q => h _ _ q, fun C W n hC hn tk => h.imp fun σ H Q ⟨O, ρ, R, q⟩ => q v H O (R.up (Nat.le_succ _)) .refl R.val_raw⟩
theorem le_int {i j pos} : LE X (.Constant (.int i) j pos) (wC (.d (.int i))) := le_sc (.int i) pe_int
theorem le_bl {i j pos} : LE X (.Constant (.bool i) j pos) (wC (.d (.bool i))) := le_sc (.bl i) pe_bl
theorem le_non {j pos} : LE X (.Constant .none j pos) (wC (.d .none)) := le_sc .non pe_non
theorem le_str {i j pos} : LE X (.Constant (.str i) j pos) (wC (.d (.str i))) := le_sc (.str i) pe_str

/-! ### two places, a scalar out -/
def OpD (K : PySem.W.Frag) (r : R2) (f : PyData → PyData → PyData → Prop) : Prop := ∀ H v u x y z (Q : VK), Rp K H v x → Rp K H u y → f x y z → (∀ w, Sc w z → Q w H) → r v u H Q
def w2 (ta tb : TwE) (k : T → T → Rho → (T → Rho → Prop) → Prop) : TwE := fun ρ Q E => ta ρ (fun t ρ1 => tb ρ1 (fun u ρ2 => k t u ρ2 Q) E) E
def wOp (f : PyData → PyData → PyData → Prop) (ta tb : TwE) : TwE := w2 ta tb fun t u ρ Q => ∃ x y z, vw ρ t = some x ∧ vw ρ u = some y ∧ f x y z ∧ Q (.d z) ρ
theorem w2_mono {k : T → T → Rho → (T → Rho → Prop) → Prop} (ha : MonE ta) (hb : MonE tb) (hk : ∀ t u ρ Q Q', (∀ t ρ', Q t ρ' → Q' t ρ') → k t u ρ Q → k t u ρ Q') : MonE (w2 ta tb k) := fun ρ Q Q' E E' h he q =>
  ha ρ _ _ E E' (fun t ρ1 q1 => hb ρ1 _ _ E E' (fun u ρ2 q2 => hk _ _ _ _ _ h q2) he q1) he q
theorem wOp_mono {f : PyData → PyData → PyData → Prop} (ha : MonE ta) (hb : MonE tb) : MonE (wOp f ta tb) := w2_mono ha hb fun t u ρ Q Q' h ⟨x, y, z, h1, h2, h3, q⟩ => ⟨x, y, z, h1, h2, h3, h _ _ q⟩
/-- the second value behind the first -/
theorem two {K : PySem.W.Frag} {C : Ctx} {W : WX} {n : Nat} {σ : St} {H : Hp} {Q : VK} {r : R2} {k : T → T → Rho → (T → Rho → Prop) → Prop} (ha : MonE ta) (hb : MonE tb) (hn : C.N ≤ n)
    (h : lfE K C W n (w2 ta tb k) σ H Q)
    (fin : ∀ O ρ2 t u v w H2 O2, Rel K C (n + 2) σ H2 O2 ρ2 → Frm C.N n H O H2 O2 → Val K H2 O2 n v t → Val K H2 O2 (n + 1) w u →
      k t u ρ2 (fun t ρ' => ∀ v H' O', Rel K C (n + 1) σ H' O' ρ' → Frm C.N n H O H' O' → Val K H' O' n v t → Q v H') → r v w H2 Q) :
    tOp r (lfE K C W n ta) (lfE K C W (n + 1) tb) σ H Q := by
  obtain ⟨O, ρ, R, h⟩ := h
  refine ⟨O, ρ, R, ha ρ _ _ _ _ (fun t ρ1 q1 => ?_) (fun _ _ z => z) h⟩
  intro v H1 O1 R1 F1 V1
  refine ⟨O1, ρ1, R1, hb ρ1 _ _ _ _ (fun u ρ2 q2 => ?_) (fun c ρ' z => exK.on F1.fre c ρ' z) q1⟩
  intro w H2 O2 R2 F2 V2
  exact fin O ρ2 t u v w H2 O2 R2 (F1.trans F2 (Nat.le_succ n)) (V1.carry hn R1.lt R1.nt F2) V2 q2
theorem le_op {op : Operator} {r : R2} {f : PyData → PyData → PyData → Prop} (ho : OpR X (binaryOp op) r) (hd : OpD X.K r f) (ha : LE X a ta) (hb : LE X b tb) : LE X (.BinOp a op b pos) (wOp f ta tb) := by
  refine ⟨w2_mono ha.mono hb.mono fun t u ρ Q Q' h ⟨x, y, z, h1, h2, h3, q⟩ => ⟨x, y, z, h1, h2, h3, h _ _ q⟩, fun C W n hC hn tk => (pe_op ho (ha.run C W n hC hn tk) (hb.run C W (n + 1) hC (by omega) tk)).imp fun σ H Q h => ?_⟩
  refine two ha.mono hb.mono hn h fun O ρ2 t u v w H2 O2 R2 F V1 V2 ⟨x, y, z, h1, h2, h3, q⟩ => ?_
  refine hd H2 v w x y z Q (R2.viewH V1 h1) (R2.viewH V2 h2) h3 fun w' s => ?_
  obtain ⟨R3, V3⟩ := R2.fin_sc (N0 := 0) hn s
  exact q w' H2 _ R3 (F.trans (frm_cut C.N n H2 O2 hn) (Nat.le_refl _)) V3
theorem le_cmp {op : CmpOp} {r : R2} {f : PyData → PyData → PyData → Prop} (ho : OpR X (compareOp op) r) (hd : OpD X.K r f) (ha : LE X a ta) (hb : LE X b tb) (hm : behindInMarks op b = false) : LE X (.Compare a [op] [b] pos) (wOp f ta tb) := by
  refine ⟨w2_mono ha.mono hb.mono fun t u ρ Q Q' h ⟨x, y, z, h1, h2, h3, q⟩ => ⟨x, y, z, h1, h2, h3, h _ _ q⟩, fun C W n hC hn tk => (pe_cmpR ho (ha.run C W n hC hn tk) (hb.run C W (n + 1) hC (by omega) tk) hm).imp fun σ H Q h => ?_⟩
  refine two ha.mono hb.mono hn h fun O ρ2 t u v w H2 O2 R2 F V1 V2 ⟨x, y, z, h1, h2, h3, q⟩ => ?_
  refine hd H2 v w x y z Q (R2.viewH V1 h1) (R2.viewH V2 h2) h3 fun w' s => ?_
  obtain ⟨R3, V3⟩ := R2.fin_sc (N0 := 0) hn s
  exact q w' H2 _ R3 (F.trans (frm_cut C.N n H2 O2 hn) (Nat.le_refl _)) V3

/-! ### tests -/
/-- a value that is True or False, as a test -/
def wT (ta : TwE) : TwT := fun ρ Q E => ta ρ (fun t ρ1 => ∃ b, t = .d (.bool b) ∧ Q b ρ1) E
theorem val_bool {K : PySem.W.Frag} {H : Hp} {O : Own} {n : Nat} {v : V} {b : Bool} (h : Val K H O n v (.d (.bool b))) : v = .bl b := by
  have h := h.1
  cases h with | d h => cases h; rfl
theorem lt_val {e : Expr} (h : LE X e ta) (he : ∀ whole, isTrue e X.env whole = (do let v ← whole; standAt e.pos; holding [v] (truthy v)) := by intro _; rfl) : LT X e (wT ta) := by
  refine ⟨fun ρ Q Q' E E' k ke q => h.mono ρ _ _ E E' (fun t ρ1 ⟨b, e, q⟩ => ⟨b, e, k _ _ q⟩) ke q, fun C W n hC hn tk => (pt_val (h.run C W n hC hn tk) he).imp fun σ H Q ⟨O, ρ, R, q⟩ => ?_⟩
  refine ⟨O, ρ, R, h.mono ρ _ _ _ _ (fun t ρ1 ⟨b, e, q⟩ => ?_) (fun _ _ z => z) q⟩
  subst e
  intro v H1 O1 R1 F1 V1
  exact ⟨b, val_bool V1, q H1 _ (R1.cut hn) (F1.trans (frm_cut C.N n H1 O1 hn) (Nat.le_refl _))⟩
theorem lt_cmp {op : CmpOp} {r : R2} {f : PyData → PyData → PyData → Prop} (ho : OpR X (compareOp op) r) (hd : OpD X.K r f) (ha : LE X a ta) (hb : LE X b tb) (hm : behindInMarks op b = false) : LT X (.Compare a [op] [b] pos) (wT (wOp f ta tb)) := by
  refine ⟨fun ρ Q Q' E E' k ke q => wOp_mono ha.mono hb.mono ρ _ _ E E' (fun t ρ1 ⟨b, e, q⟩ => ⟨b, e, k _ _ q⟩) ke q,
    fun C W n hC hn tk => (pt_cmpR ho (ha.run C W n hC hn tk) (hb.run C W (n + 1) hC (by omega) tk) hm).imp fun σ H Q ⟨O, ρ, R, h⟩ => ?_⟩
  refine two (ta := ta) (tb := tb) (k := fun t u ρ2 Q' => ∃ x y b, vw ρ2 t = some x ∧ vw ρ2 u = some y ∧ f x y (.bool b) ∧ Q' (.d (.bool b)) ρ2) (Q := fun x H' => ∃ k, x = V.bl k ∧ Q k H') ha.mono hb.mono hn
    ⟨O, ρ, R, ha.mono ρ _ _ _ _ (fun t ρ1 q1 => hb.mono ρ1 _ _ _ _ (fun u ρ2 ⟨x, y, z, h1, h2, h3, b, e, q⟩ => ?_) (fun _ _ z => z) q1) (fun _ _ z => z) h⟩ fun O ρ2 t u v w H2 O2 R2 F V1 V2 ⟨x, y, b, h1, h2, h3, q⟩ => ?_
  · refine hd H2 v w x y (.bool b) _ (R2.viewH V1 h1) (R2.viewH V2 h2) h3 fun w' s => ?_
    obtain ⟨R3, V3⟩ := R2.fin_sc (N0 := 0) hn s
    exact q w' H2 _ R3 (F.trans (frm_cut C.N n H2 O2 hn) (Nat.le_refl _)) V3
  · cases e
    refine ⟨x, y, b, h1, h2, h3, fun v H' O' R' F' V' => ⟨b, val_bool V', q H' _ (R'.cut hn) (F'.trans (frm_cut C.N n H' O' hn) (Nat.le_refl _))⟩⟩
def wAnd (t u : TwT) : TwT := fun ρ Q E => t ρ (fun b ρ1 => if b = true then u ρ1 Q E else Q false ρ1) E
def wOr (t u : TwT) : TwT := fun ρ Q E => t ρ (fun b ρ1 => if b = true then Q true ρ1 else u ρ1 Q E) E
def wNot (t : TwT) : TwT := fun ρ Q E => t ρ (fun b ρ1 => Q (!b) ρ1) E
variable {tA tB : TwT} {rest : List Expr}
theorem wAnd_mono (ha : MonE tA) (hb : MonE tB) : MonE (wAnd tA tB) := fun ρ Q Q' E E' h he q => ha ρ _ _ E E' (fun b ρ1 q => by
  cases b with
  | true => exact hb ρ1 Q Q' E E' h he q
  | false => exact h _ _ q) he q
theorem wOr_mono (ha : MonE tA) (hb : MonE tB) : MonE (wOr tA tB) := fun ρ Q Q' E E' h he q => ha ρ _ _ E E' (fun b ρ1 q => by
  cases b with
  | false => exact hb ρ1 Q Q' E E' h he q
  | true => exact h _ _ q) he q
theorem wNot_mono (ha : MonE tA) : MonE (wNot tA) := fun ρ Q Q' E E' h he q => ha ρ _ _ E E' (fun b ρ1 q => h _ _ q) he q
theorem lw_and1 (ha : LT X a tA) : LW X (.BoolOp .And [a] pos) tA := ⟨ha.mono, fun C W n hC hn tk => pw_and1 (ha.run C W n hC hn tk)⟩
theorem lw_or1 (ha : LT X a tA) : LW X (.BoolOp .Or [a] pos) tA := ⟨ha.mono, fun C W n hC hn tk => pw_or1 (ha.run C W n hC hn tk)⟩
theorem lw_and (ha : LT X a tA) (hb : LW X (.BoolOp .And (b :: rest) pos) tB) : LW X (.BoolOp .And (a :: b :: rest) pos) (wAnd tA tB) := by
  refine ⟨wAnd_mono ha.mono hb.mono, fun C W n hC hn tk => (pw_and (ha.run C W n hC hn tk) (hb.run C W n hC hn tk)).imp fun σ H Q ⟨O, ρ, R, q⟩ => ?_⟩
  refine ⟨O, ρ, R, ha.mono ρ _ _ _ _ (fun b ρ1 q1 => ?_) (fun _ _ z => z) q⟩
  intro H1 O1 R1 F1
  cases b with
  | true => exact ⟨O1, ρ1, R1, hb.mono ρ1 _ _ _ _ (fun b ρ2 q2 H2 O2 R2 F2 => q2 H2 O2 R2 (F1.trans F2 (Nat.le_refl _))) (fun c ρ' z => exK.on F1.fre c ρ' z) q1⟩
  | false => exact q1 H1 O1 R1 F1
theorem lw_or (ha : LT X a tA) (hb : LW X (.BoolOp .Or (b :: rest) pos) tB) : LW X (.BoolOp .Or (a :: b :: rest) pos) (wOr tA tB) := by
  refine ⟨wOr_mono ha.mono hb.mono, fun C W n hC hn tk => (pw_or (ha.run C W n hC hn tk) (hb.run C W n hC hn tk)).imp fun σ H Q ⟨O, ρ, R, q⟩ => ?_⟩
  refine ⟨O, ρ, R, ha.mono ρ _ _ _ _ (fun b ρ1 q1 => ?_) (fun _ _ z => z) q⟩
  intro H1 O1 R1 F1
  cases b with
  | false => exact ⟨O1, ρ1, R1, hb.mono ρ1 _ _ _ _ (fun b ρ2 q2 H2 O2 R2 F2 => q2 H2 O2 R2 (F1.trans F2 (Nat.le_refl _))) (fun c ρ' z => exK.on F1.fre c ρ' z) q1⟩
  | true => exact q1 H1 O1 R1 F1
theorem lt_not (ha : LT X a tA) : LT X (.UnaryOp .Not a pos) (wNot tA) := ⟨wNot_mono ha.mono, fun C W n hC hn tk => (pt_not (ha.run C W n hC hn tk)).imp fun σ H Q ⟨O, ρ, R, q⟩ => ⟨O, ρ, R, q⟩⟩

/-! ### and, or, not as values; a if t else b -/
def wAndV (ta tb : TwE) : TwE := fun ρ Q E => ta ρ (fun t ρ1 => ∃ c, t = .d (.bool c) ∧ if c = true then tb ρ1 Q E else Q (.d (.bool false)) ρ1) E
def wOrV (ta tb : TwE) : TwE := fun ρ Q E => ta ρ (fun t ρ1 => ∃ c, t = .d (.bool c) ∧ if c = true then Q (.d (.bool true)) ρ1 else tb ρ1 Q E) E
def wNotV (ta : TwE) : TwE := fun ρ Q E => ta ρ (fun t ρ1 => ∃ c, t = .d (.bool c) ∧ Q (.d (.bool (!c))) ρ1) E
theorem le_one {op} (h : LE X a ta) : LE X (.BoolOp op [a] pos) ta := ⟨h.mono, fun C W n hC hn tk => pe_one (h.run C W n hC hn tk)⟩
/-- behind a value that is let go, another one at the same root -/
theorem again {K : PySem.W.Frag} {C : Ctx} {W : WX} {n : Nat} {σ : St} {H H1 : Hp} {O O1 : Own} {ρ1 : Rho} {Q : VK} (hn : C.N ≤ n) (R1 : Rel K C (n + 1) σ H1 O1 ρ1) (F1 : Frm C.N n H O H1 O1) (hb : MonE tb)
    (q : tb ρ1 (fun t ρ' => ∀ v H' O', Rel K C (n + 1) σ H' O' ρ' → Frm C.N n H O H' O' → Val K H' O' n v t → Q v H') (exK K C W H O)) : lfE K C W n tb σ H1 Q := by
  have F : Frm C.N n H O H1 (cut n O1) := F1.trans (frm_cut C.N n H1 O1 hn) (Nat.le_refl _)
  exact ⟨cut n O1, ρ1, R1.cut hn, hb ρ1 _ _ _ _ (fun t ρ2 q2 v H2 O2 R2 F2 V2 => q2 v H2 O2 R2 (F.trans F2 (Nat.le_refl _)) V2) (fun c ρ' z => exK.on F.fre c ρ' z) q⟩
theorem le_and (ha : LE X a ta) (hb : LE X (.BoolOp .And (b :: rest) pos) tb) : LE X (.BoolOp .And (a :: b :: rest) pos) (wAndV ta tb) := by
  refine ⟨fun ρ Q Q' E E' k ke q => ha.mono ρ _ _ E E' (fun t ρ1 ⟨c, e, q⟩ => ⟨c, e, ?_⟩) ke q, fun C W n hC hn tk => (pe_and (ha.run C W n hC hn tk) (hb.run C W n hC hn tk)).imp fun σ H Q ⟨O, ρ, R, q⟩ => ?_⟩
  · refine ⟨O, ρ, R, ha.mono ρ _ _ _ _ (fun t ρ1 ⟨c, e, q⟩ => ?_) (fun _ _ z => z) q⟩
    subst e
    intro v H1 O1 R1 F1 V1
    refine ⟨c, val_bool V1, ?_⟩
    cases c with
    | true => exact again hn R1 F1 hb.mono q
    | false => exact q _ H1 _ ((R1.cut hn).up (Nat.le_succ _)) (F1.trans (frm_cut C.N n H1 O1 hn) (Nat.le_refl _)) ((R1.cut hn).val_d (.bl _))
  · cases c with
    | true => exact hb.mono ρ1 Q Q' E E' k ke q
    | false => exact k _ _ q
theorem le_not (ha : LE X a ta) : LE X (.UnaryOp .Not a pos) (wNotV ta) := by
  refine ⟨fun ρ Q Q' E E' k ke q => ha.mono ρ _ _ E E' (fun t ρ1 ⟨c, e, q⟩ => ⟨c, e, k _ _ q⟩) ke q, fun C W n hC hn tk => (pe_not (ha.run C W n hC hn tk)).imp fun σ H Q ⟨O, ρ, R, q⟩ => ?_⟩
  refine ⟨O, ρ, R, ha.mono ρ _ _ _ _ (fun t ρ1 ⟨c, e, q⟩ => ?_) (fun _ _ z => z) q⟩
  subst e
  intro v H1 O1 R1 F1 V1
  exact ⟨c, val_bool V1, q _ H1 _ ((R1.cut hn).up (Nat.le_succ _)) (F1.trans (frm_cut C.N n H1 O1 hn) (Nat.le_refl _)) ((R1.cut hn).val_d (.bl _))⟩
def wIf (t : TwT) (ta tb : TwE) : TwE := fun ρ Q E => t ρ (fun b ρ1 => if b = true then ta ρ1 Q E else tb ρ1 Q E) E
theorem le_if (hc : LT X c tA) (ha : LE X a ta) (hb : LE X b tb) : LE X (.IfExp c a b pos) (wIf tA ta tb) := by
  refine ⟨fun ρ Q Q' E E' k ke q => hc.mono ρ _ _ E E' (fun b ρ1 q => ?_) ke q, fun C W n hC hn tk => (pe_ifExp (hc.run C W n hC hn tk) (ha.run C W n hC hn tk) (hb.run C W n hC hn tk)).imp fun σ H Q ⟨O, ρ, R, q⟩ => ?_⟩
  · cases b with
    | true => exact ha.mono ρ1 Q Q' E E' k ke q
    | false => exact hb.mono ρ1 Q Q' E E' k ke q
  · refine ⟨O, ρ, R, hc.mono ρ _ _ _ _ (fun b ρ1 q => ?_) (fun _ _ z => z) q⟩
    intro H1 O1 R1 F1
    cases b with
    | true => exact ⟨O1, ρ1, R1, ha.mono ρ1 _ _ _ _ (fun t ρ2 q2 v H2 O2 R2 F2 V2 => q2 v H2 O2 R2 (F1.trans F2 (Nat.le_refl _)) V2) (fun c ρ' z => exK.on F1.fre c ρ' z) q⟩
    | false => exact ⟨O1, ρ1, R1, hb.mono ρ1 _ _ _ _ (fun t ρ2 q2 v H2 O2 R2 F2 V2 => q2 v H2 O2 R2 (F1.trans F2 (Nat.le_refl _)) V2) (fun c ρ' z => exK.on F1.fre c ρ' z) q⟩

/-! ### arguments -/
variable {es : List Expr} {tas : TwA} {e : Expr}
def wNil : TwA := fun ρ Q _ => Q [] ρ
def wCons (ta : TwE) (tr : TwA) : TwA := fun ρ Q E => ta ρ (fun t ρ1 => tr ρ1 (fun ts ρ2 => Q (t :: ts) ρ2) E) E
theorem la_nil : LA X [] wNil := ⟨fun ρ Q Q' E E' h _ q => h _ _ q, fun ρ Q E q => ⟨rfl, q⟩, fun C W n hC hn tk => pa_nil.imp fun σ H Q ⟨O, ρ, R, q⟩ => q [] H O R .refl .nil⟩
theorem wCons_mono {tas : TwA} (ha : MonE ta) (hr : MonE tas) : MonE (wCons ta tas) := fun ρ Q Q' E E' h he q => ha ρ _ _ E E' (fun t ρ1 q1 => hr ρ1 _ _ E E' (fun ts ρ2 q2 => h _ _ q2) he q1) he q
theorem la_cons (ha : LE X e ta) (hr : LA X es tas) (hs : starEach (e :: es) X.env = (false, eval e X.env) :: starEach es X.env := by rfl) : LA X (e :: es) (wCons ta tas) := by
  refine ⟨wCons_mono ha.mono hr.mono, fun ρ Q E q => ha.mono ρ _ _ E E (fun t ρ1 q1 => hr.mono ρ1 _ _ E E (fun ts ρ2 z => ⟨by rw [List.length_cons, List.length_cons, z.1], z.2⟩) (fun _ _ z => z) (hr.len ρ1 _ E q1)) (fun _ _ z => z) q, fun C W n hC hn tk => (pa_cons (ha.run C W n hC hn tk) (hr.run C W (n + 1) hC (by omega) tk) hs).imp fun σ H Q ⟨O, ρ, R, q⟩ => ?_⟩
  refine ⟨O, ρ, R, ha.mono ρ _ _ _ _ (fun t ρ1 q1 => ?_) (fun _ _ z => z) q⟩
  intro v H1 O1 R1 F1 V1
  refine ⟨O1, ρ1, R1, hr.mono ρ1 _ _ _ _ (fun ts ρ2 q2 => ?_) (fun c ρ' z => exK.on F1.fre c ρ' z) q1⟩
  intro vs H2 O2 R2 F2 V2
  refine q2 (v :: vs) H2 O2 (by rw [List.length_cons, show n + (ts.length + 1) = n + 1 + ts.length by omega]; exact R2) (F1.trans F2 (Nat.le_succ n)) (.cons (V1.carry hn R1.lt R1.nt F2) V2)
end
end TX

/-! What the operators and the built-ins do to data. -/
namespace TX
open PySem PySem.Spec L2

/-! ### data in the machine's heap -/
def LD (H : Hp) (as : List Addr) : Prop := ∀ x ∈ as, ∃ o, H x = some o ∧ isLD o = true
theorem LD.nil {H : Hp} : LD H [] := fun x h => absurd h (by simp)
theorem LD.app {H : Hp} {as bs : List Addr} (a : LD H as) (b : LD H bs) : LD H (as ++ bs) := fun x h => (List.mem_append.mp h).elim (a x) (b x)
section
variable {X : Cx} {pins : List (Addr × Obj)} {σ : St} {H : Hp} {s : Shared}
theorem key_reads {h : Heap} {k : Key} {u : Value} (e : RelV (kV k) u) : Reads h u (keyD k) [] := by
  cases k with
  | inl i => obtain ⟨t, rfl⟩ := e; exact .int i t
  | inr x => obtain ⟨t, rfl⟩ := e; exact .str x t
theorem keyIs_reads {h : Heap} {k : Key} {u : Value} (e : keyIs k u = true) : Reads h u (keyD k) [] := by
  rcases keyIs_shape e with ⟨i, t, rfl, rfl⟩ | ⟨x, t, rfl, rfl⟩
  · exact .int i t
  · exact .str x t
theorem keys_reads {h : Heap} : ∀ {ks : List Key} {us : List Value}, Vals (ks.map kV) us → ReadsAll h us (ks.map keyD) []
  | [], _, r => by cases r; exact .nil
  | k :: ks, _, r => by
    cases r with
    | cons r1 r2 => exact ReadsAll.cons (as := []) (bs := []) (key_reads r1) (keys_reads r2)
theorem pairs_keys {P : Program} {w : World} {h : Heap} : ∀ {es : List DictEntry} {vs : List (Key × Value)} {kvs : List (Key × V)}, Pairs (mixKind P w) es vs → KV kvs vs → ReadsAll h (es.map (·.key)) (kvs.map fun q => keyD q.1) []
  | [], _, _, a, b => by cases a; cases b; exact .nil
  | e :: es, _, _, a, b => by
    cases a with
    | cons a1 a2 a3 =>
      cases b with
      | cons b1 b2 => exact ReadsAll.cons (as := []) (bs := []) (by dsimp only; rw [b1.1]; exact keyIs_reads a1) (pairs_keys a3 b2)
theorem pairs_vals {P : Program} {w : World} : ∀ {es : List DictEntry} {vs : List (Key × Value)} {kvs : List (Key × V)}, Pairs (mixKind P w) es vs → KV kvs vs → Vals (kvs.map (·.2)) (es.map (·.val))
  | [], _, _, a, b => by cases a; cases b; exact .nil
  | e :: es, _, _, a, b => by
    cases a with
    | cons a1 a2 a3 =>
      cases b with
      | cons b1 b2 => exact .cons (by dsimp only; rw [a2]; exact b1.2) (pairs_vals a3 b2)
theorem tups_keys (I : Inv X pins σ H s) {P : Program} {w : World} : ∀ {xs : List (List Key × Addr × Value)} {kvs : List (List Key × V)},
    Paired (fun (p : List Key × V) (q : List Key × Addr × Value) => p.1 = q.1 ∧ H q.2.1 = some (.tup (p.1.map kV)) ∧ RelV p.2 q.2.2) kvs xs →
      ReadsAll s.heap ((xs.map (entryOfKey (tupleKind (mixKind P w)))).map (·.key)) (kvs.map fun q => PyData.tuple (q.1.map keyD)) [] ∧ Vals (kvs.map (·.2)) ((xs.map (entryOfKey (tupleKind (mixKind P w)))).map (·.val))
  | [], _, a => by cases a; exact ⟨.nil, .nil⟩
  | x :: xs, _, a => by
    cases a with
    | cons a1 a2 =>
      obtain ⟨r1, r2⟩ := tups_keys I a2
      obtain ⟨e1, e2, e3⟩ := a1
      obtain ⟨_, its, rv, o, ho, hc, n, hd⟩ := I.hok _ _ e2
      exact ⟨ReadsAll.cons (as := []) (bs := []) (Reads.tuple ho hc hd (keys_reads rv)) r1, .cons e3 r2⟩
mutual
theorem Rp.reads (I : Inv X pins σ H s) : ∀ (d : PyData) (v : V) (u : Value), Rp X.K H v d → RelV v u → ∃ as, Reads s.heap u d as ∧ LD H as
  | .none, _, _, h, r => by cases h; cases r; exact ⟨_, Reads.none, .nil⟩
  | .bool b, _, _, h, r => by cases h; cases r; exact ⟨_, Reads.bool b, .nil⟩
  | .int i, _, _, h, r => by cases h; obtain ⟨t, rfl⟩ := r; exact ⟨_, Reads.int i t, .nil⟩
  | .str x, _, _, h, r => by cases h; obtain ⟨t, rfl⟩ := r; exact ⟨_, Reads.str x t, .nil⟩
  | .list ds, _, _, h, r => by
    cases h with
    | lst hs ha =>
      cases r
      obtain ⟨_, its, n, rv, e⟩ := I.hok _ _ hs
      obtain ⟨as, h1, h2⟩ := RpAll.reads I ds _ its ha rv
      exact ⟨_, Reads.list e rfl rfl h1, fun x hx => (List.mem_cons.mp hx).elim (fun z => ⟨_, z ▸ hs, rfl⟩) (h2 x)⟩
  | .tuple ds, _, _, h, r => by
    cases h with
    | tup hs ha =>
      cases r
      obtain ⟨_, its, rv, o, ho, hc, n, hd⟩ := I.hok _ _ hs
      obtain ⟨as, h1, h2⟩ := RpAll.reads I ds _ its ha rv
      exact ⟨_, Reads.tuple ho hc hd h1, h2⟩
  | .dict ps, _, _, h, r => by
    cases h with
    | dk hs hk ha =>
      cases r
      obtain ⟨z, hz, vs, kv, o, es, ep, ho, ex, hd, ko, pr, nd⟩ := hs.ok I.hok
      obtain ⟨as, h1, h2⟩ := RpAll.readsKv I ps _ _ ha (pairs_vals pr kv)
      refine ⟨_, Reads.dict ho ex.1 hd (by rw [hk]; exact pairs_keys pr kv) h1, ?_⟩
      refine fun x hx => (List.mem_cons.mp (show x ∈ _ :: as from by simpa using hx)).elim (fun z => ?_) (h2 x)
      subst z
      rcases hs with hs | ⟨o, hs⟩
      · exact ⟨_, hs, rfl⟩
      · exact ⟨_, hs, rfl⟩
    | dt hs hk ha =>
      cases r
      obtain ⟨z, hz, xs, pr, o, es, ep, ho, ex, hd, he, nd⟩ := hs.ok I.hok
      obtain ⟨k1, k2⟩ := tups_keys (P := X.prog) (w := X.w) I pr
      rw [← he] at k1 k2
      obtain ⟨as, h1, h2⟩ := RpAll.readsKv I ps _ _ ha k2
      refine ⟨_, Reads.dict ho ex.1 hd (by rw [hk]; exact k1) h1, ?_⟩
      refine fun x hx => (List.mem_cons.mp (show x ∈ _ :: as from by simpa using hx)).elim (fun z => ?_) (h2 x)
      subst z
      rcases hs with hs | ⟨o, hs⟩
      · exact ⟨_, hs, rfl⟩
      · exact ⟨_, hs, rfl⟩
theorem RpAll.reads (I : Inv X pins σ H s) : ∀ (ds : List PyData) (vs : List V) (us : List Value), RpAll X.K H vs ds → Vals vs us → ∃ as, ReadsAll s.heap us ds as ∧ LD H as
  | [], _, _, h, r => by cases h; cases r; exact ⟨_, .nil, .nil⟩
  | d :: ds, _, _, h, r => by
    cases h with
    | cons h1 h2 =>
      cases r with
      | cons r1 r2 =>
        obtain ⟨as, q1, l1⟩ := Rp.reads I d _ _ h1 r1
        obtain ⟨bs, q2, l2⟩ := RpAll.reads I ds _ _ h2 r2
        exact ⟨_, .cons q1 q2, l1.app l2⟩
theorem RpAll.readsKv (I : Inv X pins σ H s) : ∀ (ps : List (PyData × PyData)) (vs : List V) (us : List Value), RpAll X.K H vs (ps.map (·.2)) → Vals vs us → ∃ as, ReadsAll s.heap us (ps.map (·.2)) as ∧ LD H as
  | [], _, _, h, r => by cases h; cases r; exact ⟨_, .nil, .nil⟩
  | (k, d) :: ds, _, _, h, r => by
    cases h with
    | cons h1 h2 =>
      cases r with
      | cons r1 r2 =>
        obtain ⟨as, q1, l1⟩ := Rp.reads I d _ _ h1 r1
        obtain ⟨bs, q2, l2⟩ := RpAll.readsKv I ds _ _ h2 r2
        exact ⟨_, .cons q1 q2, l1.app l2⟩
end
end

/-! ### operators -/
section
variable {X : Cx}
def fI (g : Int → Int → Int) : PyData → PyData → PyData → Prop := fun x y z => ∃ i j, x = .int i ∧ y = .int j ∧ z = .int (g i j)
def fIc (C : Int → Int → Prop) (g : Int → Int → Int) : PyData → PyData → PyData → Prop := fun x y z => ∃ i j, x = .int i ∧ y = .int j ∧ C i j ∧ z = .int (g i j)
def fB (g : Int → Int → Bool) : PyData → PyData → PyData → Prop := fun x y z => ∃ i j, x = .int i ∧ y = .int j ∧ z = .bool (g i j)
theorem rp_int {K : PySem.W.Frag} {H : Hp} {v : V} {i : Int} (h : Rp K H v (.int i)) : v = .int i := by cases h; rfl
theorem rp_str {K : PySem.W.Frag} {H : Hp} {v : V} {i : Str} (h : Rp K H v (.str i)) : v = .str i := by cases h; rfl
theorem rp_bool {K : PySem.W.Frag} {H : Hp} {v : V} {i : Bool} (h : Rp K H v (.bool i)) : v = .bl i := by cases h; rfl
theorem rp_none {K : PySem.W.Frag} {H : Hp} {v : V} (h : Rp K H v .none) : v = .non := by cases h; rfl
theorem od_I {K : PySem.W.Frag} (g : Int → Int → Int) : OpD K (rI0 fun i j => .int (g i j)) (fI g) := by
  rintro H v u x y z Q h1 h2 ⟨i, j, rfl, rfl, rfl⟩ q
  rw [rp_int h1, rp_int h2]
  exact ⟨i, j, rfl, rfl, q _ (.int _)⟩
theorem od_Ic {K : PySem.W.Frag} (C : Int → Int → Prop) (g : Int → Int → Int) : OpD K (rI C fun i j => .int (g i j)) (fIc C g) := by
  rintro H v u x y z Q h1 h2 ⟨i, j, rfl, rfl, c, rfl⟩ q
  rw [rp_int h1, rp_int h2]
  exact ⟨i, j, rfl, rfl, c, q _ (.int _)⟩
theorem od_B {K : PySem.W.Frag} (g : Int → Int → Bool) : OpD K (rI0 fun i j => .bl (g i j)) (fB g) := by
  rintro H v u x y z Q h1 h2 ⟨i, j, rfl, rfl, rfl⟩ q
  rw [rp_int h1, rp_int h2]
  exact ⟨i, j, rfl, rfl, q _ (.bl _)⟩
/-- a power whose size is bounded -/
def CPowW (i j : Int) : Prop := 0 ≤ j ∧ (Builtin.Int.intBits i : Int) * j ≤ 2 ^ 27
theorem op_powW : OpR X (binaryOp .Pow) (rI CPowW fun i j => .int (i ^ j.toNat)) := opI fun _ _ _ _ _ _ _ hc q => PyProof.Rows.pow_int hc.1 hc.2 q
variable {a b : Expr} {ta tb : TwE} {pos : Pos}
theorem le_add (ha : LE X a ta) (hb : LE X b tb) : LE X (.BinOp a .Add b pos) (wOp (fI (· + ·)) ta tb) := le_op op_add (od_I _) ha hb
theorem le_sub (ha : LE X a ta) (hb : LE X b tb) : LE X (.BinOp a .Sub b pos) (wOp (fI (· - ·)) ta tb) := le_op op_sub (od_I _) ha hb
theorem le_mul (ha : LE X a ta) (hb : LE X b tb) : LE X (.BinOp a .Mult b pos) (wOp (fIc CMulW (· * ·)) ta tb) := le_op op_mulW (od_Ic _ _) ha hb
theorem le_mod (ha : LE X a ta) (hb : LE X b tb) : LE X (.BinOp a .Mod b pos) (wOp (fIc (fun _ j => 0 < j) (· % ·)) ta tb) := le_op op_mod (od_Ic _ _) ha hb
theorem le_fdiv (ha : LE X a ta) (hb : LE X b tb) : LE X (.BinOp a .FloorDiv b pos) (wOp (fIc CDivW (· / ·)) ta tb) := le_op op_fdivW (od_Ic _ _) ha hb
theorem le_pow (ha : LE X a ta) (hb : LE X b tb) : LE X (.BinOp a .Pow b pos) (wOp (fIc CPowW (fun i j => i ^ j.toNat)) ta tb) := le_op op_powW (od_Ic _ _) ha hb
/-- == of data: none, truths, ints, texts, lists, tuples -/
def fEq : PyData → PyData → PyData → Prop := fun x y z => (SeqAt.shaped x = true ∧ SeqAt.shaped y = true ∧ z = .bool (PyData.eqv x y)) ∨ ∃ a b, x = .str a ∧ y = .str b ∧ z = .bool ((a == b))
def fNe : PyData → PyData → PyData → Prop := fun x y z => (SeqAt.shaped x = true ∧ SeqAt.shaped y = true ∧ z = .bool (!PyData.eqv x y)) ∨ ∃ a b, x = .str a ∧ y = .str b ∧ z = .bool (!(a == b))
def rEqX (K : PySem.W.Frag) : R2 := fun x y H Q => ∃ d e, Rp K H x d ∧ Rp K H y e ∧ SeqAt.shaped d = true ∧ SeqAt.shaped e = true ∧ Q (.bl (PyData.eqv d e)) H
def rTEq : R2 := fun x y H Q => ∃ a b, x = .str a ∧ y = .str b ∧ Q (.bl ((a == b))) H
def rNeX (K : PySem.W.Frag) : R2 := fun x y H Q => ∃ d e, Rp K H x d ∧ Rp K H y e ∧ SeqAt.shaped d = true ∧ SeqAt.shaped e = true ∧ Q (.bl (!PyData.eqv d e)) H
def rTNe : R2 := fun x y H Q => ∃ a b, x = .str a ∧ y = .str b ∧ Q (.bl (!(a == b))) H
theorem op_eqT : OpR X (compareOp .Eq) rTEq := by
  rintro pins s σ H x y v u Q I rx ry ⟨a, b, rfl, rfl, q⟩
  exact op_eq pins s σ H _ _ v u Q I rx ry ⟨rfl, by rw [dec_str]; exact q⟩
theorem op_eqX (hu : X.A.units + 64 < cLine) : OpR X (compareOp .Eq) (fun x y H Q => rEqX X.K x y H Q ∨ rTEq x y H Q) := by
  refine OpR.or ?_ op_eqT
  rintro pins s σ H x y v u Q I rx ry ⟨d, e, hd, he, sd, se, q⟩
  obtain ⟨as, r1, _⟩ := Rp.reads I d x v hd rx
  obtain ⟨bs, r2, _⟩ := Rp.reads I e y u he ry
  exact SeqAt.compareEq_shaped r1 r2 sd se hu ⟨.bl _, H, I, rfl, q⟩
theorem op_neT : OpR X (compareOp .NotEq) rTNe := by
  rintro pins s σ H x y v u Q I rx ry ⟨a, b, rfl, rfl, q⟩
  exact op_ne pins s σ H _ _ v u Q I rx ry ⟨rfl, by rw [dec_str]; exact q⟩
theorem op_neX (hu : X.A.units + 64 < cLine) : OpR X (compareOp .NotEq) (fun x y H Q => rNeX X.K x y H Q ∨ rTNe x y H Q) := by
  refine OpR.or ?_ op_neT
  rintro pins s σ H x y v u Q I rx ry ⟨d, e, hd, he, sd, se, q⟩
  obtain ⟨as, r1, _⟩ := Rp.reads I d x v hd rx
  obtain ⟨bs, r2, _⟩ := Rp.reads I e y u he ry
  exact SeqAt.compareNe_shaped r1 r2 sd se hu ⟨.bl _, H, I, rfl, q⟩
theorem od_Eq {K : PySem.W.Frag} : OpD K (fun x y H Q => rEqX K x y H Q ∨ rTEq x y H Q) fEq := by
  rintro H v u x y z Q h1 h2 (⟨s1, s2, rfl⟩ | ⟨a, b, rfl, rfl, rfl⟩) q
  · exact .inl ⟨x, y, h1, h2, s1, s2, q _ (.bl _)⟩
  · rw [rp_str h1, rp_str h2]; exact .inr ⟨a, b, rfl, rfl, q _ (.bl _)⟩
theorem od_Ne {K : PySem.W.Frag} : OpD K (fun x y H Q => rNeX K x y H Q ∨ rTNe x y H Q) fNe := by
  rintro H v u x y z Q h1 h2 (⟨s1, s2, rfl⟩ | ⟨a, b, rfl, rfl, rfl⟩) q
  · exact .inl ⟨x, y, h1, h2, s1, s2, q _ (.bl _)⟩
  · rw [rp_str h1, rp_str h2]; exact .inr ⟨a, b, rfl, rfl, q _ (.bl _)⟩
/-- x in a list | a tuple of data -/
def fIn (neg : Bool) : PyData → PyData → PyData → Prop := fun x y z => ∃ ds, y = .list ds ∧ SeqAt.shaped x = true ∧ SeqAt.shaped y = true ∧ z = .bool (neg != (ds.any fun w => PyData.eqv w x))
def rInX (K : PySem.W.Frag) (neg : Bool) : R2 := fun x y H Q => ∃ d ds, Rp K H x d ∧ Rp K H y (.list ds) ∧ SeqAt.shaped d = true ∧ SeqAt.shaped (.list ds) = true ∧ Q (.bl (neg != (ds.any fun z => PyData.eqv z d))) H
theorem op_inX (hu : X.A.units + 65 < cLine) : OpR X (compareOp .In) (rInX X.K false) := by
  rintro pins s σ H x y v u Q I rx ry ⟨d, ds, hd, he, sd, se, q⟩
  obtain ⟨as, r1, _⟩ := Rp.reads I d x v hd rx
  obtain ⟨bs, r2, _⟩ := Rp.reads I (.list ds) y u he ry
  exact SeqAt.in_list_reads r2 r1 (SeqAt.canLay_of_shaped se) (SeqAt.canLay_of_shaped sd) (PyProof.Rows.room_in_shaped sd hu) ⟨.bl _, H, I, rfl, by simpa using q⟩
theorem op_notinX (hu : X.A.units + 65 < cLine) : OpR X (compareOp .NotIn) (rInX X.K true) := by
  rintro pins s σ H x y v u Q I rx ry ⟨d, ds, hd, he, sd, se, q⟩
  obtain ⟨as, r1, _⟩ := Rp.reads I d x v hd rx
  obtain ⟨bs, r2, _⟩ := Rp.reads I (.list ds) y u he ry
  exact SeqAt.notIn_list_reads r2 r1 (SeqAt.canLay_of_shaped se) (SeqAt.canLay_of_shaped sd) (PyProof.Rows.room_in_shaped sd hu) ⟨.bl _, H, I, rfl, by simpa using q⟩
theorem od_In {K : PySem.W.Frag} {neg : Bool} : OpD K (rInX K neg) (fIn neg) := by rintro H v u x y z Q h1 h2 ⟨ds, rfl, s1, s2, rfl⟩ q; exact ⟨x, ds, h1, h2, s1, s2, q _ (.bl _)⟩
/-- is None -/
def fIsN (neg : Bool) : PyData → PyData → PyData → Prop := fun x y z => y = .none ∧ z = .bool (neg != (match x with | .none => true | _ => false))
theorem rp_isnone {K : PySem.W.Frag} {H : Hp} {v : V} {x : PyData} (h : Rp K H v x) : decide (v = .non) = (match x with | .none => true | _ => false) := by cases h <;> rfl
theorem od_isN {K : PySem.W.Frag} : OpD K (fun x y H Q => y = .non ∧ Q (.bl (decide (x = .non))) H) (fIsN false) := by
  rintro H v u x y z Q h1 h2 ⟨rfl, rfl⟩ q
  refine ⟨rp_none h2, q _ ?_⟩
  rw [rp_isnone h1]
  cases x <;> exact .bl _
theorem od_notN {K : PySem.W.Frag} : OpD K (fun x y H Q => y = .non ∧ Q (.bl (!decide (x = .non))) H) (fIsN true) := by
  rintro H v u x y z Q h1 h2 ⟨rfl, rfl⟩ q
  refine ⟨rp_none h2, q _ ?_⟩
  rw [rp_isnone h1]
  cases x <;> exact .bl _
theorem od_lt {K : PySem.W.Frag} : OpD K (rI0 fun i j => .bl (decide (i < j))) (fB fun i j => decide (i < j)) := od_B _
theorem od_le {K : PySem.W.Frag} : OpD K (rI0 fun i j => .bl (decide (i ≤ j))) (fB fun i j => decide (i ≤ j)) := od_B _
theorem od_gt {K : PySem.W.Frag} : OpD K (rI0 fun i j => .bl (decide (j < i))) (fB fun i j => decide (j < i)) := od_B _
end
end TX

/-! Calls of built-ins and of their methods; items, slices, displays. -/
namespace TX
open PySem PySem.Spec L2

section
variable {X : Cx} {pos : Pos} {a b c e : Expr} {es : List Expr} {ta tb tc : TwE} {tas : TwA}
/-- the end of an expression at root n, from (H0, O0) on -/
def Fin (K : PySem.W.Frag) (C : Ctx) (n : Nat) (σ : St) (H0 : Hp) (O0 : Own) (Q : VK) : T → Rho → Prop := fun t ρ' => ∀ v H' O', Rel K C (n + 1) σ H' O' ρ' → Frm C.N n H0 O0 H' O' → Val K H' O' n v t → Q v H'
theorem Fin.sc {K : PySem.W.Frag} {C : Ctx} {n m : Nat} {σ : St} {H0 H : Hp} {O0 O : Own} {Q : VK} {ρ : Rho} {x : PyData} (hn : C.N ≤ n) (R : Rel K C m σ H O ρ) (F : Frm C.N n H0 O0 H O) (q : Fin K C n σ H0 O0 Q (.d x) ρ) {v : V} (s : Sc v x) : Q v H := by
  obtain ⟨R3, V3⟩ := R.fin_sc (N0 := 0) hn s
  exact q v H _ R3 (F.trans (frm_cut C.N n H O hn) (Nat.le_refl _)) V3
theorem Fin.dat {K : PySem.W.Frag} {C : Ctx} {n m : Nat} {σ : St} {H0 H : Hp} {O0 O : Own} {Q : VK} {ρ : Rho} {x : PyData} (hn : C.N ≤ n) (R : Rel K C m σ H O ρ) (F : Frm C.N n H0 O0 H O) (q : Fin K C n σ H0 O0 Q (.d x) ρ) {v : V} (s : Rp K (msk O H) v x) : Q v H := by
  have R3 := R.cut (n := n) hn
  refine q v H _ (R3.up (Nat.le_succ _)) (F.trans (frm_cut C.N n H O hn) (Nat.le_refl _)) (R3.val_d (Rp.mono (fun b o e => ?_) _ _ s))
  obtain ⟨e1, e2⟩ := msk_some e
  rw [msk_of (cut_free e1)]; exact e2
theorem Fin.newL {K : PySem.W.Frag} {C : Ctx} {n m : Nat} {σ : St} {H0 H : Hp} {O0 O : Own} {Q : VK} {ρ : Rho} {ws : List V} {zs : List PyData} (hn : C.N ≤ n) (R : Rel K C m σ H O ρ) (F : Frm C.N n H0 O0 H O)
    (q : Fin K C n σ H0 O0 Q (.l (zs.map T.d)) ρ) (hz : RpAll K (msk O H) ws zs) (p : Addr) (hp : H p = none) : Q (.ref p) (upd H p (.lst ws)) := by
  obtain ⟨O', R', F', V'⟩ := R.newL hn hp hz
  exact q _ _ O' R' (F.trans F' (Nat.le_refl _)) V'
theorem Fin.newT {K : PySem.W.Frag} {C : Ctx} {n m : Nat} {σ : St} {H0 H : Hp} {O0 O : Own} {Q : VK} {ρ : Rho} {ws : List V} {zs : List PyData} (hn : C.N ≤ n) (R : Rel K C m σ H O ρ) (F : Frm C.N n H0 O0 H O)
    (q : Fin K C n σ H0 O0 Q (.d (.tuple zs)) ρ) (hz : RpAll K (msk O H) ws zs) (p : Addr) (hp : H p = none) : Q (.ref p) (upd H p (.tup ws)) := by
  obtain ⟨O', R', F', V'⟩ := R.newT hn hp hz
  exact q _ _ O' R' (F.trans F' (Nat.le_refl _)) V'

/-! ### a call's values, then what it does -/
abbrev KT := List T → Rho → (T → Rho → Prop) → Prop
def MonK (k : KT) : Prop := ∀ ts ρ (Q Q' : T → Rho → Prop), (∀ t ρ', Q t ρ' → Q' t ρ') → k ts ρ Q → k ts ρ Q'
def wFn (k : KT) (tas : TwA) : TwE := fun ρ Q E => tas ρ (fun ts ρ1 => k ts ρ1 Q) E
def FnK (K : PySem.W.Frag) (r : List V → Hp → VK → Prop) (k : KT) : Prop := ∀ (C : Ctx) (n m : Nat) (σ : St) (H0 H : Hp) (O0 O : Own) (ρ : Rho) (ts : List T) (vs : List V) (Q : VK), C.N ≤ n → n + ts.length ≤ m → Rel K C m σ H O ρ → Frm C.N n H0 O0 H O →
  ValAll K H O n vs ts → k ts ρ (Fin K C n σ H0 O0 Q) → r vs H Q
theorem wFn_mono {k : KT} (hk : MonK k) (ha : MonE tas) : MonE (wFn k tas) := fun ρ Q Q' E E' h he q => ha ρ _ _ E E' (fun ts ρ1 q1 => hk _ _ _ _ h q1) he q
theorem le_fn {e' : Expr} {r : List V → Hp → VK → Prop} {k : KT} (hp : ∀ t : TA, PA X es t → PE X e' (tCB r t)) (hk : MonK k) (hf : FnK X.K r k) (ha : LA X es tas) : LE X e' (wFn k tas) := by
  refine ⟨wFn_mono hk ha.mono, fun C W n hC hn tk => (hp _ (ha.run C W n hC hn tk)).imp fun σ H Q ⟨O, ρ, R, q⟩ => ?_⟩
  refine ⟨O, ρ, R, ha.mono ρ _ _ _ _ (fun ts ρ1 q1 => ?_) (fun _ _ z => z) q⟩
  intro vs H1 O1 R1 F1 V1
  exact hf C n _ σ H H1 O O1 ρ1 ts vs Q hn (Nat.le_refl _) R1 F1 V1 q1
theorem ValAll.one {K : PySem.W.Frag} {H : Hp} {O : Own} {n : Nat} {vs : List V} {t : T} (h : ValAll K H O n vs [t]) : ∃ v, vs = [v] ∧ Val K H O n v t := by
  cases h with | cons h1 h2 => cases h2; exact ⟨_, rfl, h1⟩
theorem ValAll.two {K : PySem.W.Frag} {H : Hp} {O : Own} {n : Nat} {vs : List V} {t u : T} (h : ValAll K H O n vs [t, u]) : ∃ v w, vs = [v, w] ∧ Val K H O n v t ∧ Val K H O (n + 1) w u := by
  cases h with | cons h1 h2 => cases h2 with | cons h2 h3 => cases h3; exact ⟨_, _, rfl, h1, h2⟩
/-- one value in, a scalar out -/
def k1 (f : PyData → PyData → Prop) : KT := fun ts ρ Q => ∃ t x z, ts = [t] ∧ vw ρ t = some x ∧ f x z ∧ Q (.d z) ρ
theorem k1_mono {f : PyData → PyData → Prop} : MonK (k1 f) := fun ts ρ Q Q' h ⟨t, x, z, e, e1, e2, q⟩ => ⟨t, x, z, e, e1, e2, h _ _ q⟩
theorem fnk1 {K : PySem.W.Frag} {r : List V → Hp → VK → Prop} {f : PyData → PyData → Prop} (h : ∀ H O v x z Q, Sm K H O → Rp K H v x → f x z → (∀ w, Sc w z → Q w H) → r [v] H Q) : FnK K r (k1 f) := by
  rintro C n m σ H0 H O0 O ρ ts vs Q hn hm R F V ⟨t, x, z, rfl, e1, e2, q⟩
  obtain ⟨v, rfl, V1⟩ := V.one
  exact h H O v x z Q R.smH (R.viewH V1 e1) e2 fun w s => q.sc hn R F s
def k2 (f : PyData → PyData → PyData → Prop) : KT := fun ts ρ Q => ∃ t u x y z, ts = [t, u] ∧ vw ρ t = some x ∧ vw ρ u = some y ∧ f x y z ∧ Q (.d z) ρ
theorem k2_mono {f : PyData → PyData → PyData → Prop} : MonK (k2 f) := fun ts ρ Q Q' h ⟨t, u, x, y, z, e, e1, e2, e3, q⟩ => ⟨t, u, x, y, z, e, e1, e2, e3, h _ _ q⟩
theorem fnk2 {K : PySem.W.Frag} {r : List V → Hp → VK → Prop} {f : PyData → PyData → PyData → Prop} (h : ∀ H v u x y z Q, Rp K H v x → Rp K H u y → f x y z → (∀ w, Sc w z → Q w H) → r [v, u] H Q) : FnK K r (k2 f) := by
  rintro C n m σ H0 H O0 O ρ ts vs Q hn hm R F V ⟨t, u, x, y, z, rfl, e1, e2, e3, q⟩
  obtain ⟨v, w, rfl, V1, V2⟩ := V.two
  exact h H v w x y z Q (R.viewH V1 e1) (R.viewH V2 e2) e3 fun w s => q.sc hn R F s

/-! ### len, max, min, abs, int, str -/
def fMax : PyData → PyData → PyData → Prop := fun x y z => ∃ i j, x = .int i ∧ y = .int j ∧ z = .int (max i j)
def fMin : PyData → PyData → PyData → Prop := fun x y z => ∃ i j, x = .int i ∧ y = .int j ∧ z = .int (min i j)
theorem fn_max : FnK X.K (fun xs H Q => ∃ i j, xs = [.int i, .int j] ∧ Q (.int (if j > i then j else i)) H) (k2 fMax) := fnk2 fun H v u x y z Q r1 r2 ⟨i, j, e1, e2, e3⟩ q => by
  subst e1; subst e2; subst e3
  rw [rp_int r1, rp_int r2]
  refine ⟨i, j, rfl, ?_⟩
  rw [show (if j > i then j else i) = max i j by split <;> omega]
  exact q _ (.int _)
theorem fn_min : FnK X.K (fun xs H Q => ∃ i j, xs = [.int i, .int j] ∧ Q (.int (if j < i then j else i)) H) (k2 fMin) := fnk2 fun H v u x y z Q r1 r2 ⟨i, j, e1, e2, e3⟩ q => by
  subst e1; subst e2; subst e3
  rw [rp_int r1, rp_int r2]
  refine ⟨i, j, rfl, ?_⟩
  rw [show (if j < i then j else i) = min i j by split <;> omega]
  exact q _ (.int _)
def fInt : PyData → PyData → Prop := fun x z => (∃ i, x = .int i ∧ z = .int i) ∨ ∃ k, x = .bool k ∧ z = .int (if k then 1 else 0)
theorem fn_int {K : PySem.W.Frag} : FnK K (fun xs H Q => (∃ i, xs = [.int i] ∧ Q (.int i) H) ∨ ∃ k, xs = [.bl k] ∧ Q (.int (if k then 1 else 0)) H) (k1 fInt) := fnk1 fun H O v x z Q _ r f q => by
  rcases f with ⟨i, rfl, rfl⟩ | ⟨k, rfl, rfl⟩
  · rw [rp_int r]; exact .inl ⟨i, rfl, q _ (.int _)⟩
  · rw [rp_bool r]; exact .inr ⟨k, rfl, q _ (.int _)⟩
variable {x : Str} {p : Pos}
theorem le_max (hc : X.calm = true) (hg : Gl X "max") (hm : X.mg "max" = none) (ha : LA X [a, b] tas) (he : starEach [a, b] X.env = (false, eval a X.env) :: starEach [b] X.env := by rfl) (hpl : (backTo pos (starEach [b] X.env)).any (·.1) = false := by rfl) : LE X (.Call (.Name "max" p) [a, b] [] pos) (wFn (k2 fMax) tas) := le_fn (fun t h => pe_callB (call_max2 hc) hg hm (by decide +kernel) h (he := he) (hpl := hpl)) k2_mono fn_max ha
theorem le_min (hc : X.calm = true) (hg : Gl X "min") (hm : X.mg "min" = none) (ha : LA X [a, b] tas) (he : starEach [a, b] X.env = (false, eval a X.env) :: starEach [b] X.env := by rfl) (hpl : (backTo pos (starEach [b] X.env)).any (·.1) = false := by rfl) : LE X (.Call (.Name "min" p) [a, b] [] pos) (wFn (k2 fMin) tas) := le_fn (fun t h => pe_callB (call_min2 hc) hg hm (by decide +kernel) h (he := he) (hpl := hpl)) k2_mono fn_min ha
theorem le_toInt (hg : Gl X "int") (hm : X.mg "int" = none) (ha : LA X [e] tas) (he : starEach [e] X.env = (false, eval e X.env) :: starEach [] X.env := by rfl) (hpl : (backTo pos (starEach [] X.env)).any (·.1) = false := by rfl) : LE X (.Call (.Name "int" p) [e] [] pos) (wFn (k1 fInt) tas) := le_fn (fun t h => pe_callTy call_int1 hg hm (by decide +kernel) h (he := he) (hpl := hpl)) k1_mono fn_int ha
/-! ### repr -/
section
variable {P : Program} {w : World} {g : Heap}
end
/-! ### isinstance of a built-in class -/
def tyD : PyData → String
  | .none => "NoneType"
  | .bool _ => "bool"
  | .int _ => "int"
  | .str _ => "str"
  | .list _ => "list"
  | .tuple _ => "tuple"
  | .dict _ => "dict"
theorem kit_rp {pins : List (Addr × Obj)} {σ : St} {H : Hp} {s : Shared} {v : V} {u : Value} {x : PyData} (I : Inv X pins σ H s) (rv : RelV v u) (h : Rp X.K H v x) : ∃ P : Heap → Prop, PySem.W.KitX X.K u (.type (tyD x)) P ∧ P s.heap ∧ u ≠ .builtin "__main__.__loader__#opaque" := by
  cases h with
  | non => cases rv; exact ⟨_, PySem.W.kitx_none, True.intro, fun z => nomatch z⟩
  | bl b => cases rv; exact ⟨_, PySem.W.kitx_bool, True.intro, fun z => nomatch z⟩
  | int i => obtain ⟨t, rfl⟩ := rv; exact ⟨_, PySem.W.kitx_int, True.intro, fun z => nomatch z⟩
  | str i => obtain ⟨t, rfl⟩ := rv; exact ⟨_, PySem.W.kitx_str, True.intro, fun z => nomatch z⟩
  | lst h1 _ => cases rv; obtain ⟨_, its, n, _, e⟩ := I.hok _ _ h1; exact ⟨_, PySem.W.kitx_list, ⟨_, e, rfl⟩, fun z => nomatch z⟩
  | tup h1 _ => cases rv; obtain ⟨_, its, _, o, e, c, _⟩ := I.hok _ _ h1; exact ⟨_, PySem.W.kitx_tuple, ⟨_, e, c⟩, fun z => nomatch z⟩
  | dk h1 _ _ => cases rv; obtain ⟨_, _, _, _, o, _, _, e, ex, _⟩ := h1.ok I.hok; exact ⟨_, PySem.W.kitx_dict, ⟨o, e, ex.1⟩, fun z => nomatch z⟩
  | dt h1 _ _ => cases rv; obtain ⟨_, _, _, _, o, _, _, e, ex, _⟩ := h1.ok I.hok; exact ⟨_, PySem.W.kitx_dict, ⟨o, e, ex.1⟩, fun z => nomatch z⟩
def rIsB (K : PySem.W.Frag) : List V → Hp → VK → Prop := fun vs H Q => ∃ v x n b, vs = [v, .ty n] ∧ Rp K H v x ∧ kitB (tyD x) n = some b ∧ Q (.bl b) H
theorem cr_isB : CallR X (.builtin "isinstance") (rIsB X.K) := by
  rintro pins s σ H vs us Q I r ⟨v, x, n, b, rfl, h, e, q⟩
  obtain ⟨u1, u2, rfl, r1, r2⟩ := vals2 r
  cases r2
  obtain ⟨P, Z, p, hx⟩ := kit_rp I r1 h
  exact PySem.W.kia_one Z I.kIn p (kit_ty e) hx fun tk => ⟨.bl b, H, I.tok tk, rfl, q⟩
def kIs : KT := fun ts ρ Q => ∃ t x n b, ts = [t, .raw (.ty n)] ∧ vw ρ t = some x ∧ kitB (tyD x) n = some b ∧ Q (.d (.bool b)) ρ
theorem kIs_mono : MonK kIs := fun ts ρ Q Q' h ⟨t, x, n, b, e, e1, e2, q⟩ => ⟨t, x, n, b, e, e1, e2, h _ _ q⟩
theorem val_raw {K : PySem.W.Frag} {H : Hp} {O : Own} {n : Nat} {v v' : V} (h : Val K H O n v (.raw v')) : v = v' := by
  have h := h.1
  cases h; rfl
theorem fn_isB {K : PySem.W.Frag} : FnK K (rIsB K) kIs := by
  rintro C n m σ H0 H O0 O ρ ts vs Q hn hm R F V ⟨t, x, c, b, rfl, e1, e2, q⟩
  obtain ⟨v, w, rfl, V1, V2⟩ := V.two
  rw [val_raw V2]
  exact ⟨v, x, c, b, rfl, R.viewH V1 e1, e2, q.sc hn R F (.bl _)⟩
theorem le_isB (hg : Gl X "isinstance") (hm : X.mg "isinstance" = none) (ha : LA X [a, b] tas) (he : starEach [a, b] X.env = (false, eval a X.env) :: starEach [b] X.env := by rfl) (hpl : (backTo pos (starEach [b] X.env)).any (·.1) = false := by rfl) :
    LE X (.Call (.Name "isinstance" p) [a, b] [] pos) (wFn kIs tas) := le_fn (fun t h => pe_callB cr_isB hg hm (by decide +kernel) h (he := he) (hpl := hpl)) kIs_mono fn_isB ha
/-- a built-in class as a value -/
theorem le_ty {n : String} {pos : Pos} (hg : Gl X x) (hm : X.mg x = none) (hv : bootBuiltins x = some (.type n)) (hn : x ≠ "__name__" := by decide) (hd : (x == ("__debug__" : Str)) = false := by decide) : LE X (.Name x pos) (wC (.raw (.ty n))) :=
  le_raw (pe_bltn hg hm hv rfl hn hd)

/-! ### lists out: list(..), sorted(..), +, slices -/
def kList : KT := fun ts ρ Q => ∃ t xs, ts = [t] ∧ (lsq ρ t = some xs ∨ tsq t = some xs) ∧ Q (.l (xs.map T.d)) ρ
theorem kList_mono : MonK kList := fun ts ρ Q Q' h ⟨t, xs, e, e1, q⟩ => ⟨t, xs, e, e1, h _ _ q⟩
theorem fn_list {K : PySem.W.Frag} : FnK K (fun xs H Q => ∃ p ys, xs = [.ref p] ∧ (SqL K H p ys ∨ SqT K H p ys) ∧ ∀ l, H l = none → Q (.ref l) (upd H l (.lst ys))) kList := by
  rintro C n m σ H0 H O0 O ρ ts vs Q hn hm R F V ⟨t, xs, rfl, e1, q⟩
  obtain ⟨v, rfl, V1⟩ := V.one
  rcases e1 with e1 | e1
  · obtain ⟨a, ys, rfl, h1, h2⟩ := R.lsqV V1 e1
    exact ⟨a, ys, rfl, .inl (.of h1), fun l hl => q.newL hn R F h2 l hl⟩
  · obtain ⟨a, ys, rfl, h1, h2⟩ := R.tsqV V1 e1
    exact ⟨a, ys, rfl, .inr (.of h1), fun l hl => q.newL hn R F h2 l hl⟩
theorem le_list (hg : Gl X "list") (hm : X.mg "list" = none) (ha : LA X [e] tas) (he : starEach [e] X.env = (false, eval e X.env) :: starEach [] X.env := by rfl) (hpl : (backTo pos (starEach [] X.env)).any (·.1) = false := by rfl) :
    LE X (.Call (.Name "list" p) [e] [] pos) (wFn kList tas) := le_fn (fun t h => pe_callTy call_list_of hg hm (by decide +kernel) h (he := he) (hpl := hpl)) kList_mono fn_list ha
theorem val_d {K : PySem.W.Frag} {H : Hp} {O : Own} {n : Nat} {v : V} {x : PyData} (h : Val K H O n v (.d x)) : Rp K (msk O H) v x := by
  have h := h.1
  cases h with | d h => exact h
/-- sorted(xs), of alike data -/
abbrev le0 : PyData → PyData → Bool := PySem.W.dataLe false fun d => d
def rSort (K : PySem.W.Frag) : List V → Hp → VK → Prop := fun vs H Q => ∃ a ws ds, vs = [.ref a] ∧ H a = some (.lst ws) ∧ RpAll K H ws ds ∧ PySem.W.AllAlike ds ∧ PySem.W.Sortable ds ∧ (∀ d ∈ ds, d.depth ≤ 60) ∧
  ∀ ys p, (∀ M : Hp, (∀ b o, M b = some o → H b = some o) → RpAll K M ws ds → RpAll K M ys (ds.mergeSort le0)) → H p = none → Q (.ref p) (upd H p (.lst ys))
theorem each_pair {R : Value → V → Prop} : ∀ {us : List Value} {ws : List V} {ds : List PyData}, Paired (fun v u => RelV v u) ws us → ws.length = ds.length → PySem.W.EachIs (fun u (b : PyData × V) => RelV b.2 u) us (ds.zip ws)
  | [], [], [], _, _ => .nil
  | u :: us, w :: ws, d :: ds, .cons r t, e => .cons r (each_pair (R := R) t (by simpa using e))
theorem each_out : ∀ {us : List Value} {bs : List (PyData × V)}, PySem.W.EachIs (fun u (b : PyData × V) => RelV b.2 u) us bs → Vals (bs.map (·.2)) us
  | _, _, .nil => .nil
  | _, _, .cons r t => .cons r (each_out t)
theorem rp_pairs {K : PySem.W.Frag} {M : Hp} {bs : List (PyData × V)} : ∀ {l : List (PyData × V)}, (∀ b ∈ l, Rp K M b.2 b.1) → RpAll K M (l.map (·.2)) (l.map (·.1))
  | [], _ => .nil
  | b :: l, h => .cons (h b List.mem_cons_self) (rp_pairs (bs := bs) fun c hc => h c (List.mem_cons_of_mem _ hc))
theorem rp_mem {K : PySem.W.Frag} {M : Hp} : ∀ {ws : List V} {ds : List PyData}, RpAll K M ws ds → ∀ b ∈ ds.zip ws, Rp K M b.2 b.1
  | _, _, .nil, b, h => by simp at h
  | _, _, .cons r t, b, h => by
    simp only [List.zip_cons_cons, List.mem_cons] at h
    rcases h with rfl | h
    · exact r
    · exact rp_mem t b h
theorem cr_sorted (hu : X.A.units + 64 < cLine) : CallR X (.builtin "sorted") (rSort X.K) := by
  rintro pins s σ H vs us Q I r ⟨a, ws, ds, rfl, ha, hd, al, so, dp, q⟩
  rw [Vals.ref1 r]
  obtain ⟨hz, its, n, rv, e⟩ := I.hok a _ ha
  have hlen := hd.length
  have el : ws.length = its.length := rv.length
  have zf : (ds.zip ws).map (·.1) = ds := zip_fst hlen.symm
  obtain ⟨as, ra, _⟩ := RpAll.reads I ds ws its hd rv
  have er : PySem.W.EachIs (fun v (b : PyData × V) => ∃ as, Reads s.heap v b.1 as) its (ds.zip ws) := PySem.W.readsAll_each (fun b : PyData × V => b.1) (by rw [zf]; exact ra)
  have lb : (ds.zip ws).length = ws.length := by rw [List.length_zip]; omega
  refine PySem.W.sorted_data (bs := ds.zip ws) (enc := fun b => b.1) (R := fun u b => RelV b.2 u) (l := a) (vs := its) ⟨_, e, rfl, n, rfl⟩ (each_pair (R := fun _ _ => True) rv hlen) er (by rw [zf]; exact al) (by rw [zf]; exact so) (by rw [lb]; exact hz) (fun b hb => ?_) fun out ol oe => ?_
  · have : b.1 ∈ ds := by rw [← zf]; exact List.mem_map.mpr ⟨b, hb, rfl⟩
    have := dp _ this
    omega
  · obtain ⟨ep, he'⟩ := PyProof.Rows.sortedAll_at s.heap its out.toArray
    have vo := each_out oe
    have ms : ((ds.zip ws).mergeSort (PySem.W.dataLe false fun b => b.1)).map (·.1) = ds.mergeSort le0 := by
      have := PySem.W.sort_maps (r := PySem.W.dataLe false fun b : PyData × V => b.1) (s := le0) (l := ds.zip ws) (fun b : PyData × V => b.1) (fun _ _ _ _ => rfl)
      rw [zf] at this
      exact this
    have hl2 : (((ds.zip ws).mergeSort (PySem.W.dataLe false fun b => b.1)).map (·.2)).length ≤ sizeLine := by
      rw [List.length_map, List.length_mergeSort, lb]; exact hz
    refine ⟨.ref _, upd H (s.heap.objs.size + 1) (.lst (((ds.zip ws).mergeSort (PySem.W.dataLe false fun b => b.1)).map (·.2))), I.laid (t' := s.toks) (fun _ _ => PyProof.Rows.sortedAll_old) (Nat.le_succ _) ⟨hl2, out, ep, vo, he'⟩, rfl, ?_⟩
    refine q _ _ (fun M hM hR => ?_) (I.hok.fresh (Nat.le_succ _))
    rw [← ms]
    exact rp_pairs (bs := []) fun b hb => rp_mem hR b (List.mem_mergeSort.mp hb)
def kSort : KT := fun ts ρ Q => ∃ t ds, ts = [t] ∧ lsq ρ t = some ds ∧ PySem.W.AllAlike ds ∧ PySem.W.Sortable ds ∧ (∀ d ∈ ds, d.depth ≤ 60) ∧ Q (.l ((ds.mergeSort le0).map T.d)) ρ
theorem kSort_mono : MonK kSort := fun ts ρ Q Q' h ⟨t, ds, e, e1, e2, e3, e4, q⟩ => ⟨t, ds, e, e1, e2, e3, e4, h _ _ q⟩
theorem msk_le {O : Own} {H : Hp} : ∀ b o, msk O H b = some o → H b = some o := fun b o h => (msk_some h).2
theorem fn_sorted {K : PySem.W.Frag} : FnK K (rSort K) kSort := by
  rintro C n m σ H0 H O0 O ρ ts vs Q hn hm R F V ⟨t, ds, rfl, e1, e2, e3, e4, q⟩
  obtain ⟨v, rfl, V1⟩ := V.one
  obtain ⟨a, ws, rfl, h1, h2⟩ := R.lsqV V1 e1
  exact ⟨a, ws, ds, rfl, h1, RpAll.mono msk_le _ _ h2, e2, e3, e4, fun ys p hy hp => q.newL hn R F (hy _ msk_le h2) p hp⟩
theorem le_sorted (hu : X.A.units + 64 < cLine) (hg : Gl X "sorted") (hm : X.mg "sorted" = none) (ha : LA X [e] tas) (he : starEach [e] X.env = (false, eval e X.env) :: starEach [] X.env := by rfl) (hpl : (backTo pos (starEach [] X.env)).any (·.1) = false := by rfl) :
    LE X (.Call (.Name "sorted" p) [e] [] pos) (wFn kSort tas) := le_fn (fun t h => pe_callB (cr_sorted hu) hg hm (by decide +kernel) h (he := he) (hpl := hpl)) kSort_mono fn_sorted ha
end
end TX

/-! Items, slices, displays, methods of lists of one's own. -/
namespace TX
open PySem PySem.Spec L2

/-! ### values on the way, as data -/
theorem Val.asD {K : PySem.W.Frag} {H : Hp} {O : Own} {n k : Nat} {v : V} {t : T} {x : PyData} (hk : n ≤ k) (h : Val K H O k v t) (e : erase t = some x) : Rp K (msk (cut n O) H) v x := by
  have go : Rp K (vis k O H) v x := by
    cases t with
    | a _ _ => simp [erase] at e
    | _ => exact Tr.view _ [] _ x e h.1
  refine Rp.mono (fun b o z => ?_) _ _ go
  unfold vis at z
  split at z
  · rename_i e1; rw [msk_of (cut_free e1)]; exact z
  · cases z
  · rename_i r' p' e1
    split at z
    · rename_i e2
      rw [msk_of (by unfold cut; rw [e1]; simp only; rw [if_neg (by omega)])]
      exact z
    · cases z
theorem ValAll.asD {K : PySem.W.Frag} {H : Hp} {O : Own} {n : Nat} : ∀ {ts : List T} {k : Nat} {vs : List V} {ds : List PyData}, n ≤ k → ValAll K H O k vs ts → eraseAll ts = some ds → RpAll K (msk (cut n O) H) vs ds
  | [], k, _, _, _, h, e => by cases h; simp [eraseAll] at e; subst e; exact .nil
  | t :: ts, k, _, ds, hk, h, e => by
    cases h with
    | cons h1 h2 =>
      simp only [eraseAll] at e
      cases e1 : erase t with
      | none => rw [e1] at e; cases e
      | some y =>
        cases e2 : eraseAll ts with
        | none => rw [e1, e2] at e; cases e
        | some ys =>
          rw [e1, e2] at e
          simp only [Option.some.injEq] at e
          subst e
          exact .cons (h1.asD hk e1) (ValAll.asD (Nat.le_succ_of_le hk) h2 e2)
theorem ValAll.length {K : PySem.W.Frag} {H : Hp} {O : Own} : ∀ {n : Nat} {vs : List V} {ts : List T}, ValAll K H O n vs ts → vs.length = ts.length
  | _, _, _, .nil => rfl
  | _, _, _, .cons _ t => congrArg (· + 1) (ValAll.length t)

section
variable {X : Cx} {pos : Pos} {a b c e : Expr} {es : List Expr} {ta tb tc : TwE} {tas : TwA}

/-! ### displays -/
def wLst (tas : TwA) : TwE := wFn (fun ts ρ Q => ∃ ds, eraseAll ts = some ds ∧ Q (.l (ds.map T.d)) ρ) tas
def wTup (tas : TwA) : TwE := wFn (fun ts ρ Q => ∃ ds, eraseAll ts = some ds ∧ Q (.d (.tuple ds)) ρ) tas
theorem le_lst (ha : LA X es tas) (hl : es.length ≤ 1000 := by decide) : LE X (.List es pos) (wLst tas) := by
  refine ⟨wFn_mono (fun ts ρ Q Q' h ⟨ds, e, q⟩ => ⟨ds, e, h _ _ q⟩) ha.mono, fun C W n hC hn tk => (pe_lst (pos := pos) (ha.run C W n hC hn tk)).imp fun σ H Q ⟨O, ρ, R, q⟩ => ?_⟩
  refine ⟨O, ρ, R, ha.mono ρ _ _ _ _ (fun ts ρ1 ⟨hlen, ds, e, q⟩ => ?_) (fun _ _ z => z) (ha.len ρ _ _ q)⟩
  intro vs H1 O1 R1 F1 V1
  refine ⟨by rw [V1.length, hlen]; exact Nat.le_of_lt (small1000 hl), fun p hp => ?_⟩
  exact Fin.newL hn (R1.cut (n := n) hn) (F1.trans (frm_cut C.N n H1 O1 hn) (Nat.le_refl _)) (ρ := ρ1) q (V1.asD (Nat.le_refl _) e) p hp
theorem le_tup {ld} (ha : LA X es tas) (hl : es.length ≤ 1000 := by decide) : LE X (.Tuple es ld pos) (wTup tas) := by
  refine ⟨wFn_mono (fun ts ρ Q Q' h ⟨ds, e, q⟩ => ⟨ds, e, h _ _ q⟩) ha.mono, fun C W n hC hn tk => (pe_tup (pos := pos) (ha.run C W n hC hn tk)).imp fun σ H Q ⟨O, ρ, R, q⟩ => ?_⟩
  refine ⟨O, ρ, R, ha.mono ρ _ _ _ _ (fun ts ρ1 ⟨hlen, ds, e, q⟩ => ?_) (fun _ _ z => z) (ha.len ρ _ _ q)⟩
  intro vs H1 O1 R1 F1 V1
  refine ⟨by rw [V1.length, hlen]; exact Nat.le_of_lt (small1000 hl), fun p hp => ?_⟩
  exact Fin.newT hn (R1.cut (n := n) hn) (F1.trans (frm_cut C.N n H1 O1 hn) (Nat.le_refl _)) (ρ := ρ1) q (V1.asD (Nat.le_refl _) e) p hp

/-! ### items -/
/-- t[i] is u -/
def IxT (ρ : Rho) : T → Int → T → Prop
  | .d (.list xs), i, u => ∃ x, atI xs i = some x ∧ u = .d x
  | .d (.tuple xs), i, u => ∃ x, atI xs i = some x ∧ u = .d x
  | .d (.str z), i, u => z.length ≤ sizeLine ∧ ∃ c, atI z.cps.toList i = some c ∧ u = .d (.str ⟨#[c]⟩)
  | .fz ns, i, u => ∃ n, atI ns i = some n ∧ u = .d (.int n)
  | .l ts, i, u => ∃ x, atI ts i = some (.d x) ∧ u = .d x
  | .a r p, i, u => ∃ ts j c, getT ρ r p = some (.l ts) ∧ ixN ts.length i = some j ∧ ts[j]? = some c ∧ u = (if isNode c then .a r (p ++ [j]) else c)
  | _, _, _ => False
def wIx (ta tb : TwE) : TwE := w2 ta tb fun t u ρ Q => ∃ i z, u = .d (.int i) ∧ IxT ρ t i z ∧ Q z ρ
theorem atI_len {α β : Type} {xs : List α} {ys : List β} (h : xs.length = ys.length) {i : Int} {x : α} (e : atI xs i = some x) : ∃ j, ixN ys.length i = some j ∧ xs[j]? = some x := by
  unfold atI at e
  rw [h] at e
  cases q : ixN ys.length i with
  | none => rw [q] at e; cases e
  | some j => rw [q] at e; exact ⟨j, rfl, e⟩
theorem atI_of {α : Type} {xs : List α} {i : Int} {j : Nat} {x : α} (h : ixN xs.length i = some j) (e : xs[j]? = some x) : atI xs i = some x := by
  unfold atI; rw [h]; exact e
theorem ix_any : IxR X (rIx X.K) := ix_seq
theorem le_ix (ha : LE X a ta) (hb : LE X b tb) (hs : PlainIx b := by exact fun _ _ => rfl) : LE X (.Subscript a b pos) (wIx ta tb) := by
  refine ⟨w2_mono ha.mono hb.mono fun t u ρ Q Q' h ⟨i, z, e1, e2, q⟩ => ⟨i, z, e1, e2, h _ _ q⟩, fun C W n hC hn tk => (pe_ix (pos := pos) ix_any (ha.run C W n hC hn tk) (hb.run C W (n + 1) hC (by omega) tk) hs).imp fun σ H Q h => ?_⟩
  refine two ha.mono hb.mono hn h fun O ρ2 t u v w H2 O2 R2 F V1 V2 ⟨i, z, e1, e2, q⟩ => ?_
  subst e1
  have hw : w = .int i := rp_int (val_d V2)
  subst hw
  cases t with
  | d x =>
    have rp := val_d V1
    cases x with
    | list xs =>
      obtain ⟨y, e3, rfl⟩ := e2
      cases rp with
      | lst h1 h2 =>
        obtain ⟨j, e4, e5⟩ := atI_len h2.length.symm e3
        obtain ⟨v', e6, e7⟩ := h2.get e5
        exact .inl ⟨_, _, i, v', rfl, rfl, .of (msk_some h1).2, atI_of e4 e6, Fin.dat hn R2 F q e7⟩
    | tuple xs =>
      obtain ⟨y, e3, rfl⟩ := e2
      cases rp with
      | tup h1 h2 =>
        obtain ⟨j, e4, e5⟩ := atI_len h2.length.symm e3
        obtain ⟨v', e6, e7⟩ := h2.get e5
        exact .inr (.inl ⟨_, _, i, v', rfl, rfl, .of (msk_some h1).2, atI_of e4 e6, Fin.dat hn R2 F q e7⟩)
    | str s =>
      obtain ⟨hz, c, e3, rfl⟩ := e2
      cases rp
      exact .inr (.inr ⟨s, i, c, rfl, rfl, hz, e3, Fin.sc hn R2 F q (.str _)⟩)
    | _ => exact e2.elim
  | fz ns =>
    obtain ⟨k, e3, rfl⟩ := e2
    have h := V1.1
    cases h with
    | fz h =>
      obtain ⟨j, e4, e5⟩ := atI_len (ys := ns.map V.int) (by simp) e3
      exact .inl ⟨_, _, i, .int k, rfl, rfl, sql_mono msk_le h, atI_of e4 (by rw [List.getElem?_map, e5]; rfl), Fin.sc hn R2 F q (.int _)⟩
  | l ts =>
    obtain ⟨y, e3, rfl⟩ := e2
    have h := V1.1
    cases h with
    | l h1 h2 h3 =>
      obtain ⟨j, e4, e5⟩ := atI_len h3.length.symm e3
      obtain ⟨v', e6, e7⟩ := h3.get e5
      cases e7 with
      | d e7 => exact .inl ⟨_, _, i, v', rfl, rfl, .of h2, atI_of e4 e6, Fin.dat hn R2 F q e7⟩
  | a r p =>
    obtain ⟨ts, j, c, e3, e4, e5, rfl⟩ := e2
    obtain ⟨⟨ad, rfl, ha2, hr⟩, hno⟩ := V1
    have tr := R2.alias e3 rfl ha2
    cases tr with
    | l h1 h2 h3 =>
      obtain ⟨v', e6, e7⟩ := h3.get e5
      refine .inl ⟨_, _, i, v', rfl, rfl, .of h2, atI_of (by rw [h3.length]; exact e4) e6, ?_⟩
      by_cases hc : isNode c = true
      · rw [if_pos hc] at q
        obtain ⟨a', rfl, ha'⟩ := tr_root e7 hc
        rw [Nat.zero_add] at ha'
        have hrN : r < C.N := let ⟨_, e8, _⟩ := getT_some e3; R2.slt e8
        exact q _ H2 _ ((R2.cut hn).up (Nat.le_succ _)) (F.trans (frm_cut C.N n H2 O2 hn) (Nat.le_refl _)) ⟨⟨a', rfl, cut_at.mpr ⟨ha', Nat.lt_of_lt_of_le hrN hn⟩, Nat.lt_of_lt_of_le hrN hn⟩, fun b q z => Nat.lt_irrefl _ (cut_at.mp z).2⟩
      · rw [if_neg hc] at q
        cases e7 with
        | d e7 => exact Fin.dat hn R2 F q e7
        | raw => exact q _ H2 _ ((R2.cut hn).up (Nat.le_succ _)) (F.trans (frm_cut C.N n H2 O2 hn) (Nat.le_refl _)) (R2.cut hn).val_raw
        | fz h => exact q _ H2 _ ((R2.cut hn).up (Nat.le_succ _)) (F.trans (frm_cut C.N n H2 O2 hn) (Nat.le_refl _)) ((R2.cut hn).val_fz (sql_mono (fun b o z => by obtain ⟨z1, z2⟩ := msk_some z; rw [msk_of (cut_free z1)]; exact z2) h))
        | lk h1 h2 h3 h4 => exact q _ H2 _ ((R2.cut hn).up (Nat.le_succ _)) (F.trans (frm_cut C.N n H2 O2 hn) (Nat.le_refl _)) ((R2.cut hn).val_lk (cut_free h1) h2 h3 (RpAll.mono (fun b o z => by obtain ⟨z1, z2⟩ := msk_some z; rw [msk_of (cut_free z1)]; exact z2) _ _ h4))
        | lt h1 h2 h3 h4 => exact q _ H2 _ ((R2.cut hn).up (Nat.le_succ _)) (F.trans (frm_cut C.N n H2 O2 hn) (Nat.le_refl _)) ((R2.cut hn).val_lt (cut_free h1) h2 h3 (RpAll.mono (fun b o z => by obtain ⟨z1, z2⟩ := msk_some z; rw [msk_of (cut_free z1)]; exact z2) _ _ h4))
        | l _ _ _ => exact absurd rfl hc
        | mk _ _ _ _ => exact absurd rfl hc
        | mt _ _ _ _ => exact absurd rfl hc
        | o _ _ _ _ => exact absurd rfl hc
        | s _ _ => exact absurd rfl hc
  | _ => exact e2.elim

/-! ### list + list, list * int, slices -/
def wCat (ta tb : TwE) : TwE := w2 ta tb fun t u ρ Q => ∃ xs ys, lsq ρ t = some xs ∧ lsq ρ u = some ys ∧ xs.length + ys.length ≤ sizeLine ∧ Q (.l ((xs ++ ys).map T.d)) ρ
theorem le_cat (ha : LE X a ta) (hb : LE X b tb) : LE X (.BinOp a .Add b pos) (wCat ta tb) := by
  refine ⟨w2_mono ha.mono hb.mono fun t u ρ Q Q' h ⟨x, y, e1, e2, e3, q⟩ => ⟨x, y, e1, e2, e3, h _ _ q⟩, fun C W n hC hn tk => (pe_op op_cat (ha.run C W n hC hn tk) (hb.run C W (n + 1) hC (by omega) tk)).imp fun σ H Q h => ?_⟩
  refine two ha.mono hb.mono hn h fun O ρ2 t u v w H2 O2 R2 F V1 V2 ⟨xs, ys, e1, e2, e3, q⟩ => ?_
  obtain ⟨a1, w1, rfl, h1, h2⟩ := R2.lsqV V1 e1
  obtain ⟨a2, w2, rfl, h3, h4⟩ := R2.lsqV V2 e2
  exact ⟨_, _, _, _, rfl, rfl, h1, h3, by rw [h2.length, h4.length]; exact e3, fun p hp => Fin.newL hn R2 F q (h2.append h4) p hp⟩
def wRep (ta tb : TwE) : TwE := w2 ta tb fun t u ρ Q => ∃ xs k, lsq ρ t = some xs ∧ u = .d (.int k) ∧ -(2 ^ 63) ≤ k ∧ k < 2 ^ 63 ∧ xs.length * k.toNat ≤ sizeLine ∧ Q (.l ((List.replicate k.toNat xs).flatten.map T.d)) ρ
/-! ### parts of a slice -/
abbrev TwO := Rho → (Option Int → Rho → Prop) → ExK → Prop
def lfO (K : PySem.W.Frag) (C : Ctx) (W : WX) (n : Nat) (tw : TwO) : TO := fun σ H Q => ∃ O ρ, Rel K C n σ H O ρ ∧ tw ρ (fun o ρ' => ∀ H' O', Rel K C n σ H' O' ρ' → Frm C.N n H O H' O' → Q o H') (exK K C W H O)
structure LO (X : Cx) (e : Option Expr) (tw : TwO) : Prop where
  mono : MonE tw
  run : ∀ (C : Ctx) (W : WX) (n : Nat), C.N = X.N.length → C.N ≤ n → Takes X W → PO X e (lfO X.K C W n tw)
theorem _root_.L2.PO.imp {e : Option Expr} {t t' : TO} (h : PO X e t) (k : ∀ σ H Q, t' σ H Q → t σ H Q) : PO X e t' := ⟨fun pins s σ H Q I q => h.run pins s σ H Q I (k _ _ _ q)⟩
def wNoPart : TwO := fun ρ Q _ => Q none ρ
def wPart (ta : TwE) : TwO := fun ρ Q E => ta ρ (fun t ρ1 => ∃ i, t = .d (.int i) ∧ Q (some i) ρ1) E
theorem lo_none : LO X none wNoPart := ⟨fun ρ Q Q' E E' h _ q => h _ _ q, fun C W n hC hn tk => po_none.imp fun σ H Q ⟨O, ρ, R, q⟩ => q H O R .refl⟩
theorem lo_some (ha : LE X a ta) : LO X (some a) (wPart ta) := by
  refine ⟨fun ρ Q Q' E E' h he q => ha.mono ρ _ _ E E' (fun t ρ1 ⟨i, e, q⟩ => ⟨i, e, h _ _ q⟩) he q, fun C W n hC hn tk => (po_some (ha.run C W n hC hn tk)).imp fun σ H Q ⟨O, ρ, R, q⟩ => ?_⟩
  refine ⟨O, ρ, R, ha.mono ρ _ _ _ _ (fun t ρ1 ⟨i, e, q⟩ => ?_) (fun _ _ z => z) q⟩
  subst e
  intro v H1 O1 R1 F1 V1
  exact ⟨i, rp_int (val_d V1), q H1 _ (R1.cut hn) (F1.trans (frm_cut C.N n H1 O1 hn) (Nat.le_refl _))⟩
def cutD {α : Type} (xs : List α) (lo hi : Option Int) : List α := (xs.drop (HT.sIx xs.length 0 lo)).take (HT.sIx xs.length xs.length hi - HT.sIx xs.length 0 lo)
def wSl (ta : TwE) (tl th : TwO) : TwE := fun ρ Q E => ta ρ (fun t ρ1 => tl ρ1 (fun lo ρ2 => th ρ2 (fun hi ρ3 => ∃ xs, lsq ρ3 t = some xs ∧ Q (.l ((cutD xs lo hi).map T.d)) ρ3) E) E) E
variable {tl th : TwO} {lo hi : Option Expr}
theorem le_sl {p2 : Pos} (ha : LE X a ta) (hl : LO X lo tl) (hh : LO X hi th) : LE X (.Subscript a (.Slice lo hi none p2) pos) (wSl ta tl th) := by
  refine ⟨fun ρ Q Q' E E' h he q => ha.mono ρ _ _ E E' (fun t ρ1 q1 => hl.mono ρ1 _ _ E E' (fun l ρ2 q2 => hh.mono ρ2 _ _ E E' (fun u ρ3 ⟨xs, e, q⟩ => ⟨xs, e, h _ _ q⟩) he q2) he q1) he q,
    fun C W n hC hn tk => (pe_slice sl_list (ha.run C W n hC hn tk) (hl.run C W (n + 1) hC (by omega) tk) (hh.run C W (n + 1) hC (by omega) tk)).imp fun σ H Q ⟨O, ρ, R, q⟩ => ?_⟩
  refine ⟨O, ρ, R, ha.mono ρ _ _ _ _ (fun t ρ1 q1 => ?_) (fun _ _ z => z) q⟩
  intro v H1 O1 R1 F1 V1
  refine ⟨O1, ρ1, R1, hl.mono ρ1 _ _ _ _ (fun l ρ2 q2 => ?_) (fun c ρ' z => exK.on F1.fre c ρ' z) q1⟩
  intro H2 O2 R2 F2
  have F12 := F1.trans F2 (Nat.le_succ n)
  refine ⟨O2, ρ2, R2, hh.mono ρ2 _ _ _ _ (fun u ρ3 ⟨xs, e, q3⟩ => ?_) (fun c ρ' z => exK.on F12.fre c ρ' z) q2⟩
  intro H3 O3 R3 F3
  have V3 : Val X.K H3 O3 n v t := (V1.carry hn R1.lt R1.nt F2).carry hn R2.lt R2.nt F3
  obtain ⟨ad, ws, rfl, h1, h2⟩ := R3.lsqV V3 e
  refine ⟨ad, ws, rfl, .of h1, fun p hp => ?_⟩
  refine Fin.newL hn R3 (F12.trans F3 (Nat.le_succ n)) q3 ?_ p hp
  unfold cutV cutD
  rw [h2.length]
  exact (h2.drop _).take _
/-- -n -/
def wNeg (ta : TwE) : TwE := fun ρ Q E => ta ρ (fun t ρ1 => ∃ i, t = .d (.int i) ∧ Q (.d (.int (-i))) ρ1) E
theorem le_neg (ha : LE X a ta) : LE X (.UnaryOp .USub a pos) (wNeg ta) := by
  refine ⟨fun ρ Q Q' E E' h he q => ha.mono ρ _ _ E E' (fun t ρ1 ⟨i, e, q⟩ => ⟨i, e, h _ _ q⟩) he q, fun C W n hC hn tk => (pe_un un_neg (ha.run C W n hC hn tk)).imp fun σ H Q ⟨O, ρ, R, q⟩ => ?_⟩
  refine ⟨O, ρ, R, ha.mono ρ _ _ _ _ (fun t ρ1 ⟨i, e, q⟩ => ?_) (fun _ _ z => z) q⟩
  subst e
  intro v H1 O1 R1 F1 V1
  exact ⟨i, rp_int (val_d V1), Fin.sc hn R1 F1 q (.int _)⟩
end
end TX

/-! Methods of lists of one's own; statements. -/
namespace TX
open PySem PySem.Spec L2

section
variable {K : PySem.W.Frag} {C : Ctx} {n m : Nat} {σ : St} {H H' : Hp} {O O' : Own} {ρ : Rho}
theorem sub_flat {ds : List PyData} : ∀ {q : List Nat} {z : T}, subT (.l (ds.map T.d)) q = some z → isNode z = true → q = []
  | [], _, _, _ => rfl
  | k :: q, z, h, hn => by
    simp only [subT, kid, List.getElem?_map] at h
    cases e : ds[k]? with
    | none => rw [e] at h; cases h
    | some x =>
      rw [e] at h
      cases q with
      | nil => cases h; cases hn
      | cons j q => simp [subT, kid] at h
theorem relUpdL (R : Rel K C m σ H O ρ) (hn : C.N ≤ n) {r : Nat} {p : List Nat} {a : Addr} {ds ds' : List PyData} {ws' : List V} (g : getT ρ r p = some (.l (ds.map T.d))) (ha : O a = .at r p) (hz : RpAll K (msk (cut n O) H) ws' ds') :
    Rel K C n σ (upd H a (.lst ws')) (cut n O) (putAt ρ r p (.l (ds'.map T.d))) ∧ Frm C.N n H O (upd H a (.lst ws')) (cut n O) := by
  have R0 := R.cut (n := n) hn
  have hr : r < C.N := let ⟨_, e, _⟩ := getT_some g; R.slt e
  have ha1 : cut n O a = .at r p := cut_at.mpr ⟨ha, Nat.lt_of_lt_of_le hr hn⟩
  have ne : ∀ {b : Addr}, cut n O b = .free → b ≠ a := fun {b} h e => by subst e; rw [ha1] at h; cases h
  have ne2 : ∀ {b : Addr}, cut n O b = .foreign → b ≠ a := fun {b} h e => by subst e; rw [ha1] at h; cases h
  refine ⟨R0.upd hn g (fun b o e1 e2 => ⟨by rw [upd_ne (ne e2)]; exact e1, e2⟩) (fun b o e1 e2 => ⟨by rw [upd_ne (ne2 e2)]; exact e1, e2⟩) (fun b o r' p' e1 e2 l h => ⟨?_, e2⟩) (fun b r' p' e _ => e) (fun w h => ?_)
    (fun b h => ?_) R0.lt R0.inj (fun b q e => ?_) (fun b r' p' e _ => .inr e) (fun b e => e), ⟨fun b o e1 e2 => ?_, fun b r' p' e l => cut_at.mpr ⟨e, Nat.lt_of_lt_of_le l hn⟩, fun b o r' p' e1 e2 l1 l2 => ?_, fun b r' p' e _ _ => (cut_at.mp e).1⟩⟩
  · rw [upd_ne (fun z => h (by subst z; rw [ha1] at e2; cases e2; exact ⟨rfl, List.prefix_refl _⟩))]; exact e1
  · obtain ⟨a', rfl, e⟩ := tr_root h rfl
    cases R0.inj a' a r p e ha1
    exact .l ha1 upd_same (TrAll.ofData (RpAll.mono (fun b o z => by obtain ⟨z1, z2⟩ := msk_some z; rw [msk_of z1, upd_ne (ne z1)]; exact z2) _ _ hz))
  · by_cases hb : b = a
    · subst hb; exact ⟨_, upd_same, trivial⟩
    · obtain ⟨o, e, w⟩ := R0.nt b h
      exact ⟨o, by rw [upd_ne hb]; exact e, w⟩
  · obtain ⟨t, z, e1, e2, e3⟩ := R0.val b r (p ++ q) e hr
    obtain ⟨t', e4, e5⟩ := getT_some g
    rw [e1] at e4; cases e4
    rw [subT_append e5] at e2
    have := sub_flat e2 e3
    subst this
    exact ⟨_, rfl, rfl⟩
  · have : b ≠ a := fun z => by subst z; rw [ha] at e2; cases e2
    exact ⟨by rw [upd_ne this]; exact e1, cut_free e2⟩
  · have : b ≠ a := fun z => by subst z; rw [ha] at e2; cases e2; omega
    exact ⟨by rw [upd_ne this]; exact e1, cut_at.mpr ⟨e2, l2⟩⟩
end

section
variable {X : Cx} {pos : Pos} {a b c e o : Expr} {es : List Expr} {ta tb tc : TwE} {tas : TwA}
/-! ### methods -/
abbrev KM := T → List T → Rho → (T → Rho → Prop) → Prop
def MonM (k : KM) : Prop := ∀ t ts ρ (Q Q' : T → Rho → Prop), (∀ t ρ', Q t ρ' → Q' t ρ') → k t ts ρ Q → k t ts ρ Q'
def wM (ty : Rho → T → Prop) (k : KM) (ta : TwE) (tas : TwA) : TwE := fun ρ Q E => ta ρ (fun t ρ1 => ty ρ1 t ∧ tas ρ1 (fun ts ρ2 => k t ts ρ2 Q) E) E
def MK (K : PySem.W.Frag) (r : V → List V → Hp → VK → Prop) (k : KM) : Prop := ∀ (C : Ctx) (n m : Nat) (σ : St) (H0 H : Hp) (O0 O : Own) (ρ : Rho) (t : T) (ts : List T) (v : V) (vs : List V) (Q : VK), C.N ≤ n → n + 1 + ts.length ≤ m → Rel K C m σ H O ρ →
  Frm C.N n H0 O0 H O → Val K H O n v t → ValAll K H O (n + 1) vs ts → k t ts ρ (Fin K C n σ H0 O0 Q) → r v vs H Q
def TyK (K : PySem.W.Frag) (ty : Rho → T → Prop) (S : String) : Prop := ∀ (C : Ctx) (n m : Nat) (σ : St) (H : Hp) (O : Own) (ρ : Rho) (t : T) (v : V), Rel K C m σ H O ρ → Val K H O n v t → ty ρ t → tyV K S v H
def isLst (ρ : Rho) : T → Prop
  | .d (.list _) => True
  | .l _ => True
  | .a r p => ∃ ts, getT ρ r p = some (.l ts)
  | _ => False
theorem ty_lst : TyK X.K isLst "list" := by
  intro C n m σ H O ρ t v R V h
  cases t with
  | d x =>
    cases x with
    | list xs => have := val_d V; cases this with | lst h1 _ => exact .inl ⟨rfl, _, .of (msk_some h1).2⟩
    | _ => exact h.elim
  | l ts => have := V.1; cases this with | l _ h2 _ => exact .inl ⟨rfl, _, .of h2⟩
  | a r p =>
    obtain ⟨ts, g⟩ := h
    obtain ⟨⟨ad, rfl, e, _⟩, _⟩ := V
    have tr := R.alias g rfl e
    cases tr with | l _ h2 _ => exact .inl ⟨rfl, _, .of h2⟩
  | _ => exact h.elim
theorem wM_mono {ty : Rho → T → Prop} {k : KM} (hk : MonM k) (ha : MonE ta) (hs : MonE tas) : MonE (wM ty k ta tas) := fun ρ Q Q' E E' h he q =>
  ha ρ _ _ E E' (fun t ρ1 ⟨h1, q1⟩ => ⟨h1, hs ρ1 _ _ E E' (fun ts ρ2 q2 => hk _ _ _ _ _ h q2) he q1⟩) he q
theorem le_bm {e' : Expr} {S : String} {ty : Rho → T → Prop} {r : V → List V → Hp → VK → Prop} {k : KM} (hp : ∀ to t, PE X o to → PA X es t → PE X e' (tBM X.K S r to t)) (hty : TyK X.K ty S) (hk : MonM k) (hf : MK X.K r k) (ho : LE X o ta) (ha : LA X es tas) : LE X e' (wM ty k ta tas) := by
  refine ⟨wM_mono hk ho.mono ha.mono, fun C W n hC hn tk => (hp _ _ (ho.run C W n hC hn tk) (ha.run C W (n + 1) hC (by omega) tk)).imp fun σ H Q ⟨O, ρ, R, q⟩ => ?_⟩
  refine ⟨O, ρ, R, ho.mono ρ _ _ _ _ (fun t ρ1 ⟨h1, q1⟩ => ?_) (fun _ _ z => z) q⟩
  intro v H1 O1 R1 F1 V1
  refine ⟨hty C n _ σ H1 O1 ρ1 t v R1 V1 h1, O1, ρ1, R1, ha.mono ρ1 _ _ _ _ (fun ts ρ2 q2 => ?_) (fun c ρ' z => exK.on F1.fre c ρ' z) q1⟩
  intro vs H2 O2 R2 F2 V2
  exact hf C n _ σ H H2 O O2 ρ2 t ts v vs Q hn (Nat.le_refl _) R2 (F1.trans F2 (Nat.le_succ n)) (V1.carry hn R1.lt R1.nt F2) V2 q2
/-- behind a change of a flat list: a scalar is handed on -/
theorem Fin.updL {K : PySem.W.Frag} {C : Ctx} {n m : Nat} {σ : St} {H0 H : Hp} {O0 O : Own} {Q : VK} {ρ : Rho} {r : Nat} {p : List Nat} {ad : Addr} {ds ds' : List PyData} {ws' : List V} {x : PyData} {v : V} (hn : C.N ≤ n) (R : Rel K C m σ H O ρ) (F : Frm C.N n H0 O0 H O)
    (g : getT ρ r p = some (.l (ds.map T.d))) (ha : O ad = .at r p) (hz : RpAll K (msk (cut n O) H) ws' ds') (q : Fin K C n σ H0 O0 Q (.d x) (putAt ρ r p (.l (ds'.map T.d)))) (s : Rp K (msk (cut n O) H) v x) : Q v (upd H ad (.lst ws')) := by
  obtain ⟨R', F'⟩ := relUpdL R hn g ha hz
  have hr : r < C.N := let ⟨_, e, _⟩ := getT_some g; R.slt e
  refine q v _ _ (R'.up (Nat.le_succ _)) (F.trans F' (Nat.le_refl _)) (R'.val_d (Rp.mono (fun b o z => ?_) _ _ s))
  obtain ⟨z1, z2⟩ := msk_some z
  have : b ≠ ad := fun e => by subst e; rw [cut_at.mpr ⟨ha, Nat.lt_of_lt_of_le hr hn⟩] at z1; cases z1
  rw [msk_of z1, upd_ne this]
  exact z2
theorem flat_of {K : PySem.W.Frag} {C : Ctx} {n m : Nat} {σ : St} {H : Hp} {O : Own} {ρ : Rho} {r : Nat} {p : List Nat} {v : V} {ds : List PyData} (R : Rel K C m σ H O ρ) (V1 : Val K H O n v (.a r p)) (g : getT ρ r p = some (.l (ds.map T.d))) (hn : C.N ≤ n) :
    ∃ ad ws, v = .ref ad ∧ O ad = .at r p ∧ H ad = some (.lst ws) ∧ RpAll K (msk (cut n O) H) ws ds := by
  obtain ⟨⟨ad, rfl, e, _⟩, _⟩ := V1
  have tr := R.alias g rfl e
  cases tr with
  | l _ h2 h3 =>
    refine ⟨ad, _, rfl, e, h2, RpAll.mono (fun b o z => ?_) _ _ (TrAll.data h3)⟩
    obtain ⟨z1, z2⟩ := msk_some z
    rw [msk_of (cut_free z1)]; exact z2
def kApp : KM := fun t ts ρ Q => ∃ r p, ∃ ds : List PyData, ∃ t2 y, t = .a r p ∧ ts = [t2] ∧ getT ρ r p = some (.l (ds.map T.d)) ∧ erase t2 = some y ∧ ds.length < sizeLine ∧ Q (.d .none) (putAt ρ r p (.l ((ds ++ [y]).map T.d)))
theorem mk_app : MK X.K rAppend kApp := by
  rintro C n m σ H0 H O0 O ρ t ts v vs Q hn hm R F V1 V2 ⟨r, p, ds, t2, y, rfl, rfl, g, e, l, q⟩
  obtain ⟨ad, ws, rfl, ha, h1, h2⟩ := flat_of R V1 g hn
  obtain ⟨w, rfl, V3⟩ := V2.one
  exact ⟨ad, ws, w, rfl, rfl, h1, by rw [h2.length]; exact l, Fin.updL hn R F g ha (h2.append (.cons (V3.asD (Nat.le_succ _) e) .nil)) q .non⟩
def kExt : KM := fun t ts ρ Q => ∃ r p, ∃ ds : List PyData, ∃ t2 ys, t = .a r p ∧ ts = [t2] ∧ getT ρ r p = some (.l (ds.map T.d)) ∧ lsq ρ t2 = some ys ∧ ds.length + ys.length ≤ sizeLine ∧ Q (.d .none) (putAt ρ r p (.l ((ds ++ ys).map T.d)))
theorem mk_ext : MK X.K rExtend kExt := by
  rintro C n m σ H0 H O0 O ρ t ts v vs Q hn hm R F V1 V2 ⟨r, p, ds, t2, y, rfl, rfl, g, e, l, q⟩
  obtain ⟨ad, ws, rfl, ha, h1, h2⟩ := flat_of R V1 g hn
  obtain ⟨w, rfl, V3⟩ := V2.one
  obtain ⟨b, zs, rfl, h3, h4⟩ := R.lsqV V3 e
  refine ⟨ad, b, ws, zs, rfl, rfl, h1, h3, by rw [h2.length, h4.length]; exact l, Fin.updL hn R F g ha (h2.append (RpAll.mono (fun b o z => ?_) _ _ h4)) q .non⟩
  obtain ⟨z1, z2⟩ := msk_some z
  rw [msk_of (cut_free z1)]; exact z2
def kPopAt : KM := fun t ts ρ Q => ∃ r p, ∃ ds : List PyData, ∃ i k y, t = .a r p ∧ ts = [.d (.int i)] ∧ getT ρ r p = some (.l (ds.map T.d)) ∧ -(2 ^ 63) ≤ i ∧ i < 2 ^ 63 ∧ seqIndex? i ds.length = some k ∧ ds[k]? = some y ∧ Q (.d y) (putAt ρ r p (.l ((ds.eraseIdx k).map T.d)))
theorem mk_popAt : MK X.K rPopAt kPopAt := by
  rintro C n m σ H0 H O0 O ρ t ts v vs Q hn hm R F V1 V2 ⟨r, p, ds, i, k, y, rfl, rfl, g, e1, e2, e3, e, q⟩
  obtain ⟨ad, ws, rfl, ha, h1, h2⟩ := flat_of R V1 g hn
  obtain ⟨w, rfl, V3⟩ := V2.one
  rw [rp_int (val_d V3)]
  obtain ⟨w', h3, h4⟩ := h2.get e
  exact ⟨ad, ws, i, k, w', rfl, rfl, h1, e1, e2, by rw [h2.length]; exact e3, h3, Fin.updL hn R F g ha (h2.eraseIdx k) q h4⟩
def kRev : KM := fun t ts ρ Q => ∃ r p, ∃ ds : List PyData, t = .a r p ∧ ts = [] ∧ getT ρ r p = some (.l (ds.map T.d)) ∧ Q (.d .none) (putAt ρ r p (.l (ds.reverse.map T.d)))
def kIns : KM := fun t ts ρ Q => ∃ r p, ∃ ds : List PyData, ∃ i t2 y, t = .a r p ∧ ts = [.d (.int i), t2] ∧ getT ρ r p = some (.l (ds.map T.d)) ∧ erase t2 = some y ∧ ds.length < sizeLine ∧ 0 ≤ i ∧ i < 2 ^ 63 ∧ Q (.d .none) (putAt ρ r p (.l ((ds.take i.toNat ++ [y] ++ ds.drop i.toNat).map T.d)))
def rIns : V → List V → Hp → VK → Prop := fun x vs H Q => ∃ (l : Addr) (xs : List V) (i : Int) (y : V), x = .ref l ∧ vs = [.int i, y] ∧ H l = some (.lst xs) ∧ xs.length < sizeLine ∧ 0 ≤ i ∧ i < 2 ^ 63 ∧
    Q .non (upd H l (.lst (xs.take i.toNat ++ [y] ++ xs.drop i.toNat)))
theorem mk_ins : MK X.K rIns kIns := by
  rintro C n m σ H0 H O0 O ρ t ts v vs Q hn hm R F V1 V2 ⟨r, p, ds, i, t2, y, rfl, rfl, g, e, l, e1, e2, q⟩
  obtain ⟨ad, ws, rfl, ha, h1, h2⟩ := flat_of R V1 g hn
  obtain ⟨w, w2, rfl, V3, V4⟩ := V2.two
  rw [rp_int (val_d V3)]
  exact ⟨ad, ws, i, w2, rfl, rfl, h1, by rw [h2.length]; exact l, e1, e2, Fin.updL hn R F g ha (((h2.take _).append (.cons (V4.asD (by omega) e) .nil)).append (h2.drop _)) q .non⟩
/-- xs.index(x): the first place -/
def kIdx : KM := fun t ts ρ Q => ∃ t2, ∃ ds : List PyData, ∃ y j z, ts = [t2] ∧ vw ρ t = some (.list ds) ∧ vw ρ t2 = some y ∧ SeqAt.shaped (.list ds) = true ∧ SeqAt.shaped y = true ∧ ds[j]? = some z ∧ PyData.eqv z y = true ∧ (∀ (m : Nat) (z' : PyData), m < j → ds[m]? = some z' → PyData.eqv z' y = false) ∧ Q (.d (.int (j : Nat))) ρ
mutual
theorem Rp.dp {K : PySem.W.Frag} {H : Hp} : ∀ (d : PyData) (v : V), d.canLay0 = true → Rp K H v d → Dp K H v d
  | .none, _, _, h => by cases h; exact .non
  | .bool b, _, _, h => by cases h; exact .bl b
  | .int i, _, _, h => by cases h; exact .int i
  | .str x, _, _, h => by cases h; exact .str x
  | .list ds, _, e, h => by cases h with | lst h1 h2 => exact .lst (.of h1) (RpAll.dp ds _ (by simpa [PyData.canLay0] using e) h2)
  | .tuple ds, _, e, h => by cases h with | tup h1 h2 => exact .tup (.of h1) (RpAll.dp ds _ (by simpa [PyData.canLay0] using e) h2)
  | .dict _, _, e, h => by simp [PyData.canLay0] at e
theorem RpAll.dp {K : PySem.W.Frag} {H : Hp} : ∀ (ds : List PyData) (vs : List V), PyData.canLayAll0 ds = true → RpAll K H vs ds → DpAll K H vs ds
  | [], _, _, h => by cases h; exact .nil
  | d :: ds, _, e, h => by
    cases h with
    | cons h1 h2 =>
      simp [PyData.canLayAll0] at e
      exact .cons (Rp.dp d _ e.1 h1) (RpAll.dp ds _ e.2 h2)
end
theorem mk_idx : MK X.K (rIndexD X.K) kIdx := by
  rintro C n m σ H0 H O0 O ρ t ts v vs Q hn hm R F V1 V2 ⟨t2, ds, y, j, z, rfl, e1, e2, s1, s2, e3, e4, e5, q⟩
  obtain ⟨w, rfl, V3⟩ := V2.one
  have r1 := R.viewH V1 e1
  have r2 := R.viewH V3 e2
  obtain ⟨ad, rfl⟩ : ∃ ad, v = .ref ad := by cases r1; exact ⟨_, rfl⟩
  exact ⟨ad, w, y, ds, j, z, rfl, rfl, Rp.dp _ _ (SeqAt.canLay_of_shaped s1) r1, Rp.dp _ _ (SeqAt.canLay_of_shaped s2) r2, s1, s2, e3, e4, e5, Fin.sc hn R F q (.int _)⟩
variable {apos : Pos}
theorem mon_app : MonM kApp := fun t ts ρ Q Q' h ⟨a, b, c, d, e, h1, h2, h3, h4, h5, q⟩ => ⟨a, b, c, d, e, h1, h2, h3, h4, h5, h _ _ q⟩
theorem mon_ext : MonM kExt := fun t ts ρ Q Q' h ⟨a, b, c, d, e, h1, h2, h3, h4, h5, q⟩ => ⟨a, b, c, d, e, h1, h2, h3, h4, h5, h _ _ q⟩
theorem mon_popAt : MonM kPopAt := fun t ts ρ Q Q' h ⟨a, b, c, d, e, f, h1, h2, h3, h4, h5, h6, h7, q⟩ => ⟨a, b, c, d, e, f, h1, h2, h3, h4, h5, h6, h7, h _ _ q⟩
theorem mon_ins : MonM kIns := fun t ts ρ Q Q' h ⟨a, b, c, d, e, f, h1, h2, h3, h4, h5, h6, h7, q⟩ => ⟨a, b, c, d, e, f, h1, h2, h3, h4, h5, h6, h7, h _ _ q⟩
theorem mon_idx : MonM kIdx := fun t ts ρ Q Q' h ⟨a, b, c, d, e, h1, h2, h3, h4, h5, h6, h7, h8, q⟩ => ⟨a, b, c, d, e, h1, h2, h3, h4, h5, h6, h7, h8, h _ _ q⟩
end
end TX

/-! Statements, targets, loops over trees. -/
namespace TX
open PySem PySem.Spec L2

structure EndsT where
  nx : Rho → Prop
  rt : T → Rho → Prop
  bk : Rho → Prop := fun _ => False
  ct : Rho → Prop := fun _ => False
  ex : ExK := fun _ _ => False
abbrev TwS := EndsT → Rho → Prop
structure LeD (D D' : EndsT) : Prop where
  nx : ∀ ρ, D.nx ρ → D'.nx ρ
  rt : ∀ t ρ, D.rt t ρ → D'.rt t ρ
  bk : ∀ ρ, D.bk ρ → D'.bk ρ
  ct : ∀ ρ, D.ct ρ → D'.ct ρ
  ex : ∀ c ρ, D.ex c ρ → D'.ex c ρ
def nxK (K : PySem.W.Frag) (C : Ctx) (H : Hp) (O : Own) (q : St → Hp → Prop) : Rho → Prop := fun ρ' => ∀ σ' H' O', Rel K C C.N σ' H' O' ρ' → Fre H O H' O' → q σ' H'
def rtK (K : PySem.W.Frag) (C : Ctx) (H : Hp) (O : Own) (q : VK) : T → Rho → Prop := fun t ρ' => ∀ v σ' H' O', Rel K C (C.N + 1) σ' H' O' ρ' → Fre H O H' O' → Val K H' O' C.N v t → q v H'
def enK (K : PySem.W.Frag) (C : Ctx) (W : WX) (H : Hp) (O : Own) (D : Ends) : EndsT := ⟨nxK K C H O D.nx, rtK K C H O D.rt, nxK K C H O D.bk, nxK K C H O D.ct, exK K C W H O⟩
def lfS (K : PySem.W.Frag) (C : Ctx) (W : WX) (tw : TwS) : TS := fun D σ H => ∃ O ρ, Rel K C C.N σ H O ρ ∧ tw (enK K C W H O D) ρ
def MonS (tw : TwS) : Prop := ∀ D D' ρ, LeD D D' → tw D ρ → tw D' ρ
structure LS (X : Cx) (io : List Nat) (st : Stmt) (tw : TwS) : Prop where
  mono : MonS tw
  run : ∀ (C : Ctx) (W : WX), C.N = X.N.length → C.io = io → Takes X W → PassesOwn (model X.prog X.w) X.A X.env X.xe → PS X st (lfS X.K C W tw)
structure LSs (X : Cx) (io : List Nat) (st : List Stmt) (tw : TwS) : Prop where
  mono : MonS tw
  run : ∀ (C : Ctx) (W : WX), C.N = X.N.length → C.io = io → Takes X W → PassesOwn (model X.prog X.w) X.A X.env X.xe → PSs X st (lfS X.K C W tw)
section
variable {K : PySem.W.Frag} {C : Ctx} {W : WX} {H H1 : Hp} {O O1 : Own}
theorem nxK.on (f : Fre H O H1 O1) {q : St → Hp → Prop} (ρ : Rho) (h : nxK K C H O q ρ) : nxK K C H1 O1 q ρ := fun σ' H' O' R F => h σ' H' O' R (f.trans F)
theorem rtK.on (f : Fre H O H1 O1) {q : VK} (t : T) (ρ : Rho) (h : rtK K C H O q t ρ) : rtK K C H1 O1 q t ρ := fun v σ' H' O' R F V => h v σ' H' O' R (f.trans F) V
theorem enK.on (f : Fre H O H1 O1) (D : Ends) : LeD (enK K C W H O D) (enK K C W H1 O1 D) := ⟨fun ρ => nxK.on f ρ, fun t ρ => rtK.on f t ρ, fun ρ => nxK.on f ρ, fun ρ => nxK.on f ρ, fun c ρ => exK.on f c ρ⟩
theorem fre_cut (n : Nat) : Fre H O H (cut n O) := fun _ _ e1 e2 => ⟨e1, cut_free e2⟩
end

section
variable {X : Cx} {io : List Nat} {st : Stmt} {rest : List Stmt} {t u : TwS} {a b c e o i' : Expr} {es : List Expr} {ta tb tc : TwE} {tas : TwA} {tt : TwT} {pos : Pos}
/-! ### blocks -/
def wNext : TwS := fun D ρ => D.nx ρ
def wSeq (t u : TwS) : TwS := fun D ρ => t { D with nx := u D } ρ
theorem lss_nil : LSs X io [] wNext := ⟨fun D D' ρ l q => l.nx _ q, fun C W hC hio tk hp => pss_nil.imp fun D σ H ⟨O, ρ, R, q⟩ => q σ H O R .refl⟩
theorem wSeq_mono (ht : MonS t) (hu : MonS u) : MonS (wSeq t u) := fun D D' ρ l q => ht { D with nx := u D } { D' with nx := u D' } ρ ⟨fun ρ q => hu _ _ _ l q, l.rt, l.bk, l.ct, l.ex⟩ q
theorem lss_cons (h1 : LS X io st t) (h2 : LSs X io rest u) : LSs X io (st :: rest) (wSeq t u) := by
  refine ⟨wSeq_mono h1.mono h2.mono, fun C W hC hio tk hp => (pss_cons (h1.run C W hC hio tk hp) (h2.run C W hC hio tk hp)).imp fun D σ H ⟨O, ρ, R, q⟩ => ?_⟩
  refine ⟨O, ρ, R, h1.mono { enK X.K C W H O D with nx := u (enK X.K C W H O D) } _ ρ ⟨fun ρ1 q1 => ?_, fun _ _ z => z, fun _ z => z, fun _ z => z, fun _ _ z => z⟩ q⟩
  intro σ1 H1 O1 R1 F1
  exact ⟨O1, ρ1, R1, h2.mono _ _ ρ1 (enK.on F1 D) q1⟩
theorem lss_one (h1 : LS X io st t) : LSs X io [st] t := ⟨h1.mono, fun C W hC hio tk hp => pss_one (h1.run C W hC hio tk hp)⟩
def wNever : TwS := fun _ _ => False
theorem ls_never : LS X io st wNever := ⟨fun _ _ _ _ q => q.elim, fun C W hC hio tk hp => ps_never.imp fun D σ H ⟨O, ρ, R, q⟩ => q.elim⟩
/-- an expression whose value is dropped -/
def wDrop (ta : TwE) : TwS := fun D ρ => ta ρ (fun _ ρ1 => D.nx ρ1) D.ex
theorem ls_expr (he : LE X e ta) (hs : swapsWith e none pos.line X.env = pure false := by rfl) : LS X io (.Expr e pos) (wDrop ta) := by
  refine ⟨fun D D' ρ l q => he.mono ρ _ _ _ _ (fun _ ρ1 q => l.nx _ q) l.ex q, fun C W hC hio tk hp => (ps_expr (he.run C W C.N hC (Nat.le_refl _) tk) hs).imp fun D σ H ⟨O, ρ, R, q⟩ => ?_⟩
  refine ⟨O, ρ, R, he.mono ρ _ _ _ _ (fun t ρ1 q => ?_) (fun _ _ z => z) q⟩
  intro v H1 O1 R1 F1 V1
  exact q σ H1 _ (R1.cut (Nat.le_refl _)) (F1.fre.trans (fre_cut _))
/-- return e: the value a tree (no place) -/
def wRet (ta : TwE) : TwS := fun D ρ => ta ρ (fun t ρ1 => D.rt t ρ1) D.ex
theorem ls_ret (he : LE X e ta) : LS X io (.Return (some e) pos) (wRet ta) := by
  refine ⟨fun D D' ρ l q => he.mono ρ _ _ _ _ (fun t ρ1 q => l.rt _ _ q) l.ex q, fun C W hC hio tk hp => (ps_ret (he.run C W C.N hC (Nat.le_refl _) tk)).imp fun D σ H ⟨O, ρ, R, q⟩ => ?_⟩
  refine ⟨O, ρ, R, he.mono ρ _ _ _ _ (fun t ρ1 q => ?_) (fun _ _ z => z) q⟩
  intro v H1 O1 R1 F1 V1
  exact q v σ H1 O1 R1 F1.fre V1
def wIfS (tt : TwT) (t u : TwS) : TwS := fun D ρ => tt ρ (fun b ρ1 => if b = true then t D ρ1 else u D ρ1) D.ex
theorem ls_if {sa sb : List Stmt} (hc : LT X c tt) (ha : LSs X io sa t) (hb : LSs X io sb u) : LS X io (.If c sa sb pos) (wIfS tt t u) := by
  refine ⟨fun D D' ρ l q => hc.mono ρ _ _ _ _ (fun b ρ1 q => ?_) l.ex q, fun C W hC hio tk hp => (ps_if (hc.run C W C.N hC (Nat.le_refl _) tk) (ha.run C W hC hio tk hp) (hb.run C W hC hio tk hp)).imp fun D σ H ⟨O, ρ, R, q⟩ => ?_⟩
  · cases b with
    | true => exact ha.mono _ _ _ l q
    | false => exact hb.mono _ _ _ l q
  · refine ⟨O, ρ, R, hc.mono ρ _ _ _ _ (fun b ρ1 q => ?_) (fun _ _ z => z) q⟩
    intro H1 O1 R1 F1
    cases b with
    | true => exact ⟨O1, ρ1, R1, ha.mono _ _ _ (enK.on F1.fre D) q⟩
    | false => exact ⟨O1, ρ1, R1, hb.mono _ _ _ (enK.on F1.fre D) q⟩
end

/-! ### a slot is stored -/
section
variable {K : PySem.W.Frag} {C : Ctx} {n m : Nat} {σ : St} {H H' : Hp} {O O' : Own} {ρ : Rho}
theorem set_get {α : Type} {l : List α} {i j : Nat} {x : α} (hi : i < l.length) : (l.set i x)[j]? = if j = i then some x else l[j]? := by
  by_cases e : j = i
  · subst e; rw [if_pos rfl]; exact List.getElem?_set_self hi
  · rw [if_neg e]; exact List.getElem?_set_ne (fun z => e z.symm)
/-- slot i takes a value without places of its own -/
theorem relStore (R : Rel K C n σ H O ρ) {i : Nat} (hi : i < C.N) (hio : ∀ b p, C.O0 b ≠ .at i p) {v : V} {t : T} (h : Tr K H (dropR i O) i [] v t) (hn : isNode t = false) : Rel K C n (σ.set i (some v)) H (dropR i O) (ρ.set i (some t)) := by
  have hl : i < σ.length := by rw [R.ln]; exact hi
  have hl' : i < ρ.length := by rw [R.lr]; exact hi
  refine ⟨fun b o e1 e2 => ?_, fun b z => R.nt b fun q => z (dropR_free q), fun b r p e => R.lt b r p (dropR_at.mp e).1, fun a b r p e1 e2 => R.inj a b r p (dropR_at.mp e1).1 (dropR_at.mp e2).1, fun b r p e l => ?_, by rw [List.length_set]; exact R.ln, by rw [List.length_set]; exact R.lr,
    fun j u e => ?_, R.hN, fun b e => R.fo b (dropR_foreign.mp e), fun b j p e => ?_, R.sm⟩
  · obtain ⟨z1, z2⟩ := R.fr b o e1 e2
    refine ⟨z1, ?_⟩
    rcases e2 with e2 | e2
    · rw [e2] at z2 ⊢; exact dropR_free z2
    · rw [e2] at z2 ⊢; exact dropR_foreign.mpr z2
  · obtain ⟨e1, e2⟩ := dropR_at.mp e
    obtain ⟨t', z, h1, h2, h3⟩ := R.val b r p e1 l
    exact ⟨t', z, by rw [set_get hl', if_neg e2]; exact h1, h2, h3⟩
  · rw [set_get hl'] at e
    by_cases hj : j = i
    · subst hj
      rw [if_pos rfl] at e
      cases e
      exact ⟨v, by rw [set_get hl, if_pos rfl], h⟩
    · rw [if_neg hj] at e
      obtain ⟨w, h2, h3⟩ := R.sl j u e
      exact ⟨w, by rw [set_get hl, if_neg hj]; exact h2, Tr.move (r' := j) (p0 := []) (p1 := []) (fun b o e1 e2 => ⟨e1, dropR_free e2⟩) (fun b o q e1 e2 => ⟨e1, dropR_at.mpr ⟨e2, hj⟩⟩) u [] w h3⟩
  · obtain ⟨z1, z2⟩ := R.pz b j p e
    exact ⟨z1, dropR_at.mpr ⟨z2, fun z => hio b p (z ▸ e)⟩⟩
theorem fre_drop (i : Nat) : Fre H O H (dropR i O) := fun _ _ e1 e2 => ⟨e1, dropR_free e2⟩
theorem no_io (R : Rel K C n σ H O ρ) {i : Nat} (hio : i ∉ C.io) : ∀ b p, C.O0 b ≠ .at i p := fun b p e => hio (R.sm.2 b i p e)
def noNdB (ρ : Rho) (i : Nat) : Bool := match ρ[i]? with
  | some (some t) => !isNode t
  | _ => true
theorem no_nd (R : Rel K C n σ H O ρ) {i : Nat} (h : noNdB ρ i = true) : ∀ b p, C.O0 b ≠ .at i p := fun b p e => by
  obtain ⟨h1, h2⟩ := R.pz b i p e
  obtain ⟨t, z, e1, e2, e3⟩ := R.val b i p h2 h1
  unfold noNdB at h
  rw [e1] at h
  cases t with
  | d x => cases p <;> simp [subT, kid] at e2; subst e2; cases e3
  | raw x => cases p <;> simp [subT, kid] at e2; subst e2; cases e3
  | fz x => cases p <;> simp [subT, kid] at e2; subst e2; cases e3
  | lk x y z => cases p <;> simp [subT, kid] at e2; subst e2; cases e3
  | a x y => cases p <;> simp [subT, kid] at e2; subst e2; cases e3
  | _ => simp [isNode] at h
theorem relStoreD (R : Rel K C n σ H O ρ) {i : Nat} (hi : i < C.N) (hio : ∀ b p, C.O0 b ≠ .at i p) {v : V} {x : PyData} (h : Rp K (msk O H) v x) : Rel K C n (σ.set i (some v)) H (dropR i O) (ρ.set i (some (.d x))) :=
  relStore R hi hio (.d (Rp.mono (fun b o e => by obtain ⟨e1, e2⟩ := msk_some e; rw [msk_of (dropR_free e1)]; exact e2) _ _ h)) rfl
/-- slot i takes a tree on the way -/
theorem relStoreT (R : Rel K C (C.N + 1) σ H O ρ) {i : Nat} (hi : i < C.N) (hio : i ∉ C.io) {v : V} {t : T} (V1 : Val K H O C.N v t) (ha : ∀ r p, t ≠ .a r p) :
    ∃ O', Rel K C C.N (σ.set i (some v)) H O' (ρ.set i (some t)) ∧ Fre H O H O' := by
  have hl : i < σ.length := by rw [R.ln]; exact hi
  have hl' : i < ρ.length := by rw [R.lr]; exact hi
  have tr : Tr K H O C.N [] v t ∧ ∀ b p, O b = .at C.N p → ∃ z, subT t p = some z ∧ isNode z = true := by
    cases t with
    | a r p => exact absurd rfl (ha r p)
    | _ => exact V1
  obtain ⟨V2, V3⟩ := tr
  have hne : C.N ≠ i := Nat.ne_of_gt hi
  -- the labels behind
  have up : ∀ {b : Addr} {r : Nat} {p : List Nat}, O b = .at r p → r ≠ i → r ≠ C.N → mvR C.N i (dropR i O) b = .at r p := fun {b r p} e1 e2 e3 => mvR_ne (dropR_at.mpr ⟨e1, e2⟩) e3
  have upN : ∀ {b : Addr} {p : List Nat}, O b = .at C.N p → mvR C.N i (dropR i O) b = .at i p := fun {b p} e => mvR_root (dropR_at.mpr ⟨e, hne⟩)
  have dn : ∀ {b : Addr} {r : Nat} {p : List Nat}, mvR C.N i (dropR i O) b = .at r p → (r = i ∧ O b = .at C.N p) ∨ (r ≠ i ∧ r ≠ C.N ∧ O b = .at r p) := fun {b r p} e => by
    rcases mvR_at e with ⟨h1, h2⟩ | ⟨h1, h2⟩
    · exact .inl ⟨h1, (dropR_at.mp h2).1⟩
    · exact .inr ⟨(dropR_at.mp h2).2, h1, (dropR_at.mp h2).1⟩
  have fr : ∀ {b : Addr}, O b = .free → mvR C.N i (dropR i O) b = .free := fun {b} e => mvR_free.mpr (dropR_free e)
  have ff : ∀ {b : Addr}, O b = .foreign ↔ mvR C.N i (dropR i O) b = .foreign := fun {b} => by rw [mvR_foreign, dropR_foreign]
  refine ⟨mvR C.N i (dropR i O), ⟨fun b o e1 e2 => ?_, fun b z => R.nt b fun q => z (fr q), fun b r p e => ?_, fun a b r p e1 e2 => ?_, fun b r p e l => ?_, by rw [List.length_set]; exact R.ln, by rw [List.length_set]; exact R.lr,
    fun j u e => ?_, Nat.le_refl _, fun b e => R.fo b (ff.mpr e), fun b j p e => ?_, R.sm⟩, fun b o e1 e2 => ⟨e1, fr e2⟩⟩
  · obtain ⟨z1, z2⟩ := R.fr b o e1 e2
    refine ⟨z1, ?_⟩
    rcases e2 with e2 | e2
    · rw [e2] at z2 ⊢; exact fr z2
    · rw [e2] at z2 ⊢; exact ff.mp z2
  · rcases dn e with ⟨rfl, _⟩ | ⟨_, h2, h3⟩
    · exact hi
    · have := R.lt b r p h3; omega
  · rcases dn e1 with ⟨h1, h2⟩ | ⟨h1, _, h2⟩ <;> rcases dn e2 with ⟨h3, h4⟩ | ⟨h3, _, h4⟩
    · exact R.inj a b _ _ h2 h4
    · exact absurd h1 h3
    · exact absurd h3 h1
    · exact R.inj a b _ _ h2 h4
  · rcases dn e with ⟨rfl, h2⟩ | ⟨h1, _, h2⟩
    · obtain ⟨z, z1, z2⟩ := V3 b p h2
      exact ⟨t, z, by rw [set_get hl', if_pos rfl], z1, z2⟩
    · obtain ⟨t', z, g1, g2, g3⟩ := R.val b r p h2 l
      exact ⟨t', z, by rw [set_get hl', if_neg h1]; exact g1, g2, g3⟩
  · rw [set_get hl'] at e
    by_cases hj : j = i
    · subst hj
      rw [if_pos rfl] at e
      cases e
      exact ⟨v, by rw [set_get hl, if_pos rfl], Tr.move (r' := j) (p0 := []) (p1 := []) (fun b o e1 e2 => ⟨e1, fr e2⟩) (fun b o q e1 e2 => ⟨e1, upN e2⟩) t [] v V2⟩
    · rw [if_neg hj] at e
      obtain ⟨w, h2, h3⟩ := R.sl j u e
      have : j < C.N := by have := (List.getElem?_eq_some_iff.mp e).1; rw [R.lr] at this; exact this
      exact ⟨w, by rw [set_get hl, if_neg hj]; exact h2, Tr.move (r' := j) (p0 := []) (p1 := []) (fun b o e1 e2 => ⟨e1, fr e2⟩) (fun b o q e1 e2 => ⟨e1, up e2 hj (Nat.ne_of_lt this)⟩) u [] w h3⟩
  · obtain ⟨z1, z2⟩ := R.pz b j p e
    exact ⟨z1, up z2 (fun z => hio (z ▸ R.sm.2 b j p e)) (Nat.ne_of_lt z1)⟩
end

section
variable {X : Cx} {io : List Nat} {st : Stmt} {rest : List Stmt} {t u : TwS} {a b c e o i' : Expr} {es : List Expr} {ta tb tc : TwE} {tas : TwA} {tt : TwT} {pos pos' : Pos}
theorem nlt {X : Cx} {C : Ctx} {i : Nat} {x : Str} (hC : C.N = X.N.length) (hi : X.N[i]? = some x) : i < C.N := by rw [hC]; exact (List.getElem?_eq_some_iff.mp hi).1
/-- x = e: a tree of its own | data -/
def wSet (i : Nat) (ta : TwE) : TwS := fun D ρ => ta ρ (fun t ρ1 => (∀ r p, t ≠ .a r p) ∧ D.nx (ρ1.set i (some t))) D.ex
theorem ls_set {i : Nat} {x : Str} (hN : X.N.Nodup) (hi : X.N[i]? = some x) (hx : Loc X.env.scope x) (he : LE X e ta) (hio : i ∉ io := by decide) (hs : swapsWith e (some (.Name x pos')) pos.line X.env = pure false := by rfl) (hf : X.fn x = true ∨ X.env.scope.names.lookup x = some .local := by first | exact .inl rfl | exact .inr rfl | assumption) :
    LS X io (.Assign [.Name x pos'] e pos) (wSet i ta) := by
  refine ⟨fun D D' ρ l q => he.mono ρ _ _ _ _ (fun t ρ1 ⟨h, q⟩ => ⟨h, l.nx _ q⟩) l.ex q, fun C W hC hio' tk hp => (ps_set hN hi hx (he.run C W C.N hC (Nat.le_refl _) tk) hs hf).imp fun D σ H ⟨O, ρ, R, q⟩ => ?_⟩
  refine ⟨O, ρ, R, he.mono ρ _ _ _ _ (fun t ρ1 ⟨ha, q⟩ => ?_) (fun _ _ z => z) q⟩
  intro v H1 O1 R1 F1 V1
  obtain ⟨O', R', F'⟩ := relStoreT R1 (nlt hC hi) (by rw [hio']; exact hio) V1 ha
  exact q _ H1 O' R' (F1.fre.trans F')
/-- return of a name that holds a tree of its own: the tree itself -/
def wRetV (i : Nat) : TwS := fun D ρ => ∃ t, ρ[i]? = some (some t) ∧ D.rt t (ρ.set i none)
theorem relTake {K : PySem.W.Frag} {C : Ctx} {σ : St} {H : Hp} {O : Own} {ρ : Rho} (R : Rel K C C.N σ H O ρ) {i : Nat} (hio : i ∉ C.io) {t : T} {v : V} (e : ρ[i]? = some (some t)) (hv : σ[i]? = some (some v)) (tr : Tr K H O i [] v t) :
    ∃ O', Rel K C (C.N + 1) σ H O' (ρ.set i none) ∧ Fre H O H O' ∧ Val K H O' C.N v t := by
  have hi : i < C.N := R.slt e
  have hl' : i < ρ.length := by rw [R.lr]; exact hi
  have hne : i ≠ C.N := Nat.ne_of_lt hi
  have up : ∀ {b : Addr} {r : Nat} {p : List Nat}, O b = .at r p → r ≠ i → mvR i C.N O b = .at r p := fun e1 e2 => mvR_ne e1 e2
  have upN : ∀ {b : Addr} {p : List Nat}, O b = .at i p → mvR i C.N O b = .at C.N p := fun e => mvR_root e
  have dn : ∀ {b : Addr} {r : Nat} {p : List Nat}, mvR i C.N O b = .at r p → (r = C.N ∧ O b = .at i p) ∨ (r ≠ i ∧ r < C.N ∧ O b = .at r p) := fun {b r p} e => by
    rcases mvR_at e with ⟨h1, h2⟩ | ⟨h1, h2⟩
    · exact .inl ⟨h1, h2⟩
    · exact .inr ⟨h1, R.lt b r p h2, h2⟩
  have fr : ∀ {b : Addr}, O b = .free → mvR i C.N O b = .free := fun {b} e => mvR_free.mpr e
  have noA : ∀ r p, t ≠ .a r p := fun r p z => by subst z; cases tr
  refine ⟨mvR i C.N O, ⟨fun b o e1 e2 => ?_, fun b z => R.nt b fun q => z (fr q), fun b r p e => ?_, fun a b r p e1 e2 => ?_, fun b r p e l => ?_, R.ln, by rw [List.length_set]; exact R.lr,
    fun j u e => ?_, Nat.le_succ _, fun b e => R.fo b (mvR_foreign.mp e), fun b j p e => ?_, R.sm⟩, fun b o e1 e2 => ⟨e1, fr e2⟩, ?_⟩
  · obtain ⟨z1, z2⟩ := R.fr b o e1 e2
    refine ⟨z1, ?_⟩
    rcases e2 with e2 | e2
    · rw [e2] at z2 ⊢; exact fr z2
    · rw [e2] at z2 ⊢; exact mvR_foreign.mpr z2
  · rcases dn e with ⟨h1, _⟩ | ⟨_, h2, _⟩ <;> omega
  · rcases dn e1 with ⟨h1, h2⟩ | ⟨h1, h5, h2⟩ <;> rcases dn e2 with ⟨h3, h4⟩ | ⟨h3, h6, h4⟩
    · exact R.inj a b _ _ h2 h4
    · omega
    · omega
    · exact R.inj a b _ _ h2 h4
  · rcases dn e with ⟨h1, h2⟩ | ⟨h1, _, h2⟩
    · omega
    · obtain ⟨t', z, g1, g2, g3⟩ := R.val b r p h2 l
      exact ⟨t', z, by rw [set_get hl', if_neg h1]; exact g1, g2, g3⟩
  · rw [set_get hl'] at e
    by_cases hj : j = i
    · rw [if_pos hj] at e; cases e
    · rw [if_neg hj] at e
      obtain ⟨w, h2, h3⟩ := R.sl j u e
      exact ⟨w, h2, Tr.move (r' := j) (p0 := []) (p1 := []) (fun b o e1 e2 => ⟨e1, fr e2⟩) (fun b o q e1 e2 => ⟨e1, up e2 hj⟩) u [] w h3⟩
  · obtain ⟨z1, z2⟩ := R.pz b j p e
    exact ⟨z1, up z2 (fun z => hio (z ▸ R.sm.2 b j p e))⟩
  · have : Tr K H (mvR i C.N O) C.N [] v t ∧ ∀ b p, mvR i C.N O b = .at C.N p → ∃ z, subT t p = some z ∧ isNode z = true := by
      refine ⟨Tr.move (r' := C.N) (p0 := []) (p1 := []) (fun b o e1 e2 => ⟨e1, fr e2⟩) (fun b o q e1 e2 => ⟨e1, upN e2⟩) t [] v tr, fun b p e' => ?_⟩
      rcases dn e' with ⟨_, h2⟩ | ⟨_, h2, _⟩
      · obtain ⟨t', z, g1, g2, g3⟩ := R.val b i p h2 hi
        rw [e] at g1; cases g1
        exact ⟨z, g2, g3⟩
      · omega
    cases t with
    | a r p => exact absurd rfl (noA r p)
    | _ => exact this
theorem ls_retV {i : Nat} {x : Str} (hi : X.N[i]? = some x) (hv : Vis X.env.scope x) (hio : i ∉ io := by decide) (hd : (x == ("__debug__" : Str)) = false := by decide) (hcd : (x == ("__classdict__" : Str)) = false := by decide) : LS X io (.Return (some (.Name x pos')) pos) (wRetV i) := by
  refine ⟨fun D D' ρ l ⟨t, e, q⟩ => ⟨t, e, l.rt _ _ q⟩, fun C W hC hio' tk hp => (ps_ret (pe_var (i := i) hi hv hd hcd)).imp fun D σ H ⟨O, ρ, R, t, e, q⟩ => ?_⟩
  obtain ⟨v, h1, h2⟩ := R.sl i t e
  obtain ⟨O', R', F', V'⟩ := relTake R (by rw [hio']; exact hio) e h1 h2
  exact ⟨v, h1, q v σ H O' R' F' V'⟩
/-- from here on what a slot holds is shared (nothing happens in the program) -/
def wFrz (i : Nat) (t : TwS) : TwS := fun D ρ => ∃ u x, ρ[i]? = some (some u) ∧ erase u = some x ∧ t D (ρ.set i (some (.d x)))
theorem relFrz {K : PySem.W.Frag} {C : Ctx} {σ : St} {H : Hp} {O : Own} {ρ : Rho} (R : Rel K C C.N σ H O ρ) {i : Nat} (hio : i ∉ C.io) {t : T} {x : PyData} (e : ρ[i]? = some (some t)) (he : erase t = some x) :
    Rel K C C.N σ H (dropR i O) (ρ.set i (some (.d x))) := by
  obtain ⟨v, h1, h2⟩ := R.sl i t e
  have hi : i < C.N := R.slt e
  have rp : Rp K (msk (dropR i O) H) v x := Rp.mono (fun b o z => by
    unfold vis at z
    split at z
    · rename_i e1; rw [msk_of (dropR_free e1)]; exact z
    · cases z
    · rename_i r' p' e1
      split at z
      · rename_i e2
        rw [msk_of (by unfold dropR; rw [e1]; simp only; rw [if_pos e2])]; exact z
      · cases z) _ _ (Tr.view t [] v x he h2)
  have := relStore R hi (no_io R hio) (v := v) (t := .d x) (.d rp) rfl
  have es : σ.set i (some v) = σ := by
    refine List.ext_getElem? fun j => ?_
    rw [set_get (by rw [R.ln]; exact hi)]
    split
    · rename_i hj; subst hj; exact h1.symm
    · rfl
  rw [es] at this
  exact this
theorem ls_frz (i : Nat) (h : LS X io st t) (hio : i ∉ io := by decide) : LS X io st (wFrz i t) := by
  refine ⟨fun D D' ρ l ⟨u, x, e1, e2, q⟩ => ⟨u, x, e1, e2, h.mono _ _ _ l q⟩, fun C W hC hio' tk hp => (h.run C W hC hio' tk hp).imp fun D σ H ⟨O, ρ, R, u, x, e1, e2, q⟩ => ?_⟩
  exact ⟨dropR i O, _, relFrz R (by rw [hio']; exact hio) e1 e2, h.mono _ _ _ (enK.on (fre_drop i) D) q⟩

/-! ### targets that take data -/
abbrev TwG := PyData → Rho → (Rho → Prop) → ExK → Prop
/-- behind a target: what is shared, the values on the way, the places but those at the slots ss -/
structure FrmS (ss : List Nat) (N n : Nat) (H : Hp) (O : Own) (H' : Hp) (O' : Own) : Prop where
  fre : Fre H O H' O'
  pl : ∀ b r p, O b = .at r p → r < N → r ∉ ss → O' b = .at r p
  tm : ∀ b o r p, H b = some o → O b = .at r p → N ≤ r → r < n → H' b = some o ∧ O' b = .at r p
  nw : ∀ b r p, O' b = .at r p → N ≤ r → r < n → O b = .at r p
def MonG (tw : TwG) : Prop := ∀ x ρ (Q Q' : Rho → Prop) (E E' : ExK), (∀ ρ', Q ρ' → Q' ρ') → (∀ c ρ', E c ρ' → E' c ρ') → tw x ρ Q E → tw x ρ Q' E'
def lfG (K : PySem.W.Frag) (C : Ctx) (W : WX) (ss : List Nat) (n : Nat) (tw : TwG) : TG := fun v σ H Q => ∃ O ρ x, Rel K C n σ H O ρ ∧ Rp K (msk O H) v x ∧
  tw x ρ (fun ρ' => ∀ σ' H' O', Rel K C n σ' H' O' ρ' → FrmS ss C.N n H O H' O' → wipe σ' ss = wipe σ ss → Q σ' H') (exK K C W H O)
structure LG (X : Cx) (ss : List Nat) (tg : Expr) (tw : TwG) : Prop where
  mono : MonG tw
  run : ∀ (C : Ctx) (W : WX) (n : Nat), C.N = X.N.length → C.N ≤ n → Takes X W → PG X tg (lfG X.K C W ss n tw)
theorem _root_.L2.PG.imp {tg : Expr} {t t' : TG} (h : PG X tg t) (k : ∀ v σ H Q, t' v σ H Q → t v σ H Q) : PG X tg t' := ⟨fun pins s σ H v u Q I r q => h.run pins s σ H v u Q I r (k _ _ _ _ q)⟩
theorem wipe_set {σ : St} {i : Nat} {x : Option V} : ∀ {ss : List Nat}, i ∈ ss → wipe (σ.set i x) ss = wipe σ ss
  | [], h => by simp at h
  | s :: ss, h => by
    unfold wipe
    by_cases e : i ∈ ss
    · rw [wipe_set e]
    · have : i = s := by rcases List.mem_cons.mp h with h | h; exact h; exact absurd h e
      subst this
      refine List.ext_getElem? fun j => ?_
      by_cases hj : j = i
      · subst hj
        simp [List.getElem?_set, wipe_length]
      · rw [List.getElem?_set_ne (fun z => hj z.symm), List.getElem?_set_ne (fun z => hj z.symm)]
        by_cases h2 : j ∈ ss
        · have a1 : ∀ τ : St, (wipe τ ss)[j]? = if j < τ.length then some none else none := fun τ => by
            clear hj h e
            induction ss with
            | nil => simp at h2
            | cons s' ss ih =>
              unfold wipe
              by_cases q : j = s'
              · subst q
                rw [List.getElem?_set, if_pos rfl, wipe_length]
              · rw [List.getElem?_set_ne (fun z => q z.symm)]
                exact ih (by rcases List.mem_cons.mp h2 with h | h; exact absurd h q; exact h)
          rw [a1, a1, List.length_set]
        · rw [wipe_out h2, wipe_out h2, List.getElem?_set_ne (fun z => hj z.symm)]
def wNm (i : Nat) : TwG := fun x ρ Q _ => noNdB ρ i = true ∧ Q (ρ.set i (some (.d x)))
theorem lg_name {i : Nat} {x : Str} (hN : X.N.Nodup) (hi : X.N[i]? = some x) (hx : Loc X.env.scope x) (hf : X.fn x = true ∨ X.env.scope.names.lookup x = some .local := by first | exact .inl rfl | exact .inr rfl | assumption) : LG X [i] (.Name x pos) (wNm i) := by
  refine ⟨fun x ρ Q Q' E E' h _ ⟨z, q⟩ => ⟨z, h _ q⟩, fun C W n hC hn tk => (pg_name hN hi hx hf).imp fun v σ H Q ⟨O, ρ, x, R, rp, nd, q⟩ => ?_⟩
  refine q _ H (dropR i O) (relStoreD R (nlt hC hi) (no_nd R nd) rp) ⟨fre_drop i, fun b r p e l z => dropR_at.mpr ⟨e, fun q => z (by simp [q])⟩, fun b o r p e1 e2 l _ => ⟨e1, dropR_at.mpr ⟨e2, fun z => ?_⟩⟩, fun b r p e _ _ => (dropR_at.mp e).1⟩ (wipe_set (by simp))
  have := nlt hC hi
  omega
abbrev TwGs := List PyData → Rho → (Rho → Prop) → ExK → Prop
def lfGs (K : PySem.W.Frag) (C : Ctx) (W : WX) (ss : List Nat) (n : Nat) (tw : TwGs) : TGs := fun vs σ H Q => ∃ O ρ xs, Rel K C n σ H O ρ ∧ RpAll K (msk O H) vs xs ∧
  tw xs ρ (fun ρ' => ∀ σ' H' O', Rel K C n σ' H' O' ρ' → FrmS ss C.N n H O H' O' → wipe σ' ss = wipe σ ss → Q σ' H') (exK K C W H O)
structure LGs (X : Cx) (ss : List Nat) (tg : List Expr) (tw : TwGs) : Prop where
  mono : ∀ x ρ (Q Q' : Rho → Prop) (E E' : ExK), (∀ ρ', Q ρ' → Q' ρ') → (∀ c ρ', E c ρ' → E' c ρ') → tw x ρ Q E → tw x ρ Q' E'
  run : ∀ (C : Ctx) (W : WX) (n : Nat), C.N = X.N.length → C.N ≤ n → Takes X W → PGs X tg (lfGs X.K C W ss n tw)
theorem _root_.L2.PGs.imp {tg : List Expr} {t t' : TGs} (h : PGs X tg t) (k : ∀ v σ H Q, t' v σ H Q → t v σ H Q) : PGs X tg t' := ⟨fun pins s σ H v u Q I r q => h.run pins s σ H v u Q I r (k _ _ _ _ q)⟩
def wGsNil : TwGs := fun xs ρ Q _ => xs = [] ∧ Q ρ
def wGsCons (t : TwG) (u : TwGs) : TwGs := fun xs ρ Q E => ∃ x r, xs = x :: r ∧ t x ρ (fun ρ1 => u r ρ1 Q E) E
theorem FrmS.refl {ss : List Nat} {N n : Nat} {H : Hp} {O : Own} : FrmS ss N n H O H O := ⟨Fre.refl, fun _ _ _ h _ _ => h, fun _ _ _ _ h e _ _ => ⟨h, e⟩, fun _ _ _ h _ _ => h⟩
theorem FrmS.trans {ss : List Nat} {N n : Nat} {H H1 H2 : Hp} {O O1 O2 : Own} (a : FrmS ss N n H O H1 O1) (b : FrmS ss N n H1 O1 H2 O2) : FrmS ss N n H O H2 O2 :=
  ⟨a.fre.trans b.fre, fun x r p e l z => b.pl x r p (a.pl x r p e l z) l z, fun x o r p e1 e2 l1 l2 => let ⟨z1, z2⟩ := a.tm x o r p e1 e2 l1 l2; b.tm x o r p z1 z2 l1 l2, fun x r p e l1 l2 => a.nw x r p (b.nw x r p e l1 l2) l1 l2⟩
theorem FrmS.wid {ss ss' : List Nat} {N n : Nat} {H H1 : Hp} {O O1 : Own} (a : FrmS ss N n H O H1 O1) (h : ∀ i ∈ ss, i ∈ ss') : FrmS ss' N n H O H1 O1 := ⟨a.fre, fun x r p e l z => a.pl x r p e l fun q => z (h _ q), a.tm, a.nw⟩
theorem wipe_wid {σ τ : St} {ss ss' : List Nat} (h : wipe σ ss = wipe τ ss) (hs : ∀ i ∈ ss, i ∈ ss') (hl : σ.length = τ.length) : wipe σ ss' = wipe τ ss' := by
  have get : ∀ (ss : List Nat) (τ : St) (j : Nat), (wipe τ ss)[j]? = if j ∈ ss then (if j < τ.length then some none else none) else τ[j]? := by
    intro ss
    induction ss with
    | nil => intro τ j; simp [wipe]
    | cons s ss ih =>
      intro τ j
      unfold wipe
      by_cases q : j = s
      · subst q
        rw [List.getElem?_set, if_pos rfl, wipe_length]
        simp
      · rw [List.getElem?_set_ne (fun z => q z.symm), ih]
        simp [q]
  refine List.ext_getElem? fun j => ?_
  rw [get, get]
  by_cases hj : j ∈ ss'
  · rw [if_pos hj, if_pos hj, hl]
  · rw [if_neg hj, if_neg hj]
    have := congrArg (·[j]?) h
    simp only [get] at this
    rw [if_neg (fun z => hj (hs _ z)), if_neg (fun z => hj (hs _ z))] at this
    exact this
theorem RpAll.fre {K : PySem.W.Frag} {H H' : Hp} {O O' : Own} (f : Fre H O H' O') {vs : List V} {xs : List PyData} (h : RpAll K (msk O H) vs xs) : RpAll K (msk O' H') vs xs :=
  RpAll.mono (fun b o e => by obtain ⟨e1, e2⟩ := msk_some e; obtain ⟨z1, z2⟩ := f b o e2 e1; rw [msk_of z2]; exact z1) _ _ h
theorem Rp.fre {K : PySem.W.Frag} {H H' : Hp} {O O' : Own} (f : Fre H O H' O') {v : V} {x : PyData} (h : Rp K (msk O H) v x) : Rp K (msk O' H') v x :=
  Rp.mono (fun b o e => by obtain ⟨e1, e2⟩ := msk_some e; obtain ⟨z1, z2⟩ := f b o e2 e1; rw [msk_of z2]; exact z1) _ _ h
theorem lgs_nil : LGs X [] [] wGsNil := ⟨fun x ρ Q Q' E E' h _ ⟨e, q⟩ => ⟨e, h _ q⟩, fun C W n hC hn tk => pgs_nil.imp fun vs σ H Q ⟨O, ρ, xs, R, rp, e, q⟩ => by
  subst e
  cases rp
  exact ⟨rfl, q σ H O R .refl rfl⟩⟩
variable {tg : TwG} {tgs : TwGs} {s1 s2 : List Nat}
theorem lgs_cons (h1 : LG X s1 e tg) (h2 : LGs X s2 es tgs) (hs : (assignEach (e :: es) X.env).map (·.2) = assign e X.env :: (assignEach es X.env).map (·.2) := by rfl) : LGs X (s1 ++ s2) (e :: es) (wGsCons tg tgs) := by
  refine ⟨fun x ρ Q Q' E E' h he ⟨y, r, e, q⟩ => ⟨y, r, e, h1.mono _ _ _ _ _ _ (fun ρ1 q1 => h2.mono _ _ _ _ _ _ h he q1) he q⟩, fun C W n hC hn tk => (pgs_cons (h1.run C W n hC hn tk) (h2.run C W n hC hn tk) hs).imp fun vs σ H Q ⟨O, ρ, xs, R, rp, x, r, e, q⟩ => ?_⟩
  subst e
  cases rp with
  | cons rp1 rp2 =>
    refine ⟨_, _, rfl, O, ρ, x, R, rp1, h1.mono _ _ _ _ _ _ (fun ρ1 q1 => ?_) (fun _ _ z => z) q⟩
    intro σ1 H1 O1 R1 F1 w1
    refine ⟨O1, ρ1, r, R1, RpAll.fre F1.fre rp2, h2.mono _ _ _ _ _ _ (fun ρ2 q2 => ?_) (fun c ρ' z => exK.on F1.fre c ρ' z) q1⟩
    intro σ2 H2 O2 R2 F2 w2
    have l1 : σ1.length = σ.length := R1.ln.trans R.ln.symm
    have l2 : σ2.length = σ1.length := R2.ln.trans R1.ln.symm
    exact q2 σ2 H2 O2 R2 ((F1.wid fun i h => List.mem_append_left _ h).trans (F2.wid fun i h => List.mem_append_right _ h)) ((wipe_wid w2 (fun i h => List.mem_append_right _ h) l2).trans (wipe_wid w1 (fun i h => List.mem_append_left _ h) l1))
def wGTup (k : Nat) (t : TwGs) : TwG := fun x ρ Q E => ∃ xs, x = .tuple xs ∧ xs.length = k ∧ t xs ρ Q E
theorem lg_tup {kk n : Nat} (hc : X.calm = true) (h : LGs X s1 es tgs) (hn : (assignEach es X.env).length = n := by rfl) (hst : (assignEach es X.env).findIdx? (·.1) = none := by rfl) : LG X s1 (.Tuple es kk pos) (wGTup n tgs) := by
  refine ⟨fun x ρ Q Q' E E' k he ⟨xs, e, e2, q⟩ => ⟨xs, e, e2, h.mono _ _ _ _ _ _ k he q⟩, fun C W m hC hm tk => (pg_tup hc (h.run C W m hC hm tk) hn hst).imp fun v σ H Q ⟨O, ρ, x, R, rp, xs, e1, e2, q⟩ => ?_⟩
  subst e1
  cases rp with
  | tup h1 h2 => exact ⟨_, _, rfl, .of (msk_some h1).2, by rw [h2.length]; exact e2, O, ρ, xs, R, h2, q⟩
/-- target = e, e data -/
def wAsg (ta : TwE) (tg : TwG) : TwS := fun D ρ => ta ρ (fun t ρ1 => ∃ x, erase t = some x ∧ tg x ρ1 D.nx D.ex) D.ex
theorem ls_asg (he : LE X e ta) (hg : LG X s1 a tg) (hs : swapsWithSole [a] e pos.line X.env = pure false := by rfl) (hw : swappedStores [a] e X.env = pure none := by rfl) (h1 : (assignEach [a] X.env).map (·.2) = [assign a X.env] := by rfl) : LS X io (.Assign [a] e pos) (wAsg ta tg) := by
  refine ⟨fun D D' ρ l q => he.mono ρ _ _ _ _ (fun t ρ1 ⟨x, h, q⟩ => ⟨x, h, hg.mono _ _ _ _ _ _ l.nx l.ex q⟩) l.ex q, fun C W hC hio tk hp => (ps_asg (he.run C W C.N hC (Nat.le_refl _) tk) (hg.run C W C.N hC (Nat.le_refl _) tk) hs hw h1).imp fun D σ H ⟨O, ρ, R, q⟩ => ?_⟩
  refine ⟨O, ρ, R, he.mono ρ _ _ _ _ (fun t ρ1 ⟨x, ex, q⟩ => ?_) (fun _ _ z => z) q⟩
  intro v H1 O1 R1 F1 V1
  have F := F1.fre.trans (fre_cut (H := H1) (O := O1) C.N)
  refine ⟨_, ρ1, x, R1.cut (Nat.le_refl _), V1.asD (Nat.le_refl _) ex, hg.mono _ _ _ _ _ _ (fun ρ2 q2 => ?_) (fun c ρ' z => exK.on F c ρ' z) q⟩
  intro σ2 H2 O2 R2 F2 _
  exact q2 σ2 H2 O2 R2 (F.trans F2.fre)
end
end TX

/-! Loops and comprehensions over trees. -/
namespace TX
open PySem PySem.Spec L2

theorem nt_free {H : Hp} {O : Own} (nt : ∀ b, O b ≠ .free → ∃ o, H b = some o ∧ ownable o) (b : Addr) (h : H b = none) : O b = .free := by
  by_cases e : O b = .free
  · exact e
  · obtain ⟨o, z, _⟩ := nt b e
    rw [h] at z; cases z
/-- J gives the items xs, from (H, O) on, as long as what is shared stands -/
structure Yl (K : PySem.W.Frag) (J : It) (xs : List PyData) (H : Hp) (O : Own) : Prop where
  stop : ∀ H' O', Fre H O H' O' → J.stop xs.length H'
  go : ∀ (i : Nat) x H' O', Fre H O H' O' → xs[i]? = some x → J.go i H'
  yld : ∀ (i : Nat) x v H' O' H'', Fre H O H' O' → xs[i]? = some x → J.yld i H' v H'' → (∀ b, O' b ≠ .free → ∃ o, H' b = some o ∧ ownable o) →
    (H'' = H' ∨ ∃ p ws, H' p = none ∧ H'' = upd H' p (.tup ws)) ∧ Rp K (msk O' H'') v x
abbrev TwI := Rho → (List PyData → Rho → Prop) → ExK → Prop
def lfI (K : PySem.W.Frag) (C : Ctx) (W : WX) (n : Nat) (tw : TwI) : TI := fun σ H R => ∃ O ρ, Rel K C n σ H O ρ ∧
  tw ρ (fun xs ρ' => ∀ J H' O', Rel K C n σ H' O' ρ' → Frm C.N n H O H' O' → Yl K J xs H' O' → R J H') (exK K C W H O)
structure LI (X : Cx) (tg iter : Expr) (tw : TwI) : Prop where
  mono : MonE tw
  run : ∀ (C : Ctx) (W : WX) (n : Nat), C.N = X.N.length → C.N ≤ n → Takes X W → PI X tg iter (lfI X.K C W n tw)
theorem _root_.L2.PI.imp {X : Cx} {tg iter : Expr} {t t' : TI} (h : PI X tg iter t) (k : ∀ σ H Q, t' σ H Q → t σ H Q) : PI X tg iter t' := ⟨fun pins s σ H R I q => h.run pins s σ H R I (k _ _ _ q)⟩

/-! ### what is walked -/
section
variable {K : PySem.W.Frag} {H : Hp} {O : Own}
theorem yl_tup {a : Addr} {ws : List V} {xs : List PyData} (h : H a = some (.tup ws)) (hf : O a = .free) (hr : RpAll K (msk O H) ws xs) : Yl K (Itt K a) xs H O where
  stop H' O' f := ⟨ws, .of (f a _ h hf).1, Nat.le_of_eq hr.length⟩
  go i x H' O' f e := by
    obtain ⟨v, h1, _⟩ := hr.get e
    exact ⟨ws, v, .of (f a _ h hf).1, h1⟩
  yld i x v H' O' H'' f e y _ := by
    obtain ⟨rfl, y⟩ := y
    obtain ⟨w, h1, h2⟩ := hr.get e
    have := y ws (.of (f a _ h hf).1)
    rw [h1] at this; cases this
    exact ⟨.inl rfl, h2.fre f⟩
theorem yl_range {lo : Int} {n : Nat} : Yl K (Itr lo n) ((List.range n).map fun i => PyData.int (lo + (i : Nat))) H O where
  stop H' O' f := by simp [Itr]
  go i x H' O' f e := by
    have := (List.getElem?_eq_some_iff.mp e).1
    simpa [Itr] using this
  yld i x v H' O' H'' f e y _ := by
    obtain ⟨rfl, rfl⟩ := y
    rw [List.getElem?_map] at e
    have hi : i < n := by
      by_cases h : i < n
      · exact h
      · rw [List.getElem?_eq_none (by simpa using Nat.le_of_not_lt h)] at e; cases e
    rw [List.getElem?_range hi] at e
    cases e
    exact ⟨.inl rfl, .int _⟩
def enumD (xs : List PyData) : List PyData := xs.zipIdx.map fun p => PyData.tuple [.int (p.2 : Nat), p.1]
theorem enumD_get {xs : List PyData} {i : Nat} {x : PyData} (e : (enumD xs)[i]? = some x) : ∃ y, xs[i]? = some y ∧ x = .tuple [.int (i : Nat), y] := by
  unfold enumD at e
  rw [List.getElem?_map, List.getElem?_zipIdx] at e
  cases h : xs[i]? with
  | none => rw [h] at e; cases e
  | some y => rw [h] at e; simp at e; exact ⟨y, rfl, e.symm⟩
theorem yl_enum {a : Addr} {ws : List V} {xs : List PyData} (h : H a = some (.lst ws)) (hf : O a = .free) (hr : RpAll K (msk O H) ws xs) (hk : K.lookup a = none) : Yl K (Ite K a) (enumD xs) H O where
  stop H' O' f := ⟨ws, .of (f a _ h hf).1, by rw [hr.length]; simp [enumD]⟩
  go i x H' O' f e := by
    obtain ⟨y, e1, _⟩ := enumD_get e
    obtain ⟨v, h1, _⟩ := hr.get e1
    exact ⟨ws, v, .of (f a _ h hf).1, h1⟩
  yld i x v H' O' H'' f e y fr := by
    obtain ⟨T, w, rfl, hn, rfl, y⟩ := y
    obtain ⟨z, e1, rfl⟩ := enumD_get e
    obtain ⟨w', h1, h2⟩ := hr.get e1
    have := y ws (.of (f a _ h hf).1)
    rw [h1] at this; cases this
    refine ⟨.inr ⟨T, _, hn, rfl⟩, .tup (by rw [msk_of (nt_free fr _ hn)]; exact upd_same) (.cons (.int _) (.cons (Rp.mono (fun b o q => ?_) _ _ (h2.fre f)) .nil))⟩
    obtain ⟨q1, q2⟩ := msk_some q
    rw [msk_of q1, upd_ne (ne_of_none q2 hn)]
    exact q2
def zipD (xs ys : List PyData) : List PyData := (xs.zip ys).map fun p => PyData.tuple [p.1, p.2]
end

section
variable {X : Cx} {tg : Expr} {a b e : Expr} {ta tb : TwE} {tas : TwA} {p pos tpos : Pos} {elts : List Expr} {kk : Nat}
/-- a value on the way that is no place, walked as a list of data: let go, it is shared -/
theorem seq_free {K : PySem.W.Frag} {C : Ctx} {n k m : Nat} {σ : St} {H : Hp} {O : Own} {ρ : Rho} {v : V} {t : T} {xs : List PyData} (R : Rel K C m σ H O ρ) (hk : n ≤ k) (V1 : Val K H O k v t) (e : flatL t = some xs) :
    ∃ ad ws, v = .ref ad ∧ H ad = some (.lst ws) ∧ cut n O ad = .free ∧ RpAll K (msk (cut n O) H) ws xs := by
  have up : ∀ b o, msk O H b = some o → msk (cut n O) H b = some o := fun b o z => by obtain ⟨z1, z2⟩ := msk_some z; rw [msk_of (cut_free z1)]; exact z2
  cases t with
  | d x =>
    cases x with
    | list ys =>
      simp only [flatL, Option.some.injEq] at e
      subst e
      have := val_d V1
      cases this with
      | lst h1 h2 => exact ⟨_, _, rfl, (msk_some h1).2, cut_free (msk_some h1).1, RpAll.mono up _ _ h2⟩
    | _ => simp [flatL] at e
  | l ts =>
    simp only [flatL] at e
    have := V1.1
    cases this with
    | l h1 h2 h3 =>
      rw [allD_eq e] at h3
      refine ⟨_, _, rfl, h2, ?_, RpAll.mono up _ _ (TrAll.data h3)⟩
      unfold cut; rw [h1]; simp only; rw [if_neg (by omega)]
  | _ => simp [flatL] at e
def wILst (ta : TwE) : TwI := fun ρ Q E => ta ρ (fun t ρ1 => ∃ xs, flatL t = some xs ∧ Q xs ρ1) E
theorem li_list (ha : LE X e ta) : LI X tg e (wILst ta) := by
  refine ⟨fun ρ Q Q' E E' h he q => ha.mono ρ _ _ E E' (fun t ρ1 ⟨xs, e, q⟩ => ⟨xs, e, h _ _ q⟩) he q, fun C W n hC hn tk => ⟨fun pins s σ H R I ⟨O, ρ, Rl, q⟩ => ?_⟩⟩
  refine thn ((pi_list (tg := tg) (PE.imp (t' := fun σ H Q => lfE X.K C W n ta σ H Q) (ha.run C W n hC hn tk) fun _ _ _ z => z)).run pins s σ H R I ⟨O, ρ, Rl, ha.mono ρ _ _ _ _ (fun t ρ1 ⟨xs, e, q⟩ => ?_) (fun _ _ z => z) q⟩) fun _ _ z => z
  intro v H1 O1 R1 F1 V1
  obtain ⟨ad, ws, rfl, h1, h2, h3⟩ := seq_free R1 (Nat.le_refl n) V1 e
  refine ⟨ad, rfl, ⟨ws, .of h1⟩, q _ H1 _ (R1.cut hn) (F1.trans (frm_cut C.N n H1 O1 hn) (Nat.le_refl _)) ⟨fun H' O' f => ⟨ws, .of (f ad _ h1 h2).1, Nat.le_of_eq h3.length⟩, fun i x H' O' f e => ?_, fun i x v H' O' H'' f e y fr => ?_⟩⟩
  · obtain ⟨v, g1, _⟩ := h3.get e
    exact ⟨ws, v, .of (f ad _ h1 h2).1, g1⟩
  · obtain ⟨rfl, y⟩ := y
    obtain ⟨w, g1, g2⟩ := h3.get e
    have := y ws (.of (f ad _ h1 h2).1)
    rw [g1] at this; cases this
    exact ⟨.inl rfl, g2.fre f⟩
def wITup (ta : TwE) : TwI := fun ρ Q E => ta ρ (fun t ρ1 => ∃ xs, t = .d (.tuple xs) ∧ Q xs ρ1) E
theorem li_tup (ha : LE X e ta) : LI X tg e (wITup ta) := by
  refine ⟨fun ρ Q Q' E E' h he q => ha.mono ρ _ _ E E' (fun t ρ1 ⟨xs, e, q⟩ => ⟨xs, e, h _ _ q⟩) he q, fun C W n hC hn tk => (pi_tup (tg := tg) (ha.run C W n hC hn tk)).imp fun σ H R ⟨O, ρ, Rl, q⟩ => ?_⟩
  refine ⟨O, ρ, Rl, ha.mono ρ _ _ _ _ (fun t ρ1 ⟨xs, e, q⟩ => ?_) (fun _ _ z => z) q⟩
  intro v H1 O1 R1 F1 V1
  subst e
  have := val_d V1
  cases this with
  | tup h1 h2 =>
    obtain ⟨z1, z2⟩ := msk_some h1
    refine ⟨_, rfl, ⟨_, .of z2⟩, q _ H1 _ (R1.cut hn) (F1.trans (frm_cut C.N n H1 O1 hn) (Nat.le_refl _)) (yl_tup z2 (cut_free z1) (RpAll.mono (fun b o z => ?_) _ _ h2))⟩
    obtain ⟨z1, z2⟩ := msk_some z
    rw [msk_of (cut_free z1)]; exact z2
def rangeD (lo : Int) (n : Nat) : List PyData := (List.range n).map fun i => PyData.int (lo + (i : Nat))
def wIR1 (tas : TwA) : TwI := fun ρ Q E => tas ρ (fun ts ρ1 => ∃ j : Int, ts = [.d (.int j)] ∧ -(2 ^ 62) ≤ j ∧ j < 2 ^ 62 ∧ Q (rangeD 0 j.toNat) ρ1) E
theorem li_range1 (hg : Gl X "range") (hm : X.mg "range" = none) (ha : LA X [a] tas) (hs : starEach [a] X.env = [(false, eval a X.env)] := by rfl) : LI X tg (.Call (.Name "range" p) [a] [] pos) (wIR1 tas) := by
  refine ⟨fun ρ Q Q' E E' h he q => ha.mono ρ _ _ E E' (fun t ρ1 ⟨j, e, e1, e2, q⟩ => ⟨j, e, e1, e2, h _ _ q⟩) he q, fun C W n hC hn tk => (pi_range1 (tg := tg) hg hm (ha.run C W n hC hn tk) hs).imp fun σ H R ⟨O, ρ, Rl, q⟩ => ?_⟩
  refine ⟨O, ρ, Rl, ha.mono ρ _ _ _ _ (fun ts ρ1 ⟨j, e, e1, e2, q⟩ => ?_) (fun _ _ z => z) q⟩
  intro vs H1 O1 R1 F1 V1
  subst e
  obtain ⟨v, rfl, V2⟩ := V1.one
  exact ⟨j, by rw [rp_int (val_d V2)], e1, e2, q _ H1 _ (R1.cut hn) (F1.trans (frm_cut C.N n H1 O1 hn) (Nat.le_refl _)) yl_range⟩
def wIR2 (tas : TwA) : TwI := fun ρ Q E => tas ρ (fun ts ρ1 => ∃ i j : Int, ts = [.d (.int i), .d (.int j)] ∧ (-(2 ^ 62) ≤ i ∧ i < 2 ^ 62 ∧ -(2 ^ 62) ≤ j ∧ j < 2 ^ 62) ∧ Q (rangeD i (j - i).toNat) ρ1) E
def wIEn (tas : TwA) : TwI := fun ρ Q E => tas ρ (fun ts ρ1 => ∃ t xs, ts = [t] ∧ flatL t = some xs ∧ Q (enumD xs) ρ1) E
theorem li_enum (hg : Gl X "enumerate") (hm : X.mg "enumerate" = none) (ha : LA X [e] tas) (hs : starEach [e] X.env = [(false, eval e X.env)] := by rfl) : LI X (.Tuple elts kk tpos) (.Call (.Name "enumerate" p) [e] [] pos) (wIEn tas) := by
  refine ⟨fun ρ Q Q' E E' h he q => ha.mono ρ _ _ E E' (fun t ρ1 ⟨j, x, e, e1, q⟩ => ⟨j, x, e, e1, h _ _ q⟩) he q, fun C W n hC hn tk => (pi_enum hg hm (ha.run C W n hC hn tk) hs).imp fun σ H R ⟨O, ρ, Rl, q⟩ => ?_⟩
  refine ⟨O, ρ, Rl, ha.mono ρ _ _ _ _ (fun ts ρ1 ⟨t, xs, e, e1, q⟩ => ?_) (fun _ _ z => z) q⟩
  intro vs H1 O1 R1 F1 V1
  subst e
  obtain ⟨v, rfl, V2⟩ := V1.one
  obtain ⟨ad, ws, rfl, h1, h2, h3⟩ := seq_free R1 (Nat.le_refl n) V2 e1
  by_cases hk : X.K.lookup ad = none
  · exact ⟨ad, ws, rfl, .of h1, q _ H1 _ (R1.cut hn) (F1.trans (frm_cut C.N n H1 O1 hn) (Nat.le_refl _)) (yl_enum h1 h2 h3 hk)⟩
  · refine ⟨ad, ws, rfl, .of h1, q _ H1 _ (R1.cut hn) (F1.trans (frm_cut C.N n H1 O1 hn) (Nat.le_refl _)) ⟨fun H' O' f => ⟨ws, .of (f ad _ h1 h2).1, by rw [h3.length]; simp [enumD]⟩, fun i x H' O' f e => ?_, fun i x v H' O' H'' f e y fr => ?_⟩⟩
    · obtain ⟨y, e1, _⟩ := enumD_get e
      obtain ⟨v, g1, _⟩ := h3.get e1
      exact ⟨ws, v, .of (f ad _ h1 h2).1, g1⟩
    · obtain ⟨T, w, rfl, hn', rfl, y⟩ := y
      obtain ⟨z, e1, rfl⟩ := enumD_get e
      obtain ⟨w', g1, g2⟩ := h3.get e1
      have := y ws (.of (f ad _ h1 h2).1)
      rw [g1] at this; cases this
      refine ⟨.inr ⟨T, _, hn', rfl⟩, .tup (by rw [msk_of (nt_free fr _ hn')]; exact upd_same) (.cons (.int _) (.cons (Rp.mono (fun b o q => ?_) _ _ (g2.fre f)) .nil))⟩
      obtain ⟨q1, q2⟩ := msk_some q
      rw [msk_of q1, upd_ne (ne_of_none q2 hn')]
      exact q2
def wIZip (tas : TwA) : TwI := fun ρ Q E => tas ρ (fun ts ρ1 => ∃ t u xs ys, ts = [t, u] ∧ flatL t = some xs ∧ flatL u = some ys ∧ Q (zipD xs ys) ρ1) E
end

/-! ### for, while -/
section
variable {X : Cx} {io ss : List Nat} {tg iter c : Expr} {body : List Stmt} {wi : TwI} {g : TwG} {tb : TwS} {tt : TwT} {pos : Pos}
def wFor (wi : TwI) (g : TwG) (tb : TwS) : TwS := fun D ρ => wi ρ (fun xs ρ1 => ∃ P : Nat → Rho → Prop, P 0 ρ1 ∧
  (∀ i x ρ2, xs[i]? = some x → P i ρ2 → g x ρ2 (fun ρ3 => tb { D with nx := P (i + 1), ct := P (i + 1), bk := D.nx } ρ3) D.ex) ∧ ∀ ρ2, P xs.length ρ2 → D.nx ρ2) D.ex
/-- behind a yielded item -/
theorem rel_yield {K : PySem.W.Frag} {C : Ctx} {n : Nat} {σ : St} {H H' : Hp} {O : Own} {ρ : Rho} (R : Rel K C n σ H O ρ) (h : H' = H ∨ ∃ p ws, H p = none ∧ H' = upd H p (.tup ws)) : Rel K C n σ H' O ρ ∧ ∀ b o, H b = some o → H' b = some o := by
  rcases h with rfl | ⟨p, ws, hp, rfl⟩
  · exact ⟨R, fun _ _ e => e⟩
  · have keep : ∀ b u, H b = some u → upd H p (.tup ws) b = some u := fun b u e => by rw [upd_ne (ne_of_none e hp)]; exact e
    exact ⟨⟨fun b u e1 e2 => ⟨keep _ _ (R.fr b u e1 e2).1, (R.fr b u e1 e2).2⟩, fun b h => let ⟨u, e, w⟩ := R.nt b h; ⟨u, keep b u e, w⟩, R.lt, R.inj, R.val, R.ln, R.lr,
      fun i t e => let ⟨v, h2, h3⟩ := R.sl i t e; ⟨v, h2, Tr.move (r' := i) (p0 := []) (p1 := []) (fun b u e1 e2 => ⟨keep b u e1, e2⟩) (fun b u q e1 e2 => ⟨keep b u e1, e2⟩) t [] v h3⟩, R.hN, R.fo, R.pz, R.sm⟩, keep⟩
theorem ls_for (hc : X.calm = true) (hi : LI X tg iter wi) (hg : LG X ss tg g) (hb : LSs X io body tb) (hs : ∀ x, foldedSetIterable iter X.env x = pure x := by intro _; rfl) : LS X io (.For tg iter body [] pos) (wFor wi g tb) := by
  refine ⟨fun D D' ρ l q => hi.mono ρ _ _ _ _ (fun xs ρ1 ⟨P, p0, ps, pd⟩ => ⟨P, p0, fun i x ρ2 e h => hg.mono _ _ _ _ _ _ (fun ρ3 q => hb.mono { D with nx := P (i + 1), ct := P (i + 1), bk := D.nx } _ _ ⟨fun _ z => z, l.rt, l.nx, fun _ z => z, l.ex⟩ q) l.ex (ps i x ρ2 e h), fun ρ2 h => l.nx _ (pd ρ2 h)⟩) l.ex q,
    fun C W hC hio tk hp => (ps_for hp hc (hi.run C W C.N hC (Nat.le_refl _) tk) (hg.run C W C.N hC (Nat.le_refl _) tk) (hb.run C W hC hio tk hp) hs).imp fun D σ H ⟨O, ρ, R, q⟩ => ?_⟩
  refine ⟨O, ρ, R, hi.mono ρ _ _ _ _ (fun xs ρ1 ⟨P, p0, ps, pd⟩ => ?_) (fun _ _ z => z) q⟩
  intro J H1 O1 R1 F1 Y
  refine ⟨fun i m σ2 H2 => m = xs.length - i ∧ i ≤ xs.length ∧ ∃ O2 ρ2, Rel X.K C C.N σ2 H2 O2 ρ2 ∧ Fre H1 O1 H2 O2 ∧ P i ρ2, ⟨_, rfl, Nat.zero_le _, O1, ρ1, R1, .refl, p0⟩, ?_⟩
  rintro i m σ2 H2 ⟨rfl, hi, O2, ρ2, R2, F2, p⟩
  by_cases hlt : i < xs.length
  · have ex : xs[i]? = some xs[i] := List.getElem?_eq_getElem hlt
    refine .inr ⟨Y.go i _ H2 O2 F2 ex, fun σ3 H3 => ∃ O3 ρ3, Rel X.K C C.N σ3 H3 O3 ρ3 ∧ Fre H1 O1 H3 O3 ∧ P (i + 1) ρ3, fun σ3 H3 ⟨O3, ρ3, R3, F3, p3⟩ => ⟨xs.length - (i + 1), by omega, rfl, hlt, O3, ρ3, R3, F3, p3⟩, fun v H3 y => ?_⟩
    obtain ⟨hu, rp⟩ := Y.yld i _ v H2 O2 H3 F2 ex y R2.nt
    obtain ⟨R3, kp⟩ := rel_yield R2 hu
    have F3 : Fre H2 O2 H3 O2 := fun b o e1 e2 => ⟨kp b o e1, e2⟩
    have F03 : Fre H O H3 O2 := (F1.fre.trans F2).trans F3
    refine ⟨O2, ρ2, xs[i], R3, rp, hg.mono _ _ _ _ _ _ (fun ρ4 q4 => ?_) (fun c ρ' z => exK.on F03 c ρ' z) (ps i _ ρ2 ex p)⟩
    intro σ4 H4 O4 R4 F4 _
    have F04 : Fre H O H4 O4 := F03.trans F4.fre
    have F14 : Fre H1 O1 H4 O4 := (F2.trans F3).trans F4.fre
    refine ⟨O4, ρ4, R4, hb.mono _ _ _ ⟨fun ρ5 p5 => ?_, fun t ρ5 z => rtK.on F04 t ρ5 z, fun ρ5 z => nxK.on F04 ρ5 z, fun ρ5 p5 => ?_, fun c ρ5 z => exK.on F04 c ρ5 z⟩ q4⟩
    · exact fun σ5 H5 O5 R5 F5 => ⟨O5, ρ5, R5, F14.trans F5, p5⟩
    · exact fun σ5 H5 O5 R5 F5 => ⟨O5, ρ5, R5, F14.trans F5, p5⟩
  · have e : i = xs.length := by omega
    subst e
    exact .inl ⟨Y.stop H2 O2 F2, pd ρ2 p σ2 H2 O2 R2 (F1.fre.trans F2)⟩
def wWhile (tt : TwT) (tb : TwS) : TwS := fun D ρ => ∃ (P : Rho → Prop) (μ : Rho → Nat), P ρ ∧
  ∀ ρ1, P ρ1 → tt ρ1 (fun b ρ2 => if b = true then tb { D with nx := fun ρ3 => P ρ3 ∧ μ ρ3 < μ ρ1, ct := fun ρ3 => P ρ3 ∧ μ ρ3 < μ ρ1, bk := D.nx } ρ2 else D.nx ρ2) D.ex
theorem ls_while (hc : LT X c tt) (hb : LSs X io body tb) : LS X io (.While c body [] pos) (wWhile tt tb) := by
  refine ⟨fun D D' ρ l ⟨P, μ, p0, ps⟩ => ⟨P, μ, p0, fun ρ1 h => hc.mono ρ1 _ _ _ _ (fun b ρ2 q => ?_) l.ex (ps ρ1 h)⟩, fun C W hC hio tk hp => (ps_while hp (hc.run C W C.N hC (Nat.le_refl _) tk) (hb.run C W hC hio tk hp)).imp fun D σ H ⟨O, ρ, R, P, μ, p0, ps⟩ => ?_⟩
  · cases b with
    | true => exact hb.mono { D with nx := fun ρ3 => P ρ3 ∧ μ ρ3 < μ ρ1, ct := fun ρ3 => P ρ3 ∧ μ ρ3 < μ ρ1, bk := D.nx } _ _ ⟨fun _ z => z, l.rt, l.nx, fun _ z => z, l.ex⟩ q
    | false => exact l.nx _ q
  · refine ⟨fun m σ1 H1 => ∃ O1 ρ1, m = μ ρ1 ∧ Rel X.K C C.N σ1 H1 O1 ρ1 ∧ Fre H O H1 O1 ∧ P ρ1, ⟨_, O, ρ, rfl, R, .refl, p0⟩, ?_⟩
    rintro m σ1 H1 ⟨O1, ρ1, rfl, R1, F1, p1⟩
    refine ⟨O1, ρ1, R1, hc.mono ρ1 _ _ _ _ (fun b ρ2 q2 => ?_) (fun c ρ' z => exK.on F1 c ρ' z) (ps ρ1 p1)⟩
    intro H2 O2 R2 F2
    have F02 : Fre H O H2 O2 := F1.trans F2.fre
    cases b with
    | true =>
      refine ⟨fun σ3 H3 => ∃ O3 ρ3, Rel X.K C C.N σ3 H3 O3 ρ3 ∧ Fre H O H3 O3 ∧ P ρ3 ∧ μ ρ3 < μ ρ1, fun σ3 H3 ⟨O3, ρ3, R3, F3, p3, hl⟩ => ⟨_, hl, O3, ρ3, rfl, R3, F3, p3⟩, O2, ρ2, R2, hb.mono _ _ _ ⟨fun ρ5 p5 => ?_, fun t ρ5 z => rtK.on F02 t ρ5 z, fun ρ5 z => nxK.on F02 ρ5 z, fun ρ5 p5 => ?_, fun c ρ5 z => exK.on F02 c ρ5 z⟩ q2⟩
      · exact fun σ5 H5 O5 R5 F5 => ⟨O5, ρ5, R5, F02.trans F5, p5.1, p5.2⟩
      · exact fun σ5 H5 O5 R5 F5 => ⟨O5, ρ5, R5, F02.trans F5, p5.1, p5.2⟩
    | false => exact q2 _ H2 O2 R2 F02
end
end TX

/-! List comprehensions over trees. -/
namespace TX
open PySem PySem.Spec L2

def wipeR (ρ : Rho) : List Nat → Rho
  | [] => ρ
  | v :: vs => (wipeR ρ vs).set v none
def restR (ρ0 ρ : Rho) : List Nat → Rho
  | [] => ρ
  | v :: vs => (restR ρ0 ρ vs).set v ((ρ0[v]?).getD none)
theorem wipeR_length {ρ : Rho} : ∀ vs : List Nat, (wipeR ρ vs).length = ρ.length
  | [] => rfl
  | v :: vs => by unfold wipeR; rw [List.length_set, wipeR_length vs]
theorem restR_length {ρ0 ρ : Rho} : ∀ vs : List Nat, (restR ρ0 ρ vs).length = ρ.length
  | [] => rfl
  | v :: vs => by unfold restR; rw [List.length_set, restR_length vs]
theorem wipeR_get {ρ : Rho} {j : Nat} : ∀ vs : List Nat, (wipeR ρ vs)[j]? = if j ∈ vs then (if j < ρ.length then some none else none) else ρ[j]?
  | [] => by simp [wipeR]
  | v :: vs => by
    unfold wipeR
    by_cases q : j = v
    · subst q; simp [List.getElem?_set, wipeR_length]
    · rw [List.getElem?_set_ne (fun z => q z.symm), wipeR_get vs]; simp [q]
theorem restR_get {ρ0 ρ : Rho} {j : Nat} (hl : ρ0.length = ρ.length) : ∀ vs : List Nat, (restR ρ0 ρ vs)[j]? = if j ∈ vs then ρ0[j]? else ρ[j]?
  | [] => by simp [restR]
  | v :: vs => by
    unfold restR
    by_cases q : j = v
    · subst q
      simp only [List.getElem?_set, restR_length, List.mem_cons, true_or, if_true]
      by_cases h : j < ρ.length
      · rw [if_pos h]
        have h' : j < ρ0.length := by omega
        rw [List.getElem?_eq_getElem h']; rfl
      · rw [if_neg h, List.getElem?_eq_none (by omega)]
    · rw [List.getElem?_set_ne (fun z => q z.symm), restR_get hl vs]; simp [q]
theorem wipe_get {σ : St} {j : Nat} : ∀ vs : List Nat, (wipe σ vs)[j]? = if j ∈ vs then (if j < σ.length then some none else none) else σ[j]?
  | [] => by simp [wipe]
  | v :: vs => by
    unfold wipe
    by_cases q : j = v
    · subst q; simp [List.getElem?_set, wipe_length]
    · rw [List.getElem?_set_ne (fun z => q z.symm), wipe_get vs]; simp [q]
theorem wipe_twice (σ : St) (vs : List Nat) : wipe (wipe σ vs) vs = wipe σ vs := by
  refine List.ext_getElem? fun j => ?_
  rw [wipe_get, wipe_length, wipe_get]
  split <;> rfl
theorem rest_wipe {ρ : Rho} (vs : List Nat) : restR ρ (wipeR ρ vs) vs = ρ := by
  refine List.ext_getElem? fun j => ?_
  rw [restR_get (wipeR_length vs).symm, wipeR_get]
  split <;> simp_all
def noNd (ρ : Rho) (vs : List Nat) : Prop := ∀ j ∈ vs, ∀ t, ρ[j]? = some (some t) → isNode t = false
section
variable {K : PySem.W.Frag} {C : Ctx} {n m : Nat} {σ σ2 : St} {H H' : Hp} {O O' : Own} {ρ ρ2 : Rho}
theorem relWipe (R : Rel K C n σ H O ρ) {vs : List Nat} (hv : noNd ρ vs) (hs : wipe σ2 vs = wipe σ vs) : Rel K C n (wipe σ2 vs) H O (wipeR ρ vs) := by
  refine ⟨R.fr, R.nt, R.lt, R.inj, fun b r p e l => ?_, by rw [hs, wipe_length]; exact R.ln, by rw [wipeR_length]; exact R.lr, fun i t e => ?_, R.hN, R.fo, R.pz, R.sm⟩
  · obtain ⟨t, z, h1, h2, h3⟩ := R.val b r p e l
    by_cases hr : r ∈ vs
    · have := hv r hr t h1
      cases p with
      | nil => cases h2; rw [this] at h3; cases h3
      | cons k q => cases t <;> simp [subT, kid] at h2 <;> cases this
    · exact ⟨t, z, by rw [wipeR_get, if_neg hr]; exact h1, h2, h3⟩
  · rw [wipeR_get] at e
    by_cases hi : i ∈ vs
    · rw [if_pos hi] at e; split at e <;> cases e
    · rw [if_neg hi] at e
      obtain ⟨v, h1, h2⟩ := R.sl i t e
      exact ⟨v, by rw [hs, wipe_get, if_neg hi]; exact h1, h2⟩
/-- behind the block the frame's own names are as they were -/
theorem relBack (R0 : Rel K C n σ H O ρ) {vs : List Nat} (hv : noNd ρ vs) (R : Rel K C m (wipe σ vs) H' O' ρ2) (hw : ∀ j ∈ vs, ∀ t, ρ2[j]? ≠ some (some t)) (f : Fre H O H' O') : Rel K C m σ H' O' (restR ρ ρ2 vs) := by
  have hl : ρ.length = ρ2.length := R0.lr.trans R.lr.symm
  refine ⟨R.fr, R.nt, R.lt, R.inj, fun b r p e l => ?_, R0.ln, by rw [restR_length]; exact R.lr, fun i t e => ?_, R.hN, R.fo, R.pz, R.sm⟩
  · obtain ⟨t, z, h1, h2, h3⟩ := R.val b r p e l
    have hr : r ∉ vs := fun hr => hw r hr t h1
    exact ⟨t, z, by rw [restR_get hl, if_neg hr]; exact h1, h2, h3⟩
  · rw [restR_get hl] at e
    by_cases hi : i ∈ vs
    · rw [if_pos hi] at e
      obtain ⟨v, h1, h2⟩ := R0.sl i t e
      refine ⟨v, h1, ?_⟩
      have nd := hv i hi t e
      cases h2 with
      | d h => exact .d (h.fre f)
      | raw => exact .raw
      | fz h => exact .fz (sql_mono (fun b o z => by obtain ⟨z1, z2⟩ := msk_some z; obtain ⟨y1, y2⟩ := f b o z2 z1; rw [msk_of y2]; exact y1) h)
      | lk g1 h2 h3 h4 => exact .lk (f _ _ h2 g1).2 (f _ _ h2 g1).1 h3 (RpAll.mono (fun b o z => by obtain ⟨z1, z2⟩ := msk_some z; obtain ⟨y1, y2⟩ := f b o z2 z1; rw [msk_of y2]; exact y1) _ _ h4)
      | lt g1 h2 h3 h4 => exact .lt (f _ _ h2 g1).2 (f _ _ h2 g1).1 h3 (RpAll.mono (fun b o z => by obtain ⟨z1, z2⟩ := msk_some z; obtain ⟨y1, y2⟩ := f b o z2 z1; rw [msk_of y2]; exact y1) _ _ h4)
      | l _ _ _ => cases nd
      | mk _ _ _ _ => cases nd
      | mt _ _ _ _ => cases nd
      | o _ _ _ _ => cases nd
      | s _ _ => cases nd
    · rw [if_neg hi] at e
      obtain ⟨v, h1, h2⟩ := R.sl i t e
      rw [wipe_get, if_neg hi] at h1
      exact ⟨v, h1, h2⟩
end

abbrev exN : ExK := fun _ _ => False
def wLc (wi : TwI) (g : TwG) (tt : TwT) (te : TwE) (vs : List Nat) : TwE := fun ρ Q E => wi ρ (fun xs ρ1 => noNd ρ1 vs ∧ xs.length ≤ 1000000 ∧ ∃ P : Nat → List PyData → Rho → Prop, P 0 [] (wipeR ρ1 vs) ∧
  (∀ i x acc ρ2, xs[i]? = some x → P i acc ρ2 → g x ρ2 (fun ρ3 => tt ρ3 (fun b ρ4 => noNd ρ4 vs ∧ if b = true then te ρ4 (fun t ρ5 => noNd ρ5 vs ∧ ∃ y, erase t = some y ∧ P (i + 1) (acc ++ [y]) (wipeR ρ5 vs)) exN else P (i + 1) acc (wipeR ρ4 vs)) exN) exN) ∧
  (∀ acc ρ2, P xs.length acc ρ2 → Q (.l (acc.map T.d)) (restR ρ1 ρ2 vs))) E
theorem noneW {K : PySem.W.Frag} {C : Ctx} {H : Hp} {O : Own} : ∀ c ρ, exN c ρ → exK K C (fun _ _ _ _ => False) H O c ρ := fun _ _ z => z.elim
section
variable {X : Cx} {io : List Nat} {tg iter elt e : Expr} {ifs : List Expr} {wi : TwI} {g : TwG} {tt : TwT} {te : TwE} {pos : Pos} {scope : Scope} {own : List (Str × Nat)}
structure LTs (X : Cx) (ifs : List Expr) (tw : TwT) : Prop where
  mono : MonE tw
  run : ∀ (C : Ctx) (W : WX) (n : Nat), C.N = X.N.length → C.N ≤ n → Takes X W → PTs X ifs (lfT X.K C W n tw)
def wYes : TwT := fun ρ Q _ => Q true ρ
theorem lts_nil : LTs X [] wYes := ⟨fun ρ Q Q' E E' h _ q => h _ _ q, fun C W n hC hn tk => ⟨fun pins s σ H Q I ⟨O, ρ, R, q⟩ => pts_nil.run pins s σ H Q I (q H O R .refl)⟩⟩
theorem lts_one (h : LT X e tt) : LTs X [e] tt := ⟨h.mono, fun C W n hC hn tk => pts_one (h.run C W n hC hn tk)⟩
theorem wLc_mono {vs : List Nat} (hi : MonE wi) : MonE (wLc wi g tt te vs) := fun ρ Q Q' E E' h he q => hi ρ _ _ E E' (fun xs ρ1 ⟨h1, h2, P, p0, ps, pd⟩ => ⟨h1, h2, P, p0, ps, fun acc ρ2 z => h _ _ (pd acc ρ2 z)⟩) he q
/-- the state between two turns -/
theorem lc_run {K : PySem.W.Frag} {C : Ctx} {W : WX} {n : Nat} {vs : List Nat} {σ : St} {H : Hp} {Q : VK} (hi : MonE wi) (hg : MonG g) (ht : MonE tt) (he : MonE te) (hn : C.N ≤ n) (hv : ∀ j ∈ vs, j < C.N)
    (h : lfE K C W n (wLc wi g tt te vs) σ H Q) : tLc (lfI K C W n wi) (lfG K C (fun _ _ _ _ => False) vs (n + 1) g) (lfT K C (fun _ _ _ _ => False) (n + 1) tt) (lfE K C (fun _ _ _ _ => False) (n + 1) te) vs σ H Q := by
  obtain ⟨O, ρ, R, q⟩ := h
  refine ⟨O, ρ, R, hi ρ _ _ _ _ (fun xs ρ1 ⟨nn, sz, P, p0, ps, pd⟩ => ?_) (fun _ _ z => z) q⟩
  intro J H1 O1 R1 F1 Y D hD
  obtain ⟨RA, FA, UA⟩ := R1.alloc (o := .lst []) hD trivial
  have FA' : Frm C.N n H O (upd H1 D (.lst [])) (lay n D O1) := F1.trans FA (Nat.le_refl _)
  refine ⟨fun i m H2 => m = xs.length - i ∧ i ≤ xs.length ∧ ∃ O2 ρ2 acc ws, Rel K C (n + 1) (wipe σ vs) H2 O2 ρ2 ∧ Frm C.N n H1 O1 H2 O2 ∧ O2 D = .at n [] ∧ (∀ b q, O2 b = .at n q → b = D ∧ q = []) ∧ H2 D = some (.lst ws) ∧ RpAll K (msk O2 H2) ws acc ∧ acc.length ≤ i ∧ P i acc ρ2 ∧ ∀ j ∈ vs, ∀ t, ρ2[j]? ≠ some (some t),
    ⟨_, rfl, Nat.zero_le _, _, wipeR ρ1 vs, [], [], relWipe RA nn rfl, FA, lay_same, UA, upd_same, .nil, Nat.le_refl _, p0, fun j hj t => by rw [wipeR_get, if_pos hj]; split <;> simp⟩, ?_⟩
  rintro i m H2 ⟨rfl, hi', O2, ρ2, acc, ws, R2, F2, oD, uD, hH, ha, al, p, hw⟩
  by_cases hlt : i < xs.length
  · have ex : xs[i]? = some xs[i] := List.getElem?_eq_getElem hlt
    refine .inr ⟨Y.go i _ H2 O2 F2.fre ex, fun H6 => ∃ O6 ρ6 acc6 ws6, Rel K C (n + 1) (wipe σ vs) H6 O6 ρ6 ∧ Frm C.N n H1 O1 H6 O6 ∧ O6 D = .at n [] ∧ (∀ b q, O6 b = .at n q → b = D ∧ q = []) ∧ H6 D = some (.lst ws6) ∧ RpAll K (msk O6 H6) ws6 acc6 ∧ acc6.length ≤ i + 1 ∧ P (i + 1) acc6 ρ6 ∧ ∀ j ∈ vs, ∀ t, ρ6[j]? ≠ some (some t),
      fun H6 h6 => ⟨xs.length - (i + 1), by omega, rfl, hlt, h6⟩, fun v H3 y => ?_⟩
    obtain ⟨hu, rp⟩ := Y.yld i _ v H2 O2 H3 F2.fre ex y R2.nt
    obtain ⟨R3, kp⟩ := rel_yield R2 hu
    have F3 : Frm C.N (n + 1) H2 O2 H3 O2 := ⟨fun b o e1 e2 => ⟨kp b o e1, e2⟩, fun _ _ _ e _ => e, fun b o r p e1 e2 _ _ => ⟨kp b o e1, e2⟩, fun _ _ _ e _ _ => e⟩
    -- labels of the frame's own places are kept through the target: the block's own names hold none
    have nolab : ∀ {b r q}, O2 b = .at r q → r < C.N → r ∉ vs := fun {b r q} e l hr => by
      obtain ⟨t, z, h1, _⟩ := R2.val b r q e l
      exact hw r hr t h1
    refine ⟨O2, ρ2, xs[i], R3, rp, hg _ _ _ _ _ _ (fun ρ3 q3 => ?_) noneW (ps i _ acc ρ2 ex p)⟩
    intro σ4 H4 O4 R4 F4 w4
    have F24 : Frm C.N (n + 1) H2 O2 H4 O4 := ⟨F3.fre.trans F4.fre, fun b r q e l => F4.pl b r q e l (nolab e l), fun b o r q e1 e2 l1 l2 => F4.tm b o r q (kp b o e1) e2 l1 l2, fun b r q e l1 l2 => F4.nw b r q e l1 l2⟩
    have ww : wipe σ4 vs = wipe σ vs := w4.trans (wipe_twice σ vs)
    refine ⟨ww, O4, ρ3, R4, ht ρ3 _ _ _ _ (fun b ρ4 q4 => ?_) noneW q3⟩
    intro H5 O5 R5 F5
    have F25 := F24.trans F5 (Nat.le_refl _)
    obtain ⟨nn4, q4⟩ := q4
    -- D stands
    have dk : ∀ {H' O'}, Frm C.N (n + 1) H2 O2 H' O' → H' D = some (.lst ws) ∧ O' D = .at n [] := fun {H' O'} f => f.tm D _ n [] hH oD hn (Nat.lt_succ_self n)
    have du : ∀ {H' O'}, Frm C.N (n + 1) H2 O2 H' O' → ∀ b q, O' b = .at n q → b = D ∧ q = [] := fun {H' O'} f b q e => uD b q (f.nw b n q e hn (Nat.lt_succ_self n))
    cases b with
    | false =>
      have RW := relWipe (σ2 := σ4) R5 nn4 rfl
      rw [ww] at RW
      exact ⟨O5, wipeR ρ4 vs, acc, ws, RW, F2.trans (F25.le (Nat.le_succ n)) (Nat.le_refl _), (dk F25).2, du F25, (dk F25).1, ha.fre F25.fre, Nat.le_succ_of_le al, q4, fun j hj t => by rw [wipeR_get, if_pos hj]; split <;> simp⟩
    | true =>
      refine ⟨O5, ρ4, R5, he ρ4 _ _ _ _ (fun t ρ5 q5 => ?_) noneW q4⟩
      intro y H6 O6 R6 F6 V6
      obtain ⟨nn5, yd, ey, q5⟩ := q5
      have F26 := F25.trans F6 (Nat.le_refl _)
      obtain ⟨hD6, oD6⟩ := dk F26
      have al' : ws.length = acc.length := ha.length
      refine ⟨ws, hD6, by rw [al', sizeLine_eq]; omega, ?_⟩
      -- the list at D grows
      have R7 := R6.cut (n := n + 1) (Nat.le_succ_of_le hn)
      have oD7 : cut (n + 1) O6 D = .at n [] := cut_at.mpr ⟨oD6, Nat.lt_succ_self n⟩
      have ne : ∀ {b}, cut (n + 1) O6 b = .free → b ≠ D := fun {b} z e => by subst e; rw [oD7] at z; cases z
      have ne2 : ∀ {b}, cut (n + 1) O6 b = .foreign → b ≠ D := fun {b} z e => by subst e; rw [oD7] at z; cases z
      have keepR : Rel K C (n + 1) σ4 (upd H6 D (.lst (ws ++ [y]))) (cut (n + 1) O6) ρ5 := by
        refine ⟨fun b o e1 e2 => ?_, fun b z => ?_, R7.lt, R7.inj, R7.val, R7.ln, R7.lr, fun j u e => ?_, R7.hN, R7.fo, R7.pz, R7.sm⟩
        · obtain ⟨z1, z2⟩ := R7.fr b o e1 e2
          refine ⟨?_, z2⟩
          rcases e2 with e2 | e2
          · rw [upd_ne (ne (z2.trans e2))]; exact z1
          · rw [upd_ne (ne2 (z2.trans e2))]; exact z1
        · by_cases hb : b = D
          · subst hb; exact ⟨_, upd_same, trivial⟩
          · obtain ⟨o, e, w⟩ := R7.nt b z
            exact ⟨o, by rw [upd_ne hb]; exact e, w⟩
        · obtain ⟨v', h1, h2⟩ := R7.sl j u e
          have hjN : j < C.N := R7.slt e
          exact ⟨v', h1, Tr.move (r' := j) (p0 := []) (p1 := []) (fun b o e1 e2 => ⟨by rw [upd_ne (ne e2)]; exact e1, e2⟩) (fun b o q e1 e2 => ⟨by rw [upd_ne (fun z => by subst z; rw [oD7] at e2; cases e2; omega)]; exact e1, e2⟩) u [] v' h2⟩
      have RW := relWipe (σ2 := σ4) keepR nn5 rfl
      rw [ww] at RW
      have up : ∀ b o, msk (cut (n + 1) O6) H6 b = some o → msk (cut (n + 1) O6) (upd H6 D (.lst (ws ++ [y]))) b = some o := fun b o z => by
        obtain ⟨z1, z2⟩ := msk_some z
        rw [msk_of z1, upd_ne (ne z1)]; exact z2
      have F67 : Frm C.N n H6 O6 (upd H6 D (.lst (ws ++ [y]))) (cut (n + 1) O6) := ⟨fun b o e1 e2 => ⟨by rw [upd_ne (ne (cut_free e2))]; exact e1, cut_free e2⟩, fun b r q e l => cut_at.mpr ⟨e, by omega⟩, fun b o r q e1 e2 l1 l2 => ⟨by rw [upd_ne (fun z => by subst z; rw [oD6] at e2; cases e2; omega)]; exact e1, cut_at.mpr ⟨e2, by omega⟩⟩, fun b r q e _ _ => (cut_at.mp e).1⟩
      refine ⟨_, wipeR ρ5 vs, acc ++ [yd], ws ++ [y], RW, (F2.trans (F26.le (Nat.le_succ n)) (Nat.le_refl _)).trans F67 (Nat.le_refl _), oD7, fun b q e => du F26 b q (cut_at.mp e).1, upd_same, ?_, by rw [List.length_append]; simp; omega, q5, fun j hj t => by rw [wipeR_get, if_pos hj]; split <;> simp⟩
      refine RpAll.append (RpAll.mono up _ _ (ha.fre (F26.fre.trans (fre_cut _)))) (.cons (Rp.mono up _ _ (V6.asD (Nat.le_refl _) ey)) .nil)
  · have e : i = xs.length := by omega
    subst e
    refine .inl ⟨Y.stop H2 O2 F2.fre, pd acc ρ2 p (.ref D) H2 O2 (relBack R1 nn R2 hw F2.fre) (F1.trans F2 (Nat.le_refl _)) ⟨.l oD hH (TrAll.ofData ha), fun b q e => ?_⟩⟩
    obtain ⟨rfl, rfl⟩ := uD b q e
    exact ⟨_, rfl, rfl⟩
theorem le_lc (hc : X.calm = true) (hN : X.N.Nodup) (hi : LI X tg iter wi) (ok : BlkOk X.N X.env.scope scope own)
    (hg : ∀ (s : Shared) (H : Hp) (C : Addr) (cl : List (Str × Addr)) (fp : List Addr), LG (X.blk s H scope (compEnvC scope cl C X.env) fp) (own.map (·.2)) tg g)
    (ht : ∀ (s : Shared) (H : Hp) (C : Addr) (cl : List (Str × Addr)) (fp : List Addr), LTs (X.blk s H scope (compEnvC scope cl C X.env) fp) ifs tt)
    (he : ∀ (s : Shared) (H : Hp) (C : Addr) (cl : List (Str × Addr)) (fp : List Addr), LE (X.blk s H scope (compEnvC scope cl C X.env) fp) elt te) (hs : ∀ x, foldedSetIterable iter X.env x = pure x := by intro _; rfl) :
    LE X (.ListComp elt [⟨tg, iter, ifs, 0⟩] scope pos) (wLc wi g tt te (own.map (·.2))) := by
  refine ⟨wLc_mono hi.mono, fun C W n hC hn tk => ?_⟩
  refine ⟨fun pins s0 σ H Q I h => (pe_lc (pos := pos) (g := lfG X.K C (fun _ _ _ _ => False) (own.map (·.2)) (n + 1) g) (tt := lfT X.K C (fun _ _ _ _ => False) (n + 1) tt) (te := lfE X.K C (fun _ _ _ _ => False) (n + 1) te) hc hN (hi.run C W n hC hn tk) ok (fun s H c cl fp => (hg s H c cl fp).run C (fun _ _ _ _ => False) (n + 1) hC (Nat.le_succ_of_le hn) takes0) (fun s H c cl fp => (ht s H c cl fp).run C (fun _ _ _ _ => False) (n + 1) hC (Nat.le_succ_of_le hn) takes0)
    (fun s H c cl fp => (he s H c cl fp).run C (fun _ _ _ _ => False) (n + 1) hC (Nat.le_succ_of_le hn) takes0) hs).run pins s0 σ H Q I (lc_run hi.mono (hg s0 H 0 [] []).mono (ht s0 H 0 [] []).mono (he s0 H 0 [] []).mono hn (fun j hj => by
    obtain ⟨⟨x, j'⟩, h1, rfl⟩ := List.mem_map.mp hj
    rw [hC]
    exact (List.getElem?_eq_some_iff.mp (ok.ix _ h1)).1) h)⟩
theorem ls_setLc {i : Nat} {y : Str} {py spos : Pos} (hc : X.calm = true) (hN : X.N.Nodup) (hy : X.N[i]? = some y) (hyl : X.env.scope.names.lookup y = some .local) (hsw : swapsWith (.ListComp elt [⟨tg, iter, ifs, 0⟩] scope pos) (some (.Name y py)) spos.line X.env = pure true) (hi : LI X tg iter wi) (ok : BlkOk X.N X.env.scope scope own)
    (hg : ∀ (s : Shared) (H : Hp) (C : Addr) (cl : List (Str × Addr)) (fp : List Addr), LG (X.blk s H scope (compEnvC scope cl C X.env) fp) (own.map (·.2)) tg g)
    (ht : ∀ (s : Shared) (H : Hp) (C : Addr) (cl : List (Str × Addr)) (fp : List Addr), LTs (X.blk s H scope (compEnvC scope cl C X.env) fp) ifs tt)
    (he : ∀ (s : Shared) (H : Hp) (C : Addr) (cl : List (Str × Addr)) (fp : List Addr), LE (X.blk s H scope (compEnvC scope cl C X.env) fp) elt te) (hio : i ∉ io := by decide) (hs : ∀ x, foldedSetIterable iter X.env x = pure x := by intro _; rfl) :
    LS X io (.Assign [.Name y py] (.ListComp elt [⟨tg, iter, ifs, 0⟩] scope pos) spos) (wSet i (wLc wi g tt te (own.map (·.2)))) := by
  refine ⟨fun D D' ρ l q => wLc_mono hi.mono ρ _ _ _ _ (fun t ρ1 ⟨h, q⟩ => ⟨h, l.nx _ q⟩) l.ex q, fun C W hC hio' tk hp => ?_⟩
  have hn := Nat.le_refl C.N
  refine ⟨fun pins s0 σ H D I h => (ps_setLc (g := lfG X.K C (fun _ _ _ _ => False) (own.map (·.2)) (C.N + 1) g) (tt := lfT X.K C (fun _ _ _ _ => False) (C.N + 1) tt) (te := lfE X.K C (fun _ _ _ _ => False) (C.N + 1) te) hc hN hy hyl hsw (hi.run C W C.N hC hn tk) ok (fun s H c cl fp => (hg s H c cl fp).run C (fun _ _ _ _ => False) (C.N + 1) hC (Nat.le_succ_of_le hn) takes0) (fun s H c cl fp => (ht s H c cl fp).run C (fun _ _ _ _ => False) (C.N + 1) hC (Nat.le_succ_of_le hn) takes0)
    (fun s H c cl fp => (he s H c cl fp).run C (fun _ _ _ _ => False) (C.N + 1) hC (Nat.le_succ_of_le hn) takes0) hs).run pins s0 σ H D I ?_⟩
  obtain ⟨O, ρ, R, q⟩ := h
  refine lc_run (W := W) (Q := fun x H1 => gName i x σ H1 D.nx) hi.mono (hg s0 H 0 [] []).mono (ht s0 H 0 [] []).mono (he s0 H 0 [] []).mono hn (fun j hj => by
    obtain ⟨⟨x, j'⟩, h1, rfl⟩ := List.mem_map.mp hj
    rw [hC]
    exact (List.getElem?_eq_some_iff.mp (ok.ix _ h1)).1) ⟨O, ρ, R, wLc_mono hi.mono ρ _ _ _ _ (fun t ρ1 ⟨ha, q⟩ => ?_) (fun _ _ z => z) q⟩
  intro v H1 O1 R1 F1 V1
  obtain ⟨O', R', F'⟩ := relStoreT R1 (nlt hC hy) (by rw [hio']; exact hio) V1 ha
  exact q _ H1 O' R' (F1.fre.trans F')
end
end TX

/-! Defs and their calls, over trees, where no representation is under way (guards). -/
namespace TX
open PySem PySem.Spec L2 PyProof.Rows

/-! ### a def's promise, for callers in which no repr runs -/
structure FnG (P : Program) (w : World) (K : PySem.W.Frag) (mg : Str → Option Value) (base : Heap) (k : Nat) (f : Addr) (fd : FuncData) (ps : List Str) (sp : Sp) : Prop where
  len : ∀ vs H Q E, sp vs H Q E → vs.length = ps.length
  run : ∀ (B : Around) (out : List Env) (s : Shared) (H : Hp) (ar : Args) (us : List Value) (vs : List V) (Q : VK) (E : XK), Room k B → B.guards = some [] → Env0 P w K mg base B out s H → BindsTo s fd ar (ps.zip us) → Vals vs us → sp vs H Q E →
    codeAny (model P w) B (.call (.ref f) ar) (CR (L2.CX P w) out P w H s Q E) s
theorem FnG.up {P : Program} {w : World} {K : PySem.W.Frag} {mg : Str → Option Value} {base : Heap} {j k : Nat} {f : Addr} {fd : FuncData} {ps : List Str} {sp : Sp} (F : FnG P w K mg base j f fd ps sp) (h : j ≤ k) : FnG P w K mg base k f fd ps sp :=
  ⟨F.len, fun B out s H ar us vs Q E r => F.run B out s H ar us vs Q E (r.mono h)⟩
section
variable {P : Program} {w : World} {K : PySem.W.Frag} {mg : Str → Option Value} {base : Heap}
theorem _root_.L2.Fun.okG {x qual : Str} {st : Stmt} {f : Addr} {fd : FuncData} {N ps : List Str} {k : Nat} {sp : Sp} (F : Fun K x qual st f fd) (S : FnScope N ps (defScope st)) (len : ∀ vs H Q E, sp vs H Q E → vs.length = ps.length)
    (hbody : ∀ (cv : Value) (B : Around) (out : List Env) (s : Shared) (H : Hp) (vs : List V) (Q : VK) (E : XK), Room k (B.deeper (envOfC qual (defScope st) s.heap.objs.size f cv)) → B.guards = some [] → sp vs H Q E →
      ∃ t, PSs (cxOf (L2.CX P w) P w K mg base N qual (defScope st) f cv B out s H E) (defBody st) t ∧ t { nx := fun _ H' => Q .non H', rt := Q } (L2.start N vs) H) : FnG P w K mg base (k + 1) f fd ps sp := by
  obtain ⟨oc, od, kV, doc, pm, an, cv, ct, osl, rfl, lk, hcd⟩ := F.ex
  refine ⟨len, fun B out s H ar us vs Q E room gu e0 bind vals hsp => ?_⟩
  have lenV := len _ _ _ _ hsp
  have kin : K.In s.heap := e0.mod.kin.keeps (fun b o e => (e0.bs b o e).1)
  have lim : s.heap.NoLimit := e0.mod.nolimit.keeps (fun b o e => (e0.bs b o e).1)
  refine codeAny_call_function room.depth (kin _ _ lk) rfl S.co S.gen rfl (PySem.W.codeRec_of kin hcd) (bind _ _ _ _ ?_)
  refine wpAny_newFunctionEnv_cells S.kind (fun ⟨n, v⟩ hy => ?_) fun env he s1 x => ?_
  · rcases S.par n (List.of_mem_zip hy).1 with q | q
    · exact Or.inl q
    · exact Or.inr ⟨q, PySem.W.cellsFrom_some _ _ _ (Or.inl q)⟩
  · subst he
    refine ⟨lim.keeps x.toInCall.keep, codeAny_func ?_⟩
    obtain ⟨t, ht, hq⟩ := hbody cv B out s H vs Q E (room.deeper _) gu hsp
    have J := inv_start (CX := L2.CX P w) (E := E) (cd := cv) S room.hd e0 lenV vals x
    refine wpAny_mono (ht.run [] s1 (L2.start N vs) H _ J hq) (fun fl s2 hs => ?_) fun _ _ z => z
    cases fl with
    | ret u => obtain ⟨v, _, H', J', rv, q⟩ := hs; exact ⟨v, H', J'.os, J'.bare, J'.base, J'.hok, rv, q⟩
    | next => obtain ⟨_, H', J', q⟩ := hs; exact ⟨V.non, H', J'.os, J'.bare, J'.base, J'.hok, rfl, q⟩
    | brk => obtain ⟨_, _, _, q⟩ := hs; exact q.elim
    | cont => obtain ⟨_, _, _, q⟩ := hs; exact q.elim
end
section
variable {X : Cx} {k : Nat} {f : Addr} {fd : FuncData} {ps : List Str} {sp : Sp} {E : L2.St → XK} {x : Str} {p pos : Pos} {e : Expr} {es : List Expr} {t : TA}
theorem run_fnG {pins : List (Addr × Obj)} {σ : L2.St} {H : Hp} {s : Shared} {Q : VK} {us : List Value} {vs : List V} (F : FnG X.prog X.w X.K X.mg X.base k f fd ps sp) (room : Room k X.A) (gu : X.A.guards = some []) (bind : Binds X.K fd ps []) (pass : PassesAt (L2.CX X.prog X.w) X σ (E σ))
    (J : Inv X pins σ H s) (vals : Vals vs us) (h : sp vs H Q (E σ)) : wpAny (model X.prog X.w) X.A (call (.ref f) us) (EP X pins σ Q) X.xe s := by
  have lu : us.length = ps.length := vals.length.symm.trans (F.len _ _ _ _ h)
  have bd := bind s us J.kIn (by simpa using lu)
  simp only [List.append_nil] at bd
  refine wpAny_call (codeAny_mono (F.run X.A X.stack s H ⟨us, []⟩ us vs Q (E σ) room gu J.env0 bd vals h) fun r s2 hq => ?_)
  cases r with
  | error err => exact pass pins H s err s2 J hq
  | ok fl => cases fl with
    | ret u => exact J.after hq
    | _ => exact False.elim hq
def tCallG (sp : Sp) (E : L2.St → XK) (t : TA) : TE := fun σ H Q => t σ H fun vs H1 => sp vs H1 Q (E σ)
theorem pe_callG (F : FnG X.prog X.w X.K X.mg X.base k f fd ps sp) (room : Room k X.A) (gu : X.A.guards = some []) (hg : Gl X x) (hm : X.mg x = some (.ref f)) (hk : PySem.W.keepIn X.K (.ref f) = true) (bind : Binds X.K fd ps []) (pass : ∀ σ, PassesAt (L2.CX X.prog X.w) X σ (E σ))
    (ha : PA X (e :: es) t) (hdb : (x == ("__debug__" : Str)) = false := by decide) (he : starEach (e :: es) X.env = (false, eval e X.env) :: starEach es X.env := by rfl) (hpl : (backTo pos (starEach es X.env)).any (·.1) = false := by rfl) :
    PE X (.Call (.Name x p) (e :: es) [] pos) (tCallG sp E t) := ⟨fun pins s σ H Q J h =>
  wpAny_Call_Name_kw (ld_glob J hg hm (PySem.W.callWith_K (h₀ := X.base) J.ok.mod.kin hk (thn (ha.run pos pins s σ H _ J h) fun us s1 ⟨vs, H1, J1, vals, q⟩ => ⟨J1.kIn, run_fnG F room gu bind (pass σ) J1 vals q⟩) he hpl) hdb)⟩
end

/-! ### a promise over trees -/
abbrev SpT := List T → (T → Rho → Prop) → ExK → Prop
structure Ent (K : PySem.W.Frag) (np : Nat) (io : List Nat) (vs : List V) (H : Hp) (O : Own) (ts : List T) : Prop where
  lv : vs.length = np
  lt : ts.length = np
  tr : ∀ (i : Nat) (t : T), ts[i]? = some t → ∃ v, vs[i]? = some v ∧ Tr K H O i [] v t
  nt : ∀ b, O b ≠ .free → ∃ o, H b = some o ∧ ownable o
  inj : ∀ a b r p, O a = .at r p → O b = .at r p → a = b
  val : ∀ b r p, O b = .at r p → r < np ∧ r ∈ io ∧ ∃ t z, ts[r]? = some t ∧ subT t p = some z ∧ isNode z = true
  sm : Sm K H O
structure Exi (K : PySem.W.Frag) (np : Nat) (io : List Nat) (vs : List V) (H : Hp) (O : Own) (H' : Hp) (O' : Own) (ρ : Rho) : Prop where
  fr : ∀ b o, H b = some o → (O b = .free ∨ O b = .foreign) → H' b = some o ∧ O' b = O b
  nt : ∀ b, O' b ≠ .free → ∃ o, H' b = some o ∧ ownable o
  inj : ∀ a b r p, O' a = .at r p → O' b = .at r p → a = b
  pz : ∀ b j p, O b = .at j p → O' b = .at j p
  fo : ∀ b, O' b = .foreign → O b = .foreign
  lt : ∀ b r p, O' b = .at r p → r ≤ np
  val : ∀ b r p, O' b = .at r p → r < np → r ∈ io ∧ ∃ t z, ρ[r]? = some (some t) ∧ subT t p = some z ∧ isNode z = true
  tr : ∀ (i : Nat) (v : V) (t t0 : T) (ts : List T), i ∈ io → vs[i]? = some v → Tr K H O i [] v t0 → isNode t0 = true → ρ[i]? = some (some t) → isNode t = true → Tr K H' O' i [] v t
def lfSp (K : PySem.W.Frag) (np : Nat) (io : List Nat) (S : SpT) : Sp := fun vs H Q E => ∃ O ts, Ent K np io vs H O ts ∧
  S ts (fun t ρ => ∀ v H' O', Exi K np io vs H O H' O' ρ → Val K H' O' np v t → Q v H') (fun c ρ => ∀ H' O', Exi K np io vs H O H' O' ρ → (∀ b p, O' b ≠ .at np p) → E (.ref c) none H')
/-- the frame's values at the entry -/
def rho0 (N : List Str) (ts : List T) : Rho := ts.map some ++ List.replicate (N.length - ts.length) none
theorem rho0_get {N : List Str} {ts : List T} {i : Nat} {t : T} (h : (rho0 N ts)[i]? = some (some t)) : ts[i]? = some t := by
  unfold rho0 at h
  by_cases hi : i < ts.length
  · rw [List.getElem?_append_left (by simpa using hi), List.getElem?_map] at h
    cases e : ts[i]? with
    | none => rw [e] at h; cases h
    | some a => rw [e] at h; cases h; rfl
  · rw [List.getElem?_append_right (by simpa using Nat.le_of_not_lt hi), List.getElem?_replicate] at h
    split at h <;> cases h
theorem rho0_of {N : List Str} {ts : List T} {i : Nat} {t : T} (h : ts[i]? = some t) : (rho0 N ts)[i]? = some (some t) := by
  unfold rho0
  have hi := (List.getElem?_eq_some_iff.mp h).1
  rw [List.getElem?_append_left (by simpa using hi), List.getElem?_map, h]; rfl
theorem start_of {N : List Str} {vs : List V} {i : Nat} {v : V} (h : vs[i]? = some v) : (L2.start N vs)[i]? = some (some v) := by
  unfold L2.start
  have hi := (List.getElem?_eq_some_iff.mp h).1
  rw [List.getElem?_append_left (by simpa using hi), List.getElem?_map, h]; rfl
section
variable {P : Program} {w : World} {K : PySem.W.Frag} {mg : Str → Option Value} {base : Heap}
/-- only the labels of parameters that are handed in to be changed, and of the result, are kept -/
def outL (np : Nat) (io : List Nat) (N : Nat) (O : Own) : Own := fun b => match O b with
  | .at r p => if r = N then .at np p else if r < np ∧ r ∈ io then .at r p else .free
  | z => z
theorem outL_free {np N : Nat} {io : List Nat} {O : Own} {b : Addr} (h : O b = .free) : outL np io N O b = .free := by unfold outL; rw [h]
theorem outL_foreign {np N : Nat} {io : List Nat} {O : Own} {b : Addr} : outL np io N O b = .foreign ↔ O b = .foreign := by
  unfold outL
  cases e : O b with
  | free => simp
  | foreign => simp
  | «at» r p =>
    simp only
    by_cases h : r = N
    · simp [h]
    · rw [if_neg h]
      by_cases h2 : r < np ∧ r ∈ io <;> simp [h2]
theorem outL_at {np N : Nat} {io : List Nat} {O : Own} {b : Addr} {r : Nat} {p : List Nat} (h : outL np io N O b = .at r p) : (r = np ∧ O b = .at N p) ∨ (r < np ∧ r ∈ io ∧ r ≠ N ∧ O b = .at r p) := by
  unfold outL at h
  cases e : O b with
  | free => rw [e] at h; cases h
  | foreign => rw [e] at h; cases h
  | «at» r' p' =>
    rw [e] at h
    simp only at h
    by_cases h1 : r' = N
    · rw [if_pos h1] at h; cases h; subst h1; exact .inl ⟨rfl, rfl⟩
    · rw [if_neg h1] at h
      by_cases h2 : r' < np ∧ r' ∈ io
      · rw [if_pos h2] at h; cases h; exact .inr ⟨h2.1, h2.2, h1, rfl⟩
      · rw [if_neg h2] at h; cases h
theorem outL_res {np N : Nat} {io : List Nat} {O : Own} {b : Addr} {p : List Nat} (h : O b = .at N p) : outL np io N O b = .at np p := by unfold outL; rw [h]; simp
theorem outL_io {np N : Nat} {io : List Nat} {O : Own} {b : Addr} {r : Nat} {p : List Nat} (h : O b = .at r p) (h1 : r < np) (h2 : r ∈ io) (h3 : r ≠ N) : outL np io N O b = .at r p := by unfold outL; rw [h]; simp [h1, h2, h3]
theorem exi_of {C : Ctx} {n np : Nat} {io : List Nat} {vs : List V} {σ : L2.St} {H0 H : Hp} {O0 O : Own} {ρ : Rho} {ts : List T} (hH : C.H0 = H0) (hO : C.O0 = O0) (hnp : np ≤ C.N) (En : Ent K np io vs H0 O0 ts) (R : Rel K C n σ H O ρ) : Exi K np io vs H0 O0 H (outL np io C.N O) ρ := by
  subst hH hO
  refine ⟨fun b o e1 e2 => ?_, fun b z => R.nt b fun q => z (outL_free q), fun a b r p e1 e2 => ?_, fun b j p e => ?_, fun b e => let ⟨_, _, z⟩ := R.fo b (outL_foreign.mp e); z, fun b r p e => ?_, fun b r p e l => ?_, fun i v t t0 _ hi hv h0 hn e hn2 => ?_⟩
  · obtain ⟨z1, z2⟩ := R.fr b o e1 e2
    refine ⟨z1, ?_⟩
    rcases e2 with e2 | e2
    · rw [e2] at z2 ⊢; exact outL_free z2
    · rw [e2] at z2 ⊢; exact outL_foreign.mpr z2
  · rcases outL_at e1 with ⟨h1, h2⟩ | ⟨h1, _, _, h2⟩ <;> rcases outL_at e2 with ⟨h3, h4⟩ | ⟨h3, _, _, h4⟩
    · exact R.inj a b _ _ h2 h4
    · omega
    · omega
    · exact R.inj a b _ _ h2 h4
  · obtain ⟨h1, h2, _⟩ := En.val b j p e
    obtain ⟨h3, h4⟩ := R.pz b j p e
    exact outL_io h4 h1 h2 (Nat.ne_of_lt h3)
  · rcases outL_at e with ⟨h1, _⟩ | ⟨h1, _⟩ <;> omega
  · rcases outL_at e with ⟨h1, _⟩ | ⟨h1, h2, h3, h4⟩
    · omega
    · exact ⟨h2, R.val b r p h4 (by omega)⟩
  · obtain ⟨a, rfl, ha⟩ := tr_root h0 hn
    obtain ⟨h3, h4⟩ := R.pz a i [] ha
    obtain ⟨h1, h2, _⟩ := En.val a i [] ha
    obtain ⟨v', _, tr⟩ := R.sl i t e
    obtain ⟨a', rfl, ha'⟩ := tr_root tr hn2
    rw [R.inj a a' i [] h4 ha']
    exact Tr.move (r' := i) (p0 := []) (p1 := []) (fun b o e1 e2 => ⟨e1, outL_free e2⟩) (fun b o q e1 e2 => ⟨e1, outL_io e2 h1 h2 (Nat.ne_of_lt h3)⟩) t [] _ tr
def noAl : T → Bool
  | .a _ _ => false
  | _ => true
/-- THE RULE for a def: its body over trees -/
theorem _root_.L2.Fun.okT {x qual : Str} {st : Stmt} {f : Addr} {fd : FuncData} {N ps : List Str} {k np : Nat} {io : List Nat} {S : SpT} (F : Fun K x qual st f fd) (Sc : FnScope N ps (defScope st)) (hnp : np = ps.length := by rfl) (hN : np ≤ N.length := by decide)
    (hbody : ∀ (cv : Value) (B : Around) (out : List Env) (s : Shared) (H : Hp) (E : XK), Room k (B.deeper (envOfC qual (defScope st) s.heap.objs.size f cv)) → (B.deeper (envOfC qual (defScope st) s.heap.objs.size f cv)).guards = some [] →
      ∃ tw, LSs (cxOf (L2.CX P w) P w K mg base N qual (defScope st) f cv B out s H E) io (defBody st) tw ∧
        ∀ ts Q Ex, S ts Q Ex → tw { nx := fun ρ => Q (.d .none) ρ, rt := fun t ρ => noAl t = true ∧ Q t ρ, ex := Ex } (rho0 N ts)) : FnG P w K mg base (k + 1) f fd ps (lfSp K np io S) := by
  refine F.okG Sc (fun vs H Q E ⟨O, ts, En, _⟩ => by rw [En.lv, hnp]) fun cv B out s H vs Q E room gu ⟨O, ts, En, hS⟩ => ?_
  obtain ⟨tw, hw, hq⟩ := hbody cv B out s H E room gu
  let C : Ctx := ⟨H, O, N.length, io⟩
  have run := hw.run C (fun cls d _ H => E cls d H) rfl rfl (takes_of rfl rfl rfl rfl) (passes_of rfl)
  refine ⟨_, run, O, rho0 N ts, ?_, ?_⟩
  · have l1 : (L2.start N vs).length = N.length := by unfold L2.start; rw [List.length_append, List.length_map, List.length_replicate, En.lv]; omega
    have l2 : (rho0 N ts).length = N.length := by unfold rho0; rw [List.length_append, List.length_map, List.length_replicate, En.lt]; omega
    exact ⟨fun b o e1 e2 => ⟨e1, rfl⟩, En.nt, fun b r p e => Nat.lt_of_lt_of_le (En.val b r p e).1 hN, En.inj, fun b r p e _ => let ⟨_, _, t, z, h1, h2, h3⟩ := En.val b r p e; ⟨t, z, rho0_of h1, h2, h3⟩, l1, l2,
      fun i t e => let ⟨v, h1, h2⟩ := En.tr i t (rho0_get e); ⟨v, start_of h1, h2⟩, Nat.le_refl _, fun b e => let ⟨o, h, _⟩ := En.nt b (by rw [e]; intro z; cases z); ⟨o, h, e⟩, fun b j p e => ⟨Nat.lt_of_lt_of_le (En.val b j p e).1 hN, e⟩, En.sm, fun b j p e => (En.val b j p e).2.1⟩
  · have fin : ∀ {t : T} {v : V} {σ' : L2.St} {H' : Hp} {O' : Own} {ρ' : Rho} {m : Nat}, (∀ v H' O', Exi K np io vs H O H' O' ρ' → Val K H' O' np v t → Q v H') → Rel K C m σ' H' O' ρ' → Val K H' O' C.N v t → noAl t = true → Q v H' := fun {t v σ' H' O' ρ' m} q R' V' hal => by
      refine q v H' (outL np io C.N O') (exi_of rfl rfl hN En R') ?_
      have gen : ∀ u : T, (Tr K H' O' C.N [] v u ∧ ∀ b p, O' b = .at C.N p → ∃ z, subT u p = some z ∧ isNode z = true) → Tr K H' (outL np io C.N O') np [] v u ∧ ∀ b p, outL np io C.N O' b = .at np p → ∃ z, subT u p = some z ∧ isNode z = true := fun u h =>
        ⟨Tr.move (r' := np) (p0 := []) (p1 := []) (fun b o e1 e2 => ⟨e1, outL_free e2⟩) (fun b o q e1 e2 => ⟨e1, outL_res e2⟩) u [] v h.1, fun b p e => by
          rcases outL_at e with ⟨_, h2⟩ | ⟨h1, _⟩
          · exact h.2 b p h2
          · omega⟩
      cases t with
      | a r p => cases hal
      | _ => exact gen _ V'
    have hq' := hq ts _ _ hS
    refine hw.mono _ _ _ (LeD.mk (fun ρ' q => ?_) (fun t ρ' q => ?_) (fun _ z => False.elim z) (fun _ z => False.elim z) (fun c ρ' q => ?_)) hq'
    · intro σ' H' O' R' F'
      exact fin q R' (R'.val_d .non) rfl
    · intro v σ' H' O' R' F' V'
      exact fin q.2 R' V' q.1
    · intro σ' H' O' R' F'
      refine q H' _ (exi_of rfl rfl hN En R') fun b p e => ?_
      rcases outL_at e with ⟨_, h2⟩ | ⟨h1, _⟩
      · exact absurd (R'.lt b _ p h2) (Nat.lt_irrefl _)
      · omega
end
end TX

/-! The call of a def over trees. -/
namespace TX
open PySem PySem.Spec L2

def stripP : List Nat → List Nat → Option (List Nat)
  | [], q => some q
  | a :: p, b :: q => if a = b then stripP p q else none
  | _ :: _, [] => none
theorem stripP_app : ∀ (p q : List Nat), stripP p (p ++ q) = some q
  | [], q => rfl
  | a :: p, q => by simp [stripP, stripP_app p q]
theorem stripP_some : ∀ {p x q : List Nat}, stripP p x = some q → x = p ++ q
  | [], x, q, h => by cases h; rfl
  | a :: p, [], q, h => by cases h
  | a :: p, b :: x, q, h => by
    unfold stripP at h
    split at h
    · rename_i e; subst e; rw [stripP_some h]; rfl
    · cases h
/-- how an argument comes into the def -/
def argF (io : List Nat) (ρ : Rho) (vu : Bool) (i : Nat) (t : T) : Option T :=
  match io.contains i, t with
  | true, .a r p => match getT ρ r p with
    | some u => if isNode u then some u else none
    | none => none
  | true, _ => none
  | false, .a r p => match vu with
    | true => match getT ρ r p with
      | some u => (erase u).map T.d
      | none => none
    | false => none
  | false, .raw v => some (.raw v)
  | false, .fz ns => some (.fz ns)
  | false, t => (erase t).map T.d
def argsF (io : List Nat) (ρ : Rho) (vu : Bool) : Nat → List T → Option (List T)
  | _, [] => some []
  | i, t :: ts => match argF io ρ vu i t, argsF io ρ vu (i + 1) ts with
    | some u, some us => some (u :: us)
    | _, _ => none
theorem argsF_get {io : List Nat} {ρ : Rho} {vu : Bool} : ∀ {ts us : List T} {k i : Nat} {u : T}, argsF io ρ vu k ts = some us → us[i]? = some u → ∃ t, ts[i]? = some t ∧ argF io ρ vu (k + i) t = some u
  | [], us, k, i, u, h, e => by simp [argsF] at h; subst h; simp at e
  | t :: ts, us, k, i, u, h, e => by
    unfold argsF at h
    cases e1 : argF io ρ vu k t with
    | none => rw [e1] at h; cases h
    | some u' =>
      cases e2 : argsF io ρ vu (k + 1) ts with
      | none => rw [e1, e2] at h; cases h
      | some us' =>
        rw [e1, e2] at h
        cases h
        cases i with
        | zero => cases e; exact ⟨t, rfl, e1⟩
        | succ i =>
          obtain ⟨t', h1, h2⟩ := argsF_get e2 (by simpa using e)
          exact ⟨t', by simpa using h1, by rw [show k + (i + 1) = k + 1 + i by omega]; exact h2⟩
theorem argsF_len {io : List Nat} {ρ : Rho} {vu : Bool} : ∀ {ts us : List T} {k : Nat}, argsF io ρ vu k ts = some us → us.length = ts.length
  | [], us, k, h => by simp [argsF] at h; subst h; rfl
  | t :: ts, us, k, h => by
    unfold argsF at h
    cases e1 : argF io ρ vu k t with
    | none => rw [e1] at h; cases h
    | some u' =>
      cases e2 : argsF io ρ vu (k + 1) ts with
      | none => rw [e1, e2] at h; cases h
      | some us' => rw [e1, e2] at h; cases h; simp [argsF_len e2]
/-- the root of a place -/
def rootT : T → Option Nat
  | .a r _ => some r
  | _ => none
/-- no two places that are handed in have one root -/
def apartB : List T → Bool
  | [] => true
  | t :: ts => (match rootT t with
    | some r => ts.all fun u => rootT u != some r
    | none => true) && apartB ts
theorem apart_eq : ∀ {ts : List T} {i j r : Nat} {p q : List Nat}, apartB ts = true → ts[i]? = some (.a r p) → ts[j]? = some (.a r q) → i = j
  | [], i, _, _, _, _, _, h, _ => by simp at h
  | t :: ts, i, j, r, p, q, h, e1, e2 => by
    simp only [apartB, Bool.and_eq_true] at h
    cases i with
    | zero =>
      cases j with
      | zero => rfl
      | succ j =>
        simp at e1 e2
        subst e1
        have := h.1
        simp only [rootT, List.all_eq_true] at this
        have := this _ (List.mem_of_getElem? e2)
        simp [rootT] at this
    | succ i =>
      cases j with
      | zero =>
        simp at e1 e2
        subst e2
        have := h.1
        simp only [rootT, List.all_eq_true] at this
        have := this _ (List.mem_of_getElem? e1)
        simp [rootT] at this
      | succ j =>
        have := apart_eq (i := i) (j := j) h.2 (by simpa using e1) (by simpa using e2)
        omega
/-- the parameter that a root's tree is handed in at -/
def rmOf (io : List Nat) (ts : List T) (r : Nat) : Option (Nat × List Nat) := io.findSome? fun (i : Nat) => match (ts[i]? : Option T) with
  | some (.a r' p) => if r' = r then some (i, p) else none
  | _ => none
theorem rmOf_some {io : List Nat} {ts : List T} {r i : Nat} {p : List Nat} (h : rmOf io ts r = some (i, p)) : i ∈ io ∧ ts[i]? = some (.a r p) := by
  unfold rmOf at h
  obtain ⟨j, h1, h2⟩ := List.exists_of_findSome?_eq_some h
  split at h2
  · rename_i r' p' e
    split at h2
    · rename_i er; subst er; cases h2; exact ⟨h1, e⟩
    · cases h2
  · cases h2
theorem rmOf_of {io : List Nat} {ts : List T} {r i : Nat} {p : List Nat} (ha : apartB ts = true) (h1 : i ∈ io) (h2 : ts[i]? = some (.a r p)) : rmOf io ts r = some (i, p) := by
  cases e : rmOf io ts r with
  | some x =>
    obtain ⟨j, q⟩ := x
    obtain ⟨_, h3⟩ := rmOf_some e
    have := apart_eq ha h2 h3
    subst this
    rw [h2] at h3; cases h3; rfl
  | none =>
    unfold rmOf at e
    rw [List.findSome?_eq_none_iff] at e
    have := e i h1
    rw [h2] at this
    simp at this
def rmI (io : List Nat) (ts : List T) (i : Nat) : Option (Nat × List Nat) := if i ∈ io then match ts[i]? with
  | some (.a r p) => some (r, p)
  | _ => none else none
theorem rmI_some {io : List Nat} {ts : List T} {r i : Nat} {p : List Nat} (h : rmI io ts i = some (r, p)) : i ∈ io ∧ ts[i]? = some (.a r p) := by
  unfold rmI at h
  split at h
  · split at h
    · rename_i e; cases h; exact ⟨by assumption, e⟩
    · cases h
  · cases h
theorem rmI_of {io : List Nat} {ts : List T} {r i : Nat} {p : List Nat} (h1 : i ∈ io) (h2 : ts[i]? = some (.a r p)) : rmI io ts i = some (r, p) := by
  unfold rmI; rw [if_pos h1, h2]
/-- the owners as the def sees them; and behind it, as the caller does -/
def inL (N n : Nat) (io : List Nat) (ts : List T) (vu : Bool) (O : Own) : Own := fun b => match O b with
  | .at r q => if r < N then (match rmOf io ts r with
      | some (i, p) => match stripP p q with
        | some q' => .at i q'
        | none => .foreign
      | none => if vu = true then .free else .foreign)
    else if r < n then .foreign else .free
  | z => z
def bkL (N n np : Nat) (io : List Nat) (ts : List T) (O O' : Own) : Own := fun b => match O' b with
  | .at i q => if i = np then .at n q else match rmI io ts i with
    | some (r, p) => .at r (p ++ q)
    | none => .free
  | .foreign => O b
  | .free => match O b with
    | .at r q => if r < N then .at r q else .free
    | _ => .free
def backF (io : List Nat) (ts : List T) (ρ' : Rho) (r : Nat) (x : Option T) : Option T := match rmOf io ts r with
  | none => x
  | some (i, p) => match x, ρ'[i]? with
    | some t, some (some u) => some (putT t u p)
    | _, _ => x
def backA (io : List Nat) (ts : List T) (ρ ρ' : Rho) : Rho := ρ.mapIdx (backF io ts ρ')
/-! data without lists and dicts at all leaves -/
mutual
def immT : T → Bool
  | .d x => imm x
  | .l ts => immTs ts
  | .m _ _ ts => immTs ts
  | .o _ _ ts => immTs ts
  | .s _ _ => true
  | .raw _ => true
  | .fz _ => false
  | .lk _ _ _ => false
  | .a _ _ => true
def immTs : List T → Bool
  | [] => true
  | t :: ts => immT t && immTs ts
end
mutual
theorem Tr.moveI {K : PySem.W.Frag} {H : Hp} {O O' : Own} {r r' : Nat} {p0 p1 : List Nat} (hf : ∀ b, O' b ≠ .free → ∃ o, H b = some o ∧ ownable o)
    (hl : ∀ b q, O b = .at r (p0 ++ q) → O' b = .at r' (p1 ++ q)) : ∀ (t : T) (q : List Nat) (v : V), immT t = true → Tr K H O r (p0 ++ q) v t → Tr K H O' r' (p1 ++ q) v t
  | .d x, q, v, i, h => by
    cases h with
    | d h => exact .d (Rp.imm hf x v (by simpa [immT] using i) (Rp.mono (fun b o e => (msk_some e).2) _ _ h))
  | .l ts, q, v, i, h => by
    cases h with
    | l h1 h2 h3 => exact .l (hl _ q h1) h2 (TrAll.moveI hf hl ts q 0 _ (by simpa [immT] using i) h3)
  | .m tk ks ts, q, v, i, h => by
    cases h with
    | mk h1 h2 h3 h4 => exact .mk (hl _ q h1) h2 h3 (TrAll.moveI hf hl ts q 0 _ (by simpa [immT] using i) h4)
    | mt h1 h2 h3 h4 => exact .mt (hl _ q h1) h2 h3 (TrAll.moveI hf hl ts q 0 _ (by simpa [immT] using i) h4)
  | .o C ns ts, q, v, i, h => by
    cases h with
    | o h1 h2 h3 h4 => exact .o (hl _ q h1) h2 h3 (TrAll.moveI hf hl ts q 0 _ (by simpa [immT] using i) h4)
  | .s S n, q, v, i, h => by
    cases h with
    | s h1 h2 => exact .s (hl _ q h1) h2
  | .raw v', q, v, i, h => by cases h; exact .raw
  | .fz ns, q, v, i, h => by simp [immT] at i
  | .lk _ _ _, q, v, i, h => by simp [immT] at i
  | .a _ _, q, v, i, h => by cases h
theorem TrAll.moveI {K : PySem.W.Frag} {H : Hp} {O O' : Own} {r r' : Nat} {p0 p1 : List Nat} (hf : ∀ b, O' b ≠ .free → ∃ o, H b = some o ∧ ownable o)
    (hl : ∀ b q, O b = .at r (p0 ++ q) → O' b = .at r' (p1 ++ q)) : ∀ (ts : List T) (q : List Nat) (k : Nat) (vs : List V), immTs ts = true → TrAll K H O r (p0 ++ q) k vs ts → TrAll K H O' r' (p1 ++ q) k vs ts
  | [], q, k, vs, i, h => by cases h; exact .nil
  | t :: ts, q, k, vs, i, h => by
    cases h with
    | cons h1 h2 =>
      simp [immTs] at i
      refine .cons ?_ (TrAll.moveI hf hl ts q (k + 1) _ i.2 h2)
      have := Tr.moveI hf hl t (q ++ [k]) _ i.1 (by rw [← List.append_assoc]; exact h1)
      rw [← List.append_assoc] at this
      exact this
end
/-- the trees that come back are nodes; where places are looked at, nothing that comes back may lean on them -/
def ioOk (io : List Nat) (vu : Bool) (ρ' : Rho) : Bool := io.all fun i => match ρ'[i]? with
  | some (some t) => isNode t && (!vu || immT t)
  | _ => false
def wCall (io : List Nat) (np : Nat) (S : SpT) (tas : TwA) : TwE := fun ρ Q E => tas ρ (fun ts ρ1 => ∃ vu us, argsF io ρ1 vu 0 ts = some us ∧ us.length = np ∧ apartB ts = true ∧
  S us (fun t ρ' => ioOk io vu ρ' = true ∧ (vu = true → immT t = true) ∧ noAl t = true ∧ Q t (backA io ts ρ1 ρ')) (fun c ρ' => ioOk io vu ρ' = true ∧ E c (backA io ts ρ1 ρ'))) E
def MonSp (S : SpT) : Prop := ∀ ts (Q Q' : T → Rho → Prop) (E E' : ExK), (∀ t ρ, Q t ρ → Q' t ρ) → (∀ c ρ, E c ρ → E' c ρ) → S ts Q E → S ts Q' E'

theorem ValAll.get {K : PySem.W.Frag} {H : Hp} {O : Own} : ∀ {n : Nat} {vs : List V} {ts : List T} {i : Nat} {t : T}, ValAll K H O n vs ts → ts[i]? = some t → ∃ v, vs[i]? = some v ∧ Val K H O (n + i) v t
  | _, _, _, _, _, .nil, e => by simp at e
  | n, _, _, 0, _, .cons h _, e => by simp at e; subst e; exact ⟨_, rfl, h⟩
  | n, _, _, i + 1, _, .cons _ h, e => by
    obtain ⟨v, h1, h2⟩ := ValAll.get (i := i) h (by simpa using e)
    exact ⟨v, by simpa using h1, by rw [show n + (i + 1) = n + 1 + i by omega]; exact h2⟩
section
variable {K : PySem.W.Frag} {C : Ctx} {n m np : Nat} {σ : St} {H H' : Hp} {O O' : Own} {ρ ρ' : Rho} {io : List Nat} {ts us : List T} {vs : List V} {vu : Bool}
theorem inL_free {b : Addr} (h : O b = .free) : inL C.N n io ts vu O b = .free := by unfold inL; rw [h]
theorem inL_foreign {b : Addr} (h : O b = .foreign) : inL C.N n io ts vu O b = .foreign := by unfold inL; rw [h]
theorem inL_tmp {b : Addr} {r : Nat} {q : List Nat} (h : O b = .at r q) (h1 : C.N ≤ n) (h2 : n ≤ r) : inL C.N n io ts vu O b = .free := by unfold inL; rw [h]; simp only; rw [if_neg (by omega), if_neg (by omega)]
theorem inL_mid {b : Addr} {r : Nat} {q : List Nat} (h : O b = .at r q) (h1 : C.N ≤ r) (h2 : r < n) : inL C.N n io ts vu O b = .foreign := by unfold inL; rw [h]; simp only; rw [if_neg (by omega), if_pos h2]
theorem inL_io {b : Addr} {r i : Nat} {p q : List Nat} (h : O b = .at r (p ++ q)) (h1 : r < C.N) (h2 : rmOf io ts r = some (i, p)) : inL C.N n io ts vu O b = .at i q := by unfold inL; rw [h]; simp only; rw [if_pos h1, h2]; simp only; rw [stripP_app]
theorem inL_no {b : Addr} {r : Nat} {q : List Nat} (h : O b = .at r q) (h1 : r < C.N) (h2 : rmOf io ts r = none) : inL C.N n io ts vu O b = if vu = true then .free else .foreign := by unfold inL; rw [h]; simp only; rw [if_pos h1, h2]
theorem inL_off {b : Addr} {r i : Nat} {p q : List Nat} (h : O b = .at r q) (h1 : r < C.N) (h2 : rmOf io ts r = some (i, p)) (h3 : stripP p q = none) : inL C.N n io ts vu O b = .foreign := by unfold inL; rw [h]; simp only; rw [if_pos h1, h2]; simp only; rw [h3]
theorem inL_at {b : Addr} {i : Nat} {q : List Nat} (h : inL C.N n io ts vu O b = .at i q) : ∃ r p, r < C.N ∧ rmOf io ts r = some (i, p) ∧ O b = .at r (p ++ q) := by
  cases e : O b with
  | free => rw [inL_free e] at h; cases h
  | foreign => rw [inL_foreign e] at h; cases h
  | «at» r x =>
    by_cases h1 : r < C.N
    · cases h2 : rmOf io ts r with
      | none => rw [inL_no e h1 h2] at h; split at h <;> cases h
      | some y =>
        obtain ⟨j, p⟩ := y
        cases h3 : stripP p x with
        | none => rw [inL_off e h1 h2 h3] at h; cases h
        | some q' =>
          have := stripP_some h3
          subst this
          rw [inL_io e h1 h2] at h
          cases h
          exact ⟨r, p, h1, h2, rfl⟩
    · unfold inL at h
      rw [e] at h
      simp only at h
      rw [if_neg h1] at h
      split at h <;> cases h
theorem ent_of (R : Rel K C m σ H O ρ) (hn : C.N ≤ n) (VA : ValAll K H O n vs ts) (ha : argsF io ρ vu 0 ts = some us) (hl : us.length = np) (hap : apartB ts = true) : Ent K np io vs H (inL C.N n io ts vu O) us := by
  have len := argsF_len ha
  have hfree : ∀ b o, msk O H b = some o → msk (inL C.N n io ts vu O) H b = some o := fun b o z => by obtain ⟨z1, z2⟩ := msk_some z; rw [msk_of (inL_free z1)]; exact z2
  refine ⟨by rw [VA.length, ← len]; exact hl, hl, fun i u e => ?_, fun b z => R.nt b fun q => z (inL_free q), fun a b i q e1 e2 => ?_, fun b i q e => ?_, ?_⟩
  · obtain ⟨t, h1, h2⟩ := argsF_get ha e
    rw [Nat.zero_add] at h2
    obtain ⟨v, h3, h4⟩ := VA.get h1
    refine ⟨v, h3, ?_⟩
    by_cases hi : i ∈ io
    · have hc : io.contains i = true := by simpa using hi
      unfold argF at h2
      rw [hc] at h2
      cases t with
      | a r p =>
        simp only at h2
        cases g : getT ρ r p with
        | none => rw [g] at h2; cases h2
        | some w =>
          rw [g] at h2
          simp only at h2
          split at h2
          · cases h2
            obtain ⟨⟨a, rfl, e2, _⟩, _⟩ := h4
            have tr := R.alias g (by assumption) e2
            obtain ⟨t0, e3, _⟩ := getT_some g
            have hr := R.slt e3
            have rm := rmOf_of hap hi h1
            exact Tr.move (r' := i) (p0 := p) (p1 := []) (fun b o z1 z2 => ⟨z1, inL_free z2⟩) (fun b o q z1 z2 => ⟨z1, inL_io z2 hr rm⟩) u [] _ (by rw [List.append_nil]; exact tr)
          · cases h2
      | _ => cases h2
    · have hc : io.contains i = false := by simpa using hi
      unfold argF at h2
      rw [hc] at h2
      have tmp : ∀ {t : T} {x : PyData}, Tr K H O (n + i) [] v t → erase t = some x → Rp K (msk (inL C.N n io ts vu O) H) v x := fun {t x} h e => Rp.mono (fun b o z => by
        unfold vis at z
        split at z
        · rename_i e1; rw [msk_of (inL_free e1)]; exact z
        · cases z
        · rename_i r' p' e1
          split at z
          · rename_i e2
            rw [msk_of (inL_tmp e1 hn (by omega))]; exact z
          · cases z) _ _ (Tr.view t [] v x e h)
      cases t with
      | a r p =>
        simp only at h2
        cases vu with
        | false => cases h2
        | true =>
          simp only at h2
          cases g : getT ρ r p with
          | none => rw [g] at h2; cases h2
          | some w =>
            rw [g] at h2
            simp only [Option.map_eq_some_iff] at h2
            obtain ⟨x, e1, rfl⟩ := h2
            obtain ⟨⟨a, rfl, e2, _⟩, _⟩ := h4
            obtain ⟨t0, e3, _⟩ := getT_some g
            have hr := R.slt e3
            obtain ⟨w', g', hnw, tr⟩ := R.place e2 hr
            rw [g] at g'; cases g'
            have rm : rmOf io ts r = none := by
              cases q : rmOf io ts r with
              | none => rfl
              | some y =>
                obtain ⟨j, pj⟩ := y
                obtain ⟨y1, y2⟩ := rmOf_some q
                have := apart_eq hap h1 y2
                subst this
                exact absurd y1 hi
            refine .d (Rp.mono (fun b o z => ?_) _ _ (Tr.view w p _ x e1 tr))
            unfold vis at z
            split at z
            · rename_i e4; rw [msk_of (inL_free e4)]; exact z
            · cases z
            · rename_i r' p' e4
              split at z
              · rename_i e5
                subst e5
                rw [msk_of (by rw [inL_no e4 hr rm]; rfl)]; exact z
              · cases z
      | raw w =>
        cases h2
        rw [val_raw h4]
        exact .raw
      | fz ns =>
        cases h2
        have := h4.1
        cases this with
        | fz h => exact .fz (sql_mono hfree h)
      | d x =>
        simp only [erase, Option.map_some, Option.some.injEq] at h2
        subst h2
        exact .d (Rp.mono hfree _ _ (val_d h4))
      | _ =>
        simp only [Option.map_eq_some_iff] at h2
        obtain ⟨x, e1, rfl⟩ := h2
        exact .d (tmp h4.1 e1)
  · obtain ⟨r, p, h1, h2, h3⟩ := inL_at e1
    obtain ⟨r', p', h1', h2', h3'⟩ := inL_at e2
    have a1 := (rmOf_some h2).2
    have a2 := (rmOf_some h2').2
    rw [a1] at a2; cases a2
    exact R.inj a b _ _ h3 h3'
  · obtain ⟨r, p, h1, h2, h3⟩ := inL_at e
    obtain ⟨h4, h5⟩ := rmOf_some h2
    have hi : i < np := by rw [← hl, len]; exact (List.getElem?_eq_some_iff.mp h5).1
    refine ⟨hi, h4, ?_⟩
    have hu : i < us.length := by rw [hl]; exact hi
    obtain ⟨t, g1, g2⟩ := argsF_get ha (List.getElem?_eq_getElem hu)
    rw [Nat.zero_add] at g2
    rw [h5] at g1; cases g1
    have hc : io.contains i = true := by simpa using h4
    unfold argF at g2
    rw [hc] at g2
    simp only at g2
    cases g : getT ρ r p with
    | none => rw [g] at g2; cases g2
    | some w =>
      rw [g] at g2
      simp only at g2
      split at g2
      · obtain ⟨t0, z, y1, y2, y3⟩ := R.val b r _ h3 h1
        obtain ⟨t1, y4, y5⟩ := getT_some g
        rw [y1] at y4; cases y4
        rw [subT_append y5] at y2
        exact ⟨us[i], z, List.getElem?_eq_getElem hu, by rw [← Option.some.inj g2]; exact y2, y3⟩
      · cases g2
  · trivial

/-- what is known where the def has ended -/
structure BkC (K : PySem.W.Frag) (C : Ctx) (n np : Nat) (io : List Nat) (ts us : List T) (vs : List V) (vu : Bool) (H : Hp) (O : Own) (ρ : Rho) (H' : Hp) (O' : Own) (ρ' : Rho) : Prop where
  hn : C.N ≤ n
  VA : ValAll K H O n vs ts
  ha : argsF io ρ vu 0 ts = some us
  hl : us.length = np
  hap : apartB ts = true
  X : Exi K np io vs H (inL C.N n io ts vu O) H' O' ρ'
  ok : ioOk io vu ρ' = true
theorem bk_res {b : Addr} {q : List Nat} (h : O' b = .at np q) : bkL C.N n np io ts O O' b = .at n q := by unfold bkL; rw [h]; simp
theorem bk_io {b : Addr} {i r : Nat} {p q : List Nat} (h : O' b = .at i q) (h1 : i ≠ np) (h2 : rmI io ts i = some (r, p)) : bkL C.N n np io ts O O' b = .at r (p ++ q) := by unfold bkL; rw [h]; simp only; rw [if_neg h1, h2]
theorem bk_foreign {b : Addr} (h : O' b = .foreign) : bkL C.N n np io ts O O' b = O b := by unfold bkL; rw [h]
theorem bk_free {b : Addr} (h : O' b = .free) (h2 : ∀ r q, O b = .at r q → ¬ r < C.N) : bkL C.N n np io ts O O' b = .free := by
  unfold bkL; rw [h]; simp only
  cases e : O b with
  | free => rfl
  | foreign => rfl
  | «at» r q => simp only; rw [if_neg (h2 r q e)]
theorem bk_view {b : Addr} {r : Nat} {q : List Nat} (h : O' b = .free) (h2 : O b = .at r q) (h3 : r < C.N) : bkL C.N n np io ts O O' b = .at r q := by unfold bkL; rw [h]; simp only; rw [h2]; simp only; rw [if_pos h3]
theorem BkC.rm (B : BkC K C n np io ts us vs vu H O ρ H' O' ρ') {r i : Nat} {p : List Nat} (h : rmI io ts i = some (r, p)) : rmOf io ts r = some (i, p) := let ⟨h1, h2⟩ := rmI_some h; rmOf_of B.hap h1 h2
theorem BkC.mr (B : BkC K C n np io ts us vs vu H O ρ H' O' ρ') {r i : Nat} {p : List Nat} (h : rmOf io ts r = some (i, p)) : rmI io ts i = some (r, p) := let ⟨h1, h2⟩ := rmOf_some h; rmI_of h1 h2
theorem BkC.plc (B : BkC K C n np io ts us vs vu H O ρ H' O' ρ') (R : Rel K C m σ H O ρ) {r i : Nat} {p : List Nat} (h : rmI io ts i = some (r, p)) : r < C.N ∧ i < np ∧ ∃ u a, us[i]? = some u ∧ vs[i]? = some (.ref a) ∧ O a = .at r p ∧ getT ρ r p = some u ∧ isNode u = true := by
  obtain ⟨h1, h2⟩ := rmI_some h
  have hi : i < ts.length := (List.getElem?_eq_some_iff.mp h2).1
  have hu : i < us.length := by rw [argsF_len B.ha]; exact hi
  obtain ⟨t, g1, g2⟩ := argsF_get B.ha (List.getElem?_eq_getElem hu)
  rw [Nat.zero_add] at g2
  rw [h2] at g1; cases g1
  obtain ⟨v, h3, h4⟩ := B.VA.get h2
  have hc : io.contains i = true := by simpa using h1
  unfold argF at g2
  rw [hc] at g2
  simp only at g2
  cases g : getT ρ r p with
  | none => rw [g] at g2; cases g2
  | some w =>
    rw [g] at g2
    simp only at g2
    split at g2
    · obtain ⟨⟨a, rfl, e2, _⟩, _⟩ := h4
      obtain ⟨t0, e3, _⟩ := getT_some g
      refine ⟨R.slt e3, by rw [← B.hl]; exact hu, us[i], a, List.getElem?_eq_getElem hu, h3, e2, ?_, ?_⟩
      · rw [← Option.some.inj g2]
      · rw [← Option.some.inj g2]; assumption
    · cases g2
theorem BkC.okI (B : BkC K C n np io ts us vs vu H O ρ H' O' ρ') {i : Nat} (h : i ∈ io) : ∃ t, ρ'[i]? = some (some t) ∧ isNode t = true ∧ (vu = true → immT t = true) := by
  have := List.all_eq_true.mp B.ok i h
  split at this
  · rename_i t e
    simp only [Bool.and_eq_true, Bool.or_eq_true, Bool.not_eq_true'] at this
    refine ⟨t, e, this.1, fun z => ?_⟩
    rcases this.2 with q | q
    · rw [z] at q; cases q
    · exact q
  · cases this
/-- what is no place of the frame's handed-in trees is as it was -/
theorem BkC.keep (B : BkC K C n np io ts us vs vu H O ρ H' O' ρ') {b : Addr} {o : HO} (h : H b = some o) (h2 : inL C.N n io ts vu O b = .free ∨ inL C.N n io ts vu O b = .foreign) : H' b = some o ∧ O' b = inL C.N n io ts vu O b := B.X.fr b o h h2
theorem BkC.fre (B : BkC K C n np io ts us vs vu H O ρ H' O' ρ') {b : Addr} {o : HO} (h : H b = some o) (h2 : O b = .free) : H' b = some o ∧ bkL C.N n np io ts O O' b = .free := by
  obtain ⟨z1, z2⟩ := B.keep h (.inl (inL_free h2))
  rw [inL_free h2] at z2
  exact ⟨z1, bk_free z2 fun r q e => by rw [h2] at e; cases e⟩
/-- a place that is not handed in -/
theorem BkC.off (B : BkC K C n np io ts us vs vu H O ρ H' O' ρ') {b : Addr} {o : HO} {r : Nat} {q : List Nat} (h : H b = some o) (h2 : O b = .at r q) (h3 : r < C.N) (h4 : ∀ i p, rmOf io ts r = some (i, p) → ¬ p <+: q) : H' b = some o ∧ bkL C.N n np io ts O O' b = .at r q := by
  cases e : rmOf io ts r with
  | none =>
    have l := inL_no (n := n) (vu := vu) h2 h3 e
    cases vu with
    | true =>
      obtain ⟨z1, z2⟩ := B.keep h (.inl l)
      exact ⟨z1, bk_view (z2.trans l) h2 h3⟩
    | false =>
      obtain ⟨z1, z2⟩ := B.keep h (.inr l)
      exact ⟨z1, (bk_foreign (z2.trans l)).trans h2⟩
  | some y =>
    obtain ⟨i, p⟩ := y
    have hs : stripP p q = none := by
      cases z : stripP p q with
      | none => rfl
      | some q' => exact absurd ⟨q', (stripP_some z).symm⟩ (h4 i p e)
    have l := inL_off (n := n) (vu := vu) h2 h3 e hs
    obtain ⟨z1, z2⟩ := B.keep h (.inr l)
    exact ⟨z1, (bk_foreign (z2.trans l)).trans h2⟩
theorem BkC.mid (B : BkC K C n np io ts us vs vu H O ρ H' O' ρ') {b : Addr} {o : HO} {r : Nat} {q : List Nat} (h : H b = some o) (h2 : O b = .at r q) (h3 : C.N ≤ r) (h4 : r < n) : H' b = some o ∧ bkL C.N n np io ts O O' b = .at r q := by
  have l := inL_mid (io := io) (ts := ts) (vu := vu) h2 h3 h4
  obtain ⟨z1, z2⟩ := B.keep h (.inr l)
  exact ⟨z1, (bk_foreign (z2.trans l)).trans h2⟩
theorem BkC.pl (B : BkC K C n np io ts us vs vu H O ρ H' O' ρ') (R : Rel K C m σ H O ρ) {b : Addr} {r : Nat} {q : List Nat} (h2 : O b = .at r q) (h3 : r < C.N) : bkL C.N n np io ts O O' b = .at r q := by
  obtain ⟨o, h, _⟩ := R.tracked h2
  by_cases hh : ∃ i p, rmOf io ts r = some (i, p) ∧ p <+: q
  · obtain ⟨i, p, e, q', rfl⟩ := hh
    have l := inL_io (n := n) (vu := vu) h2 h3 e
    have := B.plc R (B.mr e)
    exact bk_io (B.X.pz b i q' l) (Nat.ne_of_lt this.2.1) (B.mr e)
  · exact (B.off h h2 h3 fun i p e z => hh ⟨i, p, e, z⟩).2
theorem BkC.cases (B : BkC K C n np io ts us vs vu H O ρ H' O' ρ') (R : Rel K C m σ H O ρ) {b : Addr} {r : Nat} {p : List Nat} (h : bkL C.N n np io ts O O' b = .at r p) :
    (r = n ∧ O' b = .at np p) ∨ (∃ i p0 q, i ≠ np ∧ O' b = .at i q ∧ rmI io ts i = some (r, p0) ∧ p = p0 ++ q) ∨ (O b = .at r p ∧ r < n ∧ (inL C.N n io ts vu O b = .foreign ∨ (inL C.N n io ts vu O b = .free ∧ r < C.N))) := by
  unfold bkL at h
  cases e : O' b with
  | «at» i q =>
    rw [e] at h
    simp only at h
    by_cases h1 : i = np
    · rw [if_pos h1] at h; cases h; subst h1; exact .inl ⟨rfl, rfl⟩
    · rw [if_neg h1] at h
      cases e2 : rmI io ts i with
      | none => rw [e2] at h; cases h
      | some y => obtain ⟨r', p0⟩ := y; rw [e2] at h; cases h; exact .inr (.inl ⟨i, p0, q, h1, rfl, e2, rfl⟩)
  | foreign =>
    rw [e] at h
    have f := B.X.fo b e
    refine .inr (.inr ⟨h, ?_, .inl f⟩)
    by_cases hr : r < C.N
    · exact Nat.lt_of_lt_of_le hr B.hn
    · by_cases hr2 : r < n
      · exact hr2
      · rw [inL_tmp h B.hn (by omega)] at f; cases f
  | free =>
    rw [e] at h
    simp only at h
    cases e2 : O b with
    | free => rw [e2] at h; cases h
    | foreign => rw [e2] at h; cases h
    | «at» r' q =>
      rw [e2] at h
      simp only at h
      by_cases hr : r' < C.N
      · rw [if_pos hr] at h; cases h
        refine .inr (.inr ⟨rfl, Nat.lt_of_lt_of_le hr B.hn, .inr ⟨?_, hr⟩⟩)
        obtain ⟨o, z, _⟩ := R.tracked e2
        cases l : inL C.N n io ts vu O b with
        | free => rfl
        | foreign =>
          obtain ⟨_, z2⟩ := B.keep z (.inr l)
          rw [e, l] at z2; cases z2
        | «at» i q' => have := B.X.pz b i q' l; rw [e] at this; cases this
      · rw [if_neg hr] at h; cases h
theorem BkC.off3 (B : BkC K C n np io ts us vs vu H O ρ H' O' ρ') {b : Addr} {r i : Nat} {p p0 : List Nat} (h : O b = .at r p) (h1 : r < C.N) (h2 : inL C.N n io ts vu O b = .foreign ∨ (inL C.N n io ts vu O b = .free ∧ r < C.N)) (h3 : rmOf io ts r = some (i, p0)) : ¬ p0 <+: p := fun ⟨q, e⟩ => by
  subst e
  rw [inL_io h h1 h3] at h2
  rcases h2 with z | ⟨z, _⟩ <;> cases z
theorem BkC.nt (B : BkC K C n np io ts us vs vu H O ρ H' O' ρ') (R : Rel K C m σ H O ρ) (b : Addr) (h : bkL C.N n np io ts O O' b ≠ .free) : ∃ o, H' b = some o ∧ ownable o := by
  by_cases e : O' b = .free
  · cases e2 : O b with
    | «at» r q =>
      obtain ⟨o, z, w⟩ := R.tracked e2
      by_cases hr : r < C.N
      · cases l : inL C.N n io ts vu O b with
        | free => exact ⟨o, (B.keep z (.inl l)).1, w⟩
        | foreign => exact ⟨o, (B.keep z (.inr l)).1, w⟩
        | «at» i q' => have := B.X.pz b i q' l; rw [e] at this; cases this
      · exact absurd (bk_free e fun r' q' e' => by rw [e2] at e'; cases e'; exact hr) h
    | _ => exact absurd (bk_free e fun r' q' e' => by rw [e2] at e'; cases e') h
  · exact B.X.nt b e
/-- a tree that the def leaves, seen from the caller -/
theorem BkC.move (B : BkC K C n np io ts us vs vu H O ρ H' O' ρ') (R : Rel K C m σ H O ρ) {i r : Nat} {p1 : List Nat} (hl : ∀ b q, O' b = .at i q → bkL C.N n np io ts O O' b = .at r (p1 ++ q)) {t : T} (hi : vu = true → immT t = true) {v : V} (h : Tr K H' O' i [] v t) : Tr K H' (bkL C.N n np io ts O O') r p1 v t := by
  cases hv : vu with
  | true =>
    have := Tr.moveI (p0 := []) (p1 := p1) (B.nt R) (fun b q e => hl b q e) t [] v (hi hv) h
    rw [List.append_nil] at this; exact this
  | false =>
    have := Tr.move (H' := H') (O' := bkL C.N n np io ts O O') (r' := r) (p0 := []) (p1 := p1) (fun b o e1 e2 => ⟨e1, bk_free e2 fun r' q' e' hr => by
      obtain ⟨o', z, _⟩ := R.tracked e'
      cases l : inL C.N n io ts vu O b with
      | free =>
        cases e3 : rmOf io ts r' with
        | none => rw [inL_no e' hr e3, hv] at l; cases l
        | some y =>
          obtain ⟨j, pj⟩ := y
          cases e4 : stripP pj q' with
          | none => rw [inL_off e' hr e3 e4] at l; cases l
          | some q2 => rw [stripP_some e4] at e'; rw [inL_io e' hr e3] at l; cases l
      | foreign => have := (B.keep z (.inr l)).2; rw [e2, l] at this; cases this
      | «at» j q2 => have := B.X.pz b j q2 l; rw [e2] at this; cases this⟩) (fun b o q e1 e2 => ⟨e1, hl b q e2⟩) t [] v h
    rw [List.append_nil] at this; exact this
theorem backA_get {r : Nat} {x : Option T} (h : ρ[r]? = some x) : (backA io ts ρ ρ')[r]? = some (backF io ts ρ' r x) := by
  unfold backA
  rw [List.getElem?_mapIdx, h]; rfl
theorem backA_no {r : Nat} {x : Option T} (h : ρ[r]? = some x) (h2 : rmOf io ts r = none) : (backA io ts ρ ρ')[r]? = some x := by rw [backA_get h]; unfold backF; rw [h2]
theorem backA_yes {r i : Nat} {p : List Nat} {t u : T} (h : ρ[r]? = some (some t)) (h2 : rmOf io ts r = some (i, p)) (h3 : ρ'[i]? = some (some u)) : (backA io ts ρ ρ')[r]? = some (some (putT t u p)) := by rw [backA_get h]; unfold backF; rw [h2]; simp only; rw [h3]
theorem BkC.rel (B : BkC K C n np io ts us vs vu H O ρ H' O' ρ') (R : Rel K C m σ H O ρ) : Rel K C (n + 1) σ H' (bkL C.N n np io ts O O') (backA io ts ρ ρ') := by
  refine ⟨fun b o e1 e2 => ?_, B.nt R, fun b r p e => ?_, fun a b r p e1 e2 => ?_, fun b r p e l => ?_, R.ln, by unfold backA; rw [List.length_mapIdx]; exact R.lr, fun r t e => ?_, Nat.le_succ_of_le B.hn, fun b e => ?_, fun b j p e => ?_, R.sm⟩
  · obtain ⟨z1, z2⟩ := R.fr b o e1 e2
    rcases e2 with e2 | e2
    · rw [e2] at z2 ⊢; exact B.fre z1 z2
    · rw [e2] at z2 ⊢
      obtain ⟨y1, y2⟩ := B.keep z1 (.inr (inL_foreign z2))
      exact ⟨y1, (bk_foreign (y2.trans (inL_foreign z2))).trans z2⟩
  · rcases B.cases R e with ⟨h, _⟩ | ⟨i, p0, q, _, _, h, _⟩ | ⟨_, h, _⟩
    · omega
    · have := (B.plc R h).1; have := B.hn; omega
    · omega
  · rcases B.cases R e1 with ⟨h, h'⟩ | ⟨i, p0, q, hne, h', h, rfl⟩ | ⟨h', h, h3⟩ <;> rcases B.cases R e2 with ⟨g, g'⟩ | ⟨j, p1, q1, gne, g', g, ge⟩ | ⟨g', g, g3⟩
    · exact B.X.inj a b _ _ h' g'
    · have := (B.plc R g).1; have := B.hn; omega
    · omega
    · have := (B.plc R h).1; have := B.hn; omega
    · have h1 := (rmI_some h).2
      have g1 := (rmI_some g).2
      have := apart_eq B.hap h1 g1
      subst this
      rw [h1] at g1; cases g1
      rw [List.append_cancel_left_eq] at ge
      subst ge
      exact B.X.inj a b _ _ h' g'
    · have hr := (B.plc R h).1
      exact absurd ⟨q, rfl⟩ (B.off3 g' hr g3 (B.rm h))
    · omega
    · have hr := (B.plc R g).1
      exact absurd ⟨q1, ge.symm⟩ (B.off3 h' hr h3 (B.rm g))
    · exact R.inj a b r p h' g'
  · rcases B.cases R e with ⟨h, h'⟩ | ⟨i, p0, q, hne, h', h, rfl⟩ | ⟨h', h, h3⟩
    · have := B.hn; omega
    · obtain ⟨hr, hi, u, a, _, _, _, g, _⟩ := B.plc R h
      obtain ⟨_, t, z, y1, y2, y3⟩ := B.X.val b i q h' hi
      obtain ⟨t0, g1, g2⟩ := getT_some g
      exact ⟨_, z, backA_yes g1 (B.rm h) y1, by rw [subT_append (subT_put g2)]; exact y2, y3⟩
    · obtain ⟨t, z, y1, y2, y3⟩ := R.val b r p h' l
      cases e3 : rmOf io ts r with
      | none => exact ⟨t, z, backA_no y1 e3, y2, y3⟩
      | some y =>
        obtain ⟨i, p0⟩ := y
        obtain ⟨hr, hi, u, a, _, _, _, g, _⟩ := B.plc R (B.mr e3)
        obtain ⟨t0, g1, g2⟩ := getT_some g
        rw [y1] at g1; cases g1
        obtain ⟨u', x1, x2, _⟩ := B.okI (rmOf_some e3).1
        obtain ⟨z', w1, w2⟩ := subT_put_ne (u := u') g2 (B.off3 h' l h3 e3) y2 y3
        exact ⟨_, z', backA_yes y1 e3 x1, w1, w2⟩
  · cases e0 : ρ[r]? with
    | none => unfold backA at e; rw [List.getElem?_mapIdx, e0] at e; cases e
    | some x =>
      have hr := R.slt e0
      cases e3 : rmOf io ts r with
      | none =>
        rw [backA_no e0 e3] at e; cases e
        obtain ⟨v, h2, h3⟩ := R.sl r t e0
        exact ⟨v, h2, Tr.move (r' := r) (p0 := []) (p1 := []) (fun b o e1 e2 => B.fre e1 e2) (fun b o q e1 e2 => B.off e1 e2 hr fun i p z => by rw [e3] at z; cases z) t [] v h3⟩
      | some y =>
        obtain ⟨i, p0⟩ := y
        obtain ⟨_, hi, u, a, y1, y2, y3, g, y4⟩ := B.plc R (B.mr e3)
        obtain ⟨t0, g1, g2⟩ := getT_some g
        rw [e0] at g1; cases g1
        obtain ⟨u', x1, x2, x3⟩ := B.okI (rmOf_some e3).1
        rw [backA_yes e0 e3 x1] at e; cases e
        obtain ⟨v, h2, h3⟩ := R.sl r t0 e0
        refine ⟨v, h2, Tr.upd (fun b o e1 e2 => B.fre e1 e2) (p := []) (fun b o p' e1 e2 e4 => B.off e1 e2 hr fun i' p' z => by rw [e3] at z; cases z; simpa using e4) g2 (fun w hw => ?_) h3⟩
        rw [List.nil_append] at hw ⊢
        obtain ⟨a', rfl, ha'⟩ := tr_root hw y4
        have := R.inj a a' r p0 y3 ha'
        subst this
        have tin : Tr K H (inL C.N n io ts vu O) i [] (.ref a) u := Tr.move (r' := i) (p0 := p0) (p1 := []) (fun b o z1 z2 => ⟨z1, inL_free z2⟩) (fun b o q z1 z2 => ⟨z1, inL_io z2 hr e3⟩) u [] _ (by rw [List.append_nil]; exact hw)
        have := B.X.tr i _ _ _ [] (rmOf_some e3).1 y2 tin y4 x1 x2
        exact B.move R (fun b q e5 => bk_io e5 (Nat.ne_of_lt hi) (B.mr e3)) x3 this
  · have : O' b = .foreign ∧ O b = .foreign := by
      unfold bkL at e
      split at e
      · split at e
        · cases e
        · split at e <;> cases e
      · exact ⟨by assumption, e⟩
      · split at e
        · split at e <;> cases e
        · cases e
    exact R.fo b this.2
  · obtain ⟨z1, z2⟩ := R.pz b j p e
    exact ⟨z1, B.pl R z2 z1⟩
theorem BkC.frm (B : BkC K C n np io ts us vs vu H O ρ H' O' ρ') (R : Rel K C m σ H O ρ) : Frm C.N n H O H' (bkL C.N n np io ts O O') := by
  refine ⟨fun b o e1 e2 => B.fre e1 e2, fun b r p e l => B.pl R e l, fun b o r p e1 e2 l1 l2 => B.mid e1 e2 l1 l2, fun b r p e l1 l2 => ?_⟩
  rcases B.cases R e with ⟨h, h'⟩ | ⟨i, p0, q, hne, h', h, rfl⟩ | ⟨h', h, h3⟩
  · omega
  · have := (B.plc R h).1; omega
  · exact h'
theorem BkC.val (B : BkC K C n np io ts us vs vu H O ρ H' O' ρ') (R : Rel K C m σ H O ρ) {v : V} {t : T} (h : Val K H' O' np v t) (ht : noAl t = true) (hi : vu = true → immT t = true) : Val K H' (bkL C.N n np io ts O O') n v t := by
  have gen : ∀ t : T, (vu = true → immT t = true) → (Tr K H' O' np [] v t ∧ ∀ b p, O' b = .at np p → ∃ z, subT t p = some z ∧ isNode z = true) → Tr K H' (bkL C.N n np io ts O O') n [] v t ∧ ∀ b p, bkL C.N n np io ts O O' b = .at n p → ∃ z, subT t p = some z ∧ isNode z = true := fun t hi h =>
    ⟨B.move R (p1 := []) (fun b q e => bk_res e) hi h.1, fun b p e => by
      rcases B.cases R e with ⟨_, h'⟩ | ⟨i, p0, q, hne, h', h2, rfl⟩ | ⟨h', h2, h3⟩
      · exact h.2 b p h'
      · have := (B.plc R h2).1; have := B.hn; omega
      · omega⟩
  cases t with
  | a r p => cases ht
  | _ => exact gen _ hi h
end

section
variable {X : Cx} {k np : Nat} {f : Addr} {fd : FuncData} {ps : List Str} {io : List Nat} {S : SpT} {x : Str} {p pos : Pos} {e : Expr} {es : List Expr} {tas : TwA}
/-- THE RULE for a call of a def -/
theorem le_call (F : FnG X.prog X.w X.K X.mg X.base k f fd ps (lfSp X.K np io S)) (room : Room k X.A) (gu : X.A.guards = some []) (mS : MonSp S) (hg : Gl X x) (hm : X.mg x = some (.ref f)) (hk : PySem.W.keepIn X.K (.ref f) = true) (bind : Binds X.K fd ps [])
    (ha : LA X (e :: es) tas) (hdb : (x == ("__debug__" : Str)) = false := by decide) (he : starEach (e :: es) X.env = (false, eval e X.env) :: starEach es X.env := by rfl) (hpl : (backTo pos (starEach es X.env)).any (·.1) = false := by rfl) :
    LE X (.Call (.Name x p) (e :: es) [] pos) (wCall io np S tas) := by
  refine ⟨fun ρ Q Q' E E' h he q => ha.mono ρ _ _ E E' (fun ts ρ1 ⟨vu, us, h1, h2, h3, h4⟩ => ⟨vu, us, h1, h2, h3, mS us _ _ _ _ (fun t ρ' ⟨z1, z2, z3, z4⟩ => ⟨z1, z2, z3, h _ _ z4⟩) (fun c ρ' ⟨z1, z2⟩ => ⟨z1, he _ _ z2⟩) h4⟩) he q,
    fun C W n hC hn tk => (pe_callG F room gu hg hm hk bind (fun σ => passAt tk σ) (ha.run C W n hC hn tk) hdb he hpl).imp fun σ H Q ⟨O, ρ, R, q⟩ => ⟨O, ρ, R, ha.mono ρ _ _ _ _ (fun ts ρ1 ⟨vu, us, h1, h2, h3, h4⟩ => ?_) (fun _ _ z => z) q⟩⟩
  intro vs H1 O1 R1 F1 V1
  refine ⟨inL C.N n io ts vu O1, us, ent_of R1 hn V1 h1 h2 h3, mS us _ _ _ _ (fun t ρ' ⟨z1, z2, z3, z4⟩ => ?_) (fun c ρ' ⟨z1, z2⟩ => ?_) h4⟩
  · intro v H' O' Ex V'
    have B : BkC X.K C n np io ts us vs vu H1 O1 ρ1 H' O' ρ' := ⟨hn, V1, h1, h2, h3, Ex, z1⟩
    exact z4 v H' _ (B.rel R1) (F1.trans (B.frm R1) (Nat.le_refl _)) (B.val R1 V' z3 z2)
  · intro H' O' Ex _
    have B : BkC X.K C n np io ts us vs vu H1 O1 ρ1 H' O' ρ' := ⟨hn, V1, h1, h2, h3, Ex, z1⟩
    exact z2 σ H' _ ((B.rel R1).cut (Nat.le_refl _)) (F1.fre.trans ((B.frm R1).fre.trans (fre_cut _)))
end
end TX

/-! The end of a law over trees. -/
namespace TX
open PySem PySem.Spec L2 PyProof.Rows

theorem roomA : Room 40 callerA := ⟨rfl, by decide, by decide⟩
/-- what a law's def must keep: True comes out, whatever the script holds -/
theorem law_callG {P : Program} {w : World} {K : PySem.W.Frag} {mg mb : Str → Option Value} {k : Nat} {fa a : Addr} {fd : FuncData} {x : Str} {S : SpT} {s₁ : Shared} {vs : List Value} {ns : List Int}
    (KX : K.In s₁.heap) (hns : s₁.heap.Ns mainGlobals mg) (hb : s₁.heap.Ns builtinsNs mb) (hbb : ∀ x : Str, x ≠ "__name__" → mb x = bootBuiltins x) (hlim : s₁.heap.NoLimit) (hg : s₁.gens = #[])
    (ha : s₁.heap.get? a = some { cls := .type "list", data := .seq vs.toArray }) (hi : IntsAre vs ns) (hl : ns.length ≤ sizeLine) (hr : Room k callerA) (mS : MonSp S)
    (F : ∀ base : Heap, K.In base → base.Ns mainGlobals mg → FnG P w K mg base k fa fd [x] (lfSp K 1 [] S)) (hbind : Binds K fd [x] [])
    (hS : S [.fz ns] (fun t _ => t = .d (.bool true)) fun _ _ => False) :
    codeAny (model P w) callerA (.call (.ref fa) ⟨[.ref a], []⟩) (fun r s' => r = .ok (.ret (.bool true)) ∧ OldK s₁.heap s'.heap ∧ s'.os = s₁.os ∧ AllBare s'.gens) s₁ := by
  have rv := vals_ints hi
  have lenV := hi.length
  have core : ∀ H : Hp, Only H → SqL K H a (ns.map V.int) → HOk P w H s₁.heap → (∀ b, H b ≠ none → b = a) → (H a ≠ none → K.lookup a = none) →
      codeAny (model P w) callerA (.call (.ref fa) ⟨[.ref a], []⟩) (fun r s' => r = .ok (.ret (.bool true)) ∧ OldK s₁.heap s'.heap ∧ s'.os = s₁.os ∧ AllBare s'.gens) s₁ := by
    intro H hO hSq hok hA hK
    have base_of : ∀ {b : Addr} {o : Obj}, s₁.heap.get? b = some o → H b = none → (hidT s₁.heap H).get? b = some o := fun e n => hidT_get e n
    have noA : ∀ {b : Addr} {o : Obj} {es : Array DictEntry} {ep : Nat}, s₁.heap.get? b = some o → o.data = .dict es ep → H b = none := fun {b o es ep} e d => by
      cases q : H b with
      | none => rfl
      | some u =>
        obtain rfl : b = a := hA b (by rw [q]; exact fun z => nomatch z)
        rw [ha] at e; cases e
        exact absurd (show Data.seq vs.toArray _ = Data.dict es ep from d) (fun z => nomatch z)
    have nsK : ∀ {b : Addr} {m : Str → Option Value}, s₁.heap.Ns b m → (hidT s₁.heap H).Ns b m := fun {b m} ⟨o, es, ep, e, d, r⟩ => ⟨o, es, ep, base_of e (noA e d), d, r⟩
    have hKb : K.In (hidT s₁.heap H) := fun b o e => base_of (KX b o e) (by
      cases q : H b with
      | none => rfl
      | some u =>
        obtain rfl : b = a := hA b (by rw [q]; exact fun z => nomatch z)
        rw [hK (by rw [q]; exact fun z => nomatch z)] at e; cases e)
    have hM : Mod K mg (hidT s₁.heap H) := ⟨hKb, nsK hns, ⟨mb, nsK hb, hbb⟩, let ⟨mc, h1, h2⟩ := hlim; ⟨mc, nsK h1, h2⟩⟩
    have e0 : Env0 P w K mg (hidT s₁.heap H) callerA [] s₁ H := ⟨rfl, hM, fun b o e => of_hidT e, Nat.le_of_eq (hidT_size _ _), trivial, fun b z => absurd (show b ∈ ([] : List Addr) from z) (by simp), hok, .of_eq hg⟩
    have en : Ent K 1 [] [.ref a] H (fun _ => .free) [.fz ns] := by
      have em : msk (fun _ => Lb.free) H = H := by funext b; exact msk_of rfl
      refine ⟨rfl, rfl, fun i t e => ?_, fun b z => absurd rfl z, fun b c r p z => (nomatch z), fun b r p z => (nomatch z), trivial⟩
      match i with
      | 0 => cases e; exact ⟨_, rfl, .fz (by rw [em]; exact hSq)⟩
      | i + 1 => simp at e
    refine codeAny_mono ((F _ hKb (nsK hns)).run callerA [] s₁ H ⟨[.ref a], []⟩ [.ref a] [.ref a] (fun v _ => v = .bl true) (fun _ _ _ => False) hr rfl e0 (by simpa using hbind s₁ [.ref a] KX rfl) (.cons rfl .nil) ⟨_, _, en, ?_⟩) fun r s' h => ?_
    · refine mS _ _ _ _ _ (fun t ρ q v H' O' _ V => ?_) (fun c ρ q => q.elim) hS
      subst q
      exact val_bool V
    cases r with
    | error e => obtain ⟨_, _, _, _, _, _, _, _, _, _, _, _, z⟩ := h; exact z.elim
    | ok fl =>
      cases fl with
      | next => exact False.elim h
      | brk => exact False.elim h
      | cont => exact False.elim h
      | ret u =>
        obtain ⟨v, H', os, bare, un, hok', r', q⟩ := h
        obtain rfl : v = .bl true := q
        obtain rfl : u = Value.bool true := r'
        refine ⟨rfl, OldK.of_keep fun b o e => ?_, os, bare⟩
        cases q : H b with
        | none => exact un.keep b o e q (by intro z; exact absurd (show b ∈ ([] : List Addr) from z) (by simp)) (by simp)
        | some u =>
          rcases hO b with z | ⟨ob, xs, z⟩
          · rw [q] at z; cases z
          · have z2 := un.frzs b ob _ z
            obtain ⟨e1, _⟩ := hok b _ z
            obtain ⟨e2, _⟩ := hok' b _ z2
            rw [e] at e1; cases e1
            exact e2
  cases hk : K.lookup a with
  | some o =>
    have e := KX a o hk
    rw [ha] at e
    cases e
    refine core (fun _ => none) (fun _ => .inl rfl) (.inr ⟨_, vs.toArray, _, hk, rfl, rfl, rfl, by rw [List.size_toArray, lenV]; exact hl, by simpa using rv⟩) (fun b u z => nomatch (show (none : Option HO) = some u from z)) (fun b z => absurd rfl z) fun z => absurd rfl z
  | none =>
    refine core (fun b => if b = a then some (.frz { cls := .type "list", data := .seq vs.toArray } (.lst (ns.map V.int))) else none) (fun b => ?_) (.inl (.inr ⟨{ cls := .type "list", data := .seq vs.toArray }, if_pos rfl⟩)) (fun b u z => ?_) (fun b z => ?_) fun _ => hk
    · by_cases hb : b = a
      · exact .inr ⟨_, _, if_pos hb⟩
      · exact .inl (if_neg hb)
    · by_cases hb : b = a
      · cases (if_pos hb).symm.trans z
        subst hb
        exact ⟨ha, by rw [List.length_map]; exact hl, vs, _, rv, ha⟩
      · exact nomatch (if_neg hb).symm.trans z
    · by_cases hb : b = a
      · exact hb
      · exact absurd (if_neg hb) z
/-- the goal that k_head leaves, from the promise of law's def -/
theorem walkG {l : PySem.W.OpenLaw} {n k : Nat} {q : Program} {loose : List Str} {XP : (Str → Option Value) → Heap → Prop} {YP : World → Heap → Prop} {d : DefRec} {K : Params → PySem.W.Frag} {S : SpT} {x : Str}
    (hn : l.most = some n) (hn2 : n ≤ sizeLine) (hdf : d.params.defaults = []) (hr : Room k callerA) (mS : MonSp S)
    (hY : ∀ (w : World) (h : Heap), YP w h → (K w.params).In h)
    (F : ∀ (w : World) (mg : Str → Option Value) (fa : Addr) (h : Heap), (K w.params).In h → h.Ns mainGlobals mg → mg d.name = some (.ref fa) →
      ∃ fd : FuncData, Binds (K w.params) fd [x] [] ∧
        ∀ base : Heap, (K w.params).In base → base.Ns mainGlobals mg → FnG l.prog w (K w.params) mg base k fa fd [x] (lfSp (K w.params) 1 [] S))
    (hS : ∀ ns : List Int, ns.length ≤ n → S [.fz ns] (fun t _ => t = .d (.bool true)) fun _ _ => False) :
    PySem.W.WalkO q loose XP YP l.row.toRowW d [] (fun f vs => PySem.call f vs) := by
  refine Att.attach_call hn hdf fun w s₀ s₁ mg mb fa o pm cd doc a vs ns G Y ho hd hcd hmg hobj hints hlen hg => ?_
  obtain ⟨fd, hb, hF⟩ := F w mg fa _ (hY w _ Y) G.T.g hmg
  exact law_callG (hY w _ Y) G.T.g G.T.b G.T.builtins G.T.nolimit hg hobj hints (Nat.le_trans hlen hn2) hr mS hF hb (hS ns hlen)
end TX

/-! Methods by name; stores at a place; chains; more built-ins. -/
namespace TX
open PySem PySem.Spec L2 PyProof.Rows

section
variable {X : Cx} {pos cpos apos p1 p2 p3 : Pos} {a b c e o i : Expr} {es : List Expr} {ta tb tc : TwE} {tas : TwA} {x : Str} {p : Pos}

/-! ### len of anything -/
def lenT (ρ : Rho) : T → Option Nat
  | .d (.list xs) => some xs.length
  | .d (.tuple xs) => some xs.length
  | .d (.str z) => if z.length ≤ sizeLine then some z.length else none
  | .l ts => some ts.length
  | .fz ns => some ns.length
  | .a r q => match getT ρ r q with
    | some (.l ts) => some ts.length
    | _ => none
  | _ => none
def kLen : KT := fun ts ρ Q => ∃ t n, ts = [t] ∧ lenT ρ t = some n ∧ Q (.d (.int (n : Nat))) ρ
theorem kLen_mono : MonK kLen := fun ts ρ Q Q' h ⟨t, n, e, e1, q⟩ => ⟨t, n, e, e1, h _ _ q⟩
theorem len_val {K : PySem.W.Frag} {C : Ctx} {n m k : Nat} {σ : L2.St} {H : Hp} {O : Own} {ρ : Rho} {t : T} {v : V} (R : Rel K C m σ H O ρ) (h : Val K H O k v t) (e : lenT ρ t = some n) : LenV K v H n := by
  cases t with
  | d x =>
    have r := val_d h
    cases x with
    | list xs => cases r with | lst h1 h2 => cases e; exact .inl ⟨_, .of (msk_some h1).2, h2.length.symm⟩
    | tuple xs => cases r with | tup h1 h2 => cases e; exact .inr ⟨_, .of (msk_some h1).2, h2.length.symm⟩
    | str z =>
      cases r
      have e' : (if z.length ≤ sizeLine then some z.length else none) = some n := e
      split at e'
      · cases e'; exact ⟨by assumption, rfl⟩
      · cases e'
    | _ => cases e
  | l ts =>
    cases e
    cases h.1 with | l h1 h2 h3 => exact .inl ⟨_, .of h2, h3.length.symm⟩
  | fz ns =>
    cases e
    cases h.1 with | fz h => exact .inl ⟨_, sql_mono msk_le h, by simp⟩
  | a r q =>
    obtain ⟨⟨ad, rfl, e2, _⟩, _⟩ := h
    have e' : (match getT ρ r q with | some (.l ts) => some ts.length | _ => none) = some n := e
    split at e'
    · rename_i ts g
      cases e'
      have tr := R.alias g rfl e2
      cases tr with | l h1 h2 h3 => exact .inl ⟨_, .of h2, h3.length.symm⟩
    · cases e'
  | _ => cases e
theorem fn_lenA {K : PySem.W.Frag} : FnK K (fun xs H Q => ∃ x n, xs = [x] ∧ LenV K x H n ∧ Q (.int n) H) kLen := by
  rintro C n m σ H0 H O0 O ρ ts vs Q hn hm R F V ⟨t, k, rfl, e, q⟩
  obtain ⟨v, rfl, V1⟩ := V.one
  exact ⟨v, k, rfl, len_val R V1 e, Fin.sc hn R F q (.int _)⟩
theorem le_len' (hg : Gl X "len") (hm : X.mg "len" = none) (ha : LA X [e] tas) (he : starEach [e] X.env = (false, eval e X.env) :: starEach [] X.env := by rfl) (hpl : (backTo pos (starEach [] X.env)).any (·.1) = false := by rfl) : LE X (.Call (.Name "len" p) [e] [] pos) (wFn kLen tas) :=
  le_fn (fun t h => pe_callB call_len hg hm (by decide +kernel) h (he := he) (hpl := hpl)) kLen_mono fn_lenA ha

/-! ### methods by name -/
theorem le_append (ho : LE X o ta) (ha : LA X [e] tas) (hbase : attributeBase o "append" X.env (eval o X.env) = eval o X.env := by rfl)
    (hfew : ((backTo cpos (starEach [e] X.env)).all (fun x => !x.1) && (backToKw cpos (keywordEach [] X.env)).all (fun x => x.1.isSome) && decide ([e].length + ([] : List Keyword).length + (if ([] : List Keyword).isEmpty then 0 else 1) < 30)) = true := by rfl)
    (hline : (apos.endLine == cpos.line) = true := by rfl) (hs : starEach [e] X.env = (false, eval e X.env) :: starEach [] X.env := by rfl) (hpl : (backTo cpos (starEach [] X.env)).any (·.1) = false := by rfl) :
    LE X (.Call (.Attribute o "append" apos) [e] [] cpos) (wM isLst kApp ta tas) :=
  le_bm (fun to t h1 h2 => pe_bm PySem.F.plainAttrs_list PySem.F.slot_list_append PySem.F.type_list_append mt_append h1 h2 hbase hfew hline hs hpl) ty_lst mon_app mk_app ho ha
theorem le_extend (ho : LE X o ta) (ha : LA X [e] tas) (hbase : attributeBase o "extend" X.env (eval o X.env) = eval o X.env := by rfl)
    (hfew : ((backTo cpos (starEach [e] X.env)).all (fun x => !x.1) && (backToKw cpos (keywordEach [] X.env)).all (fun x => x.1.isSome) && decide ([e].length + ([] : List Keyword).length + (if ([] : List Keyword).isEmpty then 0 else 1) < 30)) = true := by rfl)
    (hline : (apos.endLine == cpos.line) = true := by rfl) (hs : starEach [e] X.env = (false, eval e X.env) :: starEach [] X.env := by rfl) (hpl : (backTo cpos (starEach [] X.env)).any (·.1) = false := by rfl) :
    LE X (.Call (.Attribute o "extend" apos) [e] [] cpos) (wM isLst kExt ta tas) :=
  le_bm (fun to t h1 h2 => pe_bm PySem.F.plainAttrs_list PySem.F.slot_list_extend PySem.F.type_list_extend mt_extend h1 h2 hbase hfew hline hs hpl) ty_lst mon_ext mk_ext ho ha
theorem le_popAt (ho : LE X o ta) (ha : LA X [e] tas) (hbase : attributeBase o "pop" X.env (eval o X.env) = eval o X.env := by rfl)
    (hfew : ((backTo cpos (starEach [e] X.env)).all (fun x => !x.1) && (backToKw cpos (keywordEach [] X.env)).all (fun x => x.1.isSome) && decide ([e].length + ([] : List Keyword).length + (if ([] : List Keyword).isEmpty then 0 else 1) < 30)) = true := by rfl)
    (hline : (apos.endLine == cpos.line) = true := by rfl) (hs : starEach [e] X.env = (false, eval e X.env) :: starEach [] X.env := by rfl) (hpl : (backTo cpos (starEach [] X.env)).any (·.1) = false := by rfl) :
    LE X (.Call (.Attribute o "pop" apos) [e] [] cpos) (wM isLst kPopAt ta tas) :=
  le_bm (fun to t h1 h2 => pe_bm PySem.F.plainAttrs_list PySem.F.slot_list_pop PySem.F.type_list_pop mt_popAt h1 h2 hbase hfew hline hs hpl) ty_lst mon_popAt mk_popAt ho ha
theorem le_insert (ho : LE X o ta) (ha : LA X [i, e] tas) (hbase : attributeBase o "insert" X.env (eval o X.env) = eval o X.env := by rfl)
    (hfew : ((backTo cpos (starEach [i, e] X.env)).all (fun x => !x.1) && (backToKw cpos (keywordEach [] X.env)).all (fun x => x.1.isSome) && decide ([i, e].length + ([] : List Keyword).length + (if ([] : List Keyword).isEmpty then 0 else 1) < 30)) = true := by rfl)
    (hline : (apos.endLine == cpos.line) = true := by rfl) (hs : starEach [i, e] X.env = (false, eval i X.env) :: starEach [e] X.env := by rfl) (hpl : (backTo cpos (starEach [e] X.env)).any (·.1) = false := by rfl) :
    LE X (.Call (.Attribute o "insert" apos) [i, e] [] cpos) (wM isLst kIns ta tas) :=
  le_bm (fun to t h1 h2 => pe_bm PySem.F.plainAttrs_list PySem.F.slot_list_insert PySem.F.type_list_insert mt_insert h1 h2 hbase hfew hline hs hpl) ty_lst mon_ins mk_ins ho ha
theorem le_index (hu : X.A.units + 65 < cLine) (ho : LE X o ta) (ha : LA X [e] tas) (hbase : attributeBase o "index" X.env (eval o X.env) = eval o X.env := by rfl)
    (hfew : ((backTo cpos (starEach [e] X.env)).all (fun x => !x.1) && (backToKw cpos (keywordEach [] X.env)).all (fun x => x.1.isSome) && decide ([e].length + ([] : List Keyword).length + (if ([] : List Keyword).isEmpty then 0 else 1) < 30)) = true := by rfl)
    (hline : (apos.endLine == cpos.line) = true := by rfl) (hs : starEach [e] X.env = (false, eval e X.env) :: starEach [] X.env := by rfl) (hpl : (backTo cpos (starEach [] X.env)).any (·.1) = false := by rfl) :
    LE X (.Call (.Attribute o "index" apos) [e] [] cpos) (wM isLst kIdx ta tas) :=
  le_bm (fun to t h1 h2 => pe_bm PySem.F.plainAttrs_list PySem.F.slot_list_index PySem.F.type_list_index (mt_indexD hu) h1 h2 hbase hfew hline hs hpl) ty_lst mon_idx mk_idx ho ha
/-! ### xs[::-1] -/
def wRevS (ta : TwE) : TwE := fun ρ Q E => ta ρ (fun t ρ1 => ∃ xs, lsq ρ1 t = some xs ∧ Q (.l (xs.reverse.map T.d)) ρ1) E
theorem le_revS {k : Nat} (ha : LE X a ta) : LE X (.Subscript a (.Slice none none (some (.UnaryOp .USub (.Constant (.int 1) k p1) p2)) p3) pos) (wRevS ta) := by
  refine ⟨fun ρ Q Q' E E' h he q => ha.mono ρ _ _ E E' (fun t ρ1 ⟨xs, e, q⟩ => ⟨xs, e, h _ _ q⟩) he q, fun C W n hC hn tk => (pe_revL (ha.run C W n hC hn tk)).imp fun σ H Q ⟨O, ρ, R, q⟩ => ?_⟩
  refine ⟨O, ρ, R, ha.mono ρ _ _ _ _ (fun t ρ1 ⟨xs, e, q⟩ => ?_) (fun _ _ z => z) q⟩
  intro v H1 O1 R1 F1 V1
  obtain ⟨ad, ws, rfl, h1, h2⟩ := R1.lsqV V1 e
  exact ⟨ad, ws, rfl, .of h1, fun y hy => Fin.newL hn R1 F1 q h2.reverse y hy⟩

/-! ### o[i] = data, o a flat list of one's own -/
def wSub (ta tb : TwE) : TwG := fun x ρ Q E => ta ρ (fun t ρ1 => tb ρ1 (fun u ρ2 => ∃ r q, ∃ ds : List PyData, ∃ k j, t = .a r q ∧ u = .d (.int k) ∧ getT ρ2 r q = some (.l (ds.map T.d)) ∧ ixN ds.length k = some j ∧ Q (putAt ρ2 r q (.l ((ds.set j x).map T.d)))) E) E
theorem lg_sub (ha : LE X o ta) (hb : LE X i tb) (hs : ∀ v, assign (.Subscript o i pos) X.env v = (do
      let ov ← holding [v] (eval o X.env)
      let iv ← holding [v, ov] (eval i X.env)
      standAt pos
      holding [v, ov, iv] (setItem ov iv v)
      release [v, ov, iv] []) := by intro _; rfl) : LG X [] (.Subscript o i pos) (wSub ta tb) := by
  refine ⟨fun x ρ Q Q' E E' h he q => ha.mono ρ _ _ E E' (fun t ρ1 q1 => hb.mono ρ1 _ _ E E' (fun u ρ2 ⟨r, q, ds, k, j, h1, h2, h3, h4, q2⟩ => ⟨r, q, ds, k, j, h1, h2, h3, h4, h _ q2⟩) he q1) he q,
    fun C W n hC hn tk => (pg_sub (ha.run C W n hC hn tk) (hb.run C W (n + 1) hC (by omega) tk) set_list hs).imp fun v σ H Q ⟨O, ρ, x, R, rp, q⟩ => ?_⟩
  refine ⟨O, ρ, R, ha.mono ρ _ _ _ _ (fun t ρ1 q1 => ?_) (fun _ _ z => z) q⟩
  intro w1 H1 O1 R1 F1 V1
  refine ⟨O1, ρ1, R1, hb.mono ρ1 _ _ _ _ (fun u ρ2 ⟨r, q, ds, k, j, h1, h2, h3, h4, q2⟩ => ?_) (fun c ρ' z => exK.on F1.fre c ρ' z) q1⟩
  intro w2 H2 O2 R2 F2 V2
  subst h1 h2
  rw [rp_int (val_d V2)]
  obtain ⟨ad, ws, rfl, h5, h6, h7⟩ := flat_of R2 (V1.carry hn R1.lt R1.nt F2) h3 hn
  have F12 := F1.trans F2 (Nat.le_succ n)
  have rp2 : Rp X.K (msk (cut n O2) H2) v x := Rp.mono (fun b o z => by obtain ⟨z1, z2⟩ := msk_some z; rw [msk_of (cut_free z1)]; exact z2) _ _ (rp.fre F12.fre)
  obtain ⟨R3, F3⟩ := relUpdL R2 hn h3 h5 (h7.set rp2 j)
  have F := F12.trans F3 (Nat.le_refl n)
  exact ⟨ad, ws, k, j, rfl, rfl, h6, by rw [h7.length]; exact h4, q2 σ _ _ R3 ⟨F.fre, fun b r p e l _ => F.pl b r p e l, F.tm, F.nw⟩ rfl⟩

/-! ### a op b op c -/
def wCh (f f' : PyData → PyData → PyData → Prop) (ta tb tc : TwE) : TwE := fun ρ Q E => ta ρ (fun t ρ1 => tb ρ1 (fun u ρ2 => ∃ x y k, vw ρ2 t = some x ∧ vw ρ2 u = some y ∧ f x y (.bool k) ∧
  if k = true then tc ρ2 (fun w ρ3 => ∃ y' z k', vw ρ3 u = some y' ∧ vw ρ3 w = some z ∧ f' y' z (.bool k') ∧ Q (.d (.bool k')) ρ3) E else Q (.d (.bool false)) ρ2) E) E
variable {op op' : CmpOp} {r r' : R2} {f f' : PyData → PyData → PyData → Prop}
theorem wCh_mono (ha : MonE ta) (hb : MonE tb) (hc : MonE tc) : MonE (wCh f f' ta tb tc) := fun ρ Q Q' E E' h he q => ha ρ _ _ E E' (fun t ρ1 q1 => hb ρ1 _ _ E E' (fun u ρ2 ⟨x, y, k, h1, h2, h3, q2⟩ => ⟨x, y, k, h1, h2, h3, by
  cases k with
  | true => exact hc ρ2 _ _ E E' (fun w ρ3 ⟨y', z, k', g1, g2, g3, q3⟩ => ⟨y', z, k', g1, g2, g3, h _ _ q3⟩) he q2
  | false => exact h _ _ q2⟩) he q1) he q
theorem ch_run {K : PySem.W.Frag} {C : Ctx} {W : WX} {n : Nat} {σ : L2.St} {H : Hp} {Q : VK} (hd : OpD K r f) (hd' : OpD K r' f') (ha : MonE ta) (hb : MonE tb) (hc : MonE tc) (hn : C.N ≤ n) (h : lfE K C W n (wCh f f' ta tb tc) σ H Q) :
    tChain r r' (lfE K C W n ta) (lfE K C W (n + 1) tb) (lfE K C W (n + 2) tc) σ H Q := by
  obtain ⟨O, ρ, R, q⟩ := h
  refine ⟨O, ρ, R, ha ρ _ _ _ _ (fun t ρ1 q1 => ?_) (fun _ _ z => z) q⟩
  intro v H1 O1 R1 F1 V1
  refine ⟨O1, ρ1, R1, hb ρ1 _ _ _ _ (fun u ρ2 ⟨x, y, k, h1, h2, h3, q2⟩ => ?_) (fun c ρ' z => exK.on F1.fre c ρ' z) q1⟩
  intro w H2 O2 R2 F2 V2
  have F12 := F1.trans F2 (Nat.le_succ n)
  refine hd H2 v w x y (.bool k) _ (R2.viewH (V1.carry hn R1.lt R1.nt F2) h1) (R2.viewH V2 h2) h3 fun z s => ?_
  cases s
  refine ⟨k, rfl, ?_⟩
  cases k with
  | false => exact Fin.sc hn R2 F12 q2 (.bl _)
  | true =>
    refine ⟨O2, ρ2, R2, hc ρ2 _ _ _ _ (fun w' ρ3 ⟨y', z, k', g1, g2, g3, q3⟩ => ?_) (fun c ρ' z => exK.on F12.fre c ρ' z) q2⟩
    intro v3 H3 O3 R3 F3 V3
    have F13 := F12.trans F3 (show n ≤ n + 2 by omega)
    exact hd' H3 w v3 y' z (.bool k') Q (R3.viewH (V2.carry (by omega) R2.lt R2.nt F3) g1) (R3.viewH V3 g2) g3 fun z s => Fin.sc hn R3 F13 q3 s
theorem le_chain (ho : OpR X (compareOp op) r) (ho' : OpR X (compareOp op') r') (hd : OpD X.K r f) (hd' : OpD X.K r' f') (ha : LE X a ta) (hb : LE X b tb) (hc : LE X c tc)
    (hm : lastMarks [op, op'] [b, c] = false := by with_unfolding_all rfl) : LE X (.Compare a [op, op'] [b, c] pos) (wCh f f' ta tb tc) :=
  ⟨wCh_mono ha.mono hb.mono hc.mono, fun C W n hC hn tk => (pe_chain ho ho' (ha.run C W n hC hn tk) (hb.run C W (n + 1) hC (by omega) tk) (hc.run C W (n + 2) hC (by omega) tk) hm).imp fun σ H Q h => ch_run hd hd' ha.mono hb.mono hc.mono hn h⟩
theorem lt_chain (ho : OpR X (compareOp op) r) (ho' : OpR X (compareOp op') r') (hd : OpD X.K r f) (hd' : OpD X.K r' f') (ha : LE X a ta) (hb : LE X b tb) (hc : LE X c tc)
    (hm : lastMarks [op, op'] [b, c] = false := by with_unfolding_all rfl) : LT X (.Compare a [op, op'] [b, c] pos) (wT (wCh f f' ta tb tc)) := by
  refine ⟨fun ρ Q Q' E E' k ke q => wCh_mono ha.mono hb.mono hc.mono ρ _ _ E E' (fun t ρ1 ⟨b, e, q⟩ => ⟨b, e, k _ _ q⟩) ke q,
    fun C W n hC hn tk => (pt_chain ho ho' (ha.run C W n hC hn tk) (hb.run C W (n + 1) hC (by omega) tk) (hc.run C W (n + 2) hC (by omega) tk) hm).imp fun σ H Q ⟨O, ρ, R, q⟩ => ?_⟩
  refine ch_run (Q := fun x H' => ∃ k, x = V.bl k ∧ Q k H') hd hd' ha.mono hb.mono hc.mono hn ⟨O, ρ, R, wCh_mono ha.mono hb.mono hc.mono ρ _ _ _ _ (fun t ρ1 ⟨k, e, q⟩ => ?_) (fun _ _ z => z) q⟩
  subst e
  intro v H1 O1 R1 F1 V1
  exact ⟨k, val_bool V1, q H1 _ (R1.cut hn) (F1.trans (frm_cut C.N n H1 O1 hn) (Nat.le_refl _))⟩

/-! ### module names that hold scalars -/
theorem le_gI {i : Int} {k : Nat} (hg : Gl X x) (hm : X.mg x = some (.int i k)) (hd : (x == ("__debug__" : Str)) = false := by decide) : LE X (.Name x pos) (wC (.d (.int i))) := le_sc (.int i) (pe_glob hg hm ⟨k, rfl⟩ hd)

theorem le_gX {i : Int} (hg : Gl X x) (hm : ∃ k, X.mg x = some (.int i k)) (hd : (x == ("__debug__" : Str)) = false := by decide) : LE X (.Name x pos) (wC (.d (.int i))) := let ⟨_, h⟩ := hm; le_gI hg h hd

/-! ### all of a list of truths, len(set(ints)) -/
def fAll : PyData → PyData → Prop := fun x z => ∃ bs : List Bool, x = .list (bs.map PyData.bool) ∧ z = .bool (bs.all id)
def rAll : List V → Hp → VK → Prop := fun vs H Q => ∃ (a : Addr) (bs : List Bool), vs = [.ref a] ∧ H a = some (.lst (bs.map V.bl)) ∧ Q (.bl (bs.all id)) H
theorem vals_bl : ∀ {bs : List Bool} {us : List Value}, Vals (bs.map V.bl) us → us = bs.map Value.bool
  | [], _, .nil => rfl
  | b :: bs, _, .cons r t => by cases r; rw [vals_bl t]; rfl
theorem bools_reads {h : Heap} : ∀ bs : List Bool, ReadsAll h (bs.map Value.bool) (bs.map PyData.bool) []
  | [] => .nil
  | b :: bs => ReadsAll.cons (as := []) (bs := []) (.bool b) (bools_reads bs)
theorem bools_plain : ∀ bs : List Bool, PyData.plainAll (bs.map PyData.bool) = true
  | [] => rfl
  | b :: bs => by simp only [List.map_cons, PyData.plainAll, bools_plain bs, PyData.plain, Bool.and_self]
theorem bools_fit (bs : List Bool) : ∀ x ∈ bs.map PyData.bool, x.fits63 := fun x h => by
  obtain ⟨b, _, rfl⟩ := List.mem_map.mp h
  trivial
theorem cr_all (hc : X.calm = true) : CallR X (.builtin "all") rAll := by
  rintro pins s σ H vs us Q I r ⟨ad, bs, rfl, ha, q⟩
  rw [Vals.ref1 r]
  obtain ⟨hz, its, n, rv, e⟩ := I.hok ad _ ha
  cases vals_bl rv
  refine PySem.W.all_list_data (I.ok.hd hc) ⟨_, e, rfl, n, rfl⟩ (bools_reads bs) (bools_plain bs) (bools_fit bs) fun h' tk hk => ?_
  rw [show (bs.map PyData.bool).all PyData.truthy = bs.all id by rw [List.all_map]; rfl]
  exact ⟨.bl _, H, I.kept (t' := tk) hk, rfl, q⟩
theorem rp_bls {K : PySem.W.Frag} {H : Hp} : ∀ {bs : List Bool} {vs : List V}, RpAll K H vs (bs.map PyData.bool) → vs = bs.map V.bl
  | [], _, h => by cases h; rfl
  | b :: bs, _, h => by
    cases h with
    | cons h1 h2 => rw [rp_bool h1, rp_bls h2]; rfl
theorem rp_ints {K : PySem.W.Frag} {H : Hp} : ∀ {ns : List Int} {vs : List V}, RpAll K H vs (ns.map PyData.int) → vs = ns.map V.int
  | [], _, h => by cases h; rfl
  | b :: bs, _, h => by
    cases h with
    | cons h1 h2 => rw [rp_int h1, rp_ints h2]; rfl
theorem fn_all {K : PySem.W.Frag} : FnK K rAll (k1 fAll) := fnk1 fun H O v x z Q _ r ⟨bs, e1, e2⟩ q => by
  subst e1; subst e2
  cases r with
  | lst h1 h2 => exact ⟨_, bs, rfl, by rw [h1, rp_bls h2], q _ (.bl _)⟩
theorem le_all (hc : X.calm = true) (hg : Gl X "all") (hm : X.mg "all" = none) (ha : LA X [e] tas) (he : starEach [e] X.env = (false, eval e X.env) :: starEach [] X.env := by rfl) (hpl : (backTo pos (starEach [] X.env)).any (·.1) = false := by rfl) : LE X (.Call (.Name "all" p) [e] [] pos) (wFn (k1 fAll) tas) :=
  le_fn (fun t h => pe_callB (cr_all hc) hg hm (by decide +kernel) h (he := he) (hpl := hpl)) k1_mono fn_all ha
/-- how many different ones -/
def distI (ns : List Int) : Nat := (firstMet (fun i => ns.getD i 0) ns.length).length
def wLenSet (ta : TwE) : TwE := fun ρ Q E => ta ρ (fun t ρ1 => ∃ ns : List Int, vw ρ1 t = some (.list (ns.map PyData.int)) ∧ ns.length ≤ 4000 ∧ Q (.d (.int (distI ns : Nat))) ρ1) E
def tLenSetA (ta : TE) : TE := fun σ H Q => ta σ H fun x H1 => ∃ (l : Addr) (ns : List Int), x = .ref l ∧ H1 l = some (.lst (ns.map V.int)) ∧ ns.length ≤ 4000 ∧ Q (.int (distI ns : Nat)) H1
theorem firstMet_le (f : Nat → Int) : ∀ n, (firstMet f n).length ≤ n
  | 0 => Nat.le_refl _
  | n + 1 => by
    rw [firstMet_succ]
    have := firstMet_le f n
    unfold step_dedup
    split
    · omega
    · rw [List.length_append]; simp; omega
theorem pe_lenSetA {ua : TE} (hc : X.calm = true) (hg : Gl X "len") (hm : X.mg "len" = none) (hg2 : Gl X "set") (hm2 : X.mg "set" = none) (ha : PE X a ua)
    (na : starEach [a] X.env = (false, eval a X.env) :: starEach [] X.env := by rfl) : PE X (.Call (.Name "len" p) [.Call (.Name "set" p2) [a] [] p3] [] pos) (tLenSetA ua) := by
  refine ⟨fun pins s σ H Q I h => Call_ (ld_blt I hg hm PySem.boot_len (callWith_builtin1 (args_cons (Call_ (ld_blt I hg2 hm2 PyProof.Rows.boot_set (callWith_type1 (args_cons (thn (ha.run pins s σ H _ I h) fun v s1 ⟨x, H1, I1, r1, l, ns, ex, hq, hl, q1⟩ => args_nil ?_) na) na rfl))) rfl) rfl rfl))⟩
  subst ex
  cases r1
  obtain ⟨hz, its, k, r, ho⟩ := I1.hok l _ hq
  have hlen : its.toArray.size = ns.length := by rw [List.size_toArray, ← r.length, List.length_map]
  refine call_set_list (I1.ok.hd hc) ⟨_, ho, rfl, k, rfl⟩ (ns := ns) (by simpa using RZ.intsAre_vals r) (by rw [hlen]; unfold scanBound; omega) fun h' tk hS hk => args_nil ?_
  rw [hlen] at hS
  obtain ⟨ob, es, ep, t, ho2, hex, hd, _, _, _, hf, hn⟩ := hS
  have I2 : Inv X pins σ H1 { s1 with heap := h', toks := tk } := I1.kept fun b o e => hk b o (Heap.lt_size e) e
  have := firstMet_le (fun i => ns.getD i 0) ns.length
  exact call_len_set ho2 hex hd hf (by rw [hn] <;> omega) ⟨.int (distI ns : Nat), H1, I2.tok _, ⟨_, by rw [hn]; rfl⟩, q1⟩
theorem le_lenSet (hc : X.calm = true) (hg : Gl X "len") (hm : X.mg "len" = none) (hg2 : Gl X "set") (hm2 : X.mg "set" = none) (ha : LE X a ta)
    (na : starEach [a] X.env = (false, eval a X.env) :: starEach [] X.env := by rfl) : LE X (.Call (.Name "len" p) [.Call (.Name "set" p2) [a] [] p3] [] pos) (wLenSet ta) := by
  refine ⟨fun ρ Q Q' E E' h he q => ha.mono ρ _ _ E E' (fun t ρ1 ⟨ns, e, e2, q⟩ => ⟨ns, e, e2, h _ _ q⟩) he q, fun C W n hC hn tk => (pe_lenSetA hc hg hm hg2 hm2 (ha.run C W n hC hn tk) na).imp fun σ H Q ⟨O, ρ, R, q⟩ => ?_⟩
  refine ⟨O, ρ, R, ha.mono ρ _ _ _ _ (fun t ρ1 ⟨ns, e, e2, q⟩ => ?_) (fun _ _ z => z) q⟩
  intro v H1 O1 R1 F1 V1
  have rp := R1.viewH V1 e
  cases rp with
  | lst h1 h2 => exact ⟨_, ns, rfl, by rw [h1, rp_ints h2], e2, Fin.sc hn R1 F1 q (.int _)⟩
end
end TX

/-! Defs by name, their promises; plain steps. -/
namespace TX
open PySem PySem.Spec L2 PyProof.Rows

/-! ### a def of the text -/
structure Fd (K : PySem.W.Frag) (mg : Str → Option Value) (x : Str) (st : Stmt) (ps : List Str) (f : Addr) (fd : FuncData) : Prop where
  F : L2.Fun K x x st f fd
  g : mg x = some (.ref f)
  b : Binds K fd ps []
def Df (P : Program) (w : World) (K : PySem.W.Frag) (mg : Str → Option Value) (base : Heap) (x : Str) (k : Nat) (ps : List Str) (np : Nat) (io : List Nat) (S : SpT) : Prop :=
  ∃ f fd, FnG P w K mg base k f fd ps (lfSp K np io S) ∧ mg x = some (.ref f) ∧ PySem.W.keepIn K (.ref f) = true ∧ Binds K fd ps []
theorem hu64 {k : Nat} {A : Around} (r : Room k A) : A.units + 64 < cLine := by have := r.un; omega
theorem hu65 {k : Nat} {A : Around} (r : Room k A) : A.units + 65 < cLine := by have := r.un; omega
section
variable {P : Program} {w : World} {K : PySem.W.Frag} {mg : Str → Option Value} {base : Heap} {x : Str} {st : Stmt} {f : Addr} {fd : FuncData} {N ps : List Str} {k np : Nat} {io : List Nat} {S : SpT}
theorem Fd.df (D : Fd K mg x st ps f fd) (G : FnG P w K mg base k f fd ps (lfSp K np io S)) : Df P w K mg base x k ps np io S := ⟨f, fd, G, D.g, D.F.kp, D.b⟩
end
section
variable {X : Cx} {k np : Nat} {ps : List Str} {io : List Nat} {S : SpT} {x : Str} {p pos : Pos} {e : Expr} {es : List Expr} {tas : TwA}
theorem le_callD {j : Nat} (D : Df X.prog X.w X.K X.mg X.base x k ps np io S) (room : Room j X.A) (hj : k ≤ j) (gu : X.A.guards = some []) (mS : MonSp S) (hg : Gl X x)
    (ha : LA X (e :: es) tas) (hdb : (x == ("__debug__" : Str)) = false := by decide) (he : starEach (e :: es) X.env = (false, eval e X.env) :: starEach es X.env := by rfl) (hpl : (backTo pos (starEach es X.env)).any (·.1) = false := by rfl) :
    LE X (.Call (.Name x p) (e :: es) [] pos) (wCall io np S tas) := by
  obtain ⟨f, fd, F, h1, h2, h3⟩ := D
  exact le_call F (room.mono hj) gu mS hg h1 h2 h3 ha hdb he hpl
end
/-- a promise by what must hold ahead and what holds behind -/
def SpP (pre : List T → Prop) (post : List T → T → Rho → Prop) : SpT := fun ts Q _ => pre ts ∧ ∀ t ρ, post ts t ρ → Q t ρ
theorem mon_SpP {pre : List T → Prop} {post : List T → T → Rho → Prop} : MonSp (SpP pre post) := fun ts Q Q' E E' h _ ⟨p, q⟩ => ⟨p, fun t ρ z => h _ _ (q t ρ z)⟩
end TX

/-! Plain steps: from a reading's head to what it asks. -/
namespace TX
open PySem PySem.Spec L2
abbrev PlD (S : SpT) (w : TwS) (N : List Str) : Prop := ∀ ts Q Ex, S ts Q Ex → w { nx := fun ρ => Q (.d .none) ρ, rt := fun t ρ => noAl t = true ∧ Q t ρ, ex := Ex } (rho0 N ts)

section
variable {ρ ρ' : Rho} {Q : T → Rho → Prop} {QA : List T → Rho → Prop} {QT : Bool → Rho → Prop} {QI : List PyData → Rho → Prop} {E : ExK} {t u : T} {ts us : List T} {x y : PyData} {i j : Int} {k n r s : Nat} {p q : List Nat} {ds : List PyData} {ta tb tc : TwE} {tas : TwA} {tt tu : TwT} {D : EndsT} {sa sb : TwS} {b c : Bool}
theorem xVarD (h : ρ[k]? = some (some (.d x))) (q : Q (.d x) ρ) : wVar k ρ Q E := ⟨_, h, q⟩
theorem xVarZ {ns : List Int} (h : ρ[k]? = some (some (.fz ns))) (q : Q (.fz ns) ρ) : wVar k ρ Q E := ⟨_, h, q⟩
theorem xVarN (h : ρ[k]? = some (some t)) (hn : isNode t = true) (q : Q (.a k []) ρ) : wVar k ρ Q E := ⟨_, h, by unfold nmv; rw [if_pos hn]; exact q⟩
theorem xC (q : Q t ρ) : wC t ρ Q E := q
/-! ### operators -/
def opK (f : PyData → PyData → PyData → Prop) (t u : T) (ρ : Rho) (Q : T → Rho → Prop) : Prop := ∃ x y z, vw ρ t = some x ∧ vw ρ u = some y ∧ f x y z ∧ Q (.d z) ρ
theorem xOp {f : PyData → PyData → PyData → Prop} (h : ta ρ (fun t ρ1 => tb ρ1 (fun u ρ2 => opK f t u ρ2 Q) E) E) : wOp f ta tb ρ Q E := h
theorem xI {g : Int → Int → Int} (h1 : vw ρ t = some (.int i)) (h2 : vw ρ u = some (.int j)) (q : Q (.d (.int (g i j))) ρ) : opK (fI g) t u ρ Q := ⟨_, _, _, h1, h2, ⟨_, _, rfl, rfl, rfl⟩, q⟩
theorem xIc {C : Int → Int → Prop} {g : Int → Int → Int} (h1 : vw ρ t = some (.int i)) (h2 : vw ρ u = some (.int j)) (c : C i j) (q : Q (.d (.int (g i j))) ρ) : opK (fIc C g) t u ρ Q := ⟨_, _, _, h1, h2, ⟨_, _, rfl, rfl, c, rfl⟩, q⟩
theorem xB {g : Int → Int → Bool} (h1 : vw ρ t = some (.int i)) (h2 : vw ρ u = some (.int j)) (q : Q (.d (.bool (g i j))) ρ) : opK (fB g) t u ρ Q := ⟨_, _, _, h1, h2, ⟨_, _, rfl, rfl, rfl⟩, q⟩
theorem eqv_int : PyData.eqv (.int i) (.int j) = (i == j) := by simp [PyData.eqv]
theorem eqv_str {a b : Str} : PyData.eqv (.str a) (.str b) = (a == b) := by simp [PyData.eqv]
theorem xEqI (h1 : vw ρ t = some (.int i)) (h2 : vw ρ u = some (.int j)) (q : Q (.d (.bool (i == j))) ρ) : opK fEq t u ρ Q := ⟨_, _, _, h1, h2, .inl ⟨rfl, rfl, rfl⟩, by rw [eqv_int]; exact q⟩
theorem xNeI (h1 : vw ρ t = some (.int i)) (h2 : vw ρ u = some (.int j)) (q : Q (.d (.bool (!(i == j)))) ρ) : opK fNe t u ρ Q := ⟨_, _, _, h1, h2, .inl ⟨rfl, rfl, rfl⟩, by rw [eqv_int]; exact q⟩
theorem xEqS {a b : Str} (h1 : vw ρ t = some (.str a)) (h2 : vw ρ u = some (.str b)) (q : Q (.d (.bool (a == b))) ρ) : opK fEq t u ρ Q := ⟨_, _, _, h1, h2, .inr ⟨_, _, rfl, rfl, rfl⟩, q⟩
theorem xNeS {a b : Str} (h1 : vw ρ t = some (.str a)) (h2 : vw ρ u = some (.str b)) (q : Q (.d (.bool (!(a == b)))) ρ) : opK fNe t u ρ Q := ⟨_, _, _, h1, h2, .inr ⟨_, _, rfl, rfl, rfl⟩, q⟩
theorem xEq (h1 : vw ρ t = some x) (h2 : vw ρ u = some y) (s1 : SeqAt.shaped x = true) (s2 : SeqAt.shaped y = true) (q : Q (.d (.bool (PyData.eqv x y))) ρ) : opK fEq t u ρ Q := ⟨_, _, _, h1, h2, .inl ⟨s1, s2, rfl⟩, q⟩
theorem xNe (h1 : vw ρ t = some x) (h2 : vw ρ u = some y) (s1 : SeqAt.shaped x = true) (s2 : SeqAt.shaped y = true) (q : Q (.d (.bool (!PyData.eqv x y))) ρ) : opK fNe t u ρ Q := ⟨_, _, _, h1, h2, .inl ⟨s1, s2, rfl⟩, q⟩
def ngK (t : T) (ρ : Rho) (Q : T → Rho → Prop) : Prop := ∃ i, t = .d (.int i) ∧ Q (.d (.int (-i))) ρ
theorem xNeg (h : ta ρ (fun t ρ1 => ngK t ρ1 Q) E) : wNeg ta ρ Q E := h
theorem xNegK (q : Q (.d (.int (-i))) ρ) : ngK (.d (.int i)) ρ Q := ⟨i, rfl, q⟩
/-! ### tests -/
def tK (t : T) (ρ : Rho) (Q : Bool → Rho → Prop) : Prop := ∃ b, t = .d (.bool b) ∧ Q b ρ
theorem xT (h : ta ρ (fun t ρ1 => tK t ρ1 QT) E) : wT ta ρ QT E := h
theorem xTK (q : QT b ρ) : tK (.d (.bool b)) ρ QT := ⟨b, rfl, q⟩
theorem xNot (h : tt ρ (fun b ρ1 => QT (!b) ρ1) E) : wNot tt ρ QT E := h
theorem xAnd (h : tt ρ (fun b ρ1 => if b = true then tu ρ1 QT E else QT false ρ1) E) : wAnd tt tu ρ QT E := h
theorem xOr (h : tt ρ (fun b ρ1 => if b = true then QT true ρ1 else tu ρ1 QT E) E) : wOr tt tu ρ QT E := h
theorem xIte {P P' : Prop} (h1 : b = true → P) (h2 : b = false → P') : if b = true then P else P' := by
  cases b with
  | true => exact h1 rfl
  | false => exact h2 rfl
theorem xYes {P P' : Prop} (h : b = true) (q : P) : if b = true then P else P' := by rw [if_pos h]; exact q
theorem xNo {P P' : Prop} (h : b = false) (q : P') : if b = true then P else P' := by rw [if_neg (by rw [h]; exact Bool.false_ne_true)]; exact q
def bK (t : T) (ρ : Rho) (P : Bool → Prop) : Prop := ∃ c, t = .d (.bool c) ∧ P c
theorem xAndV (h : ta ρ (fun t ρ1 => bK t ρ1 fun c => if c = true then tb ρ1 Q E else Q (.d (.bool false)) ρ1) E) : wAndV ta tb ρ Q E := h
theorem xOrV (h : ta ρ (fun t ρ1 => bK t ρ1 fun c => if c = true then Q (.d (.bool true)) ρ1 else tb ρ1 Q E) E) : wOrV ta tb ρ Q E := h
theorem xNotV (h : ta ρ (fun t ρ1 => bK t ρ1 fun c => Q (.d (.bool (!c))) ρ1) E) : wNotV ta ρ Q E := h
theorem xBK {P : Bool → Prop} (q : P b) : bK (.d (.bool b)) ρ P := ⟨b, rfl, q⟩
theorem xIf (h : tt ρ (fun b ρ1 => if b = true then ta ρ1 Q E else tb ρ1 Q E) E) : wIf tt ta tb ρ Q E := h
/-- a op b op c -/
def ch1 (f f' : PyData → PyData → PyData → Prop) (tc : TwE) (t u : T) (ρ : Rho) (Q : T → Rho → Prop) (E : ExK) : Prop := ∃ x y k, vw ρ t = some x ∧ vw ρ u = some y ∧ f x y (.bool k) ∧
  if k = true then tc ρ (fun w ρ3 => ∃ y' z k', vw ρ3 u = some y' ∧ vw ρ3 w = some z ∧ f' y' z (.bool k') ∧ Q (.d (.bool k')) ρ3) E else Q (.d (.bool false)) ρ
def ch2 (f' : PyData → PyData → PyData → Prop) (u w : T) (ρ : Rho) (Q : T → Rho → Prop) : Prop := ∃ y' z k', vw ρ u = some y' ∧ vw ρ w = some z ∧ f' y' z (.bool k') ∧ Q (.d (.bool k')) ρ
theorem xCh {f f' : PyData → PyData → PyData → Prop} (h : ta ρ (fun t ρ1 => tb ρ1 (fun u ρ2 => ch1 f f' tc t u ρ2 Q E) E) E) : wCh f f' ta tb tc ρ Q E := h
theorem xCh1 {f' : PyData → PyData → PyData → Prop} {g : Int → Int → Bool} (h1 : vw ρ t = some (.int i)) (h2 : vw ρ u = some (.int j)) (q : if g i j = true then tc ρ (fun w ρ3 => ch2 f' u w ρ3 Q) E else Q (.d (.bool false)) ρ) : ch1 (fB g) f' tc t u ρ Q E := ⟨_, _, _, h1, h2, ⟨_, _, rfl, rfl, rfl⟩, q⟩
theorem xCh2 {g : Int → Int → Bool} {w : T} (h1 : vw ρ u = some (.int i)) (h2 : vw ρ w = some (.int j)) (q : Q (.d (.bool (g i j))) ρ) : ch2 (fB g) u w ρ Q := ⟨_, _, _, h1, h2, ⟨_, _, rfl, rfl, rfl⟩, q⟩
/-! ### items -/
def ixK (t u : T) (ρ : Rho) (Q : T → Rho → Prop) : Prop := ∃ i z, u = .d (.int i) ∧ IxT ρ t i z ∧ Q z ρ
theorem xIx (h : ta ρ (fun t ρ1 => tb ρ1 (fun u ρ2 => ixK t u ρ2 Q) E) E) : wIx ta tb ρ Q E := h
theorem xIxA (g : getT ρ r p = some (.l ts)) (hj : ixN ts.length i = some k) (hc : ts[k]? = some (.d x)) (q : Q (.d x) ρ) : ixK (.a r p) (.d (.int i)) ρ Q := ⟨i, _, rfl, ⟨ts, k, _, g, hj, hc, rfl⟩, q⟩
theorem xIxAL (g : getT ρ r p = some (.l (ds.map T.d))) (hj : atI ds i = some x) (q : Q (.d x) ρ) : ixK (.a r p) (.d (.int i)) ρ Q := by
  obtain ⟨j, h1, h2⟩ := atI_len (ys := ds.map T.d) (by simp) hj
  exact ⟨i, _, rfl, ⟨_, j, .d x, g, h1, by rw [List.getElem?_map, h2]; rfl, rfl⟩, q⟩
theorem xIxL (hj : atI ds i = some x) (q : Q (.d x) ρ) : ixK (.l (ds.map T.d)) (.d (.int i)) ρ Q := by
  obtain ⟨j, h1, h2⟩ := atI_len (ys := ds.map T.d) (by simp) hj
  exact ⟨i, _, rfl, ⟨x, atI_of h1 (by rw [List.getElem?_map, h2]; rfl), rfl⟩, q⟩
theorem xIxD (hj : atI ds i = some x) (q : Q (.d x) ρ) : ixK (.d (.list ds)) (.d (.int i)) ρ Q := ⟨i, _, rfl, ⟨x, hj, rfl⟩, q⟩
theorem xIxT (hj : atI ds i = some x) (q : Q (.d x) ρ) : ixK (.d (.tuple ds)) (.d (.int i)) ρ Q := ⟨i, _, rfl, ⟨x, hj, rfl⟩, q⟩
theorem xIxZ {ns : List Int} (hj : atI ns i = some j) (q : Q (.d (.int j)) ρ) : ixK (.fz ns) (.d (.int i)) ρ Q := ⟨i, _, rfl, ⟨j, hj, rfl⟩, q⟩
/-! ### displays, values of a call -/
theorem xNil (q : QA [] ρ) : wNil ρ QA E := q
theorem xCons (h : ta ρ (fun t ρ1 => tas ρ1 (fun ts ρ2 => QA (t :: ts) ρ2) E) E) : wCons ta tas ρ QA E := h
theorem xFn {k : KT} (h : tas ρ (fun ts ρ1 => k ts ρ1 Q) E) : wFn k tas ρ Q E := h
def lstK (ts : List T) (ρ : Rho) (Q : T → Rho → Prop) : Prop := ∃ ds, eraseAll ts = some ds ∧ Q (.l (ds.map T.d)) ρ
def tupK (ts : List T) (ρ : Rho) (Q : T → Rho → Prop) : Prop := ∃ ds, eraseAll ts = some ds ∧ Q (.d (.tuple ds)) ρ
theorem xLst (h : tas ρ (fun ts ρ1 => lstK ts ρ1 Q) E) : wLst tas ρ Q E := h
theorem xLstK (e : eraseAll ts = some ds) (q : Q (.l (ds.map T.d)) ρ) : lstK ts ρ Q := ⟨ds, e, q⟩
theorem xTup (h : tas ρ (fun ts ρ1 => tupK ts ρ1 Q) E) : wTup tas ρ Q E := h
theorem xTupK (e : eraseAll ts = some ds) (q : Q (.d (.tuple ds)) ρ) : tupK ts ρ Q := ⟨ds, e, q⟩
theorem xLen (e : lenT ρ t = some n) (q : Q (.d (.int (n : Nat))) ρ) : kLen [t] ρ Q := ⟨t, n, rfl, e, q⟩
theorem xMax (h1 : vw ρ t = some (.int i)) (h2 : vw ρ u = some (.int j)) (q : Q (.d (.int (max i j))) ρ) : k2 fMax [t, u] ρ Q := ⟨t, u, _, _, _, rfl, h1, h2, ⟨_, _, rfl, rfl, rfl⟩, q⟩
theorem xMin (h1 : vw ρ t = some (.int i)) (h2 : vw ρ u = some (.int j)) (q : Q (.d (.int (min i j))) ρ) : k2 fMin [t, u] ρ Q := ⟨t, u, _, _, _, rfl, h1, h2, ⟨_, _, rfl, rfl, rfl⟩, q⟩
theorem xIs {c : String} (h1 : vw ρ t = some x) (h2 : kitB (tyD x) c = some b) (q : Q (.d (.bool b)) ρ) : kIs [t, .raw (.ty c)] ρ Q := ⟨t, x, c, b, rfl, h1, h2, q⟩
theorem xSort (h : lsq ρ t = some ds) (h1 : PySem.W.AllAlike ds) (h2 : PySem.W.Sortable ds) (h3 : ∀ d ∈ ds, d.depth ≤ 60) (q : Q (.l ((ds.mergeSort le0).map T.d)) ρ) : kSort [t] ρ Q := ⟨t, ds, rfl, h, h1, h2, h3, q⟩
theorem xList (h : lsq ρ t = some ds) (q : Q (.l (ds.map T.d)) ρ) : kList [t] ρ Q := ⟨t, ds, rfl, .inl h, q⟩
theorem xAll {bs : List Bool} (h : vw ρ t = some (.list (bs.map PyData.bool))) (q : Q (.d (.bool (bs.all id))) ρ) : k1 fAll [t] ρ Q := ⟨t, _, _, rfl, h, ⟨bs, rfl, rfl⟩, q⟩
def lsK (t : T) (ρ : Rho) (Q : T → Rho → Prop) : Prop := ∃ ns : List Int, vw ρ t = some (.list (ns.map PyData.int)) ∧ ns.length ≤ 4000 ∧ Q (.d (.int (distI ns : Nat))) ρ
theorem xLenSet (h : ta ρ (fun t ρ1 => lsK t ρ1 Q) E) : wLenSet ta ρ Q E := h
def catK (t u : T) (ρ : Rho) (Q : T → Rho → Prop) : Prop := ∃ xs ys, lsq ρ t = some xs ∧ lsq ρ u = some ys ∧ xs.length + ys.length ≤ sizeLine ∧ Q (.l ((xs ++ ys).map T.d)) ρ
theorem xCat (h : ta ρ (fun t ρ1 => tb ρ1 (fun u ρ2 => catK t u ρ2 Q) E) E) : wCat ta tb ρ Q E := h
theorem xCatK {es : List PyData} (h1 : lsq ρ t = some ds) (h2 : lsq ρ u = some es) (h3 : ds.length + es.length ≤ sizeLine) (q : Q (.l ((ds ++ es).map T.d)) ρ) : catK t u ρ Q := ⟨_, _, h1, h2, h3, q⟩
def revK (t : T) (ρ : Rho) (Q : T → Rho → Prop) : Prop := ∃ xs, lsq ρ t = some xs ∧ Q (.l (xs.reverse.map T.d)) ρ
theorem xRevS (h : ta ρ (fun t ρ1 => revK t ρ1 Q) E) : wRevS ta ρ Q E := h
theorem xRevK (h1 : lsq ρ t = some ds) (q : Q (.l (ds.reverse.map T.d)) ρ) : revK t ρ Q := ⟨_, h1, q⟩
/-! ### slices -/
def slK (t : T) (lo hi : Option Int) (ρ : Rho) (Q : T → Rho → Prop) : Prop := ∃ xs, lsq ρ t = some xs ∧ Q (.l ((cutD xs lo hi).map T.d)) ρ
theorem xSl {tl th : TwO} (h : ta ρ (fun t ρ1 => tl ρ1 (fun lo ρ2 => th ρ2 (fun hi ρ3 => slK t lo hi ρ3 Q) E) E) E) : wSl ta tl th ρ Q E := h
theorem xSlK {lo hi : Option Int} (h1 : lsq ρ t = some ds) (q : Q (.l ((cutD ds lo hi).map T.d)) ρ) : slK t lo hi ρ Q := ⟨_, h1, q⟩
theorem xNoPart {QO : Option Int → Rho → Prop} (q : QO none ρ) : wNoPart ρ QO E := q
def ptK (t : T) (ρ : Rho) (QO : Option Int → Rho → Prop) : Prop := ∃ i, t = .d (.int i) ∧ QO (some i) ρ
theorem xPart {QO : Option Int → Rho → Prop} (h : ta ρ (fun t ρ1 => ptK t ρ1 QO) E) : wPart ta ρ QO E := h
theorem xPartK {QO : Option Int → Rho → Prop} (q : QO (some i) ρ) : ptK (.d (.int i)) ρ QO := ⟨i, rfl, q⟩
/-! ### methods -/
def mK (ty : Rho → T → Prop) (k : KM) (tas : TwA) (t : T) (ρ : Rho) (Q : T → Rho → Prop) (E : ExK) : Prop := ty ρ t ∧ tas ρ (fun ts ρ2 => k t ts ρ2 Q) E
theorem xM {ty : Rho → T → Prop} {k : KM} (h : ta ρ (fun t ρ1 => mK ty k tas t ρ1 Q E) E) : wM ty k ta tas ρ Q E := h
theorem xMA {k : KM} (g : getT ρ r p = some (.l us)) (q : tas ρ (fun ts ρ2 => k (.a r p) ts ρ2 Q) E) : mK isLst k tas (.a r p) ρ Q E := ⟨⟨_, g⟩, q⟩
theorem xMD {k : KM} (q : tas ρ (fun ts ρ2 => k (.d (.list ds)) ts ρ2 Q) E) : mK isLst k tas (.d (.list ds)) ρ Q E := ⟨trivial, q⟩
theorem xApp (g : getT ρ r p = some (.l (ds.map T.d))) (e : erase t = some y) (l : ds.length < sizeLine) (q : Q (.d .none) (putAt ρ r p (.l ((ds ++ [y]).map T.d)))) : kApp (.a r p) [t] ρ Q := ⟨r, p, ds, t, y, rfl, rfl, g, e, l, q⟩
theorem xExt {ys : List PyData} (g : getT ρ r p = some (.l (ds.map T.d))) (e : lsq ρ t = some ys) (l : ds.length + ys.length ≤ sizeLine) (q : Q (.d .none) (putAt ρ r p (.l ((ds ++ ys).map T.d)))) : kExt (.a r p) [t] ρ Q := ⟨r, p, ds, t, ys, rfl, rfl, g, e, l, q⟩
theorem xPopAt (g : getT ρ r p = some (.l (ds.map T.d))) (h0 : 0 ≤ i) (h1 : i.toNat < ds.length) (hs : ds.length < 2 ^ 63) (e : ds[i.toNat]? = some y) (q : Q (.d y) (putAt ρ r p (.l ((ds.eraseIdx i.toNat).map T.d)))) : kPopAt (.a r p) [.d (.int i)] ρ Q :=
  ⟨r, p, ds, i, i.toNat, y, rfl, rfl, g, by omega, by omega, (ixN_seq (by unfold ixN; rw [if_pos h0, if_pos (by omega)])).1, e, q⟩
theorem xIns (g : getT ρ r p = some (.l (ds.map T.d))) (e : erase t = some y) (l : ds.length < sizeLine) (h0 : 0 ≤ i) (h1 : i < 2 ^ 63) (q : Q (.d .none) (putAt ρ r p (.l ((ds.take i.toNat ++ [y] ++ ds.drop i.toNat).map T.d)))) : kIns (.a r p) [.d (.int i), t] ρ Q := ⟨r, p, ds, i, t, y, rfl, rfl, g, e, l, h0, h1, q⟩
/-! ### statements -/
theorem xSeq (h : sa { D with nx := sb D } ρ) : wSeq sa sb D ρ := h
theorem xNext (h : D.nx ρ) : wNext D ρ := h
theorem xIfS (h : tt ρ (fun b ρ1 => if b = true then sa D ρ1 else sb D ρ1) D.ex) : wIfS tt sa sb D ρ := h
def stK (k : Nat) (D : EndsT) (t : T) (ρ : Rho) : Prop := (∀ r p, t ≠ .a r p) ∧ D.nx (ρ.set k (some t))
theorem xSet (h : ta ρ (stK k D) D.ex) : wSet k ta D ρ := h
theorem xSetK (h : noAl t = true) (q : D.nx (ρ.set k (some t))) : stK k D t ρ := ⟨fun r p z => (by subst z; cases h), q⟩
theorem xDrop (h : ta ρ (fun _ ρ1 => D.nx ρ1) D.ex) : wDrop ta D ρ := h
theorem xRet (h : ta ρ (fun t ρ1 => D.rt t ρ1) D.ex) : wRet ta D ρ := h
theorem xRetV (h : ρ[k]? = some (some t)) (q : D.rt t (ρ.set k none)) : wRetV k D ρ := ⟨t, h, q⟩
theorem xFrz {sa : TwS} (h : ρ[k]? = some (some t)) (e : erase t = some x) (q : sa D (ρ.set k (some (.d x)))) : wFrz k sa D ρ := ⟨t, x, h, e, q⟩
def asK (tg : TwG) (D : EndsT) (t : T) (ρ : Rho) : Prop := ∃ x, erase t = some x ∧ tg x ρ D.nx D.ex
theorem xAsg {tg : TwG} (h : ta ρ (asK tg D) D.ex) : wAsg ta tg D ρ := h
theorem xAsK {tg : TwG} (e : erase t = some x) (h : tg x ρ D.nx D.ex) : asK tg D t ρ := ⟨x, e, h⟩
def sbK (x : PyData) (t u : T) (ρ : Rho) (N : Rho → Prop) : Prop := ∃ r q, ∃ ds : List PyData, ∃ k j, t = .a r q ∧ u = .d (.int k) ∧ getT ρ r q = some (.l (ds.map T.d)) ∧ ixN ds.length k = some j ∧ N (putAt ρ r q (.l ((ds.set j x).map T.d)))
theorem xSub {N : Rho → Prop} (h : ta ρ (fun t ρ1 => tb ρ1 (fun u ρ2 => sbK x t u ρ2 N) E) E) : wSub ta tb x ρ N E := h
theorem xSbK {N : Rho → Prop} (g : getT ρ r p = some (.l ts)) (e : allD ts = some ds) (h : ixN ds.length i = some k) (q : N (putAt ρ r p (.l ((ds.set k x).map T.d)))) : sbK x (.a r p) (.d (.int i)) ρ N := ⟨r, p, ds, i, k, rfl, rfl, by rw [g, allD_eq e], h, q⟩
theorem xNm {N : Rho → Prop} (h : noNdB ρ k = true) (q : N (ρ.set k (some (.d x)))) : wNm k x ρ N E := ⟨h, q⟩
theorem xGTup {tg : TwGs} {N : Rho → Prop} (h : ds.length = k) (q : tg ds ρ N E) : wGTup k tg (.tuple ds) ρ N E := ⟨ds, rfl, h, q⟩
theorem xGsCons {tg : TwG} {tgs : TwGs} {N : Rho → Prop} (q : tg x ρ (fun ρ1 => tgs ds ρ1 N E) E) : wGsCons tg tgs (x :: ds) ρ N E := ⟨x, ds, rfl, q⟩
theorem xGsNil {N : Rho → Prop} (q : N ρ) : wGsNil [] ρ N E := ⟨rfl, q⟩
/-! ### walks -/
def foK (g : TwG) (tb : TwS) (D : EndsT) (xs : List PyData) (ρ : Rho) : Prop := ∃ P : Nat → Rho → Prop, P 0 ρ ∧
  (∀ i x ρ2, xs[i]? = some x → P i ρ2 → g x ρ2 (fun ρ3 => tb { D with nx := P (i + 1), ct := P (i + 1), bk := D.nx } ρ3) D.ex) ∧ ∀ ρ2, P xs.length ρ2 → D.nx ρ2
theorem xFor {wi : TwI} {g : TwG} {tb : TwS} (h : wi ρ (foK g tb D) D.ex) : wFor wi g tb D ρ := h
theorem xFoK {g : TwG} {tb : TwS} {xs : List PyData} (P : Nat → Rho → Prop) (h0 : P 0 ρ) (hs : ∀ i x ρ2, xs[i]? = some x → P i ρ2 → g x ρ2 (fun ρ3 => tb { D with nx := P (i + 1), ct := P (i + 1), bk := D.nx } ρ3) D.ex) (hd : ∀ ρ2, P xs.length ρ2 → D.nx ρ2) : foK g tb D xs ρ := ⟨P, h0, hs, hd⟩
theorem xWhile {tb : TwS} (P : Rho → Prop) (μ : Rho → Nat) (h0 : P ρ) (h : ∀ ρ1, P ρ1 → tt ρ1 (fun b ρ2 => if b = true then tb { D with nx := fun ρ3 => P ρ3 ∧ μ ρ3 < μ ρ1, ct := fun ρ3 => P ρ3 ∧ μ ρ3 < μ ρ1, bk := D.nx } ρ2 else D.nx ρ2) D.ex) : wWhile tt tb D ρ := ⟨P, μ, h0, h⟩
def ilK (t : T) (ρ : Rho) (Q : List PyData → Rho → Prop) : Prop := ∃ xs, flatL t = some xs ∧ Q xs ρ
theorem xILst (h : ta ρ (fun t ρ1 => ilK t ρ1 QI) E) : wILst ta ρ QI E := h
theorem xILK (h : flatL t = some ds) (q : QI ds ρ) : ilK t ρ QI := ⟨ds, h, q⟩
theorem flat_map : flatL (.l (ds.map T.d)) = some ds := allD_map ds
def irK (ts : List T) (ρ : Rho) (QI : List PyData → Rho → Prop) : Prop := ∃ j : Int, ts = [.d (.int j)] ∧ -(2 ^ 62) ≤ j ∧ j < 2 ^ 62 ∧ QI (rangeD 0 j.toNat) ρ
theorem xIR1 (h : tas ρ (fun ts ρ1 => irK ts ρ1 QI) E) : wIR1 tas ρ QI E := h
theorem xIRK (h1 : -(2 ^ 62) ≤ j) (h2 : j < 2 ^ 62) (q : QI (rangeD 0 j.toNat) ρ) : irK [.d (.int j)] ρ QI := ⟨j, rfl, h1, h2, q⟩
def ieK (ts : List T) (ρ : Rho) (QI : List PyData → Rho → Prop) : Prop := ∃ t xs, ts = [t] ∧ flatL t = some xs ∧ QI (enumD xs) ρ
theorem xIEn (h : tas ρ (fun ts ρ1 => ieK ts ρ1 QI) E) : wIEn tas ρ QI E := h
theorem xIEK (h : flatL t = some ds) (q : QI (enumD ds) ρ) : ieK [t] ρ QI := ⟨t, ds, rfl, h, q⟩
theorem range_get {lo : Int} {n m : Nat} {x : PyData} (h : (rangeD lo n)[m]? = some x) : m < n ∧ x = .int (lo + (m : Nat)) := by
  unfold rangeD at h
  rw [List.getElem?_map] at h
  by_cases q : m < n
  · rw [List.getElem?_range q] at h; cases h; exact ⟨q, rfl⟩
  · rw [List.getElem?_eq_none (by simpa using Nat.le_of_not_lt q)] at h; cases h
theorem range_len {lo : Int} {n : Nat} : (rangeD lo n).length = n := by unfold rangeD; simp
theorem at_in' {α : Type} {xs : List α} {i : Int} (h0 : 0 ≤ i) (h : i < xs.length) : ∃ x, atI xs i = some x ∧ xs[i.toNat]? = some x := by
  have hl : i.toNat < xs.length := by omega
  exact ⟨xs[i.toNat], atI_of (j := i.toNat) (by unfold ixN; rw [if_pos h0, if_pos h]) (List.getElem?_eq_getElem hl), List.getElem?_eq_getElem hl⟩
/-! ### comprehensions -/
def lcK (g : TwG) (tt : TwT) (te : TwE) (vs : List Nat) (Q : T → Rho → Prop) (xs : List PyData) (ρ1 : Rho) : Prop := noNd ρ1 vs ∧ xs.length ≤ 1000000 ∧ ∃ P : Nat → List PyData → Rho → Prop, P 0 [] (wipeR ρ1 vs) ∧
  (∀ i x acc ρ2, xs[i]? = some x → P i acc ρ2 → g x ρ2 (fun ρ3 => tt ρ3 (fun b ρ4 => noNd ρ4 vs ∧ if b = true then te ρ4 (fun t ρ5 => noNd ρ5 vs ∧ ∃ y, erase t = some y ∧ P (i + 1) (acc ++ [y]) (wipeR ρ5 vs)) exN else P (i + 1) acc (wipeR ρ4 vs)) exN) exN) ∧
  (∀ acc ρ2, P xs.length acc ρ2 → Q (.l (acc.map T.d)) (restR ρ1 ρ2 vs))
theorem xLc {wi : TwI} {g : TwG} {te : TwE} {vs : List Nat} (h : wi ρ (lcK g tt te vs Q) E) : wLc wi g tt te vs ρ Q E := h
theorem noNd1 (h : noNdB ρ k = true) : noNd ρ [k] := fun j hj t e => by
  have : j = k := by simpa using hj
  subst this
  unfold noNdB at h
  rw [e] at h
  simpa using h
theorem xYesT (q : QT true ρ) : wYes ρ QT E := q
/-- the same, the turn's steps told forward -/
theorem xLcM {xs : List PyData} {te : TwE} (f : PyData → Bool) (h : PyData → PyData) (hn : noNdB ρ k = true) (hl : xs.length ≤ 1000000) (hk : k < ρ.length)
    (step : ∀ x ∈ xs, ∀ (Y : PyData → Rho → Prop) (Z : Rho → Prop), (f x = true → Y (h x) (ρ.set k (some (.d x)))) → (f x = false → Z (ρ.set k (some (.d x)))) → tt (ρ.set k (some (.d x))) (fun b ρ4 => noNd ρ4 [k] ∧ if b = true then te ρ4 (fun t ρ5 => noNd ρ5 [k] ∧ ∃ y, erase t = some y ∧ Y y ρ5) exN else Z ρ4) exN)
    (q : Q (.l (((xs.filter f).map h).map T.d)) ρ) : lcK (wNm k) tt te [k] Q xs ρ := by
  have wp : ∀ x : PyData, wipeR (ρ.set k (some (.d x))) [k] = ρ.set k none := fun x => by unfold wipeR wipeR; rw [List.set_set]
  refine ⟨noNd1 hn, hl, fun i acc ρ2 => acc = ((xs.take i).filter f).map h ∧ ρ2 = ρ.set k none, ⟨rfl, rfl⟩, ?_, ?_⟩
  · rintro i x acc ρ2 e ⟨rfl, rfl⟩
    have tk : xs.take (i + 1) = xs.take i ++ [x] := by rw [List.take_succ, e]; rfl
    refine ⟨by unfold noNdB; rw [List.getElem?_set_self hk], ?_⟩
    rw [List.set_set]
    refine step x (List.mem_of_getElem? e) (fun y ρ5 => (((xs.take i).filter f).map h ++ [y]) = ((xs.take (i + 1)).filter f).map h ∧ wipeR ρ5 [k] = ρ.set k none) (fun ρ4 => ((xs.take i).filter f).map h = ((xs.take (i + 1)).filter f).map h ∧ wipeR ρ4 [k] = ρ.set k none) (fun hf => ⟨?_, wp x⟩) (fun hf => ⟨?_, wp x⟩)
    · rw [tk, List.filter_append, List.map_append]; simp [hf]
    · rw [tk, List.filter_append, List.map_append]; simp [hf]
  · rintro acc ρ2 ⟨rfl, rfl⟩
    have : restR ρ (ρ.set k none) [k] = ρ := rest_wipe [k]
    rw [this, List.take_length]
    exact q
/-- lists of ints -/
theorem pickI {cs : List Int} (h0 : 0 ≤ i) (h1 : i < cs.length) : ∃ w ∈ cs, atI (cs.map PyData.int) i = some (.int w) := by
  obtain ⟨x, e1, e2⟩ := at_in' h0 h1
  exact ⟨x, List.mem_of_getElem? e2, by
    unfold atI at e1 ⊢
    rw [List.length_map]
    cases z : ixN cs.length i with
    | none => rw [z] at e1; cases e1
    | some j => rw [z] at e1; simp only [Option.bind_some] at e1 ⊢; rw [List.getElem?_map, e1]; rfl⟩
theorem atLast {cs : List Int} {l : Int} (h : cs[cs.length - 1]? = some l) : atI (cs.map PyData.int) (-1) = some (.int l) := by
  have hl := (List.getElem?_eq_some_iff.mp h).1
  unfold atI ixN
  rw [List.length_map, if_neg (by omega), if_pos (by omega)]
  simp only [Option.bind_some]
  rw [show ((-1 : Int) + cs.length).toNat = cs.length - 1 by omega, List.getElem?_map, h]; rfl
/-! ### calls -/
def caK (io : List Nat) (np : Nat) (S : SpT) (ts : List T) (ρ1 : Rho) (Q : T → Rho → Prop) (E : ExK) : Prop := ∃ vu us, argsF io ρ1 vu 0 ts = some us ∧ us.length = np ∧ apartB ts = true ∧
  S us (fun t ρ' => ioOk io vu ρ' = true ∧ (vu = true → immT t = true) ∧ noAl t = true ∧ Q t (backA io ts ρ1 ρ')) (fun c ρ' => ioOk io vu ρ' = true ∧ E c (backA io ts ρ1 ρ'))
theorem xCall {io : List Nat} {np : Nat} {S : SpT} (h : tas ρ (fun ts ρ1 => caK io np S ts ρ1 Q E) E) : wCall io np S tas ρ Q E := h
theorem back_nil : backA [] ts ρ ρ' = ρ := by
  unfold backA
  refine List.ext_getElem? fun j => ?_
  rw [List.getElem?_mapIdx]
  cases ρ[j]? with
  | none => rfl
  | some z => rfl
/-- nothing is handed in to be changed, every value is data | looked at (vu) -/
theorem xCaP {np : Nat} {pre : List T → Prop} {post : List T → T → Rho → Prop} (h : argsF [] ρ false 0 ts = some us) (hl : us.length = np) (ha : apartB ts = true) (p : pre us) (q : ∀ t ρ', post us t ρ' → noAl t = true ∧ Q t ρ) : caK [] np (SpP pre post) ts ρ Q E :=
  ⟨false, us, h, hl, ha, p, fun t ρ' z => ⟨rfl, fun z => (nomatch z), (q t ρ' z).1, by rw [back_nil]; exact (q t ρ' z).2⟩⟩
theorem xCaV {np : Nat} {pre : List T → Prop} {post : List T → T → Rho → Prop} (h : argsF [] ρ true 0 ts = some us) (hl : us.length = np) (ha : apartB ts = true) (p : pre us) (q : ∀ t ρ', post us t ρ' → immT t = true ∧ noAl t = true ∧ Q t ρ) : caK [] np (SpP pre post) ts ρ Q E :=
  ⟨true, us, h, hl, ha, p, fun t ρ' z => ⟨rfl, fun _ => (q t ρ' z).1, (q t ρ' z).2.1, by rw [back_nil]; exact (q t ρ' z).2.2⟩⟩
theorem back_one {us : List T} {v : T} (hu : ρ'[0]? = some (some v)) (h : ρ[r]? = some (some t)) : backA [0] (.a r [] :: us) ρ ρ' = ρ.set r (some v) := by
  unfold backA
  refine List.ext_getElem? fun j => ?_
  rw [List.getElem?_mapIdx]
  by_cases q : j = r
  · subst q
    rw [List.getElem?_set_self (List.getElem?_eq_some_iff.mp h).1, h]
    simp only [Option.map_some]
    unfold backF rmOf
    simp only [List.findSome?_cons, List.getElem?_cons_zero, if_true]
    rw [hu]; rfl
  · rw [List.getElem?_set_ne (fun z => q z.symm)]
    cases ρ[j]? with
    | none => rfl
    | some z =>
      simp only [Option.map_some]
      unfold backF rmOf
      have : ¬ r = j := fun z => q z.symm
      simp [this]
/-- the first value is handed in to be changed, the others are scalar -/
theorem xCaF {np : Nat} {pre : List T → Prop} {post : List T → T → Rho → Prop} (g : ρ[r]? = some (some t)) (hn : isNode t = true) (h : argsF [0] ρ false 1 ts = some us) (hl : us.length + 1 = np) (ha : apartB (.a r [] :: ts) = true) (p : pre (t :: us))
    (q : ∀ u ρ', post (t :: us) u ρ' → ∃ v, ρ'[0]? = some (some v) ∧ isNode v = true ∧ noAl u = true ∧ Q u (ρ.set r (some v))) : caK [0] np (SpP pre post) (.a r [] :: ts) ρ Q E := by
  refine ⟨false, t :: us, ?_, hl, ha, p, fun u ρ' z => ?_⟩
  · unfold argsF argF
    have : getT ρ r [] = some t := by unfold getT; rw [g]; rfl
    simp only [List.contains_cons, BEq.rfl, Bool.true_or]
    rw [this]
    simp only
    rw [if_pos hn, h]
  · obtain ⟨v, h1, h2, h3, h4⟩ := q u ρ' z
    refine ⟨?_, fun z => (nomatch z), h3, by rw [back_one h1 g]; exact h4⟩
    unfold ioOk
    simp only [List.all_cons, List.all_nil, Bool.and_true]
    rw [h1]
    simp [h2]
end
/-! ### sizes -/
theorem log_le {n a : Nat} (h : n < 2 ^ a) : n.log2 ≤ a := by
  by_cases z : n = 0
  · subst z; simp
  · exact Nat.le_of_lt ((Nat.log2_lt z).mpr h)
theorem cmul {i j : Int} (a b : Nat) (h1 : i.natAbs < 2 ^ a) (h2 : j.natAbs < 2 ^ b) (h : a + b < 1000000 := by decide) : CMulW i j := by
  have := log_le h1
  have := log_le h2
  unfold CMulW
  omega
theorem nA {i m : Int} (a : Nat) (h0 : 0 ≤ i) (h1 : i < m) (h2 : m ≤ 2 ^ a) : i.natAbs < 2 ^ a := by
  have : ((2 ^ a : Nat) : Int) = 2 ^ a := by simp
  omega
theorem nM {i m : Int} (a : Nat) (h1 : 0 < m) (h2 : m ≤ 2 ^ a) : (i % m).natAbs < 2 ^ a := nA a (Int.emod_nonneg _ (by omega)) (Int.emod_lt_of_pos _ h1) h2
theorem cdiv64 {i j : Int} (h1 : 0 < j) (h2 : j ≤ 2 ^ 64) : CDivW i j := ⟨h1, Nat.lt_of_le_of_lt (log_le (a := 65) (nA 65 (Int.le_of_lt h1) (Int.lt_add_one_of_le h2) (by decide))) (by decide)⟩
theorem cpow {i j : Int} (a : Nat) (h1 : i.natAbs < 2 ^ a) (h0 : 0 ≤ j) (h2 : (a : Int) * j ≤ 2 ^ 27) : CPowW i j := by
  have h3 : (Builtin.Int.intBits i : Nat) ≤ a := PyProof.Rows.intBits_le h1
  exact ⟨h0, Int.le_trans (Int.mul_le_mul_of_nonneg_right (by omega) h0) h2⟩
theorem at_of {α : Type} {xs : List α} {i : Int} {x : α} (h0 : 0 ≤ i) (h : xs[i.toNat]? = some x) : atI xs i = some x := by
  have := (List.getElem?_eq_some_iff.mp h).1
  exact atI_of (j := i.toNat) (by unfold ixN; rw [if_pos h0, if_pos (by omega)]) h
theorem at_in {α : Type} {xs : List α} {i : Int} (h0 : 0 ≤ i) (h : i < xs.length) : ∃ x, atI xs i = some x ∧ xs[i.toNat]? = some x := by
  have hl : i.toNat < xs.length := by omega
  exact ⟨xs[i.toNat], at_of h0 (List.getElem?_eq_getElem hl), List.getElem?_eq_getElem hl⟩
end TX

/-! Dicts of one's own: keys ints and texts, or tuples of these; values data. -/
namespace TX
open PySem PySem.Spec L2 PyProof.Rows

section
variable {κ : Type} [DecidableEq κ]
def lookD (kvs : List (κ × PyData)) (k : κ) : Option PyData := (kvs.find? fun p => decide (p.1 = k)).map (·.2)
def putD (kvs : List (κ × PyData)) (k : κ) (x : PyData) : List (κ × PyData) := if (kvs.any fun p => decide (p.1 = k)) = true then kvs.map (fun p => if p.1 = k then (p.1, x) else p) else kvs ++ [(k, x)]
/-- two tables with the same keys, the values alike -/
inductive KRp (K : PySem.W.Frag) (M : Hp) : List (κ × V) → List (κ × PyData) → Prop
  | nil : KRp K M [] []
  | cons {k v x t u} : Rp K M v x → KRp K M t u → KRp K M ((k, v) :: t) ((k, x) :: u)
section
variable {K : PySem.W.Frag} {M : Hp} {k : κ}
theorem KRp.of : ∀ {t : List (κ × V)} {u : List (κ × PyData)}, t.map (·.1) = u.map (·.1) → RpAll K M (t.map (·.2)) (u.map (·.2)) → KRp K M t u
  | [], [], _, _ => .nil
  | [], _ :: _, h, _ => by cases h
  | _ :: _, [], h, _ => by cases h
  | (a, v) :: t, (b, x) :: u, h, r => by
    simp only [List.map_cons, List.cons.injEq] at h
    obtain ⟨rfl, h2⟩ := h
    cases r with
    | cons r1 r2 => exact .cons r1 (KRp.of h2 r2)
theorem KRp.keys : ∀ {t : List (κ × V)} {u : List (κ × PyData)}, KRp K M t u → t.map (·.1) = u.map (·.1)
  | _, _, .nil => rfl
  | _, _, .cons _ h => by simp only [List.map_cons]; rw [KRp.keys h]
theorem KRp.vals : ∀ {t : List (κ × V)} {u : List (κ × PyData)}, KRp K M t u → RpAll K M (t.map (·.2)) (u.map (·.2))
  | _, _, .nil => .nil
  | _, _, .cons r h => .cons r (KRp.vals h)
theorem KRp.length {t : List (κ × V)} {u : List (κ × PyData)} (h : KRp K M t u) : t.length = u.length := by have := congrArg List.length h.keys; simpa using this
theorem KRp.look : ∀ {t : List (κ × V)} {u : List (κ × PyData)}, KRp K M t u → (lookD u k = none ∧ valV t k = none) ∨ ∃ v x, valV t k = some v ∧ lookD u k = some x ∧ Rp K M v x
  | [], _, h => by cases h; exact .inl ⟨rfl, rfl⟩
  | (a, v) :: t, _, h => by
    cases h with
    | @cons _ _ x _ u r h =>
    by_cases e : a = k
    · refine .inr ⟨v, x, valV_pos (p := (a, v)) e, ?_, r⟩
      unfold lookD; simp [List.find?_cons, e]
    · rw [valV_neg (p := (a, v)) e]
      have : lookD ((a, x) :: u) k = lookD u k := by unfold lookD; simp [List.find?_cons, e]
      rw [this]; exact KRp.look h
theorem KRp.any : ∀ {t : List (κ × V)} {u : List (κ × PyData)}, KRp K M t u → (t.any fun p => decide (p.1 = k)) = u.any fun p => decide (p.1 = k)
  | _, _, .nil => rfl
  | _, _, .cons _ h => by simp only [List.any_cons]; rw [KRp.any h]
theorem KRp.mono {M' : Hp} (f : ∀ b o, M b = some o → M' b = some o) : ∀ {t : List (κ × V)} {u : List (κ × PyData)}, KRp K M t u → KRp K M' t u
  | _, _, .nil => .nil
  | _, _, .cons q h => .cons (Rp.mono f _ _ q) (KRp.mono f h)
end
end
theorem keyD_inj {a b : Key} (h : keyD a = keyD b) : a = b := by
  cases a <;> cases b <;> simp [keyD] at h <;> rw [h]
def tupD (k : List Key) : PyData := .tuple (k.map keyD)
theorem map_inj {α β : Type} {f : α → β} (hf : ∀ a b, f a = f b → a = b) : ∀ {xs ys : List α}, xs.map f = ys.map f → xs = ys
  | [], [], _ => rfl
  | [], _ :: _, h => by simp at h
  | _ :: _, [], h => by simp at h
  | x :: xs, y :: ys, h => by
    simp only [List.map_cons, List.cons.injEq] at h
    rw [hf _ _ h.1, map_inj hf h.2]
/-- own dicts as trees -/
def mK1 (kvs : List (Key × PyData)) : T := .m false (kvs.map fun p => keyD p.1) ((kvs.map (·.2)).map T.d)
def mK2 (kvs : List (List Key × PyData)) : T := .m true (kvs.map fun p => tupD p.1) ((kvs.map (·.2)).map T.d)
section
variable {K : PySem.W.Frag} {H : Hp} {O : Own} {r : Nat} {p : List Nat} {v : V}
theorem tr_mK1 {kvs : List (Key × PyData)} (h : Tr K H O r p v (mK1 kvs)) : ∃ a ws, v = .ref a ∧ O a = .at r p ∧ H a = some (.dK ws) ∧ KRp K (msk O H) ws kvs := by
  unfold mK1 at h
  cases h with
  | mk h1 h2 h3 h4 =>
    refine ⟨_, _, rfl, h1, h2, KRp.of ?_ (TrAll.data h4)⟩
    refine map_inj (f := keyD) (fun a b => keyD_inj) ?_
    rw [List.map_map, List.map_map]; exact h3.symm
end
section
variable {X : Cx} {pos : Pos} {a b c e o i : Expr} {ta tb tc : TwE}
/-! ### {} -/
/-! ### a locked dict, as data -/
section
variable {K : PySem.W.Frag} {H : Hp} {O : Own}
theorem tr_lkd {r : Nat} {p : List Nat} {v : V} {tk : Bool} {ks xs : List PyData} (h : Tr K H O r p v (.lk tk ks xs)) : Tr K H O r p v (.d (.dict (ks.zip xs))) := by
  cases h with
  | lk h1 h2 h3 h4 =>
    have el : ks.length = xs.length := by rw [h3, ← h4.length]; simp
    exact .d (.dk (.inr ⟨_, by rw [msk_of h1]; exact h2⟩) (by rw [zip_fst el]; exact h3) (by rw [zip_snd el]; exact h4))
  | lt h1 h2 h3 h4 =>
    have el : ks.length = xs.length := by rw [h3, ← h4.length]; simp
    exact .d (.dt (.inr ⟨_, by rw [msk_of h1]; exact h2⟩) (by rw [zip_fst el]; exact h3) (by rw [zip_snd el]; exact h4))
end
def asD : T → T
  | .lk _ ks xs => .d (.dict (ks.zip xs))
  | t => t
theorem val_asD {K : PySem.W.Frag} {H : Hp} {O : Own} {n : Nat} {v : V} {t : T} (h : Val K H O n v t) : Val K H O n v (asD t) := by
  cases t with
  | lk tk ks xs => exact ⟨tr_lkd h.1, fun b p e => by obtain ⟨z, h1, h2⟩ := h.2 b p e; cases p with | nil => cases h1; cases h2 | cons k p => cases h1⟩
  | _ => exact h
/-! ### what is at a key -/
/-- the dict a value shows: keys ints and texts | tuples of these -/
def Dk1 (ρ : Rho) (t : T) (kvs : List (Key × PyData)) : Prop := (∃ r p, t = .a r p ∧ getT ρ r p = some (mK1 kvs)) ∨ (kvs ≠ [] ∧ asD t = .d (.dict (kvs.map fun p => (keyD p.1, p.2))))
def Dk2 (ρ : Rho) (t : T) (kvs : List (List Key × PyData)) : Prop := (∃ r p, t = .a r p ∧ getT ρ r p = some (mK2 kvs)) ∨ (kvs ≠ [] ∧ asD t = .d (.dict (kvs.map fun p => (tupD p.1, p.2))))
theorem dk1_val {K : PySem.W.Frag} {C : Ctx} {n m : Nat} {σ : L2.St} {H : Hp} {O : Own} {ρ : Rho} {t : T} {v : V} {kvs : List (Key × PyData)} (R : Rel K C m σ H O ρ) (V1 : Val K H O n v t) (h : Dk1 ρ t kvs) : ∃ ad ws, v = .ref ad ∧ Rd H ad (.dK ws) ∧ KRp K (msk O H) ws kvs := by
  rcases h with ⟨r, p, rfl, g⟩ | ⟨ne, et⟩
  · obtain ⟨⟨ad, rfl, e, _⟩, _⟩ := V1
    obtain ⟨a', ws, ea, _, h2, h3⟩ := tr_mK1 (R.alias g rfl e)
    cases ea
    exact ⟨ad, ws, rfl, .inl h2, h3⟩
  · have rp := val_d (et ▸ val_asD V1)
    cases rp with
    | dk h1 h2 h3 =>
      refine ⟨_, _, rfl, rd_mono msk_le h1, KRp.of (map_inj (f := keyD) (fun a b => keyD_inj) ?_) ?_⟩
      · rw [List.map_map, List.map_map]; rw [List.map_map] at h2; exact h2.symm
      · rw [List.map_map] at h3; exact h3
    | dt h1 h2 h3 =>
      exfalso
      cases kvs with
      | nil => exact ne rfl
      | cons q qs =>
        rw [List.map_map, List.map_cons] at h2
        have : keyD q.1 ∈ (keyD q.1 :: qs.map ((fun x => x.1) ∘ fun p => (keyD p.1, p.2))) := List.mem_cons_self
        have h2' := h2 ▸ this
        obtain ⟨w, _, e⟩ := List.mem_map.mp h2'
        have e' : PyData.tuple (w.1.map keyD) = keyD q.1 := e
        cases z : q.1 <;> rw [z] at e' <;> cases e'
theorem rp_key {K : PySem.W.Frag} {H : Hp} {w : V} {k : Key} (h : Rp K H w (keyD k)) : w = kV k := by
  cases k with
  | inl i => exact rp_int h
  | inr x => exact rp_str h
def dgK1 (t u : T) (ρ : Rho) (Q : T → Rho → Prop) : Prop := ∃ kvs k x, Dk1 ρ t kvs ∧ vw ρ u = some (keyD k) ∧ lookD kvs k = some x ∧ Q (.d x) ρ
def dgK2 (t u : T) (ρ : Rho) (Q : T → Rho → Prop) : Prop := ∃ kvs k x, Dk2 ρ t kvs ∧ vw ρ u = some (tupD k) ∧ lookD kvs k = some x ∧ Q (.d x) ρ
def wDg1 (ta tb : TwE) : TwE := w2 ta tb dgK1
def wDg2 (ta tb : TwE) : TwE := w2 ta tb dgK2
theorem le_dg1 (hu : X.A.units + 1 < cLine) (ha : LE X a ta) (hb : LE X b tb) (hs : NoSl b := by exact fun _ _ => rfl) : LE X (.Subscript a b pos) (wDg1 ta tb) := by
  refine ⟨w2_mono ha.mono hb.mono fun t u ρ Q Q' h ⟨x, y, z, e1, e2, e3, q⟩ => ⟨x, y, z, e1, e2, e3, h _ _ q⟩, fun C W n hC hn tk => (pe_dget (pos := pos) hu (ha.run C W n hC hn tk) (hb.run C W (n + 1) hC (by omega) tk) hs).imp fun σ H Q h => ?_⟩
  refine two (r := fun x y H Q => ∃ ad v, x = .ref ad ∧ DGet H ad y (some v) ∧ Q v H) ha.mono hb.mono hn h fun O ρ2 t u v w H2 O2 R2 F V1 V2 ⟨kvs, k, x, e1, e2, e3, q⟩ => ?_
  obtain ⟨ad, ws, rfl, h1, h2⟩ := dk1_val R2 V1 e1
  rw [rp_key (R2.viewH V2 e2)]
  rcases h2.look (k := k) with ⟨z, _⟩ | ⟨v', x', z1, z2, z3⟩
  · rw [e3] at z; cases z
  · rw [e3] at z2; cases z2
    exact ⟨ad, v', rfl, .inl ⟨ws, k, h1, rfl, z1.symm⟩, Fin.dat hn R2 F q z3⟩
/-! ### d[k] = data -/
def dpK1 (x : PyData) (t u : T) (ρ : Rho) (N : Rho → Prop) : Prop := ∃ r q kvs k, t = .a r q ∧ getT ρ r q = some (mK1 kvs) ∧ vw ρ u = some (keyD k) ∧ kvs.length < sizeLine ∧ N (TX.putAt ρ r q (mK1 (putD kvs k x)))
def dpK2 (x : PyData) (t u : T) (ρ : Rho) (N : Rho → Prop) : Prop := ∃ r q kvs k, t = .a r q ∧ getT ρ r q = some (mK2 kvs) ∧ vw ρ u = some (tupD k) ∧ kvs.length < sizeLine ∧ N (TX.putAt ρ r q (mK2 (putD kvs k x)))
def wDp1 (ta tb : TwE) : TwG := fun x ρ Q E => ta ρ (fun t ρ1 => tb ρ1 (fun u ρ2 => dpK1 x t u ρ2 Q) E) E
def wDp2 (ta tb : TwE) : TwG := fun x ρ Q E => ta ρ (fun t ρ1 => tb ρ1 (fun u ρ2 => dpK2 x t u ρ2 Q) E) E
end
end TX

/-! More plain steps: dicts, comprehensions with several names, in. -/
namespace TX
open PySem PySem.Spec L2
section
variable {ρ ρ' : Rho} {Q : T → Rho → Prop} {E : ExK} {t u : T} {ts us : List T} {x y : PyData} {i j : Int} {k n r s : Nat} {p q : List Nat} {ds : List PyData} {ta tb tc te : TwE} {tt : TwT} {D : EndsT} {b : Bool} {g : TwG}
theorem xDg1 (h : ta ρ (fun t ρ1 => tb ρ1 (fun u ρ2 => dgK1 t u ρ2 Q) E) E) : wDg1 ta tb ρ Q E := h
theorem xDg2 (h : ta ρ (fun t ρ1 => tb ρ1 (fun u ρ2 => dgK2 t u ρ2 Q) E) E) : wDg2 ta tb ρ Q E := h
theorem xDp1 {N : Rho → Prop} (h : ta ρ (fun t ρ1 => tb ρ1 (fun u ρ2 => dpK1 x t u ρ2 N) E) E) : wDp1 ta tb x ρ N E := h
theorem xDp2 {N : Rho → Prop} (h : ta ρ (fun t ρ1 => tb ρ1 (fun u ρ2 => dpK2 x t u ρ2 N) E) E) : wDp2 ta tb x ρ N E := h
theorem xIn {neg : Bool} (h1 : vw ρ t = some x) (h2 : vw ρ u = some (.list ds)) (s1 : SeqAt.shaped x = true) (s2 : SeqAt.shaped (.list ds) = true) (q : Q (.d (.bool (neg != (ds.any fun w => PyData.eqv w x)))) ρ) : opK (fIn neg) t u ρ Q := ⟨_, _, _, h1, h2, ⟨ds, rfl, s1, s2, rfl⟩, q⟩
end
end TX

/-! a, b = e1, e2. -/
namespace TX
open PySem PySem.Spec L2
section
variable {K : PySem.W.Frag} {C : Ctx} {n m : Nat} {σ : L2.St} {H H' : Hp} {O O' : Own} {ρ : Rho}
/-- slot i takes the tree at root m, the last one on the way -/
theorem relStoreM (R : Rel K C (m + 1) σ H O ρ) (hm : C.N ≤ m) {i : Nat} (hi : i < C.N) (hio : i ∉ C.io) {v : V} {t : T} (V1 : Val K H O m v t) (ha : ∀ r p, t ≠ .a r p) :
    Rel K C m (σ.set i (some v)) H (mvR m i (dropR i O)) (ρ.set i (some t)) ∧ Fre H O H (mvR m i (dropR i O)) ∧ ∀ b r p, C.N ≤ r → r < m → (mvR m i (dropR i O) b = .at r p ↔ O b = .at r p) := by
  have hl : i < σ.length := by rw [R.ln]; exact hi
  have hl' : i < ρ.length := by rw [R.lr]; exact hi
  have tr : Tr K H O m [] v t ∧ ∀ b p, O b = .at m p → ∃ z, subT t p = some z ∧ isNode z = true := by
    cases t with
    | a r p => exact absurd rfl (ha r p)
    | _ => exact V1
  obtain ⟨V2, V3⟩ := tr
  have hne : m ≠ i := by omega
  have up : ∀ {b : Addr} {r : Nat} {p : List Nat}, O b = .at r p → r ≠ i → r ≠ m → mvR m i (dropR i O) b = .at r p := fun {b r p} e1 e2 e3 => mvR_ne (dropR_at.mpr ⟨e1, e2⟩) e3
  have upN : ∀ {b : Addr} {p : List Nat}, O b = .at m p → mvR m i (dropR i O) b = .at i p := fun {b p} e => mvR_root (dropR_at.mpr ⟨e, hne⟩)
  have dn : ∀ {b : Addr} {r : Nat} {p : List Nat}, mvR m i (dropR i O) b = .at r p → (r = i ∧ O b = .at m p) ∨ (r ≠ i ∧ r ≠ m ∧ O b = .at r p) := fun {b r p} e => by
    rcases mvR_at e with ⟨h1, h2⟩ | ⟨h1, h2⟩
    · exact .inl ⟨h1, (dropR_at.mp h2).1⟩
    · exact .inr ⟨(dropR_at.mp h2).2, h1, (dropR_at.mp h2).1⟩
  have fr : ∀ {b : Addr}, O b = .free → mvR m i (dropR i O) b = .free := fun {b} e => mvR_free.mpr (dropR_free e)
  have ff : ∀ {b : Addr}, O b = .foreign ↔ mvR m i (dropR i O) b = .foreign := fun {b} => by rw [mvR_foreign, dropR_foreign]
  refine ⟨⟨fun b o e1 e2 => ?_, fun b z => R.nt b fun q => z (fr q), fun b r p e => ?_, fun a b r p e1 e2 => ?_, fun b r p e l => ?_, by rw [List.length_set]; exact R.ln, by rw [List.length_set]; exact R.lr,
    fun j u e => ?_, hm, fun b e => R.fo b (ff.mpr e), fun b j p e => ?_, R.sm⟩, fun b o e1 e2 => ⟨e1, fr e2⟩, fun b r p l1 l2 => ⟨fun e => ?_, fun e => up e (by omega) (by omega)⟩⟩
  · obtain ⟨z1, z2⟩ := R.fr b o e1 e2
    refine ⟨z1, ?_⟩
    rcases e2 with e2 | e2
    · rw [e2] at z2 ⊢; exact fr z2
    · rw [e2] at z2 ⊢; exact ff.mp z2
  · rcases dn e with ⟨rfl, _⟩ | ⟨_, h2, h3⟩
    · omega
    · have := R.lt b r p h3; omega
  · rcases dn e1 with ⟨h1, h2⟩ | ⟨h1, _, h2⟩ <;> rcases dn e2 with ⟨h3, h4⟩ | ⟨h3, _, h4⟩
    · exact R.inj a b _ _ h2 h4
    · exact absurd h1 h3
    · exact absurd h3 h1
    · exact R.inj a b _ _ h2 h4
  · rcases dn e with ⟨rfl, h2⟩ | ⟨h1, _, h2⟩
    · obtain ⟨z, z1, z2⟩ := V3 b p h2
      exact ⟨t, z, by rw [set_get hl', if_pos rfl], z1, z2⟩
    · obtain ⟨t', z, g1, g2, g3⟩ := R.val b r p h2 l
      exact ⟨t', z, by rw [set_get hl', if_neg h1]; exact g1, g2, g3⟩
  · rw [set_get hl'] at e
    by_cases hj : j = i
    · subst hj
      rw [if_pos rfl] at e
      cases e
      exact ⟨v, by rw [set_get hl, if_pos rfl], Tr.move (r' := j) (p0 := []) (p1 := []) (fun b o e1 e2 => ⟨e1, fr e2⟩) (fun b o q e1 e2 => ⟨e1, upN e2⟩) t [] v V2⟩
    · rw [if_neg hj] at e
      obtain ⟨w, h2, h3⟩ := R.sl j u e
      have : j < C.N := R.slt e
      exact ⟨w, by rw [set_get hl, if_neg hj]; exact h2, Tr.move (r' := j) (p0 := []) (p1 := []) (fun b o e1 e2 => ⟨e1, fr e2⟩) (fun b o q e1 e2 => ⟨e1, up e2 hj (by omega)⟩) u [] w h3⟩
  · obtain ⟨z1, z2⟩ := R.pz b j p e
    exact ⟨z1, up z2 (fun z => hio (z ▸ R.sm.2 b j p e)) (by omega)⟩
  · rcases dn e with ⟨h, _⟩ | ⟨_, _, h⟩
    · omega
    · exact h
end
section
variable {X : Cx} {io : List Nat} {a b : Expr} {tas : TwA} {px py pt pt2 pos : Pos} {kt k2 : Nat}
def paK (i j : Nat) (D : EndsT) (ts : List T) (ρ : Rho) : Prop := ∃ t u, ts = [t, u] ∧ noAl t = true ∧ noAl u = true ∧ D.nx ((ρ.set i (some t)).set j (some u))
def wPar (i j : Nat) (tas : TwA) : TwS := fun D ρ => tas ρ (fun ts ρ1 => paK i j D ts ρ1) D.ex
theorem noAl_ne {t : T} (h : noAl t = true) : ∀ r p, t ≠ .a r p := fun r p e => by subst e; cases h
theorem ls_par {i j : Nat} {x y : Str} (hc : X.calm = true) (hN : X.N.Nodup) (hi : X.N[i]? = some x) (hj : X.N[j]? = some y) (hij : i ≠ j) (hx : X.env.scope.names.lookup x = some .local) (hy : X.env.scope.names.lookup y = some .local) (ha : LA X [a, b] tas)
    (hw : swappedStores [.Tuple [.Name x px, .Name y py] kt pt] (.Tuple [a, b] k2 pt2) X.env = pure (some [x, y])) (hio : i ∉ io := by decide) (hjo : j ∉ io := by decide)
    (hs : swapsWithSole [.Tuple [.Name x px, .Name y py] kt pt] (.Tuple [a, b] k2 pt2) pos.line X.env = pure false := by rfl) : LS X io (.Assign [.Tuple [.Name x px, .Name y py] kt pt] (.Tuple [a, b] k2 pt2) pos) (wPar i j tas) := by
  refine ⟨fun D D' ρ l q => ha.mono ρ _ _ _ _ (fun ts ρ1 ⟨t, u, e, h1, h2, q⟩ => ⟨t, u, e, h1, h2, l.nx _ q⟩) l.ex q, fun C W hC hio' tk hp => (ps_par hc hN hi hj hij hx hy (ha.run C W C.N hC (Nat.le_refl _) tk) hw hs).imp fun D σ H ⟨O, ρ, R, q⟩ => ?_⟩
  refine ⟨O, ρ, R, ha.mono ρ _ _ _ _ (fun ts ρ1 ⟨t, u, e, h1, h2, q⟩ => ?_) (fun _ _ z => z) q⟩
  subst e
  intro vs H1 O1 R1 F1 V1
  obtain ⟨v, w, rfl, V2, V3⟩ := V1.two
  have li := nlt hC hi
  have lj := nlt hC hj
  obtain ⟨R2, f2, k2'⟩ := relStoreM (m := C.N + 1) R1 (Nat.le_succ _) lj (by rw [hio']; exact hjo) V3 (noAl_ne h2)
  have V4 : Val X.K H1 (mvR (C.N + 1) j (dropR j O1)) C.N v t := by
    have gen : ∀ t : T, (Tr X.K H1 O1 C.N [] v t ∧ ∀ b p, O1 b = .at C.N p → ∃ z, subT t p = some z ∧ isNode z = true) → Tr X.K H1 (mvR (C.N + 1) j (dropR j O1)) C.N [] v t ∧ ∀ b p, mvR (C.N + 1) j (dropR j O1) b = .at C.N p → ∃ z, subT t p = some z ∧ isNode z = true := fun t h =>
      ⟨Tr.move (r' := C.N) (p0 := []) (p1 := []) (fun b o e1 e2 => ⟨e1, (f2 b o e1 e2).2⟩) (fun b o q e1 e2 => ⟨e1, (k2' b _ _ (Nat.le_refl _) (Nat.lt_succ_self _)).mpr e2⟩) t [] v h.1, fun b p e => h.2 b p ((k2' b _ _ (Nat.le_refl _) (Nat.lt_succ_self _)).mp e)⟩
    cases t with
    | a r p => cases h1
    | _ => exact gen _ V2
  obtain ⟨R3, f3, _⟩ := relStoreM (m := C.N) R2 (Nat.le_refl _) li (by rw [hio']; exact hio) V4 (noAl_ne h1)
  refine ⟨v, w, rfl, ?_⟩
  rw [List.set_comm _ _ (fun e => hij e.symm)] at R3
  rw [List.set_comm (i := j) (j := i) _ _ (fun e => hij e.symm)] at R3
  exact q _ H1 _ R3 ((F1.fre.trans f2).trans f3)
end
end TX

/-! A tuple turned round. -/
namespace TX
open PySem PySem.Spec L2 PyProof.Rows
section
variable {prog : Program} {w : World} {A : Around} {E : Value → Shared → Prop} {s : Shared}
theorem part_any {v : Value} {o : Option Int} {Q : Option Int → Shared → Prop} (p : IsPart v o) (h : Q o s) : wpAny (model prog w) A (Builtin.Slice.slicePartIndex v) Q E s := HT.slicePart_ p h
theorem adjust_rev (n : Nat) : Builtin.Slice.sliceAdjust none none (-1) (n : Int) = ((n : Int) - 1, -1) := by
  unfold Builtin.Slice.sliceAdjust
  have h1 : (-1 : Int) < 0 := by decide
  simp only [h1, if_true]
theorem places_rev (n : Nat) : Builtin.Slice.slicePlaces ((n : Int) - 1) (-1) (-1) = n := by
  unfold Builtin.Slice.slicePlaces
  have h1 : ¬ ((-1 : Int) > 0) := by decide
  simp only [h1, if_false]
  rw [show (- -1 : Int) = 1 from rfl, Int.ediv_one]
  split <;> omega
theorem fm_congr {α β : Type} {f g : α → Option β} : ∀ {l : List α}, (∀ a ∈ l, f a = g a) → l.filterMap f = l.filterMap g
  | [], _ => rfl
  | a :: l, h => by
    simp only [List.filterMap_cons]
    rw [h a List.mem_cons_self, fm_congr fun b hb => h b (List.mem_cons_of_mem _ hb)]
theorem pick_rev (xs : Array Value) : ((List.range xs.size).filterMap fun (m : Nat) => xs[((xs.size : Int) - 1 + (m : Int) * (-1)).toNat]?).toArray = xs.toList.reverse.toArray := by
  congr 1
  refine List.ext_getElem? fun i => ?_
  have e : ((List.range xs.size).filterMap fun (m : Nat) => xs[((xs.size : Int) - 1 + (m : Int) * (-1)).toNat]?) = (List.range xs.size).map fun m => xs.toList[xs.size - 1 - m]?.getD .none := by
    rw [← List.filterMap_eq_map]
    refine fm_congr fun m hm => ?_
    have hm' := List.mem_range.mp hm
    have h1 : ((xs.size : Int) - 1 + (m : Int) * (-1)).toNat = xs.size - 1 - m := by omega
    have h2 : xs.size - 1 - m < xs.size := by omega
    rw [h1]
    simp [h2]
  rw [e]
  rw [List.getElem?_map]
  by_cases hi : i < xs.size
  · rw [List.getElem?_range hi, List.getElem?_reverse (by simpa using hi)]
    have : xs.size - 1 - i < xs.size := by omega
    simp [this]
  · rw [List.getElem?_eq_none (by simpa using hi), List.getElem?_eq_none (by simpa using hi)]
    rfl
theorem applied_rev {sl : Addr} {vl vu vs : Value} {n : Nat} {Q : Int × Int × Nat → Shared → Prop} (hs : s.heap.IsSliceOf sl vl vu vs) (pl : IsPart vl none) (pu : IsPart vu none) (ps : IsPart vs (some (-1)))
    (h : Q ((n : Int) - 1, -1, n) s) : wpAny (model prog w) A (Builtin.Slice.sliceApplied (.ref sl) (pure (n : Int))) Q E s := by
  obtain ⟨os, hos, hcs, hds⟩ := id hs
  unfold Builtin.Slice.sliceApplied Builtin.Slice.sliceFields
  refine wpAny_bind (wpAny_bind (wpAny_field hos hds (x := vl) rfl (wpAny_bind (wpAny_field hos hds (x := vu) rfl (wpAny_bind (wpAny_field hos hds (x := vs) rfl (wpAny_pure ?_)))))))
  refine wpAny_bind (part_any ps ?_)
  show wpAny _ _ (if ((-1 : Int) == 0) = true then _ else _) _ _ s
  rw [if_neg (by decide)]
  refine wpAny_bind (part_any pl (wpAny_bind (part_any pu (wpAny_bind (wpAny_pure ?_)))))
  show wpAny _ _ (match Builtin.Slice.sliceAdjust none none (-1) (n : Int) with | (lo, hi) => pure (lo, (-1 : Int), Builtin.Slice.slicePlaces lo hi (-1))) _ _ s
  rw [adjust_rev n]
  show wpAny _ _ (pure ((n : Int) - 1, (-1 : Int), Builtin.Slice.slicePlaces ((n : Int) - 1) (-1) (-1))) _ _ s
  rw [places_rev]
  exact wpAny_pure h
theorem item_rev {t sl : Addr} {items : Array Value} {vl vu vs : Value} {Q : Value → Shared → Prop} (ht : IsTup s.heap t items) (hs : s.heap.IsSliceOf sl vl vu vs) (pl : IsPart vl none) (pu : IsPart vu none) (ps : IsPart vs (some (-1)))
    (h : Q (.ref s.heap.objs.size) { s with heap := s.heap.push { cls := .type "tuple", data := .seq items.toList.reverse.toArray } }) (hsz : items.size ≤ sizeLine) : wpAny (model prog w) A (getItem (.ref t) (.ref sl)) Q E s := by
  have hfit : sizeOk (.seq items.toList.reverse.toArray) := by
    show items.toList.reverse.toArray.size ≤ sizeLine
    simpa using hsz
  obtain ⟨os, hos, hcs, hds⟩ := id hs
  have hT : s.TypeIs (.ref sl) "slice" := ⟨os, hos, hcs⟩
  unfold getItem
  try with_reducible refine wpAny_holding ?_
  first | refine wpAny_bind (wpAny_pure ?_) | skip
  refine wpAny_bind (wpAny_sequenceKey ht.typeIs (by decide) ?_)
  refine wpAny_bind (wpAny_callSpecial?_slot (name := Str.ofString "__getitem__") ht.typeIs PyProof.Rows.slot_tuple_getitem
    (wpAny_call_entry PyProof.Rows.slot_tuple_getitem ht.typeIs entry_tuple_getitem ?_ (args_tuple_getitem _ _)))
  show wpAny _ _ (Builtin.Tuple.tupleItemsOf (.ref t) >>= _) _ _ s
  refine wpAny_bind (tupleItemsOf_ ht ?_)
  refine wpAny_bind (wpAny_typeOf hT ?_)
  rw [if_pos (by decide)]
  refine wpAny_bind (applied_rev hs pl pu ps ?_)
  have hno : ¬ ((((items.size : Int) - 1) == 0 && (-1 : Int) == 1 && items.size == items.size) = true) := by
    rw [show ((-1 : Int) == 1) = false by decide]
    simp
  show wpAny _ _ (if (((items.size : Int) - 1) == 0 && (-1 : Int) == 1 && items.size == items.size) = true then _ else _) _ _ s
  rw [if_neg hno, pick_rev]
  first
    | exact wpAny_bind (m := Builtin.Tuple.tupleExact _) (wpAny_newObj_type (wpAny_pure ⟨_, rfl, wpAny_pure h⟩) hfit)
    | exact wpAny_bind (m := Builtin.Tuple.tupleExact _) (wpAny_newObj_type (wpAny_bind (wpAny_pure (wpAny_pure ⟨_, rfl, wpAny_pure h⟩))) hfit)
    | exact wpAny_bind (wpAny_bind (m := Builtin.Tuple.tupleExact _) (wpAny_newObj_type (wpAny_pure (wpAny_pure ⟨_, rfl, wpAny_pure h⟩)) hfit))
    | exact wpAny_bind (wpAny_bind (m := Builtin.Tuple.tupleExact _) (wpAny_newObj_type (wpAny_pure ⟨_, rfl, wpAny_pure h⟩) hfit))
end
def tRevT (K : PySem.W.Frag) (te : TE) : TE := fun σ H Q => te σ H fun x H1 => ∃ a xs, x = .ref a ∧ SqT K H1 a xs ∧ ∀ p, H1 p = none → Q (.ref p) (upd H1 p (.tup xs.reverse))
section
variable {X : Cx} {e : Expr} {te : TE} {k : Nat} {p1 p2 p3 pos : Pos}
theorem pe_revT (he : PE X e te) : PE X (.Subscript e (.Slice none none (some (.UnaryOp .USub (.Constant (.int 1) k p1) p2)) p3) pos) (tRevT X.K te) := by
  refine ⟨fun pins s σ H Q I h => Subscript_ (thn (he.run pins s σ H _ I h) fun v s1 ⟨x, H1, I1, r1, a, xs, ex, hx, q⟩ => ?_)⟩
  subst ex
  cases r1
  have hst : PO X (some (.UnaryOp .USub (.Constant (.int 1) k p1) p2)) (tPart (tUn (rU fun i => .int (-i)) (tC (.int 1)))) := po_some (pe_un un_neg pe_int)
  refine wpAny_Slice (thn (po_none.run pins s1 σ H1 (fun o H2 => o = none ∧ H2 = H1) I1 ⟨rfl, rfl⟩) fun vl s2 ⟨l, H2, I2, pl, el, e2⟩ => ?_)
  subst el e2
  refine thn (po_none.run pins s2 σ H2 (fun o H3 => o = none ∧ H3 = H2) I2 ⟨rfl, rfl⟩) fun vu s3 ⟨u, H3, I3, pu, eu, e3⟩ => ?_
  subst eu e3
  refine thn (hst.run pins s3 σ H3 (fun o H4 => o = some (-1) ∧ H4 = H3) I3 ⟨1, rfl, -1, rfl, rfl, rfl⟩) fun vs s4 ⟨o, H4, I4, ps, eo, e4⟩ => ?_
  subst eo e4
  have I5 : Inv X pins σ H4 { s4 with heap := s4.heap.push { cls := .type "slice", data := .fields #[vl, vu, vs] } } := I4.kept (t' := s4.toks) fun b ob q => Heap.get?_push_of_some _ q
  obtain ⟨its, r, ht, hz⟩ := I5.tuple hx
  have hlen := r.length
  show wpAny (model X.prog X.w) X.A (subscriptTail e (.Slice none none (some (.UnaryOp .USub (.Constant (.int 1) k p1) p2)) p3) (.ref a) (.ref s4.heap.objs.size)) (EP X pins σ Q) X.xe { s4 with heap := s4.heap.push { cls := .type "slice", data := .fields #[vl, vu, vs] } }
  refine tail_any (ops := [.ref a, .ref s4.heap.objs.size]) ht.typeIs (PyProof.Rows.slot_tuple_getitem.lookup) ?_ (by with_unfolding_all rfl)
  refine item_rev ht (Heap.IsSliceOf.new _ vl vu vs) pl pu ps ?_ (by rw [List.size_toArray]; omega)
  refine ⟨.ref _, _, I5.laid (t' := s4.toks) (o := .tup xs.reverse) (fun b ob q => Heap.get?_push_of_some _ q) (Nat.le_refl _) ?_, rfl, q _ (I5.hok.fresh (Nat.le_refl _))⟩
  exact ⟨by rw [List.length_reverse]; exact hz, _, r.reverse, IsTup.new _ _⟩
def wRevT (ta : TwE) : TwE := fun ρ Q E => ta ρ (fun t ρ1 => ∃ xs, t = .d (.tuple xs) ∧ Q (.d (.tuple xs.reverse)) ρ1) E
theorem le_revT {ta : TwE} (ha : LE X e ta) : LE X (.Subscript e (.Slice none none (some (.UnaryOp .USub (.Constant (.int 1) k p1) p2)) p3) pos) (wRevT ta) := by
  refine ⟨fun ρ Q Q' E E' h he q => ha.mono ρ _ _ E E' (fun t ρ1 ⟨xs, e, q⟩ => ⟨xs, e, h _ _ q⟩) he q, fun C W n hC hn tk => (pe_revT (ha.run C W n hC hn tk)).imp fun σ H Q ⟨O, ρ, R, q⟩ => ?_⟩
  refine ⟨O, ρ, R, ha.mono ρ _ _ _ _ (fun t ρ1 ⟨xs, e, q⟩ => ?_) (fun _ _ z => z) q⟩
  subst e
  intro v H1 O1 R1 F1 V1
  have rp := val_d V1
  cases rp with
  | tup h1 h2 => exact ⟨_, _, rfl, .of (msk_some h1).2, fun y hy => Fin.newT hn R1 F1 q h2.reverse y hy⟩
end
end TX

/-! Steps for pairs, for tuples turned round; keys in dicts. -/
namespace TX
open PySem PySem.Spec L2
section
variable {ρ : Rho} {Q : T → Rho → Prop} {E : ExK} {t u : T} {x : PyData} {i j : Nat} {ds : List PyData} {ta tb : TwE} {tas : TwA} {D : EndsT} {neg : Bool}
theorem xPar (h : tas ρ (paK i j D) D.ex) : wPar i j tas D ρ := h
theorem xPaK (ht : noAl t = true) (hu : noAl u = true) (q : D.nx ((ρ.set i (some t)).set j (some u))) : paK i j D [t, u] ρ := ⟨t, u, rfl, ht, hu, q⟩
def rtK2 (t : T) (ρ : Rho) (Q : T → Rho → Prop) : Prop := ∃ xs, t = .d (.tuple xs) ∧ Q (.d (.tuple xs.reverse)) ρ
theorem xRevT (h : ta ρ (fun t ρ1 => rtK2 t ρ1 Q) E) : wRevT ta ρ Q E := h
theorem xRevTK (q : Q (.d (.tuple ds.reverse)) ρ) : rtK2 (.d (.tuple ds)) ρ Q := ⟨ds, rfl, q⟩
/-- k in d | k not in d -/
def diK1 (neg : Bool) (u t : T) (ρ : Rho) (Q : T → Rho → Prop) : Prop := ∃ kvs k, Dk1 ρ t kvs ∧ vw ρ u = some (keyD k) ∧ Q (.d (.bool (neg != (lookD kvs k).isSome))) ρ
def diK2 (neg : Bool) (u t : T) (ρ : Rho) (Q : T → Rho → Prop) : Prop := ∃ kvs k, Dk2 ρ t kvs ∧ vw ρ u = some (tupD k) ∧ Q (.d (.bool (neg != (lookD kvs k).isSome))) ρ
def wDi1 (neg : Bool) (ta tb : TwE) : TwE := w2 ta tb (diK1 neg)
def wDi2 (neg : Bool) (ta tb : TwE) : TwE := w2 ta tb (diK2 neg)
theorem xDi1 (h : ta ρ (fun t ρ1 => tb ρ1 (fun u ρ2 => diK1 neg t u ρ2 Q) E) E) : wDi1 neg ta tb ρ Q E := h
theorem xDi2 (h : ta ρ (fun t ρ1 => tb ρ1 (fun u ρ2 => diK2 neg t u ρ2 Q) E) E) : wDi2 neg ta tb ρ Q E := h
end
section
variable {X : Cx} {pos : Pos} {a b : Expr} {ta tb : TwE}
end
end TX

/-! More plain steps. -/
namespace TX
open PySem PySem.Spec L2
section
variable {ρ ρ' : Rho} {Q : T → Rho → Prop} {QI : List PyData → Rho → Prop} {E : ExK} {t u : T} {ts us : List T} {x y : PyData} {i j : Int} {k n r s : Nat} {p q : List Nat} {ds es : List PyData} {ta tb tc : TwE} {tas : TwA} {b : Bool}
/-! ### walks over tuples, zip, range of two -/
def itK (t : T) (ρ : Rho) (QI : List PyData → Rho → Prop) : Prop := ∃ xs, t = .d (.tuple xs) ∧ QI xs ρ
theorem xITup (h : ta ρ (fun t ρ1 => itK t ρ1 QI) E) : wITup ta ρ QI E := h
theorem xITupK (q : QI ds ρ) : itK (.d (.tuple ds)) ρ QI := ⟨ds, rfl, q⟩
def izK (ts : List T) (ρ : Rho) (QI : List PyData → Rho → Prop) : Prop := ∃ t u xs ys, ts = [t, u] ∧ flatL t = some xs ∧ flatL u = some ys ∧ QI (zipD xs ys) ρ
theorem xIZip (h : tas ρ (fun ts ρ1 => izK ts ρ1 QI) E) : wIZip tas ρ QI E := h
def ir2K (ts : List T) (ρ : Rho) (QI : List PyData → Rho → Prop) : Prop := ∃ i j : Int, ts = [.d (.int i), .d (.int j)] ∧ (-(2 ^ 62) ≤ i ∧ i < 2 ^ 62 ∧ -(2 ^ 62) ≤ j ∧ j < 2 ^ 62) ∧ QI (rangeD i (j - i).toNat) ρ
theorem xIR2 (h : tas ρ (fun ts ρ1 => ir2K ts ρ1 QI) E) : wIR2 tas ρ QI E := h
/-! ### is none -/
def isNn : PyData → Bool
  | .none => true
  | _ => false
theorem fIsN_of {neg : Bool} {x : PyData} : fIsN neg x .none (.bool (neg != isNn x)) := ⟨rfl, by cases x <;> rfl⟩
theorem xIsNK {neg : Bool} (h : vw ρ t = some x) (q : Q (.d (.bool (neg != isNn x))) ρ) : opK (fIsN neg) t (.d .none) ρ Q := ⟨x, .none, _, h, rfl, fIsN_of, q⟩
/-! ### methods -/
theorem xRev2 {ts : List T} (g : getT ρ r p = some (.l (ds.map T.d))) (q : Q (.d .none) (TX.putAt ρ r p (.l (ds.reverse.map T.d)))) : kRev (.a r p) [] ρ Q := ⟨r, p, ds, rfl, rfl, g, q⟩
end
theorem argV {ρ : Rho} {r : Nat} {t : T} {x : PyData} {io : List Nat} {i : Nat} {ts us : List T} (hi : io.contains i = false) (h : ρ[r]? = some (some t)) (e : erase t = some x) (hs : argsF io ρ true (i + 1) ts = some us) : argsF io ρ true i (.a r [] :: ts) = some (.d x :: us) := by
  unfold argsF argF
  have g : getT ρ r [] = some t := by unfold getT; rw [h]; rfl
  rw [hi, hs]
  simp only [g, e, Option.map_some]
theorem argD {ρ : Rho} {t : T} {x : PyData} {io : List Nat} {vu : Bool} {i : Nat} {ts us : List T} (hi : io.contains i = false) (ha : noAl t = true) (e : erase t = some x) (hs : argsF io ρ vu (i + 1) ts = some us) : argsF io ρ vu i (t :: ts) = some (.d x :: us) := by
  unfold argsF argF
  rw [hi, hs]
  cases t with
  | a r p => cases ha
  | raw v => cases e
  | fz v => cases e
  | _ => simp only [e, Option.map_some]
theorem argNil {ρ : Rho} {io : List Nat} {vu : Bool} {i : Nat} : argsF io ρ vu i [] = some [] := rfl
end TX

/-! list(range(n)); a dict of one pair of constants. -/
namespace TX
open PySem PySem.Spec L2 PyProof.Rows
section
variable {X : Cx} {p pos : Pos} {a b c e o i k v : Expr} {ta tb tc : TwE}
def wListR (ta : TwE) : TwE := fun ρ Q E => ta ρ (fun t ρ1 => ∃ n : Int, t = .d (.int n) ∧ RgOk 0 n ∧ Q (.l ((rangeD 0 n.toNat).map T.d)) ρ1) E
def lrK (t : T) (ρ : Rho) (Q : T → Rho → Prop) : Prop := ∃ n : Int, t = .d (.int n) ∧ RgOk 0 n ∧ Q (.l ((rangeD 0 n.toNat).map T.d)) ρ
theorem xListR {ρ : Rho} {Q : T → Rho → Prop} {E : ExK} (h : ta ρ (fun t ρ1 => lrK t ρ1 Q) E) : wListR ta ρ Q E := h
end
end TX

/-! is True; slices of tuples; in a tuple; d.get(k), k not in d. -/
namespace TX
open PySem PySem.Spec L2 PyProof.Rows
def fIsB : PyData → PyData → PyData → Prop := fun x y z => ∃ a b, x = .bool a ∧ y = .bool b ∧ z = .bool (decide (a = b))
section
variable {ρ : Rho} {Q : T → Rho → Prop} {E : ExK} {t u : T} {x y : PyData} {ds : List PyData} {a b : Bool}
theorem xIsB (h1 : vw ρ t = some (.bool a)) (h2 : vw ρ u = some (.bool b)) (q : Q (.d (.bool (decide (a = b)))) ρ) : opK fIsB t u ρ Q := ⟨_, _, _, h1, h2, ⟨a, b, rfl, rfl, rfl⟩, q⟩
end
/-! ### in a tuple -/
def fInT (neg : Bool) : PyData → PyData → PyData → Prop := fun x y z => ∃ ds, y = .tuple ds ∧ SeqAt.shaped x = true ∧ SeqAt.shaped y = true ∧ z = .bool (neg != (ds.any fun w => PyData.eqv w x))
def rInTX (K : PySem.W.Frag) (neg : Bool) : R2 := fun x y H Q => ∃ d ds, Rp K H x d ∧ Rp K H y (.tuple ds) ∧ SeqAt.shaped d = true ∧ SeqAt.shaped (.tuple ds) = true ∧ Q (.bl (neg != (ds.any fun z => PyData.eqv z d))) H
section
variable {X : Cx}
theorem room_in_shapedT {ds : List PyData} {d : PyData} {A : Around} (sd : SeqAt.shaped d = true) (hu : A.units + 65 < cLine) : A.units + 1 + min (PyData.depthAll ds) d.depth < cLine := by
  have : d.depth ≤ 64 := by
    have := (Bool.and_eq_true_iff.mp sd).2
    exact of_decide_eq_true this
  omega
theorem op_notinT (hu : X.A.units + 65 < cLine) : OpR X (compareOp .NotIn) (rInTX X.K true) := by
  intro pins s σ H x y v u Q I rx ry h
  obtain ⟨d, ds, hd, he, sd, se, q⟩ := h
  obtain ⟨as, r1, _⟩ := Rp.reads I d x v hd rx
  obtain ⟨bs, r2, _⟩ := Rp.reads I (.tuple ds) y u he ry
  exact SeqAt.notIn_tuple_reads r2 r1 (SeqAt.canLay_of_shaped se) (SeqAt.canLay_of_shaped sd) (room_in_shapedT sd hu) ⟨.bl _, H, I, rfl, by simpa using q⟩
theorem od_InT {K : PySem.W.Frag} {neg : Bool} : OpD K (rInTX K neg) (fInT neg) := by
  rintro H v u x y z Q h1 h2 ⟨ds, rfl, s1, s2, rfl⟩ q
  exact ⟨x, ds, h1, h2, s1, s2, q _ (.bl _)⟩
theorem xInT {ρ : Rho} {Q : T → Rho → Prop} {t u : T} {x : PyData} {ds : List PyData} {neg : Bool} (h1 : vw ρ t = some x) (h2 : vw ρ u = some (.tuple ds)) (s1 : SeqAt.shaped x = true) (s2 : SeqAt.shaped (.tuple ds) = true) (q : Q (.d (.bool (neg != (ds.any fun w => PyData.eqv w x)))) ρ) : opK (fInT neg) t u ρ Q := ⟨_, _, _, h1, h2, ⟨ds, rfl, s1, s2, rfl⟩, q⟩
end
/-! ### a tuple's slice -/
section
variable {X : Cx} {a b o e : Expr} {ta tb : TwE} {tl th : TwO} {lo hi : Option Expr} {pos p2 apos cpos : Pos}
def wSlT (ta : TwE) (tl th : TwO) : TwE := fun ρ Q E => ta ρ (fun t ρ1 => tl ρ1 (fun lo ρ2 => th ρ2 (fun hi ρ3 => ∃ xs, t = .d (.tuple xs) ∧ Q (.d (.tuple (cutD xs lo hi))) ρ3) E) E) E
def slTK (t : T) (lo hi : Option Int) (ρ : Rho) (Q : T → Rho → Prop) : Prop := ∃ xs, t = .d (.tuple xs) ∧ Q (.d (.tuple (cutD xs lo hi))) ρ
theorem xSlT {ρ : Rho} {Q : T → Rho → Prop} {E : ExK} (h : ta ρ (fun t ρ1 => tl ρ1 (fun lo ρ2 => th ρ2 (fun hi ρ3 => slTK t lo hi ρ3 Q) E) E) E) : wSlT ta tl th ρ Q E := h
theorem xSlTK {ρ : Rho} {Q : T → Rho → Prop} {lo hi : Option Int} {ds : List PyData} (q : Q (.d (.tuple (cutD ds lo hi))) ρ) : slTK (.d (.tuple ds)) lo hi ρ Q := ⟨_, rfl, q⟩
/-! ### d.get(k) -/
def dctTy (ρ : Rho) (t : T) : Prop := (∃ r p tk ks xs, t = .a r p ∧ getT ρ r p = some (.m tk ks xs)) ∨ ∃ ps, t = .d (.dict ps)
def gtK1 (t u : T) (ρ : Rho) (Q : T → Rho → Prop) : Prop := ∃ kvs k, Dk1 ρ t kvs ∧ vw ρ u = some (keyD k) ∧ Q (.d ((lookD kvs k).getD .none)) ρ
def gtK2 (t u : T) (ρ : Rho) (Q : T → Rho → Prop) : Prop := ∃ kvs k, Dk2 ρ t kvs ∧ vw ρ u = some (tupD k) ∧ Q (.d ((lookD kvs k).getD .none)) ρ
def wGt (k : T → T → Rho → (T → Rho → Prop) → Prop) (ta tb : TwE) : TwE := fun ρ Q E => ta ρ (fun t ρ1 => dctTy ρ1 t ∧ tb ρ1 (fun u ρ2 => k t u ρ2 Q) E) E
def wGt1 (ta tb : TwE) : TwE := wGt gtK1 ta tb
def wGt2 (ta tb : TwE) : TwE := wGt gtK2 ta tb
def gtA (tb : TwE) (k : T → T → Rho → (T → Rho → Prop) → Prop) (t : T) (ρ1 : Rho) (Q : T → Rho → Prop) (E : ExK) : Prop := dctTy ρ1 t ∧ tb ρ1 (fun u ρ2 => k t u ρ2 Q) E
theorem xGt1 {ρ : Rho} {Q : T → Rho → Prop} {E : ExK} (h : ta ρ (fun t ρ1 => gtA tb gtK1 t ρ1 Q E) E) : wGt1 ta tb ρ Q E := h
theorem xGt2 {ρ : Rho} {Q : T → Rho → Prop} {E : ExK} (h : ta ρ (fun t ρ1 => gtA tb gtK2 t ρ1 Q E) E) : wGt2 ta tb ρ Q E := h
theorem xGtA {ρ : Rho} {Q : T → Rho → Prop} {E : ExK} {k : T → T → Rho → (T → Rho → Prop) → Prop} {r : Nat} {p : List Nat} {tk : Bool} {ks : List PyData} {xs : List T} (g : getT ρ r p = some (.m tk ks xs)) (q : tb ρ (fun u ρ2 => k (.a r p) u ρ2 Q) E) : gtA tb k (.a r p) ρ Q E := ⟨.inl ⟨r, p, tk, ks, xs, rfl, g⟩, q⟩
theorem xGtD {ρ : Rho} {Q : T → Rho → Prop} {E : ExK} {k : T → T → Rho → (T → Rho → Prop) → Prop} {ps : List (PyData × PyData)} (q : tb ρ (fun u ρ2 => k (.d (.dict ps)) u ρ2 Q) E) : gtA tb k (.d (.dict ps)) ρ Q E := ⟨.inr ⟨ps, rfl⟩, q⟩
/-! ### k not in d -/
end
end TX

/-! a, b = a list; look-ups in dicts that may be empty. -/
namespace TX
open PySem PySem.Spec L2 PyProof.Rows
section
variable {X : Cx} {es : List Expr} {tgs : TwGs} {s1 : List Nat} {pos : Pos}
def wGLst (k : Nat) (t : TwGs) : TwG := fun x ρ Q E => ∃ xs, x = .list xs ∧ xs.length = k ∧ t xs ρ Q E
theorem lg_lst {kk n : Nat} (hc : X.calm = true) (h : LGs X s1 es tgs) (hn : (assignEach es X.env).length = n := by rfl) (hst : (assignEach es X.env).findIdx? (·.1) = none := by rfl) : LG X s1 (.Tuple es kk pos) (wGLst n tgs) := by
  refine ⟨fun x ρ Q Q' E E' k he ⟨xs, e, e2, q⟩ => ⟨xs, e, e2, h.mono _ _ _ _ _ _ k he q⟩, fun C W m hC hm tk => (pg_lst hc (h.run C W m hC hm tk) hn hst).imp fun v σ H Q ⟨O, ρ, x, R, rp, xs, e1, e2, q⟩ => ?_⟩
  subst e1
  cases rp with
  | lst h1 h2 => exact ⟨_, _, rfl, .of (msk_some h1).2, by rw [h2.length]; exact e2, O, ρ, xs, R, h2, q⟩
theorem xGLst {ρ : Rho} {E : ExK} {ds : List PyData} {k : Nat} {tg : TwGs} {N : Rho → Prop} (h : ds.length = k) (q : tg ds ρ N E) : wGLst k tg (.list ds) ρ N E := ⟨ds, rfl, h, q⟩
end
section
variable {X : Cx} {x : Str} {pos : Pos}
theorem le_gS {i : Str} (hg : Gl X x) (hm : ∃ k, X.mg x = some (.str i k)) (hd : (x == ("__debug__" : Str)) = false := by decide) : LE X (.Name x pos) (wC (.d (.str i))) := let ⟨k, h⟩ := hm; le_sc (.str i) (pe_glob hg h ⟨k, rfl⟩ hd)
end
/-! ### look-ups in dicts that may be empty -/
section
variable {X : Cx} {pins : List (Addr × Obj)} {σ : L2.St} {H : Hp} {s : Shared} {a : Addr} {y : V} {u : Value} {A : Around} {E : Value → Shared → Prop}
end
section
variable {X : Cx} {o e f i : Expr} {apos cpos : Pos} {td ty tx : TE}
end
/-! ### over trees -/
def Dk1E (ρ : Rho) (t : T) (kvs : List (Key × PyData)) : Prop := (∃ r p, t = .a r p ∧ getT ρ r p = some (mK1 kvs)) ∨ asD t = .d (.dict (kvs.map fun p => (keyD p.1, p.2)))
def Dk2E (ρ : Rho) (t : T) (kvs : List (List Key × PyData)) : Prop := (∃ r p, t = .a r p ∧ getT ρ r p = some (mK2 kvs)) ∨ asD t = .d (.dict (kvs.map fun p => (tupD p.1, p.2)))
def ge1 (t u : T) (ρ : Rho) (Q : T → Rho → Prop) : Prop := ∃ kvs k, Dk1E ρ t kvs ∧ vw ρ u = some (keyD k) ∧ Q (.d ((lookD kvs k).getD .none)) ρ
def ge2 (t u : T) (ρ : Rho) (Q : T → Rho → Prop) : Prop := ∃ kvs k, Dk2E ρ t kvs ∧ vw ρ u = some (tupD k) ∧ Q (.d ((lookD kvs k).getD .none)) ρ
def wGe1 (ta tb : TwE) : TwE := wGt ge1 ta tb
def wGe2 (ta tb : TwE) : TwE := wGt ge2 ta tb
section
variable {X : Cx} {a b o e : Expr} {ta tb : TwE} {pos apos cpos : Pos}
theorem xGe1 {ρ : Rho} {Q : T → Rho → Prop} {E : ExK} (h : ta ρ (fun t ρ1 => gtA tb ge1 t ρ1 Q E) E) : wGe1 ta tb ρ Q E := h
theorem xGe2 {ρ : Rho} {Q : T → Rho → Prop} {E : ExK} (h : ta ρ (fun t ρ1 => gtA tb ge2 t ρ1 Q E) E) : wGe2 ta tb ρ Q E := h
/-- k in d | k not in d -/
def ie1 (neg : Bool) (u t : T) (ρ : Rho) (Q : T → Rho → Prop) : Prop := ∃ kvs k, Dk1E ρ t kvs ∧ vw ρ u = some (keyD k) ∧ Q (.d (.bool (neg != (lookD kvs k).isSome))) ρ
def ie2 (neg : Bool) (u t : T) (ρ : Rho) (Q : T → Rho → Prop) : Prop := ∃ kvs k, Dk2E ρ t kvs ∧ vw ρ u = some (tupD k) ∧ Q (.d (.bool (neg != (lookD kvs k).isSome))) ρ
def wIe1 (neg : Bool) (ta tb : TwE) : TwE := w2 ta tb (ie1 neg)
def wIe2 (neg : Bool) (ta tb : TwE) : TwE := w2 ta tb (ie2 neg)
theorem xIe1 {ρ : Rho} {Q : T → Rho → Prop} {E : ExK} {neg : Bool} (h : ta ρ (fun t ρ1 => tb ρ1 (fun u ρ2 => ie1 neg t u ρ2 Q) E) E) : wIe1 neg ta tb ρ Q E := h
theorem xIe2 {ρ : Rho} {Q : T → Rho → Prop} {E : ExK} {neg : Bool} (h : ta ρ (fun t ρ1 => tb ρ1 (fun u ρ2 => ie2 neg t u ρ2 Q) E) E) : wIe2 neg ta tb ρ Q E := h
end
end TX

/-! Dicts by comprehensions: values data; {k: [] for ..}: values lists of one's own. -/
namespace TX
open PySem PySem.Spec L2 PyProof.Rows
section
variable {K : PySem.W.Frag} {C : Ctx} {n m : Nat} {σ : L2.St} {H : Hp} {O : Own} {ρ : Rho}
/-- the object of a tree on the way is replaced -/
theorem tmpUpd (R : Rel K C m σ H O ρ) (hn : C.N ≤ n) {D : Addr} {q0 : List Nat} {o' : HO} (oD : O D = .at n q0) (ow : ownable o') : Rel K C m σ (upd H D o') O ρ ∧ Frm C.N n H O (upd H D o') O := by
  have ne : ∀ {b}, O b = .free → b ≠ D := fun {b} z e => by subst e; rw [oD] at z; cases z
  have ne2 : ∀ {b}, O b = .foreign → b ≠ D := fun {b} z e => by subst e; rw [oD] at z; cases z
  refine ⟨⟨fun b o e1 e2 => ?_, fun b z => ?_, R.lt, R.inj, R.val, R.ln, R.lr, fun j u e => ?_, R.hN, R.fo, R.pz, R.sm⟩, ⟨fun b o e1 e2 => ⟨by rw [upd_ne (ne e2)]; exact e1, e2⟩, fun b r q e l => e, fun b o r q e1 e2 l1 l2 => ⟨by rw [upd_ne (fun z => by subst z; rw [oD] at e2; cases e2; omega)]; exact e1, e2⟩, fun b r q e _ _ => e⟩⟩
  · obtain ⟨z1, z2⟩ := R.fr b o e1 e2
    refine ⟨?_, z2⟩
    rcases e2 with e2 | e2
    · rw [upd_ne (ne (z2.trans e2))]; exact z1
    · rw [upd_ne (ne2 (z2.trans e2))]; exact z1
  · by_cases hb : b = D
    · subst hb; exact ⟨_, upd_same, ow⟩
    · obtain ⟨o, e, w⟩ := R.nt b z
      exact ⟨o, by rw [upd_ne hb]; exact e, w⟩
  · obtain ⟨v', h1, h2⟩ := R.sl j u e
    have hjN : j < C.N := R.slt e
    exact ⟨v', h1, Tr.move (r' := j) (p0 := []) (p1 := []) (fun b o e1 e2 => ⟨by rw [upd_ne (ne e2)]; exact e1, e2⟩) (fun b o q e1 e2 => ⟨by rw [upd_ne (fun z => by subst z; rw [oD] at e2; cases e2; omega)]; exact e1, e2⟩) u [] v' h2⟩
def setL (p : Addr) (r : Nat) (q : List Nat) (O : Own) : Own := fun b => if b = p then .at r q else O b
theorem setL_same {p : Addr} {r : Nat} {q : List Nat} : setL p r q O p = .at r q := by unfold setL; rw [if_pos rfl]
theorem setL_ne {p b : Addr} {r : Nat} {q : List Nat} (h : b ≠ p) : setL p r q O b = O b := by unfold setL; rw [if_neg h]
/-- a new object, at a place of a tree on the way -/
theorem allocAt (R : Rel K C m σ H O ρ) {p : Addr} {o : HO} {r0 : Nat} {q0 : List Nat} (hp : H p = none) (ho : ownable o) (h0 : C.N ≤ r0) (h1 : r0 < m) (hq : ∀ b, O b ≠ .at r0 q0) :
    Rel K C m σ (upd H p o) (setL p r0 q0 O) ρ ∧ (∀ b u, H b = some u → upd H p o b = some u ∧ setL p r0 q0 O b = O b) ∧ (∀ b r q, setL p r0 q0 O b = .at r q → (b = p ∧ r = r0 ∧ q = q0) ∨ (b ≠ p ∧ O b = .at r q)) := by
  have of := R.fresh hp
  have keep : ∀ b u, H b = some u → upd H p o b = some u ∧ setL p r0 q0 O b = O b := fun b u e => ⟨by rw [upd_ne (ne_of_none e hp)]; exact e, setL_ne (ne_of_none e hp)⟩
  have lb : ∀ b r q, O b = .at r q → setL p r0 q0 O b = .at r q := fun b r q e => by
    obtain ⟨u, hu, _⟩ := R.tracked e
    rw [(keep b u hu).2]; exact e
  have bl : ∀ b r q, setL p r0 q0 O b = .at r q → (b = p ∧ r = r0 ∧ q = q0) ∨ (b ≠ p ∧ O b = .at r q) := fun b r q e => by
    by_cases h : b = p
    · subst h; rw [setL_same] at e; cases e; exact .inl ⟨rfl, rfl, rfl⟩
    · rw [setL_ne h] at e; exact .inr ⟨h, e⟩
  refine ⟨⟨fun b u e1 e2 => ?_, fun b h => ?_, fun b r q e => ?_, fun a b r q e1 e2 => ?_, fun b r q e l => ?_, R.ln, R.lr, fun i t e => ?_, R.hN, fun b e => ?_, fun b j q e => ?_, R.sm⟩, keep, bl⟩
  · obtain ⟨z1, z2⟩ := R.fr b u e1 e2
    obtain ⟨k1, k2⟩ := keep b u z1
    exact ⟨k1, k2.trans z2⟩
  · by_cases hb : b = p
    · subst hb; exact ⟨o, upd_same, ho⟩
    · rw [setL_ne hb] at h
      obtain ⟨u, e, w⟩ := R.nt b h
      exact ⟨u, (keep b u e).1, w⟩
  · rcases bl b r q e with ⟨_, h, _⟩ | ⟨_, h⟩
    · omega
    · exact R.lt b r q h
  · rcases bl a r q e1 with ⟨h1, h2, h3⟩ | ⟨_, h⟩ <;> rcases bl b r q e2 with ⟨h1', h2', h3'⟩ | ⟨_, h'⟩
    · rw [h1, h1']
    · subst h2 h3; exact absurd h' (hq b)
    · subst h2' h3'; exact absurd h (hq a)
    · exact R.inj a b r q h h'
  · rcases bl b r q e with ⟨_, h, _⟩ | ⟨_, h⟩
    · omega
    · exact R.val b r q h l
  · obtain ⟨v, h2, h3⟩ := R.sl i t e
    exact ⟨v, h2, Tr.move (r' := i) (p0 := []) (p1 := []) (fun b u e1 e2 => ⟨(keep b u e1).1, (keep b u e1).2.trans e2⟩) (fun b u q e1 e2 => ⟨(keep b u e1).1, lb b i q e2⟩) t [] v h3⟩
  · by_cases hb : b = p
    · subst hb; rw [setL_same] at e; cases e
    · rw [setL_ne hb] at e; exact R.fo b e
  · obtain ⟨z1, z2⟩ := R.pz b j q e
    exact ⟨z1, lb b j q z2⟩
end
/-! ### {k: v for ..}, v data -/
section
variable {wi : TwI} {g : TwG} {tt : TwT} {tk tv : TwE}
def wDc (wi : TwI) (g : TwG) (tt : TwT) (tk tv : TwE) (vs : List Nat) : TwE := fun ρ Q E => wi ρ (fun xs ρ1 => noNd ρ1 vs ∧ xs.length ≤ 1000000 ∧ ∃ P : Nat → List (Key × PyData) → Rho → Prop, P 0 [] (wipeR ρ1 vs) ∧
  (∀ i x acc ρ2, xs[i]? = some x → P i acc ρ2 → g x ρ2 (fun ρ3 => tt ρ3 (fun b ρ4 => if b = true then tk ρ4 (fun t ρ5 => ∃ k, t = .d (keyD k) ∧ tv ρ5 (fun u ρ6 => noNd ρ6 vs ∧ ∃ y, erase u = some y ∧ P (i + 1) (putD acc k y) (wipeR ρ6 vs)) exN) exN else noNd ρ4 vs ∧ P (i + 1) acc (wipeR ρ4 vs)) exN) exN) ∧
  ∀ acc ρ2, P xs.length acc ρ2 → Q (mK1 acc) (restR ρ1 ρ2 vs)) E
theorem KRp.fre {K : PySem.W.Frag} {κ : Type} [DecidableEq κ] {H H' : Hp} {O O' : Own} (f : Fre H O H' O') {t : List (κ × V)} {u : List (κ × PyData)} (h : KRp K (msk O H) t u) : KRp K (msk O' H') t u :=
  KRp.mono (fun b o e => by obtain ⟨e1, e2⟩ := msk_some e; obtain ⟨z1, z2⟩ := f b o e2 e1; rw [msk_of z2]; exact z1) h
end
section
variable {X : Cx} {kx vx tg iter : Expr} {ifs : List Expr} {scope : Scope} {own : List (Str × Nat)} {pos : Pos} {wi : TwI} {g : TwG} {tt : TwT} {tk tv : TwE}
end
end TX

/-! {k: [] for ..}: the lists are the dict's own; d[k] as a place. -/
namespace TX
open PySem PySem.Spec L2 PyProof.Rows
section
variable {wi : TwI} {g : TwG} {tk : TwE}
def mE (acc : List Int) : T := .m false (acc.map PyData.int) (acc.map fun _ => .l [])
def wDcL (wi : TwI) (g : TwG) (tk : TwE) (vs : List Nat) : TwE := fun ρ Q E => wi ρ (fun xs ρ1 => noNd ρ1 vs ∧ xs.length ≤ 1000000 ∧ ∃ P : Nat → List Int → Rho → Prop, P 0 [] (wipeR ρ1 vs) ∧
  (∀ i x acc ρ2, xs[i]? = some x → P i acc ρ2 → g x ρ2 (fun ρ3 => tk ρ3 (fun t ρ5 => noNd ρ5 vs ∧ ∃ k, t = .d (.int k) ∧ k ∉ acc ∧ P (i + 1) (acc ++ [k]) (wipeR ρ5 vs)) exN) exN) ∧
  ∀ acc ρ2, P xs.length acc ρ2 → Q (mE acc) (restR ρ1 ρ2 vs)) E
theorem wDcL_mono {vs : List Nat} (hi : MonE wi) : MonE (wDcL wi g tk vs) := fun ρ Q Q' E E' h he q => hi ρ _ _ E E' (fun xs ρ1 ⟨h1, h2, P, p0, ps, pd⟩ => ⟨h1, h2, P, p0, ps, fun acc ρ2 z => h _ _ (pd acc ρ2 z)⟩) he q
def kl (acc : List Int) (ps : List Addr) : List (Key × V) := List.zipWith (fun k p => (.inl k, .ref p)) acc ps
theorem kl_snoc : ∀ {acc : List Int} {ps : List Addr} (k : Int) (p : Addr), acc.length = ps.length → kl (acc ++ [k]) (ps ++ [p]) = kl acc ps ++ [(.inl k, .ref p)]
  | [], [], _, _, _ => rfl
  | [], _ :: _, _, _, h => by simp at h
  | _ :: _, [], _, _, h => by simp at h
  | a :: acc, b :: ps, k, p, h => by
    simp only [List.cons_append, kl, List.zipWith_cons_cons]
    have := kl_snoc (acc := acc) (ps := ps) k p (by simpa using h)
    unfold kl at this
    rw [this]
theorem kl_keys : ∀ {acc : List Int} {ps : List Addr}, acc.length = ps.length → (kl acc ps).map (fun q => keyD q.1) = acc.map PyData.int
  | [], [], _ => rfl
  | [], _ :: _, h => by simp at h
  | _ :: _, [], h => by simp at h
  | a :: acc, b :: ps, h => by
    have := kl_keys (acc := acc) (ps := ps) (by simpa using h)
    simp only [kl, List.zipWith_cons_cons, List.map_cons] at this ⊢
    rw [this]; rfl
theorem kl_vals : ∀ {acc : List Int} {ps : List Addr}, acc.length = ps.length → (kl acc ps).map (·.2) = ps.map V.ref
  | [], [], _ => rfl
  | [], _ :: _, h => by simp at h
  | _ :: _, [], h => by simp at h
  | a :: acc, b :: ps, h => by
    have := kl_vals (acc := acc) (ps := ps) (by simpa using h)
    simp only [kl, List.zipWith_cons_cons, List.map_cons] at this ⊢
    rw [this]
theorem kl_len {acc : List Int} {ps : List Addr} (h : acc.length = ps.length) : (kl acc ps).length = acc.length := by simp [kl, h]
theorem kl_mem : ∀ {acc : List Int} {ps : List Addr} {q : Key × V}, q ∈ kl acc ps → ∃ k ∈ acc, q.1 = .inl k
  | [], _, _, h => by simp [kl] at h
  | _ :: _, [], _, h => by simp [kl] at h
  | a :: acc, b :: ps, q, h => by
    simp only [kl, List.zipWith_cons_cons, List.mem_cons] at h
    rcases h with rfl | h
    · exact ⟨a, by simp, rfl⟩
    · obtain ⟨k, h1, h2⟩ := kl_mem (acc := acc) (ps := ps) h
      exact ⟨k, by simp [h1], h2⟩
def tNewE : TE := fun _ H Q => ∀ p, H p = none → Q (.ref p) (upd H p (.lst []))
theorem pe_newE {X : Cx} {pos : Pos} : PE X (.List [] pos) tNewE := (pe_lst pa_nil).imp fun σ H Q h => ⟨Nat.zero_le _, h⟩
theorem dcl_run {K : PySem.W.Frag} {C : Ctx} {W : WX} {n : Nat} {vs : List Nat} {σ : L2.St} {H : Hp} {Q : VK} (hi : MonE wi) (hg : MonG g) (hk : MonE tk) (hn : C.N ≤ n) (hv : ∀ j ∈ vs, j < C.N)
    (h : lfE K C W n (wDcL wi g tk vs) σ H Q) : tDc (lfI K C W n wi) (lfG K C (fun _ _ _ _ => False) vs (n + 1) g) (lfT K C (fun _ _ _ _ => False) (n + 1) wYes) (lfE K C (fun _ _ _ _ => False) (n + 1) tk) tNewE vs σ H Q := by
  obtain ⟨O, ρ, R, q⟩ := h
  refine ⟨O, ρ, R, hi ρ _ _ _ _ (fun xs ρ1 ⟨nn, sz, P, p0, ps, pd⟩ => ?_) (fun _ _ z => z) q⟩
  intro J H1 O1 R1 F1 Y D hD
  obtain ⟨RA, FA, UA⟩ := R1.alloc (o := .dK []) hD trivial
  refine ⟨fun i m H2 => m = xs.length - i ∧ i ≤ xs.length ∧ ∃ O2 ρ2 acc as, Rel K C (n + 1) (wipe σ vs) H2 O2 ρ2 ∧ Frm C.N n H1 O1 H2 O2 ∧ O2 D = .at n [] ∧ (∀ b q, O2 b = .at n q → (b = D ∧ q = []) ∨ ∃ i, q = [i] ∧ as[i]? = some b) ∧ H2 D = some (.dK (kl acc as)) ∧ acc.length = as.length ∧ (∀ i p, as[i]? = some p → O2 p = .at n [i] ∧ H2 p = some (.lst [])) ∧ acc.length ≤ i ∧ P i acc ρ2 ∧ ∀ j ∈ vs, ∀ t, ρ2[j]? ≠ some (some t),
    ⟨_, rfl, Nat.zero_le _, _, wipeR ρ1 vs, [], [], relWipe RA nn rfl, FA, lay_same, fun b q e => .inl (UA b q e), upd_same, rfl, fun i p e => by simp at e, Nat.le_refl _, p0, fun j hj t => by rw [wipeR_get, if_pos hj]; split <;> simp⟩, ?_⟩
  rintro i m H2 ⟨rfl, hi', O2, ρ2, acc, as, R2, F2, oD, uD, hH, hl, ch, al, p, hw⟩
  by_cases hlt : i < xs.length
  · have ex : xs[i]? = some xs[i] := List.getElem?_eq_getElem hlt
    refine .inr ⟨Y.go i _ H2 O2 F2.fre ex, fun H6 => ∃ O6 ρ6 acc6 as6, Rel K C (n + 1) (wipe σ vs) H6 O6 ρ6 ∧ Frm C.N n H1 O1 H6 O6 ∧ O6 D = .at n [] ∧ (∀ b q, O6 b = .at n q → (b = D ∧ q = []) ∨ ∃ i, q = [i] ∧ as6[i]? = some b) ∧ H6 D = some (.dK (kl acc6 as6)) ∧ acc6.length = as6.length ∧ (∀ i p, as6[i]? = some p → O6 p = .at n [i] ∧ H6 p = some (.lst [])) ∧ acc6.length ≤ i + 1 ∧ P (i + 1) acc6 ρ6 ∧ ∀ j ∈ vs, ∀ t, ρ6[j]? ≠ some (some t),
      fun H6 h6 => ⟨xs.length - (i + 1), by omega, rfl, hlt, h6⟩, fun v H3 y => ?_⟩
    obtain ⟨hu, rp⟩ := Y.yld i _ v H2 O2 H3 F2.fre ex y R2.nt
    obtain ⟨R3, kp⟩ := rel_yield R2 hu
    have F3 : Frm C.N (n + 1) H2 O2 H3 O2 := ⟨fun b o e1 e2 => ⟨kp b o e1, e2⟩, fun _ _ _ e _ => e, fun b o r p e1 e2 _ _ => ⟨kp b o e1, e2⟩, fun _ _ _ e _ _ => e⟩
    have nolab : ∀ {b r q}, O2 b = .at r q → r < C.N → r ∉ vs := fun {b r q} e l hr => by
      obtain ⟨t, z, h1, _⟩ := R2.val b r q e l
      exact hw r hr t h1
    refine ⟨O2, ρ2, xs[i], R3, rp, hg _ _ _ _ _ _ (fun ρ3 q3 => ?_) noneW (ps i _ acc ρ2 ex p)⟩
    intro σ4 H4 O4 R4 F4 w4
    have F24 : Frm C.N (n + 1) H2 O2 H4 O4 := ⟨F3.fre.trans F4.fre, fun b r q e l => F4.pl b r q e l (nolab e l), fun b o r q e1 e2 l1 l2 => F4.tm b o r q (kp b o e1) e2 l1 l2, fun b r q e l1 l2 => F4.nw b r q e l1 l2⟩
    have ww : wipe σ4 vs = wipe σ vs := w4.trans (wipe_twice σ vs)
    refine ⟨ww, O4, ρ3, R4, ?_⟩
    show ∀ H' O', Rel K C (n + 1) σ4 H' O' ρ3 → Frm C.N (n + 1) H4 O4 H' O' → _
    intro H5 O5 R5 F5
    have F25 := F24.trans F5 (Nat.le_refl _)
    rw [if_pos rfl]
    refine ⟨O5, ρ3, R5, hk ρ3 _ _ _ _ (fun t ρ5 q5 => ?_) noneW q3⟩
    intro kv H6 O6 R6 F6 V6
    obtain ⟨nn5, k, ek, hno, q5⟩ := q5
    subst ek
    have F26 := F25.trans F6 (Nat.le_refl _)
    have kvk : kv = kV (.inl k) := rp_int (val_d V6)
    intro p0 hp0
    have R7 := R6.cut (n := n + 1) (Nat.le_succ_of_le hn)
    have F67 : Frm C.N (n + 1) H6 O6 H6 (cut (n + 1) O6) := frm_cut C.N (n + 1) H6 O6 (Nat.le_succ_of_le hn)
    have F27 : Frm C.N (n + 1) H2 O2 H6 (cut (n + 1) O6) := F26.trans F67 (Nat.le_refl _)
    -- what stands
    have tmk : ∀ {b o q}, H2 b = some o → O2 b = .at n q → H6 b = some o ∧ cut (n + 1) O6 b = .at n q := fun e1 e2 => F27.tm _ _ n _ e1 e2 hn (Nat.lt_succ_self n)
    have nwk : ∀ b q, cut (n + 1) O6 b = .at n q → O2 b = .at n q := fun b q e => F27.nw b n q e hn (Nat.lt_succ_self n)
    obtain ⟨hD7, oD7⟩ := tmk hH oD
    have nol : ∀ b, cut (n + 1) O6 b ≠ .at n [acc.length] := fun b e => by
      rcases uD b _ (nwk b _ e) with ⟨_, z⟩ | ⟨j, z1, z2⟩
      · cases z
      · cases z1
        have := (List.getElem?_eq_some_iff.mp z2).1
        omega
    obtain ⟨R8, kp8, bl8⟩ := allocAt (o := .lst []) R7 hp0 trivial hn (Nat.lt_succ_self n) nol
    obtain ⟨hD8, oD8⟩ := kp8 D _ hD7
    rw [oD7] at oD8
    obtain ⟨R9, F9⟩ := tmpUpd (o' := .dK (putK (kl acc as) (.inl k) (.ref p0))) R8 hn oD8 trivial
    have pk : putK (kl acc as) (.inl k) (.ref p0) = kl (acc ++ [k]) (as ++ [p0]) := by
      rw [kl_snoc k p0 hl]
      unfold putK
      rw [if_neg]
      intro z
      obtain ⟨q, hq, e⟩ := List.any_eq_true.mp z
      obtain ⟨k', h1, h2⟩ := kl_mem hq
      have e' := of_decide_eq_true e
      rw [h2] at e'
      injection e' with e'
      exact hno (e' ▸ h1)
    have RW := relWipe (σ2 := σ4) R9 nn5 rfl
    rw [ww] at RW
    refine ⟨_, .inl k, kvk, hD8, by rw [kl_len hl, sizeLine_eq]; omega, ?_⟩
    have F68 : Frm C.N n H6 (cut (n + 1) O6) (upd H6 p0 (.lst [])) (setL p0 n [acc.length] (cut (n + 1) O6)) := ⟨fun b o e1 e2 => ⟨(kp8 b o e1).1, (kp8 b o e1).2.trans e2⟩, fun b r q e l => by
        obtain ⟨o, ho, _⟩ := R7.tracked e
        exact (kp8 b o ho).2.trans e, fun b o r q e1 e2 _ _ => ⟨(kp8 b o e1).1, (kp8 b o e1).2.trans e2⟩, fun b r q e l1 l2 => by
        rcases bl8 b r q e with ⟨_, h, _⟩ | ⟨_, h⟩
        · omega
        · exact h⟩
    have pD : p0 ≠ D := fun z => by subst z; rw [hD7] at hp0; cases hp0
    refine ⟨_, wipeR ρ5 vs, acc ++ [k], as ++ [p0], RW, ((F2.trans (F27.le (Nat.le_succ n)) (Nat.le_refl _)).trans F68 (Nat.le_refl _)).trans F9 (Nat.le_refl _), oD8, fun b q e => ?_, by rw [upd_same, pk], by simp [hl], fun j a e => ?_, by simp; omega, q5, fun j hj t => by rw [wipeR_get, if_pos hj]; split <;> simp⟩
    · rcases bl8 b n q e with ⟨rfl, _, rfl⟩ | ⟨_, h⟩
      · exact .inr ⟨acc.length, rfl, by rw [hl]; simp⟩
      · rcases uD b q (nwk b q h) with z | ⟨j, z1, z2⟩
        · exact .inl z
        · exact .inr ⟨j, z1, by rw [List.getElem?_append_left (List.getElem?_eq_some_iff.mp z2).1]; exact z2⟩
    · by_cases hj : j < as.length
      · rw [List.getElem?_append_left hj] at e
        obtain ⟨c1, c2⟩ := ch j a e
        obtain ⟨d1, d2⟩ := tmk c2 c1
        obtain ⟨e1, e2⟩ := kp8 a _ d1
        have : a ≠ D := fun z => by subst z; rw [oD] at c1; cases c1
        exact ⟨e2.trans d2, by rw [upd_ne this]; exact e1⟩
      · rw [List.getElem?_append_right (by omega)] at e
        have hj0 : j - as.length = 0 := by
          cases z : j - as.length with
          | zero => rfl
          | succ x => rw [z] at e; simp at e
        rw [hj0] at e
        simp at e
        subst e
        have : j = acc.length := by omega
        subst this
        exact ⟨setL_same, by rw [upd_ne pD]; exact upd_same⟩
  · have e : i = xs.length := by omega
    subst e
    refine .inl ⟨Y.stop H2 O2 F2.fre, pd acc ρ2 p (.ref D) H2 O2 (relBack R1 nn R2 hw F2.fre) (F1.trans F2 (Nat.le_refl _)) ⟨.mk oD hH (kl_keys hl).symm (TrAll.of_get (by rw [kl_vals hl]; simp [hl]) fun i v t e1 e2 => ?_), fun b q e => ?_⟩⟩
    · rw [kl_vals hl, List.getElem?_map] at e1
      rw [List.getElem?_map] at e2
      cases z : as[i]? with
      | none => rw [z] at e1; cases e1
      | some a =>
        rw [z] at e1; cases e1
        cases z2 : acc[i]? with
        | none => rw [z2] at e2; cases e2
        | some k =>
          rw [z2] at e2; cases e2
          obtain ⟨c1, c2⟩ := ch i a z
          exact .l (by simpa using c1) c2 .nil
    · rcases uD b q e with ⟨_, rfl⟩ | ⟨j, rfl, z⟩
      · exact ⟨_, rfl, rfl⟩
      · have hj := (List.getElem?_eq_some_iff.mp z).1
        refine ⟨.l [], ?_, rfl⟩
        unfold subT kid mE
        simp only [List.getElem?_map]
        rw [List.getElem?_eq_getElem (by omega)]
        rfl
end
section
variable {X : Cx} {kx tg iter : Expr} {scope : Scope} {own : List (Str × Nat)} {pos pos2 : Pos} {wi : TwI} {g : TwG} {tk : TwE}
end
end TX

/-! d[k]: a place in a dict of one's own whose values are one's own. -/
namespace TX
open PySem PySem.Spec L2 PyProof.Rows
/-- the place of the first such key -/
def kix (ks : List Int) (k : Int) : Nat := match ks with
  | [] => 0
  | c :: r => if c = k then 0 else kix r k + 1
theorem kix_val : ∀ {kvs : List (Key × V)} {ks : List Int} {k : Int} {ts : List T} {K : PySem.W.Frag} {H : Hp} {O : Own} {r : Nat} {p : List Nat} {i : Nat}, ks.map PyData.int = kvs.map (fun q => keyD q.1) → TrAll K H O r p i (kvs.map (·.2)) ts → k ∈ ks →
    ∃ v c, valV kvs (.inl k) = some v ∧ ts[kix ks k]? = some c ∧ Tr K H O r (p ++ [i + kix ks k]) v c
  | [], ks, k, ts, K, H, O, r, p, i, e, t, hk => by
    cases ks with
    | nil => cases hk
    | cons a b => simp at e
  | q :: kvs, [], k, ts, K, H, O, r, p, i, e, t, hk => by cases hk
  | q :: kvs, c :: ks, k, ts, K, H, O, r, p, i, e, t, hk => by
    simp only [List.map_cons, List.cons.injEq] at e
    have e1 : q.1 = .inl c := (keyD_inj (a := .inl c) (b := q.1) e.1).symm
    cases t with
    | cons t1 t2 =>
      rename_i u us
      unfold kix
      by_cases h : c = k
      · subst h
        rw [if_pos rfl]
        refine ⟨q.2, u, ?_, rfl, by simpa using t1⟩
        unfold valV
        simp [e1]
      · rw [if_neg h]
        obtain ⟨v, c', h1, h2, h3⟩ := kix_val (k := k) e.2 t2 ((List.mem_cons.mp hk).resolve_left fun z => h z.symm)
        refine ⟨v, c', ?_, by simpa using h2, ?_⟩
        · unfold valV at h1 ⊢
          rw [List.find?_cons]
          have : ¬ q.1 = .inl k := fun z => by rw [e1] at z; injection z with z; exact h z
          simp only [this, decide_false]
          exact h1
        · rw [show i + (kix ks k + 1) = i + 1 + kix ks k by omega]; exact h3
def dpl (t u : T) (ρ : Rho) (Q : T → Rho → Prop) : Prop := ∃ r p ks ts k c, t = .a r p ∧ getT ρ r p = some (.m false (List.map PyData.int ks) ts) ∧ vw ρ u = some (.int k) ∧ k ∈ ks ∧ ts[kix ks k]? = some c ∧ isNode c = true ∧ Q (.a r (p ++ [kix ks k])) ρ
def wDpl (ta tb : TwE) : TwE := w2 ta tb dpl
section
variable {X : Cx} {a b : Expr} {ta tb : TwE} {pos : Pos}
theorem xDpl {ρ : Rho} {Q : T → Rho → Prop} {E : ExK} (h : ta ρ (fun t ρ1 => tb ρ1 (fun u ρ2 => dpl t u ρ2 Q) E) E) : wDpl ta tb ρ Q E := h
theorem xDplK {ρ : Rho} {Q : T → Rho → Prop} {u c : T} {r : Nat} {p : List Nat} {ks : List Int} {ts : List T} {k : Int} (g : getT ρ r p = some (.m false (ks.map PyData.int) ts)) (e : vw ρ u = some (.int k)) (hk : k ∈ ks) (hc : ts[kix ks k]? = some c) (hn : isNode c = true) (q : Q (.a r (p ++ [kix ks k])) ρ) : dpl (.a r p) u ρ Q := ⟨r, p, ks, ts, k, c, rfl, g, e, hk, hc, hn, q⟩
theorem le_dpl (hu : X.A.units + 1 < cLine) (ha : LE X a ta) (hb : LE X b tb) (hs : NoSl b := by exact fun _ _ => rfl) : LE X (.Subscript a b pos) (wDpl ta tb) := by
  refine ⟨w2_mono ha.mono hb.mono fun t u ρ Q Q' h ⟨r, p, ks, ts, k, c, h1, h2, h3, h4, h5, h6, q⟩ => ⟨r, p, ks, ts, k, c, h1, h2, h3, h4, h5, h6, h _ _ q⟩, fun C W n hC hn tk => (pe_dget (pos := pos) hu (ha.run C W n hC hn tk) (hb.run C W (n + 1) hC (by omega) tk) hs).imp fun σ H Q h => ?_⟩
  refine two (r := fun x y H Q => ∃ ad v, x = .ref ad ∧ DGet H ad y (some v) ∧ Q v H) ha.mono hb.mono hn h fun O ρ2 t u v w H2 O2 R2 F V1 V2 ⟨r, p, ks, ts, k, c, e1, g, e2, hk, hc, hnd, q⟩ => ?_
  subst e1
  have kw : w = .int k := rp_int (R2.viewH V2 e2)
  subst kw
  obtain ⟨⟨ad, rfl, ea, _⟩, _⟩ := V1
  have tr := R2.alias g rfl ea
  cases tr with
  | mk h1 h2 h3 h4 =>
    obtain ⟨v', c', z1, z2, z3⟩ := kix_val h3 h4 hk
    rw [hc] at z2; cases z2
    refine ⟨ad, v', rfl, .inl ⟨_, .inl k, .inl h2, rfl, z1.symm⟩, ?_⟩
    obtain ⟨a', rfl, ha'⟩ := tr_root z3 hnd
    rw [Nat.zero_add] at ha'
    have hrN : r < C.N := let ⟨_, e8, _⟩ := getT_some g; R2.slt e8
    exact q _ H2 _ ((R2.cut hn).up (Nat.le_succ _)) (F.trans (frm_cut C.N n H2 O2 hn) (Nat.le_refl _)) ⟨⟨a', rfl, cut_at.mpr ⟨ha', Nat.lt_of_lt_of_le hrN hn⟩, Nat.lt_of_lt_of_le hrN hn⟩, fun b q z => Nat.lt_irrefl _ (cut_at.mp z).2⟩
end
end TX

/-! name = {.. for ..}. -/
namespace TX
open PySem PySem.Spec L2 PyProof.Rows
section
variable {X : Cx} {i : Nat} {y : Str} {py : Pos} {kx vx tg iter : Expr} {ifs : List Expr} {scope : Scope} {own : List (Str × Nat)} {pos spos : Pos} {wi : TI} {g : TG} {tt : TT} {tk tv : TE}
theorem swd_true {gs : List Comprehension} {l : Nat} {env : Env} (hk : env.scope.kind = .function) (hy : env.scope.names.lookup y = some .local) (hl : (py.line == pos.line) = true)
    (ha : (scope.names.any fun (n, k) => n == y && (k == .local || k == .cell)) = false) : swapsWith (.DictComp kx vx gs scope pos) (some (.Name y py)) l env = pure true := by
  have ky : env.kindOf y = some .local := hy
  have hb : env.blockKind = .function := by unfold Env.blockKind; rw [hk]; rfl
  unfold swapsWith
  simp only [hb, ky, ha, Expr.pos, hl]
  rfl
theorem ps_setDc (hc : X.calm = true) (hN : X.N.Nodup) (hy : X.N[i]? = some y) (hyl : X.env.scope.names.lookup y = some .local)
    (hsw : swapsWith (.DictComp kx vx [⟨tg, iter, ifs, 0⟩] scope pos) (some (.Name y py)) spos.line X.env = pure true) (hi : PI X tg iter wi) (ok : BlkOk X.N X.env.scope scope own)
    (hg : ∀ (s : Shared) (H : Hp) (C : Addr) (cl : List (Str × Addr)) (fp : List Addr), PG (X.blk s H scope (compEnvC scope cl C X.env) fp) tg g) (ht : ∀ (s : Shared) (H : Hp) (C : Addr) (cl : List (Str × Addr)) (fp : List Addr), PTs (X.blk s H scope (compEnvC scope cl C X.env) fp) ifs tt)
    (hk : ∀ (s : Shared) (H : Hp) (C : Addr) (cl : List (Str × Addr)) (fp : List Addr), PE (X.blk s H scope (compEnvC scope cl C X.env) fp) kx tk)
    (he : ∀ (s : Shared) (H : Hp) (C : Addr) (cl : List (Str × Addr)) (fp : List Addr), PE (X.blk s H scope (compEnvC scope cl C X.env) fp) vx tv) (hs : ∀ x, foldedSetIterable iter X.env x = pure x := by intro _; rfl) :
    PS X (.Assign [.Name y py] (.DictComp kx vx [⟨tg, iter, ifs, 0⟩] scope pos) spos) (tAsg (tDc wi g tt tk tv (own.map (·.2))) (gName i)) := by
  refine ⟨fun pins s σ H D I h => ?_⟩
  rw [exec_Assign_Name_used _ _ _ _ hsw]
  refine wpAny_bind (wpAny_standAt (wpAny_bind ?_))
  show wpAny _ X.A (do let _ ← comprehension (.DictComp kx vx [⟨tg, iter, ifs, 0⟩] scope pos) scope X.env (firstIterPos [⟨tg, iter, ifs, 0⟩] pos) newDict false (eval iter X.env) (some (assign (.Name y py) X.env))) _ _ s
  have h : tDc wi g tt tk tv (own.map (·.2)) σ H (fun x H1 => gName i x σ H1 D.nx) := h
  refine wpAny_bind (thn (dc_core (Qf := fun _ s' => SP X pins D .next s') hc hN I hi ok hg ht hk he hs h fun L C s' m H' I' q hn f => ?_) fun _ s' hq => wpAny_pure (wpAny_pure hq))
  show wpAny _ _ (assign (.Name y py) X.env (.ref L)) _ _ _
  refine wpAny_assign_Name (store_ok2 (v := V.ref L) I' hN hy (.inl hyl) rfl (fun s2 I2 ⟨a, sb, ha⟩ => ?_) (.inr hyl))
  obtain ⟨f0, f1, f2, f3, f4, f5⟩ := f
  have haC : C ≠ a := by
    rcases ha with z | z
    · rw [z]; exact f1
    · exact fun e => f4 y a z e.symm
  exact ⟨m, hn.sameBut sb haC, fun h3 sb3 => ⟨_, H', I2.turned (t' := s2.toks) (fun b o hb e => (sb3.2 b hb).trans e) f0 f1 f3 f4 f5, q⟩⟩
end
section
variable {X : Cx} {io : List Nat} {kx vx tg iter : Expr} {ifs : List Expr} {scope : Scope} {own : List (Str × Nat)} {pos pos2 : Pos} {wi : TwI} {g : TwG} {tt : TwT} {tk tv : TwE}
theorem ls_setDcL {i : Nat} {y : Str} {py spos : Pos} (hc : X.calm = true) (hN : X.N.Nodup) (hy : X.N[i]? = some y) (hyl : X.env.scope.names.lookup y = some .local) (hsw : swapsWith (.DictComp kx (.List [] pos2) [⟨tg, iter, [], 0⟩] scope pos) (some (.Name y py)) spos.line X.env = pure true) (hi : LI X tg iter wi) (ok : BlkOk X.N X.env.scope scope own)
    (hg : ∀ (s : Shared) (H : Hp) (C : Addr) (cl : List (Str × Addr)) (fp : List Addr), LG (X.blk s H scope (compEnvC scope cl C X.env) fp) (own.map (·.2)) tg g)
    (hk : ∀ (s : Shared) (H : Hp) (C : Addr) (cl : List (Str × Addr)) (fp : List Addr), LE (X.blk s H scope (compEnvC scope cl C X.env) fp) kx tk) (hio : i ∉ io := by decide) (hs : ∀ x, foldedSetIterable iter X.env x = pure x := by intro _; rfl) :
    LS X io (.Assign [.Name y py] (.DictComp kx (.List [] pos2) [⟨tg, iter, [], 0⟩] scope pos) spos) (wSet i (wDcL wi g tk (own.map (·.2)))) := by
  refine ⟨fun D D' ρ l q => wDcL_mono hi.mono ρ _ _ _ _ (fun t ρ1 ⟨h, q⟩ => ⟨h, l.nx _ q⟩) l.ex q, fun C W hC hio' tk' hp => ?_⟩
  have hn := Nat.le_refl C.N
  refine ⟨fun pins s0 σ H D I h => (ps_setDc (g := lfG X.K C (fun _ _ _ _ => False) (own.map (·.2)) (C.N + 1) g) (tt := lfT X.K C (fun _ _ _ _ => False) (C.N + 1) wYes) (tk := lfE X.K C (fun _ _ _ _ => False) (C.N + 1) tk) (tv := tNewE) hc hN hy hyl hsw (hi.run C W C.N hC hn tk') ok (fun s H c cl fp => (hg s H c cl fp).run C (fun _ _ _ _ => False) (C.N + 1) hC (Nat.le_succ_of_le hn) takes0) (fun s H c cl fp => lts_nil.run C (fun _ _ _ _ => False) (C.N + 1) hC (Nat.le_succ_of_le hn) takes0)
    (fun s H c cl fp => (hk s H c cl fp).run C (fun _ _ _ _ => False) (C.N + 1) hC (Nat.le_succ_of_le hn) takes0) (fun s H c cl fp => pe_newE) hs).run pins s0 σ H D I ?_⟩
  obtain ⟨O, ρ, R, q⟩ := h
  refine dcl_run (W := W) (Q := fun x H1 => gName i x σ H1 D.nx) hi.mono (hg s0 H 0 [] []).mono (hk s0 H 0 [] []).mono hn (fun j hj => by
    obtain ⟨⟨x, j'⟩, h1, rfl⟩ := List.mem_map.mp hj
    rw [hC]
    exact (List.getElem?_eq_some_iff.mp (ok.ix _ h1)).1) ⟨O, ρ, R, wDcL_mono hi.mono ρ _ _ _ _ (fun t ρ1 ⟨ha, q⟩ => ?_) (fun _ _ z => z) q⟩
  intro v H1 O1 R1 F1 V1
  obtain ⟨O', R', F'⟩ := relStoreT R1 (nlt hC hy) (by rw [hio']; exact hio) V1 ha
  exact q _ H1 O' R' (F1.fre.trans F')
end
section
variable {ρ : Rho} {Q : T → Rho → Prop} {E : ExK} {wi : TwI} {g : TwG} {tt : TwT} {tk tv : TwE} {vs : List Nat}
def dcLK (g : TwG) (tk : TwE) (vs : List Nat) (Q : T → Rho → Prop) (xs : List PyData) (ρ1 : Rho) : Prop := noNd ρ1 vs ∧ xs.length ≤ 1000000 ∧ ∃ P : Nat → List Int → Rho → Prop, P 0 [] (wipeR ρ1 vs) ∧
  (∀ i x acc ρ2, xs[i]? = some x → P i acc ρ2 → g x ρ2 (fun ρ3 => tk ρ3 (fun t ρ5 => noNd ρ5 vs ∧ ∃ k, t = .d (.int k) ∧ k ∉ acc ∧ P (i + 1) (acc ++ [k]) (wipeR ρ5 vs)) exN) exN) ∧
  ∀ acc ρ2, P xs.length acc ρ2 → Q (mE acc) (restR ρ1 ρ2 vs)
theorem xDcL (h : wi ρ (dcLK g tk vs Q) E) : wDcL wi g tk vs ρ Q E := h
def dcK (g : TwG) (tt : TwT) (tk tv : TwE) (vs : List Nat) (Q : T → Rho → Prop) (xs : List PyData) (ρ1 : Rho) : Prop := noNd ρ1 vs ∧ xs.length ≤ 1000000 ∧ ∃ P : Nat → List (Key × PyData) → Rho → Prop, P 0 [] (wipeR ρ1 vs) ∧
  (∀ i x acc ρ2, xs[i]? = some x → P i acc ρ2 → g x ρ2 (fun ρ3 => tt ρ3 (fun b ρ4 => if b = true then tk ρ4 (fun t ρ5 => ∃ k, t = .d (keyD k) ∧ tv ρ5 (fun u ρ6 => noNd ρ6 vs ∧ ∃ y, erase u = some y ∧ P (i + 1) (putD acc k y) (wipeR ρ6 vs)) exN) exN else noNd ρ4 vs ∧ P (i + 1) acc (wipeR ρ4 vs)) exN) exN) ∧
  ∀ acc ρ2, P xs.length acc ρ2 → Q (mK1 acc) (restR ρ1 ρ2 vs)
theorem xDc (h : wi ρ (dcK g tt tk tv vs Q) E) : wDc wi g tt tk tv vs ρ Q E := h
end
end TX

/-! k in d as a test. -/
namespace TX
open PySem PySem.Spec L2 PyProof.Rows
section
variable {X : Cx} {a b : Expr} {ta tb : TwE} {pos : Pos}
end
end TX

/-! A dict of data that is walked: locked while an expression or a statement runs. -/
namespace TX
open PySem PySem.Spec L2
/-! ### no locked dict in a tree -/
mutual
def nlk : T → Bool
  | .l ts => nlks ts
  | .m _ _ ts => nlks ts
  | .o _ _ ts => nlks ts
  | .lk _ _ _ => false
  | _ => true
def nlks : List T → Bool
  | [] => true
  | t :: ts => nlk t && nlks ts
end
def nlkO : Option T → Bool
  | some t => nlk t
  | none => true
def nlkR (ρ : Rho) : Bool := ρ.all nlkO
theorem nlkR_get {ρ : Rho} (h : nlkR ρ = true) {i : Nat} {t : T} (e : ρ[i]? = some (some t)) : nlk t = true := by
  have := List.all_eq_true.mp h _ (List.mem_of_getElem? e)
  exact this
def isDk : HO → Bool
  | .dK _ => true
  | .dT _ => true
  | _ => false
/-- as it was, or a dict that was locked or unlocked -/
def Shf (o : HO) (x : Option HO) : Prop := x = some o ∨ ∃ od u, isDk u = true ∧ ((o = u ∧ x = some (.frz od u)) ∨ (o = .frz od u ∧ x = some u))
section
variable {K : PySem.W.Frag} {M M' : Hp}
theorem Shf.lst {xs : List V} {x : Option HO} (h : Shf (.lst xs) x) : x = some (.lst xs) := by
  rcases h with h | ⟨od, u, d, ⟨e, _⟩ | ⟨e, _⟩⟩
  · exact h
  · subst e; cases d
  · cases e
theorem Shf.tup {xs : List V} {x : Option HO} (h : Shf (.tup xs) x) : x = some (.tup xs) := by
  rcases h with h | ⟨od, u, d, ⟨e, _⟩ | ⟨e, _⟩⟩
  · exact h
  · subst e; cases d
  · cases e
theorem rd_sh (k : ∀ b o, M b = some o → Shf o (M' b)) {a : Addr} {u : HO} (hu : isDk u = true) (h : Rd M a u) : Rd M' a u := by
  rcases h with h | ⟨o, h⟩
  · rcases k _ _ h with z | ⟨od, w, d, ⟨e, z⟩ | ⟨e, z⟩⟩
    · exact .inl z
    · subst e; exact .inr ⟨_, z⟩
    · subst e; cases hu
  · rcases k _ _ h with z | ⟨od, w, d, ⟨e, z⟩ | ⟨e, z⟩⟩
    · exact .inr ⟨o, z⟩
    · subst e; cases d
    · cases e; exact .inl z
mutual
theorem Rp.sh (k : ∀ b o, M b = some o → Shf o (M' b)) : ∀ (d : PyData) (v : V), Rp K M v d → Rp K M' v d
  | .none, _, h => by cases h; exact .non
  | .bool b, _, h => by cases h; exact .bl b
  | .int b, _, h => by cases h; exact .int b
  | .str b, _, h => by cases h; exact .str b
  | .list ds, _, h => by
    cases h with
    | lst h1 h2 => exact .lst (k _ _ h1).lst (RpAll.sh k ds _ h2)
  | .tuple ds, _, h => by
    cases h with
    | tup h1 h2 => exact .tup (k _ _ h1).tup (RpAll.sh k ds _ h2)
  | .dict ps, _, h => by
    cases h with
    | dk h1 h2 h3 => exact .dk (rd_sh k rfl h1) h2 (RpAll.shKv k ps _ h3)
    | dt h1 h2 h3 => exact .dt (rd_sh k rfl h1) h2 (RpAll.shKv k ps _ h3)
theorem RpAll.sh (k : ∀ b o, M b = some o → Shf o (M' b)) : ∀ (ds : List PyData) (vs : List V), RpAll K M vs ds → RpAll K M' vs ds
  | [], _, h => by cases h; exact .nil
  | d :: ds, _, h => by
    cases h with
    | cons h1 h2 => exact .cons (Rp.sh k d _ h1) (RpAll.sh k ds _ h2)
theorem RpAll.shKv (k : ∀ b o, M b = some o → Shf o (M' b)) : ∀ (ps : List (PyData × PyData)) (vs : List V), RpAll K M vs (ps.map (·.2)) → RpAll K M' vs (ps.map (·.2))
  | [], _, h => by cases h; exact .nil
  | (a, b) :: ps, _, h => by
    cases h with
    | cons h1 h2 => exact .cons (Rp.sh k b _ h1) (RpAll.shKv k ps _ h2)
end
variable {H H' : Hp} {O : Own}
theorem sql_sh (k : ∀ b o, M b = some o → Shf o (M' b)) {a : Addr} {xs : List V} (h : SqL K M a xs) : SqL K M' a xs := by
  rcases h with h | h
  · refine .inl ?_
    rcases h with h | ⟨o, h⟩
    · exact .inl (k _ _ h).lst
    · rcases k _ _ h with z | ⟨od, w, d, ⟨e, z⟩ | ⟨e, z⟩⟩
      · exact .inr ⟨o, z⟩
      · subst e; cases d
      · cases e; cases d
  · exact .inr h
/-! only the dict at a, which is free, is locked or unlocked -/
mutual
theorem Tr.sh {r : Nat} (k : ∀ b o, H b = some o → O b = .free → Shf o (H' b)) (kl : ∀ b o r p, H b = some o → O b = .at r p → H' b = some o) : ∀ (t : T) (p : List Nat) (v : V), nlk t = true → Tr K H O r p v t → Tr K H' O r p v t
  | .d x, p, v, _, h => by
    cases h with
    | d h => exact .d (Rp.sh (fun b o e => by obtain ⟨e1, e2⟩ := msk_some e; rw [msk_of e1]; exact k b o e2 e1) _ _ h)
  | .l ts, p, v, n, h => by
    cases h with
    | l h1 h2 h3 => exact .l h1 (kl _ _ _ _ h2 h1) (TrAll.sh k kl ts p 0 _ (by simpa [nlk] using n) h3)
  | .m tk ks ts, p, v, n, h => by
    cases h with
    | mk h1 h2 h3 h4 => exact .mk h1 (kl _ _ _ _ h2 h1) h3 (TrAll.sh k kl ts p 0 _ (by simpa [nlk] using n) h4)
    | mt h1 h2 h3 h4 => exact .mt h1 (kl _ _ _ _ h2 h1) h3 (TrAll.sh k kl ts p 0 _ (by simpa [nlk] using n) h4)
  | .o C ns ts, p, v, n, h => by
    cases h with
    | o h1 h2 h3 h4 => exact .o h1 (kl _ _ _ _ h2 h1) h3 (TrAll.sh k kl ts p 0 _ (by simpa [nlk] using n) h4)
  | .s S m, p, v, _, h => by
    cases h with
    | s h1 h2 => exact .s h1 (kl _ _ _ _ h2 h1)
  | .raw v', p, v, _, h => by cases h; exact .raw
  | .fz ns, p, v, _, h => by
    cases h with
    | fz h => exact .fz (sql_sh (fun b o e => by obtain ⟨e1, e2⟩ := msk_some e; rw [msk_of e1]; exact k b o e2 e1) h)
  | .lk _ _ _, p, v, n, h => by cases n
  | .a _ _, p, v, _, h => by cases h
theorem TrAll.sh {r : Nat} (k : ∀ b o, H b = some o → O b = .free → Shf o (H' b)) (kl : ∀ b o r p, H b = some o → O b = .at r p → H' b = some o) : ∀ (ts : List T) (p : List Nat) (j : Nat) (vs : List V), nlks ts = true → TrAll K H O r p j vs ts → TrAll K H' O r p j vs ts
  | [], p, j, vs, _, h => by cases h; exact .nil
  | t :: ts, p, j, vs, n, h => by
    cases h with
    | cons h1 h2 =>
      simp only [nlks, Bool.and_eq_true] at n
      exact .cons (Tr.sh k kl t _ _ n.1 h1) (TrAll.sh k kl ts p (j + 1) _ n.2 h2)
end
end
/-! ### the frame while the dict at a is locked -/
def lockC (H : Hp) (O : Own) (C : Ctx) : Ctx := ⟨fun b => match O b with | .at _ _ => none | _ => H b, fun b => match O b with | .at _ _ => (match C.O0 b with | .at j p => .at j p | _ => .free) | z => z, C.N, C.io⟩
section
variable {K : PySem.W.Frag} {C : Ctx} {n m : Nat} {σ σ' : St} {H H' H1 : Hp} {O O' : Own} {ρ ρ' : Rho} {a : Addr} {od : Obj} {u : HO}
theorem lockC_no {b : Addr} (h : ∀ r p, O b ≠ .at r p) : (lockC H O C).H0 b = H b ∧ (lockC H O C).O0 b = O b := by
  unfold lockC
  cases e : O b with
  | «at» r p => exact absurd e (h r p)
  | free => simp [e]
  | foreign => simp [e]
theorem lockC_at {b : Addr} {r : Nat} {p : List Nat} (h : O b = .at r p) : (lockC H O C).H0 b = none ∧ (lockC H O C).O0 b ≠ .foreign ∧ ∀ j q, (lockC H O C).O0 b = .at j q → C.O0 b = .at j q := by
  unfold lockC
  simp only [h]
  refine ⟨trivial, fun z => ?_, fun j q z => ?_⟩
  · split at z <;> cases z
  · split at z
    · rename_i e; rw [e]; exact z
    · cases z
theorem lockC_io {b : Addr} {j : Nat} {p : List Nat} (h : (lockC H O C).O0 b = .at j p) : C.O0 b = .at j p := by
  cases e : O b with
  | «at» r q => exact (lockC_at e).2.2 j p h
  | free => have := lockC_no (H := H) (C := C) (O := O) (b := b) (by rw [e]; intro r p z; cases z); rw [this.2, e] at h; cases h
  | foreign => have := lockC_no (H := H) (C := C) (O := O) (b := b) (by rw [e]; intro r p z; cases z); rw [this.2, e] at h; cases h
theorem io_lock {b : Addr} {j : Nat} {p : List Nat} (h : C.O0 b = .at j p) (h2 : O b = .at j p) : (lockC H O C).O0 b = .at j p := by
  unfold lockC
  simp only [h2, h]
/-- the frame, seen from here on as if it were just entered -/
theorem Rel.entS (R : Rel K C n σ H O ρ) (nt : ∀ b, O b ≠ .free → ∃ o, H1 b = some o ∧ ownable o) (sl : ∀ (i : Nat) (t : T), ρ[i]? = some (some t) → ∃ v, σ[i]? = some (some v) ∧ Tr K H1 O i [] v t) : Rel K (lockC H1 O C) n σ H1 O ρ := by
  refine ⟨fun b o e1 e2 => ?_, nt, R.lt, R.inj, R.val, R.ln, R.lr, sl, R.hN, fun b e => ?_, fun b j p e => R.pz b j p (lockC_io e), ⟨trivial, fun b j p e => R.sm.2 b j p (lockC_io e)⟩⟩
  · cases h : O b with
    | «at» r p => rw [(lockC_at h).1] at e1; cases e1
    | free => have := lockC_no (H := H1) (C := C) (O := O) (b := b) (by rw [h]; intro r p z; cases z); rw [this.1] at e1; exact ⟨e1, by rw [this.2, h]⟩
    | foreign => have := lockC_no (H := H1) (C := C) (O := O) (b := b) (by rw [h]; intro r p z; cases z); rw [this.1] at e1; exact ⟨e1, by rw [this.2, h]⟩
  · obtain ⟨o, h, _⟩ := nt b (by rw [e]; intro z; cases z)
    have := lockC_no (H := H1) (C := C) (O := O) (b := b) (by rw [e]; intro r p z; cases z)
    exact ⟨o, by rw [this.1]; exact h, by rw [this.2]; exact e⟩
/-- what stood at that entry stands -/
theorem since {R' : Rel K (lockC H1 O C) m σ' H' O' ρ'} {b : Addr} {o : HO} (h : H1 b = some o) (hf : ∀ r p, O b ≠ .at r p) : H' b = some o ∧ O' b = O b := by
  have := lockC_no (H := H1) (C := C) hf
  have := R'.fr b o (by rw [this.1]; exact h) (by
    rw [this.2]
    cases e : O b with
    | «at» r p => exact absurd e (hf r p)
    | free => exact .inl rfl
    | foreign => exact .inr rfl)
  rw [(lockC_no (H := H1) (C := C) hf).2] at this
  exact this
theorem noat_free {b : Addr} (h : O b = .free) : ∀ r p, O b ≠ .at r p := fun r p z => by rw [h] at z; cases z
theorem Rel.locked (R : Rel K C n σ H O ρ) (ha : O a = .free) (hu : H a = some u) (du : isDk u = true) (nl : nlkR ρ = true) (od : Obj) : Rel K (lockC (L2.upd H a (.frz od u)) O C) n σ (L2.upd H a (.frz od u)) O ρ := by
  have hs : ∀ b o, H b = some o → b ≠ a → L2.upd H a (.frz od u) b = some o := fun b o e z => by rw [upd_ne z]; exact e
  refine R.entS (fun b e => ?_) fun i t e => ?_
  · obtain ⟨o, h, w⟩ := R.nt b e
    exact ⟨o, hs b o h fun z => e (z ▸ ha), w⟩
  · obtain ⟨v, h1, h2⟩ := R.sl i t e
    refine ⟨v, h1, Tr.sh (fun b o e _ => ?_) (fun b o r p e z => hs b o e fun y => by subst y; rw [ha] at z; cases z) t [] v (nlkR_get nl e) h2⟩
    by_cases z : b = a
    · subst z; rw [hu] at e; cases e; exact .inr ⟨od, u, du, .inl ⟨rfl, upd_same⟩⟩
    · exact .inl (hs b o e z)
/-- back in the frame as it was entered, the dict unlocked -/
theorem Rel.unlocked (R : Rel K C n σ H O ρ) (ha : O a = .free) (hu : H a = some u) (du : isDk u = true) (R' : Rel K (lockC (L2.upd H a (.frz od u)) O C) m σ' H' O' ρ') (nl : nlkR ρ' = true) : H' a = some (.frz od u) ∧ Rel K C m σ' (L2.upd H' a u) O' ρ' := by
  obtain ⟨ha', oa'⟩ := since (R' := R') (b := a) upd_same (noat_free ha)
  rw [ha] at oa'
  have hs : ∀ b o, H' b = some o → b ≠ a → L2.upd H' a u b = some o := fun b o e z => by rw [upd_ne z]; exact e
  refine ⟨ha', fun b o e1 e2 => ?_, fun b e => ?_, R'.lt, R'.inj, R'.val, R'.ln, R'.lr, fun i t e => ?_, R'.hN, fun b e => ?_, fun b j p e => ?_, R.sm⟩
  · obtain ⟨h1, h2⟩ := R.fr b o e1 e2
    by_cases z : b = a
    · subst z
      rw [hu] at h1; cases h1
      exact ⟨upd_same, by rw [oa', ← h2, ha]⟩
    · have hf : ∀ r p, O b ≠ .at r p := fun r p z => by rw [h2] at z; rcases e2 with e2 | e2 <;> rw [e2] at z <;> cases z
      obtain ⟨h3, h4⟩ := since (R' := R') (b := b) (by rw [upd_ne z]; exact h1) hf
      exact ⟨hs b o h3 z, h4.trans h2⟩
  · obtain ⟨o, h, w⟩ := R'.nt b e
    exact ⟨o, hs b o h fun z => e (z ▸ oa'), w⟩
  · obtain ⟨v, h1, h2⟩ := R'.sl i t e
    refine ⟨v, h1, Tr.sh (fun b o e _ => ?_) (fun b o r p e z => hs b o e fun y => by subst y; rw [oa'] at z; cases z) t [] v (nlkR_get nl e) h2⟩
    by_cases z : b = a
    · subst z; rw [ha'] at e; cases e; exact .inr ⟨od, u, du, .inr ⟨rfl, upd_same⟩⟩
    · exact .inl (hs b o e z)
  · obtain ⟨o, h1, h2⟩ := R'.fo b e
    cases h : O b with
    | «at» r p => exact absurd h2 (lockC_at h).2.1
    | free => have := lockC_no (H := L2.upd H a (.frz od u)) (C := C) (O := O) (b := b) (by rw [h]; intro r p z; cases z); rw [this.2, h] at h2; cases h2
    | foreign => exact R.fo b h
  · obtain ⟨h1, h2⟩ := R.pz b j p e
    exact R'.pz b j p (io_lock e h2)
end
section
variable {K : PySem.W.Frag} {C : Ctx} {n m : Nat} {σ σ' : St} {H H' H1 : Hp} {O O' : Own} {ρ ρ' : Rho} {a : Addr} {od : Obj} {u : HO} {i : Nat} {tk : Bool} {ps : List (PyData × PyData)}
end
section
variable {X : Cx} {io : List Nat} {e : Expr} {st : Stmt} {ta : TwE} {tw : TwS} {pos : Pos}
end
end TX

/-! for k in d, d locked; d's items and values. -/
namespace TX
open PySem PySem.Spec L2
section
variable {K : PySem.W.Frag} {H : Hp} {O : Own} {a : Addr} {od : Obj}
end
section
variable {X : Cx} {tg e : Expr} {ta : TwE}
def wIDc (ta : TwE) : TwI := fun ρ Q E => ta ρ (fun t ρ1 => ∃ tk ks xs, t = .lk tk ks xs ∧ Q ks ρ1) E
def idK (t : T) (ρ : Rho) (QI : List PyData → Rho → Prop) : Prop := ∃ tk ks xs, t = .lk tk ks xs ∧ QI ks ρ
theorem xIDc {ρ : Rho} {QI : List PyData → Rho → Prop} {E : ExK} (h : ta ρ (fun t ρ1 => idK t ρ1 QI) E) : wIDc ta ρ QI E := h
theorem xIDcK {ρ : Rho} {QI : List PyData → Rho → Prop} {tk : Bool} {ks xs : List PyData} (q : QI ks ρ) : idK (.lk tk ks xs) ρ QI := ⟨tk, ks, xs, rfl, q⟩
end
/-! ### the steps -/
section
variable {ρ : Rho} {Q : T → Rho → Prop} {E : ExK} {D : EndsT} {i : Nat} {ta : TwE} {tw : TwS} {ps : List (PyData × PyData)}
theorem xVarL {k : Nat} {tk : Bool} {ks xs : List PyData} (h : ρ[k]? = some (some (.lk tk ks xs))) (q : Q (.lk tk ks xs) ρ) : wVar k ρ Q E := ⟨_, h, q⟩
end
end TX

/-! == and != of two dicts whose values are data without dicts. -/
namespace TX
open PySem PySem.Spec L2 PyProof.Rows
section
variable {prog : Program} {w : World} {A : Around} {E : Value → Shared → Prop} {s : Shared}
end
/-! ### tables of the machine as entries -/
section
variable {P : Program} {w : World} {H : Hp} {s : Shared} {a : Addr}
/-- what a table of the machine is, entry by entry; k is the kind's look at an entry's key -/
structure Tab {κ : Type} [DecidableEq κ] (P : Program) (w : World) (s : Shared) (Ky : κ → DictEntry → Prop) (a : Addr) (kvs : List (κ × V)) : Prop where
  sm : (a == sysModules) = false
  ty : s.TypeIs (.ref a) "dict"
  ob : ∃ o es ep, s.heap.get? a = some o ∧ o.data = .dict es ep ∧ es.size = kvs.length ∧ (∀ (i : Nat) (k : κ) (v : V), kvs[i]? = some (k, v) → ∃ e, es[i]? = some e ∧ Ky k e ∧ RelV v e.val) ∧
    ∀ (A : Around) (k : κ) (e : DictEntry), A.units < cLine → Ky k e → (valV kvs k = none ∧ ∀ (E : Value → Shared → Prop) (Q : Option Nat → Shared → Prop), Q none s → wpAny (model P w) A (dictFind a e.key e.hash) Q E s) ∨
      ∃ j v e', es[j]? = some e' ∧ RelV v e'.val ∧ valV kvs k = some v ∧ ∀ (E : Value → Shared → Prop) (Q : Option Nat → Shared → Prop), Q (some j) s → wpAny (model P w) A (dictFind a e.key e.hash) Q E s
end
/-! ### dicts as data -/
def okP (qs : List (PyData × PyData)) (p : PyData × PyData) : Bool := match qs.find? (fun q => PyData.eqv q.1 p.1) with
  | some q => PyData.eqv p.2 q.2
  | none => false
def dEq (ps qs : List (PyData × PyData)) : Bool := ps.length == qs.length && ps.all (okP qs)
def okI {α : Type} (f : α → Bool) (ps : List α) (i : Nat) : Bool := match ps[i]? with
  | some p => f p
  | none => true
section
variable {X : Cx} {pins : List (Addr × Obj)} {σ : L2.St} {H : Hp} {s : Shared}
/-- the first key's kind -/
def tkD : List (PyData × PyData) → Bool
  | (.tuple _, _) :: _ => true
  | _ => false
end
/-! ### the operators -/
def rD (K : PySem.W.Frag) (neg : Bool) : R2 := fun x y H Q => ∃ ps qs, Rp K H x (.dict ps) ∧ Rp K H y (.dict qs) ∧ (∀ p ∈ ps, SeqAt.shaped p.2 = true) ∧ (∀ q ∈ qs, SeqAt.shaped q.2 = true) ∧ (ps.length = qs.length → tkD ps = tkD qs) ∧ Q (.bl (neg != dEq ps qs)) H
theorem hu66 {k : Nat} {A : Around} (r : Room k A) : A.units + 66 < cLine := by have := r.un; omega
section
variable {ρ : Rho} {Q : T → Rho → Prop} {t u : T} {ps qs : List (PyData × PyData)}
end
end TX

/-! A dict of one's own that is walked: locked and looked at while an expression runs, one's own again behind it. -/
namespace TX
open PySem PySem.Spec L2
/-- the frame as if just entered, no parameter handed in to be changed -/
def lockZ (H : Hp) (O : Own) (C : Ctx) : Ctx := ⟨fun b => match O b with | .at _ _ => none | _ => H b, fun b => match O b with | .at _ _ => .free | z => z, C.N, C.io⟩
section
variable {K : PySem.W.Frag} {C : Ctx} {n m : Nat} {σ : St} {H H' : Hp} {O O' : Own} {ρ : Rho} {a : Addr} {od : Obj} {u : HO} {i : Nat}
theorem lockZ_no {b : Addr} (h : ∀ r p, O b ≠ .at r p) : (lockZ H O C).H0 b = H b ∧ (lockZ H O C).O0 b = O b := by
  unfold lockZ
  cases e : O b with
  | «at» r p => exact absurd e (h r p)
  | free => simp [e]
  | foreign => simp [e]
theorem lockZ_at {b : Addr} {r : Nat} {p : List Nat} (h : O b = .at r p) : (lockZ H O C).H0 b = none ∧ (lockZ H O C).O0 b = .free := by
  unfold lockZ
  simp [h]
theorem lockZ_io {b : Addr} {j : Nat} {p : List Nat} : (lockZ H O C).O0 b ≠ .at j p := fun h => by
  cases e : O b with
  | «at» r q => rw [(lockZ_at e).2] at h; cases h
  | free => have := lockZ_no (H := H) (C := C) (O := O) (b := b) (by rw [e]; intro r p z; cases z); rw [this.2, e] at h; cases h
  | foreign => have := lockZ_no (H := H) (C := C) (O := O) (b := b) (by rw [e]; intro r p z; cases z); rw [this.2, e] at h; cases h
/-- the own dict at slot i, locked and looked at -/
theorem Rel.look {tk : Bool} {ks : List PyData} {ts : List T} {xs : List PyData} (R : Rel K C n σ H O ρ) (e : ρ[i]? = some (some (.m tk ks ts))) (ex : eraseAll ts = some xs) :
    ∃ a u, σ[i]? = some (some (.ref a)) ∧ O a = .at i [] ∧ H a = some u ∧ isDk u = true ∧ ∀ od, Rel K (lockZ (L2.upd H a (.frz od u)) (dropR i O) C) n σ (L2.upd H a (.frz od u)) (dropR i O) (ρ.set i (some (.lk tk ks xs))) := by
  have hi : i < ρ.length := (List.getElem?_eq_some_iff.mp e).1
  have hiN := R.slt e
  obtain ⟨v, hv, tr⟩ := R.sl i _ e
  have main : ∀ (a : Addr) (u : HO), v = .ref a → O a = .at i [] → H a = some u → isDk u = true → (∀ od, Tr K (L2.upd H a (.frz od u)) (dropR i O) i [] (.ref a) (.lk tk ks xs)) →
      ∃ a u, σ[i]? = some (some (.ref a)) ∧ O a = .at i [] ∧ H a = some u ∧ isDk u = true ∧ ∀ od, Rel K (lockZ (L2.upd H a (.frz od u)) (dropR i O) C) n σ (L2.upd H a (.frz od u)) (dropR i O) (ρ.set i (some (.lk tk ks xs))) := by
    intro a u ev oa ha du htr
    subst ev
    refine ⟨a, u, hv, oa, ha, du, fun od => ⟨fun b o e1 e2 => ?_, fun b h => ?_, fun b r p h => R.lt b r p (dropR_at.mp h).1, fun x y r p e1 e2 => R.inj x y r p (dropR_at.mp e1).1 (dropR_at.mp e2).1, fun b r p h l => ?_, R.ln, by rw [List.length_set]; exact R.lr, fun j t h => ?_, R.hN, fun b h => ?_, fun b j p h => absurd h lockZ_io, ⟨trivial, fun b j p h => absurd h lockZ_io⟩⟩⟩
    · cases h : dropR i O b with
      | «at» r p => rw [(lockZ_at h).1] at e1; cases e1
      | free => have := lockZ_no (H := L2.upd H a (.frz od u)) (C := C) (O := dropR i O) (b := b) (by rw [h]; intro r p z; cases z); rw [this.1] at e1; exact ⟨e1, by rw [this.2, h]⟩
      | foreign => have := lockZ_no (H := L2.upd H a (.frz od u)) (C := C) (O := dropR i O) (b := b) (by rw [h]; intro r p z; cases z); rw [this.1] at e1; exact ⟨e1, by rw [this.2, h]⟩
    · obtain ⟨o, h1, h2⟩ := R.nt b fun z => h (dropR_free z)
      exact ⟨o, by rw [upd_ne fun z => h (by subst z; unfold dropR; rw [oa]; simp)]; exact h1, h2⟩
    · obtain ⟨h1, h2⟩ := dropR_at.mp h
      obtain ⟨t, z, g1, g2, g3⟩ := R.val b r p h1 l
      exact ⟨t, z, by rw [List.getElem?_set_ne (fun z => h2 z.symm)]; exact g1, g2, g3⟩
    · rw [set_get hi] at h
      split at h
      · rename_i z; subst z; cases h; exact ⟨_, hv, htr od⟩
      · rename_i z
        obtain ⟨w, h1, h2⟩ := R.sl j t h
        refine ⟨w, h1, Tr.move (r' := j) (p0 := []) (p1 := []) (fun b o e1 e2 => ?_) (fun b o q e1 e2 => ?_) t [] w h2⟩
        · exact ⟨by rw [upd_ne fun y => by subst y; rw [oa] at e2; cases e2]; exact e1, dropR_free e2⟩
        · have nb : b ≠ a := fun y => by
            subst y
            have e2' : O b = .at j q := e2
            rw [oa] at e2'
            cases e2'
            exact z rfl
          exact ⟨by rw [upd_ne nb]; exact e1, dropR_at.mpr ⟨e2, z⟩⟩
    · have h1 := dropR_foreign.mp h
      obtain ⟨o, h2, _⟩ := R.nt b (by rw [h1]; intro z; cases z)
      have := lockZ_no (H := L2.upd H a (.frz od u)) (C := C) (O := dropR i O) (b := b) (by rw [h]; intro r p z; cases z)
      exact ⟨o, by rw [this.1, upd_ne fun z => by subst z; rw [oa] at h1; cases h1]; exact h2, by rw [this.2]; exact h⟩
  have sh : ∀ {a : Addr} {u : HO} (od : Obj), O a = .at i [] → H a = some u → isDk u = true → ∀ b o, vis i O H b = some o → Shf o (msk (dropR i O) (L2.upd H a (.frz od u)) b) := fun {a u} od oa ha du b o h => by
    have hb : dropR i O b = .free := by
      unfold vis at h
      split at h
      · rename_i z; exact dropR_free z
      · cases h
      · rename_i r p z
        split at h
        · rename_i y; unfold dropR; rw [z]; simp [y]
        · cases h
    rw [msk_of hb]
    have h' := vis_le b o h
    by_cases z : b = a
    · subst z; rw [ha] at h'; cases h'; exact .inr ⟨od, _, du, .inl ⟨rfl, upd_same⟩⟩
    · exact .inl (by rw [upd_ne z]; exact h')
  cases tr with
  | mk h1 h2 h3 h4 =>
    refine main _ _ rfl h1 h2 rfl fun od => .lk (by unfold dropR; rw [h1]; simp) upd_same h3 (RpAll.sh (sh od h1 h2 rfl) _ _ (TrAll.view ts [] 0 _ xs ex h4))
  | mt h1 h2 h3 h4 =>
    refine main _ _ rfl h1 h2 rfl fun od => .lt (by unfold dropR; rw [h1]; simp) upd_same h3 (RpAll.sh (sh od h1 h2 rfl) _ _ (TrAll.view ts [] 0 _ xs ex h4))
end
end TX

/-! d.clear() as a statement: behind it the slot's dict is an empty one, shared. -/
namespace TX
open PySem PySem.Spec L2
section
variable {X : Cx} {io : List Nat} {pos p2 apos cpos : Pos} {x : Str}
end
end TX

/-! The keys of a dict of data: sorted(d), list(d), len(d). -/
namespace TX
open PySem PySem.Spec L2 PyProof.Rows
section
variable {X : Cx} {pins : List (Addr × Obj)} {σ : L2.St} {H : Hp} {s : Shared} {a : Addr} {ks : List PyData}
end
/-! ### over trees -/
section
variable {X : Cx} {e : Expr} {tas : TwA} {p pos : Pos}
end
end TX

/-! Dicts by comprehensions whose keys are tuples. -/
namespace TX
open PySem PySem.Spec L2
section
variable {X : Cx}
end
section
variable {wi : TwI} {g : TwG} {tt : TwT} {tk tv : TwE}
def wDcT (wi : TwI) (g : TwG) (tt : TwT) (tk tv : TwE) (vs : List Nat) : TwE := fun ρ Q E => wi ρ (fun xs ρ1 => noNd ρ1 vs ∧ xs.length ≤ 1000000 ∧ ∃ P : Nat → List (List Key × PyData) → Rho → Prop, P 0 [] (wipeR ρ1 vs) ∧
  (∀ i x acc ρ2, xs[i]? = some x → P i acc ρ2 → g x ρ2 (fun ρ3 => tt ρ3 (fun b ρ4 => if b = true then tk ρ4 (fun t ρ5 => ∃ k, t = .d (tupD k) ∧ tv ρ5 (fun u ρ6 => noNd ρ6 vs ∧ ∃ y, erase u = some y ∧ P (i + 1) (putD acc k y) (wipeR ρ6 vs)) exN) exN else noNd ρ4 vs ∧ P (i + 1) acc (wipeR ρ4 vs)) exN) exN) ∧
  ∀ acc ρ2, P xs.length acc ρ2 → Q (mK2 acc) (restR ρ1 ρ2 vs)) E
end
section
variable {X : Cx} {kx vx tg iter : Expr} {ifs : List Expr} {scope : Scope} {own : List (Str × Nat)} {pos : Pos} {wi : TwI} {g : TwG} {tt : TwT} {tk tv : TwE}
end
section
variable {X : Cx} {i : Nat} {y : Str} {py : Pos} {kx vx tg iter : Expr} {ifs : List Expr} {scope : Scope} {own : List (Str × Nat)} {pos spos : Pos} {wi : TI} {g : TG} {tt : TT} {tk tv : TE}
end
section
variable {X : Cx} {io : List Nat} {kx vx tg iter : Expr} {ifs : List Expr} {scope : Scope} {own : List (Str × Nat)} {pos pos2 : Pos} {wi : TwI} {g : TwG} {tt : TwT} {tk tv : TwE}
end
section
variable {ρ : Rho} {Q : T → Rho → Prop} {E : ExK} {wi : TwI} {g : TwG} {tt : TwT} {tk tv : TwE} {vs : List Nat}
def dcTK (g : TwG) (tt : TwT) (tk tv : TwE) (vs : List Nat) (Q : T → Rho → Prop) (xs : List PyData) (ρ1 : Rho) : Prop := noNd ρ1 vs ∧ xs.length ≤ 1000000 ∧ ∃ P : Nat → List (List Key × PyData) → Rho → Prop, P 0 [] (wipeR ρ1 vs) ∧
  (∀ i x acc ρ2, xs[i]? = some x → P i acc ρ2 → g x ρ2 (fun ρ3 => tt ρ3 (fun b ρ4 => if b = true then tk ρ4 (fun t ρ5 => ∃ k, t = .d (tupD k) ∧ tv ρ5 (fun u ρ6 => noNd ρ6 vs ∧ ∃ y, erase u = some y ∧ P (i + 1) (putD acc k y) (wipeR ρ6 vs)) exN) exN else noNd ρ4 vs ∧ P (i + 1) acc (wipeR ρ4 vs)) exN) exN) ∧
  ∀ acc ρ2, P xs.length acc ρ2 → Q (mK2 acc) (restR ρ1 ρ2 vs)
theorem xDcT (h : wi ρ (dcTK g tt tk tv vs Q) E) : wDcT wi g tt tk tv vs ρ Q E := h
end
end TX

/-! Comprehensions with two sources. -/
namespace TX
open PySem PySem.Spec L2
section
variable {K : PySem.W.Frag} {C : Ctx} {W : WX} {n m : Nat} {vs vs1 : List Nat} {σ σ4 : St} {H H2 H6 : Hp} {O O2 O6 : Own} {ρ ρ5 : Rho} {Q : VK} {D : Addr} {ws : List V} {acc : List PyData}
/-- the list that is made, at root n -/
structure DSt (K : PySem.W.Frag) (n : Nat) (D : Addr) (O2 : Own) (H2 : Hp) (ws : List V) (acc : List PyData) : Prop where
  o : O2 D = .at n []
  u : ∀ b q, O2 b = .at n q → b = D ∧ q = []
  h : H2 D = some (.lst ws)
  r : RpAll K (msk O2 H2) ws acc
theorem DSt.frm (d : DSt K n D O2 H2 ws acc) (hn : C.N ≤ n) (F : Frm C.N (n + 1) H2 O2 H6 O6) : DSt K n D O6 H6 ws acc :=
  let ⟨h1, h2⟩ := F.tm D _ n [] d.h d.o hn (Nat.lt_succ_self n)
  ⟨h2, fun b q e => d.u b q (F.nw b n q e hn (Nat.lt_succ_self n)), h1, d.r.fre F.fre⟩
theorem DSt.cut (d : DSt K n D O2 H2 ws acc) : DSt K n D (TX.cut (n + 1) O2) H2 ws acc :=
  ⟨cut_at.mpr ⟨d.o, Nat.lt_succ_self n⟩, fun b q e => d.u b q (cut_at.mp e).1, d.h, d.r.fre (fre_cut _)⟩
end
def wLc2 (wi : TwI) (g : TwG) (tt : TwT) (wi1 : TwI) (g1 : TwG) (tt1 : TwT) (te : TwE) (vs vs1 : List Nat) : TwE := fun ρ Q E => wi ρ (fun xs ρ1 => noNd ρ1 vs ∧ xs.length ≤ 1000 ∧ ∃ P : Nat → List PyData → Rho → Prop, P 0 [] (wipeR ρ1 vs) ∧
  (∀ i x acc ρ2, xs[i]? = some x → P i acc ρ2 → g x ρ2 (fun ρ3 => tt ρ3 (fun b ρ4 => if b = true then wi1 ρ4 (fun ys ρ5 => noNd ρ5 vs1 ∧ ys.length ≤ 1000 ∧ ∃ P1 : Nat → List PyData → Rho → Prop, P1 0 acc (wipeR ρ5 vs1) ∧
      (∀ j y acc1 ρ6, ys[j]? = some y → P1 j acc1 ρ6 → g1 y ρ6 (fun ρ7 => tt1 ρ7 (fun b ρ8 => noNd ρ8 vs1 ∧ if b = true then te ρ8 (fun t ρ9 => noNd ρ9 vs1 ∧ ∃ z, erase t = some z ∧ P1 (j + 1) (acc1 ++ [z]) (wipeR ρ9 vs1)) exN else P1 (j + 1) acc1 (wipeR ρ8 vs1)) exN) exN) ∧
      ∀ acc1 ρ6, P1 ys.length acc1 ρ6 → noNd ρ6 vs ∧ P (i + 1) acc1 (wipeR ρ6 vs)) exN else noNd ρ4 vs ∧ P (i + 1) acc (wipeR ρ4 vs)) exN) exN) ∧
  (∀ acc ρ2, P xs.length acc ρ2 → Q (.l (acc.map T.d)) (restR ρ1 ρ2 vs))) E
section
variable {wi wi1 : TwI} {g g1 : TwG} {tt tt1 : TwT} {te : TwE}
end
section
variable {X : Cx} {io : List Nat} {tg iter tg1 iter1 elt : Expr} {ifs ifs1 : List Expr} {wi wi1 : TwI} {g g1 : TwG} {tt tt1 : TwT} {te : TwE} {pos : Pos} {scope : Scope} {own : List (Str × Nat)} {vs1 : List Nat}
end
end TX

/-! Steps of comprehensions of two sources; d.get(k, x); xs[a:b] = ys. -/
namespace TX
open PySem PySem.Spec L2 PyProof.Rows
/-! ### two sources -/
section
variable {wi wi1 : TwI} {g g1 : TwG} {tt tt1 : TwT} {te : TwE} {vs vs1 : List Nat} {ρ : Rho} {Q : T → Rho → Prop} {E : ExK}
def lc2I (g1 : TwG) (tt1 : TwT) (te : TwE) (vs vs1 : List Nat) (acc : List PyData) (N : List PyData → Rho → Prop) (ys : List PyData) (ρ5 : Rho) : Prop := noNd ρ5 vs1 ∧ ys.length ≤ 1000 ∧ ∃ P1 : Nat → List PyData → Rho → Prop, P1 0 acc (wipeR ρ5 vs1) ∧
      (∀ j y acc1 ρ6, ys[j]? = some y → P1 j acc1 ρ6 → g1 y ρ6 (fun ρ7 => tt1 ρ7 (fun b ρ8 => noNd ρ8 vs1 ∧ if b = true then te ρ8 (fun t ρ9 => noNd ρ9 vs1 ∧ ∃ z, erase t = some z ∧ P1 (j + 1) (acc1 ++ [z]) (wipeR ρ9 vs1)) exN else P1 (j + 1) acc1 (wipeR ρ8 vs1)) exN) exN) ∧
      ∀ acc1 ρ6, P1 ys.length acc1 ρ6 → noNd ρ6 vs ∧ N acc1 (wipeR ρ6 vs)
def lc2K (g : TwG) (tt : TwT) (wi1 : TwI) (g1 : TwG) (tt1 : TwT) (te : TwE) (vs vs1 : List Nat) (Q : T → Rho → Prop) (xs : List PyData) (ρ1 : Rho) : Prop := noNd ρ1 vs ∧ xs.length ≤ 1000 ∧ ∃ P : Nat → List PyData → Rho → Prop, P 0 [] (wipeR ρ1 vs) ∧
  (∀ i x acc ρ2, xs[i]? = some x → P i acc ρ2 → g x ρ2 (fun ρ3 => tt ρ3 (fun b ρ4 => if b = true then wi1 ρ4 (lc2I g1 tt1 te vs vs1 acc (P (i + 1))) exN else noNd ρ4 vs ∧ P (i + 1) acc (wipeR ρ4 vs)) exN) exN) ∧
  (∀ acc ρ2, P xs.length acc ρ2 → Q (.l (acc.map T.d)) (restR ρ1 ρ2 vs))
theorem xLc2 (h : wi ρ (lc2K g tt wi1 g1 tt1 te vs vs1 Q) E) : wLc2 wi g tt wi1 g1 tt1 te vs vs1 ρ Q E := h
def F2 (f : PyData → Bool) (ys : PyData → List PyData) (f1 : PyData → PyData → Bool) (h : PyData → PyData → PyData) (x : PyData) : List PyData := if f x = true then ((ys x).filter (f1 x)).map (h x) else []
end
/-! ### d.get(k, x) -/
theorem Val.carry2 {K : PySem.W.Frag} {C : Ctx} {n : Nat} {H H' : Hp} {O O' : Own} {v : V} {t : T} (h : Val K H O n v t) (hn : C.N ≤ n) (lt : ∀ b r p, O b = .at r p → r < n + 2) (nt : ∀ b, O b ≠ .free → ∃ o, H b = some o ∧ ownable o) (F : Frm C.N (n + 2) H O H' O') : Val K H' O' n v t := by
  have gen : ∀ t : T, (Tr K H O n [] v t ∧ ∀ b p, O b = .at n p → ∃ z, subT t p = some z ∧ isNode z = true) → (Tr K H' O' n [] v t ∧ ∀ b p, O' b = .at n p → ∃ z, subT t p = some z ∧ isNode z = true) := fun t h =>
    ⟨Tr.move (r' := n) (p0 := []) (p1 := []) F.fre (fun b o q e1 e2 => F.tm b o n q e1 e2 hn (by omega)) t [] v h.1, fun b p e => h.2 b p (F.nw b n p e hn (by omega))⟩
  cases t with
  | a r p =>
    obtain ⟨⟨a, e1, e2, l⟩, h2⟩ := h
    refine ⟨⟨a, e1, ?_, l⟩, fun b q e => h2 b q (F.nw b n q e hn (by omega))⟩
    by_cases hr : r < C.N
    · exact F.pl a r p e2 hr
    · obtain ⟨o, ho, _⟩ := nt a (by rw [e2]; intro z; cases z)
      exact (F.tm a o r p ho e2 (by omega) (lt a r p e2)).2
  | _ => exact gen _ h
section
variable {X : Cx} {pins : List (Addr × Obj)} {σ : L2.St} {H : Hp} {s : Shared} {a : Addr} {y z : V} {u r : Value} {A : Around} {E : Value → Shared → Prop}
end
section
variable {X : Cx} {o e f : Expr} {apos cpos : Pos} {td ty tx : TE} {ta tb tc : TwE}
def gd1 (t u w : T) (ρ : Rho) (Q : T → Rho → Prop) : Prop := ∃ kvs k x, Dk1E ρ t kvs ∧ vw ρ u = some (keyD k) ∧ w = .d x ∧ Q (.d ((lookD kvs k).getD x)) ρ
def gd2 (t u w : T) (ρ : Rho) (Q : T → Rho → Prop) : Prop := ∃ kvs k x, Dk2E ρ t kvs ∧ vw ρ u = some (tupD k) ∧ w = .d x ∧ Q (.d ((lookD kvs k).getD x)) ρ
def wGdd (k : T → T → T → Rho → (T → Rho → Prop) → Prop) (ta tb tc : TwE) : TwE := fun ρ Q E => ta ρ (fun t ρ1 => dctTy ρ1 t ∧ tb ρ1 (fun u ρ2 => tc ρ2 (fun w ρ3 => k t u w ρ3 Q) E) E) E
def wGd1 (ta tb tc : TwE) : TwE := wGdd gd1 ta tb tc
def wGd2 (ta tb tc : TwE) : TwE := wGdd gd2 ta tb tc
def gdA (tb tc : TwE) (k : T → T → T → Rho → (T → Rho → Prop) → Prop) (t : T) (ρ1 : Rho) (Q : T → Rho → Prop) (E : ExK) : Prop := dctTy ρ1 t ∧ tb ρ1 (fun u ρ2 => tc ρ2 (fun w ρ3 => k t u w ρ3 Q) E) E
theorem xGd1 {ρ : Rho} {Q : T → Rho → Prop} {E : ExK} (h : ta ρ (fun t ρ1 => gdA tb tc gd1 t ρ1 Q E) E) : wGd1 ta tb tc ρ Q E := h
theorem xGd2 {ρ : Rho} {Q : T → Rho → Prop} {E : ExK} (h : ta ρ (fun t ρ1 => gdA tb tc gd2 t ρ1 Q E) E) : wGd2 ta tb tc ρ Q E := h
theorem xGdA {ρ : Rho} {Q : T → Rho → Prop} {E : ExK} {k : T → T → T → Rho → (T → Rho → Prop) → Prop} {r : Nat} {p : List Nat} {tk : Bool} {ks : List PyData} {xs : List T} (g : getT ρ r p = some (.m tk ks xs)) (q : tb ρ (fun u ρ2 => tc ρ2 (fun w ρ3 => k (.a r p) u w ρ3 Q) E) E) : gdA tb tc k (.a r p) ρ Q E := ⟨.inl ⟨r, p, tk, ks, xs, rfl, g⟩, q⟩
theorem xGdD {ρ : Rho} {Q : T → Rho → Prop} {E : ExK} {k : T → T → T → Rho → (T → Rho → Prop) → Prop} {ps : List (PyData × PyData)} (q : tb ρ (fun u ρ2 => tc ρ2 (fun w ρ3 => k (.d (.dict ps)) u w ρ3 Q) E) E) : gdA tb tc k (.d (.dict ps)) ρ Q E := ⟨.inr ⟨ps, rfl⟩, q⟩
end
end TX

/-! xs[a:c] = ys, xs a flat list of one's own; c may lie beyond the end. -/
namespace TX
open PySem PySem.Spec L2 PyProof.Rows
section
variable {prog : Program} {w : World} {A : Around} {E : Value → Shared → Prop} {s : Shared}
set_option maxRecDepth 100000 in
end
section
variable {X : Cx}
end
end TX

/-! xs[a:c] = ys as a target. -/
namespace TX
open PySem PySem.Spec L2 PyProof.Rows
section
variable {X : Cx} {o : Expr} {lo hi : Option Expr} {to : TE} {tl th : TO} {pos p2 : Pos}
end
def wClip (ta : TwE) (tl th : TwO) : TwG := fun x ρ Q E => ta ρ (fun t ρ1 => tl ρ1 (fun lo ρ2 => th ρ2 (fun hi ρ3 => ∃ r q, ∃ ds ys : List PyData, ∃ a c, t = .a r q ∧ x = .list ys ∧ lo = some a ∧ hi = some c ∧ getT ρ3 r q = some (.l (ds.map T.d)) ∧ 0 ≤ a ∧ a ≤ c ∧ a ≤ (ds.length : Int) ∧ ds.length + ys.length ≤ sizeLine ∧
  Q (putAt ρ3 r q (.l ((ds.take a.toNat ++ ys ++ ds.drop c.toNat).map T.d)))) E) E) E
section
variable {X : Cx} {o : Expr} {lo hi : Option Expr} {ta : TwE} {tl th : TwO} {pos p2 : Pos}
theorem xClip {ρ : Rho} {x : PyData} {Q : Rho → Prop} {E : ExK} (h : ta ρ (fun t ρ1 => tl ρ1 (fun lo ρ2 => th ρ2 (fun hi ρ3 => ∃ r q, ∃ ds ys : List PyData, ∃ a c, t = .a r q ∧ x = .list ys ∧ lo = some a ∧ hi = some c ∧ getT ρ3 r q = some (.l (ds.map T.d)) ∧ 0 ≤ a ∧ a ≤ c ∧ a ≤ (ds.length : Int) ∧ ds.length + ys.length ≤ sizeLine ∧
  Q (putAt ρ3 r q (.l ((ds.take a.toNat ++ ys ++ ds.drop c.toNat).map T.d)))) E) E) E) : wClip ta tl th x ρ Q E := h
end
end TX

/-! Defs with defaults. -/
namespace TX
open PySem PySem.Spec L2 PyProof.Rows
section
variable {P : Program} {w : World} {K : PySem.W.Frag} {mg : Str → Option Value} {base : Heap}
theorem _root_.L2.FunD.okG {x qual : Str} {st : Stmt} {dvs : List V} {f : Addr} {fd : FuncData} {N ps : List Str} {k : Nat} {sp : Sp} (F : FunD K x qual (defArgs st) (defBody st) (defScope st) dvs [] f fd) (S : FnScope N ps (defScope st)) (len : ∀ vs H Q E, sp vs H Q E → vs.length = ps.length)
    (hbody : ∀ (cv : Value) (B : Around) (out : List Env) (s : Shared) (H : Hp) (vs : List V) (Q : VK) (E : XK), Room k (B.deeper (envOfC qual (defScope st) s.heap.objs.size f cv)) → B.guards = some [] → sp vs H Q E →
      ∃ t, PSs (cxOf (L2.CX P w) P w K mg base N qual (defScope st) f cv B out s H E) (defBody st) t ∧ t { nx := fun _ H' => Q .non H', rt := Q } (L2.start N vs) H) : FnG P w K mg base (k + 1) f fd ps sp := by
  obtain ⟨oc, od, dV, kV, doc, pm, an, cv, ct, osl, rfl, lk, hcd, _, _⟩ := F.ex
  refine ⟨len, fun B out s H ar us vs Q E room gu e0 bind vals hsp => ?_⟩
  have lenV := len _ _ _ _ hsp
  have kin : K.In s.heap := e0.mod.kin.keeps (fun b o e => (e0.bs b o e).1)
  have lim : s.heap.NoLimit := e0.mod.nolimit.keeps (fun b o e => (e0.bs b o e).1)
  refine codeAny_call_function room.depth (kin _ _ lk) rfl S.co S.gen rfl (PySem.W.codeRec_of kin hcd) (bind _ _ _ _ ?_)
  refine wpAny_newFunctionEnv_cells S.kind (fun ⟨n, v⟩ hy => ?_) fun env he s1 x => ?_
  · rcases S.par n (List.of_mem_zip hy).1 with q | q
    · exact Or.inl q
    · exact Or.inr ⟨q, PySem.W.cellsFrom_some _ _ _ (Or.inl q)⟩
  · subst he
    refine ⟨lim.keeps x.toInCall.keep, codeAny_func ?_⟩
    obtain ⟨t, ht, hq⟩ := hbody cv B out s H vs Q E (room.deeper _) gu hsp
    have J := inv_start (CX := L2.CX P w) (E := E) (cd := cv) S room.hd e0 lenV vals x
    refine wpAny_mono (ht.run [] s1 (L2.start N vs) H _ J hq) (fun fl s2 hs => ?_) fun _ _ z => z
    cases fl with
    | ret u => obtain ⟨v, _, H', J', rv, q⟩ := hs; exact ⟨v, H', J'.os, J'.bare, J'.base, J'.hok, rv, q⟩
    | next => obtain ⟨_, H', J', q⟩ := hs; exact ⟨V.non, H', J'.os, J'.bare, J'.base, J'.hok, rfl, q⟩
    | brk => obtain ⟨_, _, _, q⟩ := hs; exact q.elim
    | cont => obtain ⟨_, _, _, q⟩ := hs; exact q.elim
theorem _root_.L2.FunD.okT {x qual : Str} {st : Stmt} {dvs : List V} {f : Addr} {fd : FuncData} {N ps : List Str} {k np : Nat} {io : List Nat} {S : SpT} (F : FunD K x qual (defArgs st) (defBody st) (defScope st) dvs [] f fd) (Sc : FnScope N ps (defScope st)) (hnp : np = ps.length := by rfl) (hN : np ≤ N.length := by decide)
    (hbody : ∀ (cv : Value) (B : Around) (out : List Env) (s : Shared) (H : Hp) (E : XK), Room k (B.deeper (envOfC qual (defScope st) s.heap.objs.size f cv)) → (B.deeper (envOfC qual (defScope st) s.heap.objs.size f cv)).guards = some [] →
      ∃ tw, LSs (cxOf (L2.CX P w) P w K mg base N qual (defScope st) f cv B out s H E) io (defBody st) tw ∧
        ∀ ts Q Ex, S ts Q Ex → tw { nx := fun ρ => Q (.d .none) ρ, rt := fun t ρ => noAl t = true ∧ Q t ρ, ex := Ex } (rho0 N ts)) : FnG P w K mg base (k + 1) f fd ps (lfSp K np io S) := by
  refine F.okG Sc (fun vs H Q E ⟨O, ts, En, _⟩ => by rw [En.lv, hnp]) fun cv B out s H vs Q E room gu ⟨O, ts, En, hS⟩ => ?_
  obtain ⟨tw, hw, hq⟩ := hbody cv B out s H E room gu
  let C : Ctx := ⟨H, O, N.length, io⟩
  have run := hw.run C (fun cls d _ H => E cls d H) rfl rfl (takes_of rfl rfl rfl rfl) (passes_of rfl)
  refine ⟨_, run, O, rho0 N ts, ?_, ?_⟩
  · have l1 : (L2.start N vs).length = N.length := by unfold L2.start; rw [List.length_append, List.length_map, List.length_replicate, En.lv]; omega
    have l2 : (rho0 N ts).length = N.length := by unfold rho0; rw [List.length_append, List.length_map, List.length_replicate, En.lt]; omega
    exact ⟨fun b o e1 e2 => ⟨e1, rfl⟩, En.nt, fun b r p e => Nat.lt_of_lt_of_le (En.val b r p e).1 hN, En.inj, fun b r p e _ => let ⟨_, _, t, z, h1, h2, h3⟩ := En.val b r p e; ⟨t, z, rho0_of h1, h2, h3⟩, l1, l2,
      fun i t e => let ⟨v, h1, h2⟩ := En.tr i t (rho0_get e); ⟨v, start_of h1, h2⟩, Nat.le_refl _, fun b e => let ⟨o, h, _⟩ := En.nt b (by rw [e]; intro z; cases z); ⟨o, h, e⟩, fun b j p e => ⟨Nat.lt_of_lt_of_le (En.val b j p e).1 hN, e⟩, En.sm, fun b j p e => (En.val b j p e).2.1⟩
  · have fin : ∀ {t : T} {v : V} {σ' : L2.St} {H' : Hp} {O' : Own} {ρ' : Rho} {m : Nat}, (∀ v H' O', Exi K np io vs H O H' O' ρ' → Val K H' O' np v t → Q v H') → Rel K C m σ' H' O' ρ' → Val K H' O' C.N v t → noAl t = true → Q v H' := fun {t v σ' H' O' ρ' m} q R' V' hal => by
      refine q v H' (outL np io C.N O') (exi_of rfl rfl hN En R') ?_
      have gen : ∀ u : T, (Tr K H' O' C.N [] v u ∧ ∀ b p, O' b = .at C.N p → ∃ z, subT u p = some z ∧ isNode z = true) → Tr K H' (outL np io C.N O') np [] v u ∧ ∀ b p, outL np io C.N O' b = .at np p → ∃ z, subT u p = some z ∧ isNode z = true := fun u h =>
        ⟨Tr.move (r' := np) (p0 := []) (p1 := []) (fun b o e1 e2 => ⟨e1, outL_free e2⟩) (fun b o q e1 e2 => ⟨e1, outL_res e2⟩) u [] v h.1, fun b p e => by
          rcases outL_at e with ⟨_, h2⟩ | ⟨h1, _⟩
          · exact h.2 b p h2
          · omega⟩
      cases t with
      | a r p => cases hal
      | _ => exact gen _ V'
    have hq' := hq ts _ _ hS
    refine hw.mono _ _ _ (LeD.mk (fun ρ' q => ?_) (fun t ρ' q => ?_) (fun _ z => False.elim z) (fun _ z => False.elim z) (fun c ρ' q => ?_)) hq'
    · intro σ' H' O' R' F'
      exact fin q R' (R'.val_d .non) rfl
    · intro v σ' H' O' R' F' V'
      exact fin q.2 R' V' q.1
    · intro σ' H' O' R' F'
      refine q H' _ (exi_of rfl rfl hN En R') fun b p e => ?_
      rcases outL_at e with ⟨_, h2⟩ | ⟨h1, _⟩
      · exact absurd (R'.lt b _ p h2) (Nat.lt_irrefl _)
      · omega
end
/-! ### the call, defaults behind -/
inductive Scs : List V → List PyData → Prop
  | nil : Scs [] []
  | cons {v x vs xs} : Sc v x → Scs vs xs → Scs (v :: vs) (x :: xs)
structure FdD (K : PySem.W.Frag) (mg : Str → Option Value) (x : Str) (st : Stmt) (ps : List Str) (dvs : List V) (dts : List PyData) (f : Addr) (fd : FuncData) : Prop where
  F : FunD K x x (defArgs st) (defBody st) (defScope st) dvs [] f fd
  g : mg x = some (.ref f)
  b : ∃ ds, Vals dvs ds ∧ Binds K fd ps ds
  a : ∃ ds, Vals [] ds ∧ Binds K fd ps ds
  s : Scs dvs dts
section
variable {P : Program} {w : World} {K : PySem.W.Frag} {mg : Str → Option Value} {base : Heap} {x : Str} {st : Stmt} {f : Addr} {fd : FuncData} {ps : List Str} {dvs : List V} {dts : List PyData} {k np : Nat} {io : List Nat} {S : SpT}
theorem FdD.df (D : FdD K mg x st ps dvs dts f fd) (G : FnG P w K mg base k f fd ps (lfSp K np io S)) : Df P w K mg base x k ps np io S := by
  obtain ⟨ds, v, b⟩ := D.a
  cases v
  exact ⟨f, fd, G, D.g, D.F.kp, b⟩
end
def wApp (dts : List PyData) (tas : TwA) : TwA := fun ρ Q E => tas ρ (fun ts ρ1 => Q (ts ++ dts.map T.d) ρ1) E
def appK (dts : List PyData) (ts : List T) (Q : List T → Rho → Prop) (ρ : Rho) : Prop := Q (ts ++ dts.map T.d) ρ
theorem xAppD {dts : List PyData} {tas : TwA} {ρ : Rho} {Q : List T → Rho → Prop} {E : ExK} (h : tas ρ (fun ts ρ1 => appK dts ts Q ρ1) E) : wApp dts tas ρ Q E := h
theorem xAppD11 {x : PyData} {t : T} {ρ : Rho} {Q : List T → Rho → Prop} (h : Q [t, .d x] ρ) : appK [x] [t] Q ρ := h
theorem xAppD21 {x : PyData} {t u : T} {ρ : Rho} {Q : List T → Rho → Prop} (h : Q [t, u, .d x] ρ) : appK [x] [t, u] Q ρ := h
theorem ValAll.app {K : PySem.W.Frag} {H : Hp} {O : Own} : ∀ {n : Nat} {vs ws : List V} {ts us : List T}, ValAll K H O n vs ts → ValAll K H O (n + ts.length) ws us → ValAll K H O n (vs ++ ws) (ts ++ us)
  | _, _, _, _, _, .nil, h => by simpa using h
  | n, _, _, _, _, .cons (ts := ts) a b, h => .cons a (ValAll.app b (by rw [List.length_cons] at h; rw [show n + 1 + ts.length = n + (ts.length + 1) by omega]; exact h))
section
variable {X : Cx} {k np : Nat} {f : Addr} {fd : FuncData} {ps : List Str} {sp : Sp} {E : L2.St → XK} {x : Str} {p pos : Pos} {e : Expr} {es : List Expr} {t : TA} {io : List Nat} {S : SpT} {tas : TwA} {dvs : List V} {ds : List Value} {dts : List PyData}
end
end TX

/-! Products of which one side is short. -/
namespace TX
open PySem PySem.Spec L2 PyProof.Rows
section
variable {X : Cx} {a b : Expr} {ta tb : TwE} {pos : Pos}
end
end TX

/-! a, b = e1, e2 where a name is a cell: over a tuple. -/
namespace TX
open PySem PySem.Spec L2 PyProof.Rows
theorem relFresh {K : PySem.W.Frag} {C : Ctx} {m : Nat} {σ : L2.St} {H : Hp} {O : Own} {ρ : Rho} {p : Addr} {o : HO} (R : Rel K C m σ H O ρ) (hp : H p = none) :
    Rel K C m σ (L2.upd H p o) O ρ ∧ (∀ n, Frm C.N n H O (L2.upd H p o) O) ∧ ∀ b u, H b = some u → L2.upd H p o b = some u := by
  have of := R.fresh hp
  have keep : ∀ b u, H b = some u → L2.upd H p o b = some u := fun b u e => by rw [upd_ne (ne_of_none e hp)]; exact e
  exact ⟨⟨fun b u e1 e2 => ⟨keep _ _ (R.fr b u e1 e2).1, (R.fr b u e1 e2).2⟩, fun b h => let ⟨u, e, w⟩ := R.nt b h; ⟨u, keep b u e, w⟩, R.lt, R.inj, R.val, R.ln, R.lr,
    fun i t e => let ⟨v, h2, h3⟩ := R.sl i t e; ⟨v, h2, Tr.move (r' := i) (p0 := []) (p1 := []) (fun b u e1 e2 => ⟨keep b u e1, e2⟩) (fun b u q e1 e2 => ⟨keep b u e1, e2⟩) t [] v h3⟩, R.hN, R.fo, R.pz, R.sm⟩,
    fun n => ⟨fun b u e1 e2 => ⟨keep b u e1, e2⟩, fun _ _ _ e _ => e, fun b u r q e1 e2 _ _ => ⟨keep b u e1, e2⟩, fun _ _ _ e _ _ => e⟩, keep⟩
section
variable {X : Cx} {io : List Nat} {a b : Expr} {tas : TwA} {px py pt pt2 pos : Pos} {kt k2 : Nat}
theorem ls_parC {i j : Nat} {x y : Str} (hc : X.calm = true) (hN : X.N.Nodup) (hi : X.N[i]? = some x) (hj : X.N[j]? = some y) (hij : i ≠ j) (hx : Loc X.env.scope x) (hy : Loc X.env.scope y) (ha : LA X [a, b] tas)
    (hw : swappedStores [.Tuple [.Name x px, .Name y py] kt pt] (.Tuple [a, b] k2 pt2) X.env = pure none) (hio : i ∉ io := by decide) (hjo : j ∉ io := by decide)
    (hs : swapsWithSole [.Tuple [.Name x px, .Name y py] kt pt] (.Tuple [a, b] k2 pt2) pos.line X.env = pure false := by rfl)
    (h1 : (assignEach [.Tuple [.Name x px, .Name y py] kt pt] X.env).map (·.2) = [assign (.Tuple [.Name x px, .Name y py] kt pt) X.env] := by rfl)
    (hn : (assignEach [.Name x px, .Name y py] X.env).length = 2 := by rfl) (hst : (assignEach [.Name x px, .Name y py] X.env).findIdx? (·.1) = none := by rfl)
    (he1 : (assignEach [.Name x px, .Name y py] X.env).map (·.2) = assign (.Name x px) X.env :: (assignEach [.Name y py] X.env).map (·.2) := by rfl) (he2 : (assignEach [.Name y py] X.env).map (·.2) = assign (.Name y py) X.env :: (assignEach [] X.env).map (·.2) := by rfl)
    (hfx : X.fn x = true ∨ X.env.scope.names.lookup x = some .local := by first | exact .inl rfl | exact .inr rfl) (hfy : X.fn y = true ∨ X.env.scope.names.lookup y = some .local := by first | exact .inl rfl | exact .inr rfl) :
    LS X io (.Assign [.Tuple [.Name x px, .Name y py] kt pt] (.Tuple [a, b] k2 pt2) pos) (wPar i j tas) := by
  refine ⟨fun D D' ρ l q => ha.mono ρ _ _ _ _ (fun ts ρ1 ⟨t, u, e, h1, h2, q⟩ => ⟨t, u, e, h1, h2, l.nx _ q⟩) l.ex q, fun C W hC hio' tk hp =>
    (ps_asg (pe_tup (ha.run C W C.N hC (Nat.le_refl _) tk)) (pg_tup hc (pgs_cons (pg_name hN hi hx hfx) (pgs_cons (pg_name hN hj hy hfy) pgs_nil he2) he1) hn hst) hs hw h1).imp fun D σ H ⟨O, ρ, R, q⟩ => ?_⟩
  refine ⟨O, ρ, R, ha.mono ρ _ _ _ _ (fun ts ρ1 ⟨t, u, e, h1, h2, q⟩ => ?_) (fun _ _ z => z) q⟩
  subst e
  intro vs H1 O1 R1 F1 V1
  obtain ⟨v, w, rfl, V2, V3⟩ := V1.two
  refine ⟨show (2 : Nat) ≤ sizeLine by decide +kernel, fun p hp => ⟨p, [v, w], rfl, .inl (.inl upd_same), rfl, v, [w], rfl, w, [], rfl, rfl, ?_⟩⟩
  obtain ⟨R0, F0, kp⟩ := relFresh (o := .tup [v, w]) R1 hp
  have V2 := V2.carry2 (Nat.le_refl _) R1.lt R1.nt (F0 _)
  have V3 := V3.carry (Nat.le_succ _) R1.lt R1.nt (F0 _)
  have F1 := F1.trans (F0 C.N) (Nat.le_refl _)
  have li := nlt hC hi
  have lj := nlt hC hj
  obtain ⟨R2, f2, k2'⟩ := relStoreM (m := C.N + 1) R0 (Nat.le_succ _) lj (by rw [hio']; exact hjo) V3 (noAl_ne h2)
  have V4 : Val X.K (L2.upd H1 p (.tup [v, w])) (mvR (C.N + 1) j (dropR j O1)) C.N v t := by
    have gen : ∀ t : T, (Tr X.K (L2.upd H1 p (.tup [v, w])) O1 C.N [] v t ∧ ∀ b p, O1 b = .at C.N p → ∃ z, subT t p = some z ∧ isNode z = true) → Tr X.K (L2.upd H1 p (.tup [v, w])) (mvR (C.N + 1) j (dropR j O1)) C.N [] v t ∧ ∀ b p, mvR (C.N + 1) j (dropR j O1) b = .at C.N p → ∃ z, subT t p = some z ∧ isNode z = true := fun t h =>
      ⟨Tr.move (r' := C.N) (p0 := []) (p1 := []) (fun b o e1 e2 => ⟨e1, (f2 b o e1 e2).2⟩) (fun b o q e1 e2 => ⟨e1, (k2' b _ _ (Nat.le_refl _) (Nat.lt_succ_self _)).mpr e2⟩) t [] v h.1, fun b p e => h.2 b p ((k2' b _ _ (Nat.le_refl _) (Nat.lt_succ_self _)).mp e)⟩
    cases t with
    | a r p => cases h1
    | _ => exact gen _ V2
  obtain ⟨R3, f3, _⟩ := relStoreM (m := C.N) R2 (Nat.le_refl _) li (by rw [hio']; exact hio) V4 (noAl_ne h1)
  rw [List.set_comm _ _ (fun e => hij e.symm)] at R3
  rw [List.set_comm (i := j) (j := i) _ _ (fun e => hij e.symm)] at R3
  exact q _ _ _ R3 ((F1.fre.trans f2).trans f3)
end
end TX

/-! Dicts by comprehensions, nothing but their own names changed. -/
namespace TX
open PySem PySem.Spec L2 PyProof.Rows
section
variable {ρ : Rho} {Q : T → Rho → Prop} {g : TwG} {tt : TwT} {tk tv : TwE} {vs : List Nat}
end
end TX

namespace LW
open PySem PySem.Spec L2 TX
/-! ### lists of ints and pairs, plainly -/
def leI (a b : Int) : Bool := decide (a ≤ b)
def leP (p q : Int × Int) : Bool := decide (p.1 < q.1 ∨ (p.1 = q.1 ∧ p.2 ≤ q.2))
def pr (p : Int × Int) : PyData := .tuple [.int p.1, .int p.2]
def sI (cs : List Int) : List Int := cs.mergeSort leI
theorem sortI (cs : List Int) : (cs.map PyData.int).mergeSort le0 = (sI cs).map PyData.int :=
  (PySem.W.sort_maps PyData.int fun a _ b _ => (congrFun (congrFun (PySem.W.dataLe_int (fun z : Int => z)) a) b).symm).symm
theorem sortP (ps : List (Int × Int)) : (ps.map pr).mergeSort le0 = (ps.mergeSort leP).map pr :=
  (PySem.W.sort_maps pr fun a _ b _ => (congrFun (congrFun (PySem.W.dataLe_ii (fun p : Int × Int => p.1) (fun p => p.2)) a) b).symm).symm
theorem sI_perm (cs : List Int) : (sI cs).Perm cs := List.mergeSort_perm cs leI
theorem sI_sorted (cs : List Int) (h : cs.Nodup) : (sI cs).Pairwise (· < ·) := by
  have h1 : (sI cs).Pairwise fun a b => leI a b = true := List.pairwise_mergeSort (fun a b c h1 h2 => by simp only [leI, decide_eq_true_eq] at *; omega) (fun a b => by simp only [leI, Bool.or_eq_true, decide_eq_true_eq]; omega) cs
  have h2 : (sI cs).Pairwise (· ≠ ·) := (sI_perm cs).nodup_iff.mpr h
  exact (h1.and h2).imp fun ⟨a, b⟩ => by simp only [leI, decide_eq_true_eq] at a; omega
/-- the first place of y -/
def pos : List Int → Int → Nat
  | [], _ => 0
  | c :: cs, y => if c = y then 0 else pos cs y + 1
theorem pos_at : ∀ {cs : List Int} {y : Int}, y ∈ cs → cs[pos cs y]? = some y
  | c :: cs, y, h => by
    unfold pos
    by_cases e : c = y
    · rw [if_pos e]; simp [e]
    · rw [if_neg e]; simp only [List.getElem?_cons_succ]; exact pos_at ((List.mem_cons.mp h).resolve_left fun z => e z.symm)
theorem pos_no : ∀ {cs : List Int} {y : Int} {m : Nat} {z : Int}, m < pos cs y → cs[m]? = some z → z ≠ y
  | [], _, _, _, h, _ => by simp [pos] at h
  | c :: cs, y, m, z, h, e => by
    unfold pos at h
    by_cases q : c = y
    · rw [if_pos q] at h; omega
    · rw [if_neg q] at h
      cases m with
      | zero => simp at e; subst e; exact q
      | succ m => exact pos_no (cs := cs) (m := m) (Nat.lt_of_succ_lt_succ h) (by simpa using e)
theorem wp_blk {c : Int} {xs : List Int} {p : Int × Int} : p ∈ (xs.filter fun x => decide (x < c)).map (fun x => (x, c)) ↔ p.2 = c ∧ p.1 ∈ xs ∧ p.1 < p.2 := by
  simp only [List.mem_map, List.mem_filter, decide_eq_true_eq]
  constructor
  · rintro ⟨x, ⟨h1, h2⟩, rfl⟩; exact ⟨rfl, h1, h2⟩
  · rintro ⟨h1, h2, h3⟩; exact ⟨p.1, ⟨h2, h1 ▸ h3⟩, by rw [← h1]⟩
/-- the pairs that stand wrong, at each place the smaller ones behind it -/
def wp : List Int → List (Int × Int)
  | [] => []
  | c :: cs => (cs.filter fun x => decide (x < c)).map (fun x => (x, c)) ++ wp cs
theorem wp_mem : ∀ {cs : List Int}, cs.Nodup → ∀ p : Int × Int, p ∈ wp cs ↔ p.1 ∈ cs ∧ p.2 ∈ cs ∧ p.1 < p.2 ∧ pos cs p.2 < pos cs p.1
  | [], _, p => by simp [wp]
  | c :: cs, h, p => by
    rw [List.nodup_cons] at h
    unfold wp
    rw [List.mem_append, wp_blk, wp_mem h.2 p]
    simp only [List.mem_cons, pos]
    have ne : ∀ {x}, x ∈ cs → c ≠ x := fun hx e => h.1 (e ▸ hx)
    constructor
    · rintro (⟨rfl, h2, h3⟩ | ⟨h1, h2, h3, h4⟩)
      · refine ⟨.inr h2, .inl rfl, h3, ?_⟩
        rw [if_pos rfl, if_neg (ne h2)]; omega
      · refine ⟨.inr h1, .inr h2, h3, ?_⟩
        rw [if_neg (ne h1), if_neg (ne h2)]; omega
    · rintro ⟨h1, h2, h3, h4⟩
      rcases h2 with e2 | h2
      · rcases h1 with e1 | h1
        · rw [e1, e2] at h3; omega
        · exact .inl ⟨e2, h1, h3⟩
      · rcases h1 with e1 | h1
        · rw [if_pos e1.symm] at h4; omega
        · rw [if_neg (ne h1), if_neg (ne h2)] at h4
          exact .inr ⟨h1, h2, h3, by omega⟩
theorem nodup_map {α β : Type} {f : α → β} (hf : ∀ a b, f a = f b → a = b) : ∀ {l : List α}, l.Nodup → (l.map f).Nodup := fun {l} h => List.pairwise_map.mpr (h.imp fun hab e => hab (hf _ _ e))
theorem wp_nodup : ∀ {cs : List Int}, cs.Nodup → (wp cs).Nodup
  | [], _ => List.nodup_nil
  | c :: cs, h => by
    have h' := h
    rw [List.nodup_cons] at h
    unfold wp
    rw [List.nodup_append]
    refine ⟨nodup_map (fun a b e => (Prod.mk.inj e).1) (h.2.filter _), wp_nodup h.2, fun p hp q hq e => ?_⟩
    subst e
    have h1 := (wp_blk.mp hp).1
    have h2 := ((wp_mem h.2 p).mp hq).2.1
    exact h.1 (h1 ▸ h2)
theorem wp_len : ∀ cs : List Int, (wp cs).length ≤ cs.length * cs.length
  | [] => Nat.le_refl _
  | c :: cs => by
    unfold wp
    rw [List.length_append, List.length_map, List.length_cons, Nat.succ_mul, Nat.mul_succ]
    have := wp_len cs
    have := List.length_filter_le (fun x => decide (x < c)) cs
    omega
/-- the same by the smaller one, upwards -/
def dp (row : List Int) : List Int → List (Int × Int)
  | [] => []
  | l :: s => (s.filter fun g => decide (pos row g < pos row l)).map (fun g => (l, g)) ++ dp row s
theorem dp_blk {row : List Int} {l : Int} {xs : List Int} {p : Int × Int} : p ∈ (xs.filter fun g => decide (pos row g < pos row l)).map (fun g => (l, g)) ↔ p.1 = l ∧ p.2 ∈ xs ∧ pos row p.2 < pos row p.1 := by
  simp only [List.mem_map, List.mem_filter, decide_eq_true_eq]
  constructor
  · rintro ⟨x, ⟨h1, h2⟩, rfl⟩; exact ⟨rfl, h1, h2⟩
  · rintro ⟨h1, h2, h3⟩; exact ⟨p.2, ⟨h2, h1 ▸ h3⟩, by rw [← h1]⟩
theorem dp_mem {row : List Int} : ∀ {s : List Int}, s.Pairwise (· < ·) → ∀ p : Int × Int, p ∈ dp row s ↔ p.1 ∈ s ∧ p.2 ∈ s ∧ p.1 < p.2 ∧ pos row p.2 < pos row p.1
  | [], _, p => by simp [dp]
  | l :: s, h, p => by
    rw [List.pairwise_cons] at h
    unfold dp
    rw [List.mem_append, dp_blk, dp_mem h.2 p]
    simp only [List.mem_cons]
    constructor
    · rintro (⟨rfl, h2, h3⟩ | ⟨h1, h2, h3, h4⟩)
      · exact ⟨.inl rfl, .inr h2, h.1 _ h2, h3⟩
      · exact ⟨.inr h1, .inr h2, h3, h4⟩
    · rintro ⟨h1, h2, h3, h4⟩
      rcases h1 with e1 | h1
      · rcases h2 with e2 | h2
        · omega
        · exact .inl ⟨e1, h2, h4⟩
      · rcases h2 with e2 | h2
        · have := h.1 _ h1; omega
        · exact .inr ⟨h1, h2, h3, h4⟩
theorem dp_sorted {row : List Int} : ∀ {s : List Int}, s.Pairwise (· < ·) → (dp row s).Pairwise fun p q => p.1 < q.1 ∨ (p.1 = q.1 ∧ p.2 < q.2)
  | [], _ => List.Pairwise.nil
  | l :: s, h => by
    have h' := h
    rw [List.pairwise_cons] at h
    unfold dp
    refine List.pairwise_append.mpr ⟨List.pairwise_map.mpr ((h.2.filter _).imp fun hab => .inr ⟨rfl, hab⟩), dp_sorted h.2, fun p hp q hq => ?_⟩
    have h1 := (dp_blk.mp hp).1
    have h2 := h.1 _ ((dp_mem h.2 q).mp hq).1
    exact .inl (by omega)
theorem dp_len (row : List Int) : ∀ s : List Int, (dp row s).length ≤ s.length * s.length
  | [] => Nat.le_refl _
  | l :: s => by
    unfold dp
    rw [List.length_append, List.length_map, List.length_cons, Nat.succ_mul, Nat.mul_succ]
    have := dp_len row s
    have := List.length_filter_le (fun g => decide (pos row g < pos row l)) s
    omega
/-- THE LAW, plainly -/
theorem wrong_due {cs : List Int} (h : cs.Nodup) : (wp cs).mergeSort leP = dp cs (sI cs) := by
  have hs := sI_sorted cs h
  have d1 := dp_sorted (row := cs) hs
  have nd : (dp cs (sI cs)).Nodup := d1.imp fun {p q} hpq e => by subst e; omega
  refine List.Perm.eq_of_pairwise (le := fun p q => leP p q = true) (fun p q _ _ h1 h2 => ?_) (List.pairwise_mergeSort (fun a b c h1 h2 => ?_) (fun a b => ?_) _) (d1.imp fun {p q} hpq => ?_) ((List.mergeSort_perm _ _).trans ((List.perm_ext_iff_of_nodup (wp_nodup h) nd).mpr fun p => ?_))
  · simp only [leP, decide_eq_true_eq] at h1 h2
    exact Prod.ext (by omega) (by omega)
  · simp only [leP, decide_eq_true_eq] at *; omega
  · simp only [leP, Bool.or_eq_true, decide_eq_true_eq]; omega
  · simp only [leP, decide_eq_true_eq]; omega
  · rw [wp_mem h, dp_mem hs, (sI_perm cs).mem_iff, (sI_perm cs).mem_iff]
/-! ### as data -/
def pairL (ps : List (Int × Int)) : T := .l ((ps.map pr).map T.d)
theorem erase_pairL {ps : List (Int × Int)} : erase (pairL ps) = some (.list (ps.map pr)) := by unfold pairL; simp only [erase, eraseAll_d, Option.map_some]
theorem alike_prs (ps : List (Int × Int)) : PySem.W.AllAlike (ps.map pr) := fun d h d' h' => by
  obtain ⟨p, _, rfl⟩ := List.mem_map.mp h
  obtain ⟨q, _, rfl⟩ := List.mem_map.mp h'
  rfl
theorem alike_ints (cs : List Int) : PySem.W.AllAlike (cs.map PyData.int) := fun d h d' h' => by
  obtain ⟨p, _, rfl⟩ := List.mem_map.mp h
  obtain ⟨q, _, rfl⟩ := List.mem_map.mp h'
  rfl
theorem sortable_prs (ps : List (Int × Int)) : PySem.W.Sortable (ps.map pr) := .inl fun d h => by
  obtain ⟨p, _, rfl⟩ := List.mem_map.mp h
  exact ⟨_, _, rfl⟩
theorem sortable_ints (cs : List Int) : PySem.W.Sortable (cs.map PyData.int) := .inr fun d h => by
  obtain ⟨p, _, rfl⟩ := List.mem_map.mp h
  exact ⟨fun z => (by cases z), fun xs z => (by cases z)⟩
theorem depth_prs (ps : List (Int × Int)) : ∀ d ∈ ps.map pr, d.depth ≤ 60 := fun d h => by
  obtain ⟨p, _, rfl⟩ := List.mem_map.mp h
  simp [pr, PyData.depth, PyData.depthAll]
theorem depth_ints (cs : List Int) : ∀ d ∈ cs.map PyData.int, d.depth ≤ 60 := fun d h => by
  obtain ⟨p, _, rfl⟩ := List.mem_map.mp h
  simp [PyData.depth]
theorem canLay_ints : ∀ cs : List Int, PyData.canLayAll0 (cs.map PyData.int) = true
  | [] => rfl
  | c :: cs => by simp only [List.map_cons, PyData.canLayAll0, PyData.canLay0, canLay_ints cs, Bool.and_self]
theorem depthAll_ints : ∀ cs : List Int, PyData.depthAll (cs.map PyData.int) ≤ 1
  | [] => by simp [PyData.depthAll]
  | c :: cs => by
    have := depthAll_ints cs
    simp only [List.map_cons, PyData.depthAll, PyData.depth]; omega
theorem shaped_ints (cs : List Int) : SeqAt.shaped (.list (cs.map PyData.int)) = true := by
  have := depthAll_ints cs
  have e : (PyData.list (cs.map PyData.int)).depth ≤ 64 := by simp only [PyData.depth]; omega
  simp only [SeqAt.shaped, PyData.canLay0, canLay_ints, Bool.true_and, decide_eq_true_eq]
  exact e
theorem cut_from {cs : List Int} {k : Int} (h : 0 ≤ k) : cutD (cs.map PyData.int) (some k) none = (cs.drop k.toNat).map PyData.int := by
  unfold cutD
  rw [List.map_drop]
  have e : HT.sIx (cs.map PyData.int).length 0 (some k) = min k.toNat (cs.map PyData.int).length := by show (if k < 0 then _ else _) = _; rw [if_neg (by omega)]
  rw [e, show HT.sIx (cs.map PyData.int).length (cs.map PyData.int).length none = (cs.map PyData.int).length from rfl]
  generalize cs.map PyData.int = ds
  by_cases q : k.toNat ≤ ds.length
  · rw [Nat.min_eq_left q]; exact List.take_of_length_le (by simp)
  · rw [Nat.min_eq_right (by omega), List.drop_of_length_le (Nat.le_refl _), List.drop_of_length_le (by omega)]; simp
theorem xIdxI {ρ : Rho} {Q : T → Rho → Prop} {t u : T} {cs : List Int} {y : Int} (h1 : vw ρ t = some (.list (cs.map PyData.int))) (h2 : vw ρ u = some (.int y)) (hy : y ∈ cs) (q : Q (.d (.int (pos cs y : Nat))) ρ) : kIdx t [u] ρ Q :=
  ⟨u, _, _, pos cs y, .int y, rfl, h1, h2, shaped_ints cs, rfl, by rw [List.getElem?_map, pos_at hy]; rfl, by simp [eqv_int], fun m z hm hz => by
    rw [List.getElem?_map] at hz
    cases e : cs[m]? with
    | none => rw [e] at hz; cases hz
    | some w => rw [e] at hz; cases hz; rw [eqv_int]; simpa using pos_no hm e, q⟩
/-! ### what a repr asks -/
theorem wt_int {i : Int} (h : i.natAbs < 10 ^ 12) : (PyData.int i).weight ≤ 41 := by
  have := log_le (a := 40) (show i.natAbs < 2 ^ 40 by omega)
  simp only [PyData.weight]
  split <;> omega
theorem shb_int {i : Int} (h : i.natAbs < 10 ^ 12) : (PyData.int i).showable = true := by
  have := log_le (a := 40) (show i.natAbs < 2 ^ 40 by omega)
  simp only [PyData.showable, decide_eq_true_eq]
  omega
def smallP (p : Int × Int) : Prop := p.1.natAbs < 10 ^ 12 ∧ p.2.natAbs < 10 ^ 12
end LW

namespace LW
open PySem PySem.Spec L2 TX
/-! ### triples, plainly -/
abbrev I3 := Int × Int × Int
def leT (p q : I3) : Bool := decide (p.1 < q.1 ∨ (p.1 = q.1 ∧ (p.2.1 < q.2.1 ∨ (p.2.1 = q.2.1 ∧ p.2.2 ≤ q.2.2))))
def tr3 (p : I3) : PyData := .tuple [.int p.1, .int p.2.1, .int p.2.2]
theorem le0_tr (p q : I3) : leT p q = le0 (tr3 p) (tr3 q) := by
  have e : le0 (tr3 p) (tr3 q) = !decide ([q.1, q.2.1, q.2.2] < [p.1, p.2.1, p.2.2]) := by
    rw [← PySem.W.dataLt_ints]; rfl
  rw [e]
  rw [Bool.eq_iff_iff]
  simp only [leT, decide_eq_true_eq, Bool.not_eq_true', decide_eq_false_iff_not, List.cons_lt_cons_iff, List.not_lt_nil, or_false, and_false]
  omega
theorem sortT (ps : List I3) : (ps.map tr3).mergeSort le0 = (ps.mergeSort leT).map tr3 := (PySem.W.sort_maps tr3 fun a _ b _ => le0_tr a b).symm
/-! ### the crossing threes -/
theorem pos_filter {f : Int → Bool} : ∀ {cs : List Int} {x y : Int}, x ∈ cs.filter f → y ∈ cs.filter f → (pos (cs.filter f) y < pos (cs.filter f) x ↔ pos cs y < pos cs x)
  | [], _, _, h, _ => by simp at h
  | c :: cs, x, y, hx, hy => by
    by_cases fc : f c = true
    · rw [List.filter_cons_of_pos fc] at hx hy ⊢
      simp only [pos]
      by_cases e1 : c = y
      · rw [if_pos e1, if_pos e1]
        by_cases e2 : c = x
        · rw [if_pos e2, if_pos e2]
        · rw [if_neg e2, if_neg e2]; omega
      · by_cases e2 : c = x
        · rw [if_neg e1, if_pos e2, if_neg e1, if_pos e2]; omega
        · have hx' := (List.mem_cons.mp hx).resolve_left fun z => e2 z.symm
          have hy' := (List.mem_cons.mp hy).resolve_left fun z => e1 z.symm
          have := pos_filter hx' hy'
          rw [if_neg e1, if_neg e2, if_neg e1, if_neg e2]; omega
    · rw [List.filter_cons_of_neg fc] at hx hy ⊢
      simp only [pos]
      have e1 : c ≠ y := fun e => fc (e ▸ (List.mem_filter.mp hy).2)
      have e2 : c ≠ x := fun e => fc (e ▸ (List.mem_filter.mp hx).2)
      have := pos_filter hx hy
      rw [if_neg e1, if_neg e2]; omega
def wt : List Int → List I3
  | [] => []
  | c :: cs => (wp (cs.filter fun x => decide (x < c))).map (fun p => (p.1, p.2, c)) ++ wt cs
theorem wt_blk {c : Int} {l : List (Int × Int)} {p : I3} : p ∈ l.map (fun p => (p.1, p.2, c)) ↔ (p.1, p.2.1) ∈ l ∧ p.2.2 = c := by
  constructor
  · intro h; obtain ⟨q, hq, rfl⟩ := List.mem_map.mp h; exact ⟨hq, rfl⟩
  · rintro ⟨h1, h2⟩; exact List.mem_map.mpr ⟨_, h1, by rw [← h2]⟩
theorem wt_mem : ∀ {cs : List Int}, cs.Nodup → ∀ p : I3, p ∈ wt cs ↔ (p.1 ∈ cs ∧ p.2.1 ∈ cs ∧ p.2.2 ∈ cs) ∧ p.1 < p.2.1 ∧ p.2.1 < p.2.2 ∧ pos cs p.2.1 < pos cs p.1 ∧ pos cs p.2.2 < pos cs p.2.1
  | [], _, p => by simp [wt]
  | c :: cs, h, p => by
    have h' := h
    rw [List.nodup_cons] at h
    have ne : ∀ {x}, x ∈ cs → c ≠ x := fun hx e => h.1 (e ▸ hx)
    unfold wt
    rw [List.mem_append, wt_blk, wt_mem h.2 p, wp_mem (h.2.filter _)]
    simp only [pos, List.mem_cons]
    constructor
    · rintro (⟨⟨h1, h2, h3, h4⟩, e⟩ | ⟨⟨h1, h2, h3⟩, h4, h5, h6, h7⟩)
      · have a1 := List.mem_filter.mp h1
        have a2 := List.mem_filter.mp h2
        have l1 := of_decide_eq_true a1.2
        have l2 := of_decide_eq_true a2.2
        have pp := (pos_filter h1 h2).mp h4
        refine ⟨⟨.inr a1.1, .inr a2.1, .inl e⟩, h3, by omega, ?_, ?_⟩
        · rw [if_neg (ne a2.1), if_neg (ne a1.1)]; omega
        · rw [if_pos e.symm, if_neg (ne a2.1)]; omega
      · refine ⟨⟨.inr h1, .inr h2, .inr h3⟩, h4, h5, ?_, ?_⟩
        · rw [if_neg (ne h2), if_neg (ne h1)]; omega
        · rw [if_neg (ne h3), if_neg (ne h2)]; omega
    · rintro ⟨⟨h1, h2, h3⟩, h4, h5, h6, h7⟩
      have n1 : p.1 ≠ c := fun e => by rw [if_pos e.symm] at h6; omega
      have n2 : p.2.1 ≠ c := fun e => by rw [if_pos e.symm] at h7; omega
      have m1 := h1.resolve_left n1
      have m2 := h2.resolve_left n2
      rw [if_neg (ne m2), if_neg (ne m1)] at h6
      rcases h3 with e | m3
      · have f1 : p.1 ∈ cs.filter fun x => decide (x < c) := List.mem_filter.mpr ⟨m1, decide_eq_true (by omega)⟩
        have f2 : p.2.1 ∈ cs.filter fun x => decide (x < c) := List.mem_filter.mpr ⟨m2, decide_eq_true (by omega)⟩
        exact .inl ⟨⟨f1, f2, h4, (pos_filter f1 f2).mpr (by omega)⟩, e⟩
      · rw [if_neg (ne m3), if_neg (ne m2)] at h7
        exact .inr ⟨⟨m1, m2, m3⟩, h4, h5, by omega, by omega⟩
theorem wt_nodup : ∀ {cs : List Int}, cs.Nodup → (wt cs).Nodup
  | [], _ => List.nodup_nil
  | c :: cs, h => by
    rw [List.nodup_cons] at h
    unfold wt
    rw [List.nodup_append]
    refine ⟨nodup_map (fun a b e => Prod.ext (Prod.mk.inj e).1 (Prod.mk.inj (Prod.mk.inj e).2).1) (wp_nodup (h.2.filter _)), wt_nodup h.2, fun p hp q hq e => ?_⟩
    subst e
    have h1 := (wt_blk.mp hp).2
    exact h.1 (h1 ▸ ((wt_mem h.2 p).mp hq).1.2.2)
theorem wt_len : ∀ cs : List Int, (wt cs).length ≤ cs.length * (cs.length * cs.length)
  | [] => Nat.le_refl _
  | c :: cs => by
    unfold wt
    rw [List.length_append, List.length_map, List.length_cons]
    have h1 := wt_len cs
    have h2 := wp_len (cs.filter fun x => decide (x < c))
    have h3 := List.length_filter_le (fun x => decide (x < c)) cs
    have h4 : (cs.filter fun x => decide (x < c)).length * (cs.filter fun x => decide (x < c)).length ≤ cs.length * cs.length := Nat.mul_le_mul h3 h3
    have h5 : cs.length * cs.length ≤ (cs.length + 1) * (cs.length + 1) := Nat.mul_le_mul (by omega) (by omega)
    have h6 : cs.length * (cs.length * cs.length) ≤ cs.length * ((cs.length + 1) * (cs.length + 1)) := Nat.mul_le_mul_left _ h5
    rw [Nat.succ_mul]
    omega
/-! ### all threes of a rising row -/
def p2 : List Int → List (Int × Int)
  | [] => []
  | y :: s => s.map (fun z => (y, z)) ++ p2 s
def th : List Int → List I3
  | [] => []
  | x :: s => (p2 s).map (fun p => (x, p.1, p.2)) ++ th s
theorem p2_mem : ∀ {s : List Int}, s.Pairwise (· < ·) → ∀ p : Int × Int, p ∈ p2 s ↔ p.1 ∈ s ∧ p.2 ∈ s ∧ p.1 < p.2
  | [], _, p => by simp [p2]
  | y :: s, h, p => by
    rw [List.pairwise_cons] at h
    unfold p2
    rw [List.mem_append, p2_mem h.2 p, List.mem_map]
    simp only [List.mem_cons]
    constructor
    · rintro (⟨z, hz, rfl⟩ | ⟨h1, h2, h3⟩)
      · exact ⟨.inl rfl, .inr hz, h.1 z hz⟩
      · exact ⟨.inr h1, .inr h2, h3⟩
    · rintro ⟨h1, h2, h3⟩
      rcases h1 with e1 | h1
      · rcases h2 with e2 | h2
        · omega
        · exact .inl ⟨p.2, h2, by rw [← e1]⟩
      · rcases h2 with e2 | h2
        · have := h.1 _ h1; omega
        · exact .inr ⟨h1, h2, h3⟩
theorem p2_sorted : ∀ {s : List Int}, s.Pairwise (· < ·) → (p2 s).Pairwise fun p q => p.1 < q.1 ∨ (p.1 = q.1 ∧ p.2 < q.2)
  | [], _ => List.Pairwise.nil
  | y :: s, h => by
    rw [List.pairwise_cons] at h
    unfold p2
    refine List.pairwise_append.mpr ⟨List.pairwise_map.mpr (h.2.imp fun hab => .inr ⟨rfl, hab⟩), p2_sorted h.2, fun p hp q hq => ?_⟩
    obtain ⟨z, _, rfl⟩ := List.mem_map.mp hp
    exact .inl (h.1 _ ((p2_mem h.2 q).mp hq).1)
theorem th_mem : ∀ {s : List Int}, s.Pairwise (· < ·) → ∀ p : I3, p ∈ th s ↔ (p.1 ∈ s ∧ p.2.1 ∈ s ∧ p.2.2 ∈ s) ∧ p.1 < p.2.1 ∧ p.2.1 < p.2.2
  | [], _, p => by simp [th]
  | x :: s, h, p => by
    rw [List.pairwise_cons] at h
    unfold th
    rw [List.mem_append, th_mem h.2 p, List.mem_map]
    simp only [List.mem_cons]
    constructor
    · rintro (⟨z, hz, rfl⟩ | ⟨⟨h1, h2, h3⟩, h4, h5⟩)
      · obtain ⟨a, b, c⟩ := (p2_mem h.2 z).mp hz
        exact ⟨⟨.inl rfl, .inr a, .inr b⟩, h.1 _ a, c⟩
      · exact ⟨⟨.inr h1, .inr h2, .inr h3⟩, h4, h5⟩
    · rintro ⟨⟨h1, h2, h3⟩, h4, h5⟩
      have a2 : p.2.1 ∈ s := h2.resolve_left fun e => by
        rcases h1 with e1 | h1
        · omega
        · have := h.1 _ h1; omega
      have a3 : p.2.2 ∈ s := h3.resolve_left fun e => by have := h.1 _ a2; omega
      rcases h1 with e1 | h1
      · exact .inl ⟨(p.2.1, p.2.2), (p2_mem h.2 _).mpr ⟨a2, a3, h5⟩, by rw [← e1]⟩
      · exact .inr ⟨⟨h1, a2, a3⟩, h4, h5⟩
def ltT (p q : I3) : Prop := p.1 < q.1 ∨ (p.1 = q.1 ∧ (p.2.1 < q.2.1 ∨ (p.2.1 = q.2.1 ∧ p.2.2 < q.2.2)))
theorem th_sorted : ∀ {s : List Int}, s.Pairwise (· < ·) → (th s).Pairwise ltT
  | [], _ => List.Pairwise.nil
  | x :: s, h => by
    rw [List.pairwise_cons] at h
    unfold th
    refine List.pairwise_append.mpr ⟨List.pairwise_map.mpr ((p2_sorted h.2).imp fun hab => .inr ⟨rfl, hab⟩), th_sorted h.2, fun p hp q hq => ?_⟩
    obtain ⟨z, _, rfl⟩ := List.mem_map.mp hp
    exact .inl (h.1 _ ((th_mem h.2 q).mp hq).1.1)
def dt (row : List Int) : List I3 := (th (sI row)).filter fun p => decide (pos row p.2.2 < pos row p.2.1) && decide (pos row p.2.1 < pos row p.1)
theorem cross_due {cs : List Int} (h : cs.Nodup) : (wt cs).mergeSort leT = dt cs := by
  have hs := sI_sorted cs h
  have d1 : (dt cs).Pairwise ltT := (th_sorted hs).filter _
  have nd : (dt cs).Nodup := d1.imp fun {p q} hpq e => by subst e; unfold ltT at hpq; omega
  refine List.Perm.eq_of_pairwise (le := fun p q => leT p q = true) (fun p q _ _ h1 h2 => ?_) (List.pairwise_mergeSort (fun a b c h1 h2 => ?_) (fun a b => ?_) _) (d1.imp fun {p q} hpq => ?_) ((List.mergeSort_perm _ _).trans ((List.perm_ext_iff_of_nodup (wt_nodup h) nd).mpr fun p => ?_))
  · simp only [leT, decide_eq_true_eq] at h1 h2
    exact Prod.ext (by omega) (Prod.ext (by omega) (by omega))
  · simp only [leT, decide_eq_true_eq] at *; omega
  · simp only [leT, Bool.or_eq_true, decide_eq_true_eq]; omega
  · simp only [leT, decide_eq_true_eq]; unfold ltT at hpq; omega
  · unfold dt
    rw [wt_mem h, List.mem_filter, th_mem hs, (sI_perm cs).mem_iff, (sI_perm cs).mem_iff, (sI_perm cs).mem_iff]
    simp only [Bool.and_eq_true, decide_eq_true_eq]
    constructor
    · rintro ⟨a, b, c, d, e⟩; exact ⟨⟨a, b, c⟩, e, d⟩
    · rintro ⟨⟨a, b, c⟩, e, d⟩; exact ⟨a, b, c, d, e⟩
end LW

namespace LW
open PySem PySem.Spec L2 TX

local macro_rules | `(tactic| trivial) => `(tactic| with_reducible first
  | refine xSeq ?_ | refine xSet ?_ | refine xSetK (by with_unfolding_all rfl) ?_ | refine xNext ?_ | refine xIfS ?_ | refine xDrop ?_ | refine xRet ?_ | refine xAsg ?_ | refine xAsK (by with_unfolding_all rfl) ?_ | refine xSub ?_ | refine xSbK (by with_unfolding_all rfl) (by with_unfolding_all rfl) (by with_unfolding_all rfl) ?_
  | refine xVarD (by with_unfolding_all rfl) ?_ | refine xVarZ (by with_unfolding_all rfl) ?_ | refine xVarN (by with_unfolding_all rfl) (by with_unfolding_all rfl) ?_ | refine xC ?_ | refine xOp ?_ | refine xI (by with_unfolding_all rfl) (by with_unfolding_all rfl) ?_ | refine xB (by with_unfolding_all rfl) (by with_unfolding_all rfl) ?_ | refine xEqI (by with_unfolding_all rfl) (by with_unfolding_all rfl) ?_ | refine xNeI (by with_unfolding_all rfl) (by with_unfolding_all rfl) ?_ | refine xNeg ?_ | refine xNegK ?_
  | refine xIc (by with_unfolding_all rfl) (by with_unfolding_all rfl) (by with_unfolding_all first | omega | exact ⟨by decide, by decide +kernel⟩) ?_
  | refine xT ?_ | refine xTK ?_ | refine xNot ?_ | refine xAnd ?_ | refine xOr ?_ | refine xAndV ?_ | refine xOrV ?_ | refine xNotV ?_ | refine xBK ?_ | refine xIf ?_ | refine xCh ?_ | refine xCh1 (by with_unfolding_all rfl) (by with_unfolding_all rfl) ?_ | refine xCh2 (by with_unfolding_all rfl) (by with_unfolding_all rfl) ?_
  | refine xIx ?_ | refine xIxA (by with_unfolding_all rfl) (by with_unfolding_all rfl) (by with_unfolding_all rfl) ?_ | refine xNil ?_ | refine xCons ?_ | refine xFn ?_ | refine xLst ?_ | refine xLstK (by with_unfolding_all rfl) ?_ | refine xTup ?_ | refine xTupK (by with_unfolding_all rfl) ?_ | refine xLen (by with_unfolding_all rfl) ?_ | refine xMax (by with_unfolding_all rfl) (by with_unfolding_all rfl) ?_ | refine xMin (by with_unfolding_all rfl) (by with_unfolding_all rfl) ?_
  | refine xYes (by with_unfolding_all rfl) ?_ | refine xNo (by with_unfolding_all rfl) ?_ | refine xIs (by with_unfolding_all rfl) (by with_unfolding_all rfl) ?_ | refine xCall ?_ | refine xM ?_ | refine xMA (by with_unfolding_all rfl) ?_ | refine xMD ?_ | refine xLc ?_ | refine xFor ?_ | refine xILst ?_ | refine xILK (by with_unfolding_all rfl) ?_ | refine xIR1 ?_ | refine xIEn ?_ | refine xSl ?_ | refine xNoPart ?_ | refine xPart ?_ | refine xPartK ?_ | refine xRevS ?_ | refine xCat ?_ | refine xLenSet ?_
  | refine xNm (by with_unfolding_all rfl) ?_ | refine xGTup (by with_unfolding_all rfl) ?_ | refine xGsCons ?_ | refine xGsNil ?_ | refine xYesT ?_ | refine xDg1 ?_ | refine xDp1 ?_ | refine xDg2 ?_ | refine xDp2 ?_ | refine xPar ?_ | refine xPaK (by with_unfolding_all rfl) (by with_unfolding_all rfl) ?_ | refine xRevT ?_ | refine xRevTK ?_ | refine xDi1 ?_ | refine xDi2 ?_ | refine xITup ?_ | refine xITupK ?_ | refine xIZip ?_ | refine xIR2 ?_ | refine xIsNK (by with_unfolding_all rfl) ?_ | refine xRev2 ?_ | refine xListR ?_ | refine xSlT ?_ | refine xSlTK ?_ | refine xGt1 ?_ | refine xGt2 ?_ | refine xGtA (by with_unfolding_all rfl) ?_ | refine xGtD ?_ | refine xRep ?_ | refine xDcL ?_ | refine xDc ?_ | refine xDpl ?_ | refine xGe1 ?_ | refine xGe2 ?_ | refine xIe1 ?_ | refine xIe2 ?_ | refine xGLst (by with_unfolding_all rfl) ?_ | refine xIsB (by with_unfolding_all rfl) (by with_unfolding_all rfl) ?_ | refine xVarL (by with_unfolding_all rfl) ?_ | refine xIDc ?_ | refine xIDcK ?_ | refine xLc2 ?_ | refine xGd1 ?_ | refine xGd2 ?_ | refine xGdA (by with_unfolding_all rfl) ?_ | refine xGdD ?_ | refine xDcT ?_ | refine xClip ?_ | refine xAppD ?_ | refine xAppD11 ?_ | refine xAppD21 ?_)

/-! ### the pot -/
def potT (a b c : Int) : T := .l [.d (.int a), .d (.int b), .d (.int c)]
/-- a pot that may be dipped into k times more -/
def Pot (a b c k : Int) : Prop := 0 ≤ a ∧ 0 ≤ b ∧ b < 2 ^ 200 ∧ 0 ≤ c ∧ c + k ≤ 2 ^ 40
/-- the pot of slot 0 behind at most k dips -/
def PotTo (k a b c : Int) (ρ : Rho) : Prop := ∃ a' c', ρ[0]? = some (some (potT a' b c')) ∧ 0 ≤ a' ∧ c ≤ c' ∧ c' ≤ c + k
def S_law_pot : SpT := SpP (fun ts => ∃ (ns : List Int) (k : Int), ts = [.fz ns, .d (.int k)] ∧ 0 ≤ k ∧ k ≤ 1000) fun _ t _ => ∃ a b, t = potT a b 0 ∧ Pot a b 0 (2 ^ 40)
def S_law_dip : SpT := SpP (fun ts => ∃ a b c m, ts = [potT a b c, .d (.int m)] ∧ Pot a b c 1 ∧ 1 ≤ m ∧ m ≤ 2 ^ 64) fun ts t ρ => ∀ a b c m, ts = [potT a b c, .d (.int m)] → ∃ i, t = .d (.int i) ∧ 0 ≤ i ∧ i < m ∧ PotTo 1 a b c ρ
theorem pot_inj {a b c a' b' c' : Int} (h : potT a b c = potT a' b' c') : a = a' ∧ b = b' ∧ c = c' := by
  unfold potT at h
  simpa only [T.l.injEq, List.cons.injEq, T.d.injEq, PyData.int.injEq, and_true] using h
theorem potn_inj {a b c a' b' c' m m' : Int} (h : [potT a b c, T.d (.int m)] = [potT a' b' c', T.d (.int m')]) : a = a' ∧ b = b' ∧ c = c' ∧ m = m' := by
  simp only [List.cons.injEq, T.d.injEq, PyData.int.injEq, and_true] at h
  obtain ⟨h1, h2, h3⟩ := pot_inj h.1
  exact ⟨h1, h2, h3, h.2⟩
theorem mS_law_pot : MonSp S_law_pot := mon_SpP
theorem mS_law_dip : MonSp S_law_dip := mon_SpP
abbrev N_law_pot : List Str := ["_law_script", "_law_k", "_law_cell"]
def w_law_pot : TwS := (wSeq (wSet 2 (wC (.d (.int 0))))
    (wSeq (wIfS (wT (wOp (fB fun i j => decide (i < j)) (wVar 1) (wFn kLen (wCons (wVar 0) wNil)))) (wSet 2 (wIx (wVar 0) (wVar 1))) wNext)
    (wRet (wLst (wCons (wFn (k2 fMax) (wCons (wC (.d (.int 0))) (wCons (wOp (fI (· - ·)) (wVar 2) (wOp (fIc CPowW (fun i j => i ^ j.toNat)) (wC (.d (.int 10))) (wC (.d (.int 18))))) wNil))) (wCons (wOp (fI (· + ·)) (wOp (fI (· + ·)) (wOp (fIc CMulW (· * ·)) (wOp (fIc (fun _ j => 0 < j) (· % ·)) (wVar 2) (wOp (fI (· + ·)) (wOp (fIc CPowW (fun i j => i ^ j.toNat)) (wC (.d (.int 10))) (wC (.d (.int 44)))) (wC (.d (.int 57))))) (wC (.d (.int 512)))) (wOp (fIc CMulW (· * ·)) (wC (.d (.int 3))) (wVar 1))) (wC (.d (.int 2)))) (wCons (wC (.d (.int 0))) wNil)))))))
abbrev N_law_dip : List Str := ["_law_pot_here", "_law_many", "_law_found", "_law_mixed"]
def w_law_dip : TwS := (wSeq (wIfS (wT (wOp (fB fun i j => decide (j < i)) (wIx (wVar 0) (wC (.d (.int 0)))) (wC (.d (.int 0))))) (wSeq (wSet 2 (wOp (fIc (fun _ j => 0 < j) (· % ·)) (wIx (wVar 0) (wC (.d (.int 0)))) (wVar 1)))
    (wSeq (wAsg (wOp (fIc CDivW (· / ·)) (wIx (wVar 0) (wC (.d (.int 0)))) (wVar 1)) (wSub (wVar 0) (wC (.d (.int 0)))))
    (wRetV 2))) wNext)
    (wSeq (wAsg (wOp (fI (· + ·)) (wIx (wVar 0) (wC (.d (.int 2)))) (wC (.d (.int 1)))) (wSub (wVar 0) (wC (.d (.int 2)))))
    (wSeq (wSet 3 (wOp (fIc (fun _ j => 0 < j) (· % ·)) (wOp (fIc CPowW (fun i j => i ^ j.toNat)) (wOp (fI (· + ·)) (wIx (wVar 0) (wC (.d (.int 1)))) (wOp (fIc CMulW (· * ·)) (wC (.d (.int 433494437))) (wIx (wVar 0) (wC (.d (.int 2)))))) (wC (.d (.int 3)))) (wOp (fI (· + ·)) (wOp (fIc CPowW (fun i j => i ^ j.toNat)) (wC (.d (.int 10))) (wC (.d (.int 41)))) (wC (.d (.int 37))))))
    (wSeq (wSet 3 (wOp (fIc (fun _ j => 0 < j) (· % ·)) (wOp (fIc CPowW (fun i j => i ^ j.toNat)) (wOp (fI (· + ·)) (wVar 3) (wOp (fIc CMulW (· * ·)) (wC (.d (.int 971215073))) (wIx (wVar 0) (wC (.d (.int 2)))))) (wC (.d (.int 5)))) (wOp (fI (· + ·)) (wOp (fIc CPowW (fun i j => i ^ j.toNat)) (wC (.d (.int 10))) (wC (.d (.int 42)))) (wC (.d (.int 63))))))
    (wRet (wOp (fIc (fun _ j => 0 < j) (· % ·)) (wOp (fIc CDivW (· / ·)) (wVar 3) (wC (.d (.int 131071)))) (wVar 1)))))))
theorem pl_law_pot : PlD S_law_pot w_law_pot N_law_pot := by
  rintro ts Q Ex ⟨⟨ns, k, rfl, k0, k1⟩, q⟩
  unfold w_law_pot
  have fin : ∀ c : Int, Q (potT (max 0 (c - 10 ^ (18 : Int).toNat)) (c % (10 ^ (44 : Int).toNat + 57) * 512 + 3 * k + 2) 0) [some (.fz ns), some (.d (.int k)), some (.d (.int c))] := fun c => q _ _ ⟨_, _, rfl, Int.le_max_left _ _, by
    have := Int.emod_nonneg c (b := 10 ^ (44 : Int).toNat + 57) (by decide +kernel)
    omega, by
    have h1 := Int.emod_lt_of_pos c (b := 10 ^ (44 : Int).toNat + 57) (by decide +kernel)
    have h2 : (10 : Int) ^ (44 : Int).toNat + 57 ≤ 2 ^ 180 := by decide +kernel
    have h3 : (2 : Int) ^ 200 = 2 ^ 180 * 1048576 := by decide +kernel
    omega, Int.le_refl _, by decide⟩
  repeat trivial
  refine xIte (fun h => ?_) fun h => ?_
  · have h' : k < ns.length := of_decide_eq_true h
    obtain ⟨c, hc, _⟩ := at_in k0 h'
    repeat trivial
    refine xIxZ hc ?_
    repeat trivial
    refine xIc rfl rfl (by decide +kernel) ?_
    repeat trivial
    refine xIc rfl rfl (cmul 160 20 (nM 160 (by decide +kernel) (by decide +kernel)) (by decide)) ?_
    repeat trivial
    refine xIc rfl rfl (cmul 2 20 (by decide) (by omega)) ?_
    repeat trivial
    exact ⟨rfl, fin c⟩
  · repeat trivial
    refine xIc rfl rfl (by decide +kernel) ?_
    repeat trivial
    refine xIc rfl rfl (cmul 160 20 (nM 160 (by decide +kernel) (by decide +kernel)) (by decide)) ?_
    repeat trivial
    refine xIc rfl rfl (cmul 2 20 (by decide) (by omega)) ?_
    repeat trivial
    exact ⟨rfl, fin 0⟩
theorem pl_law_dip : PlD S_law_dip w_law_dip N_law_dip := by
  rintro ts Q Ex ⟨⟨a, b, c, m, rfl, ⟨a0, b0, b1, c0, c1⟩, m1, m2⟩, q⟩
  unfold w_law_dip
  repeat trivial
  refine xIte (fun h => ?_) fun h => ?_
  · repeat trivial
    refine xIc rfl rfl (cdiv64 (by omega) m2) ?_
    repeat trivial
    refine xRetV rfl ⟨rfl, q _ _ fun a' b' c' m' e => ?_⟩
    obtain ⟨rfl, rfl, rfl, rfl⟩ := potn_inj e
    exact ⟨_, rfl, Int.emod_nonneg _ (by omega), Int.emod_lt_of_pos _ (by omega), _, _, rfl, Int.ediv_nonneg a0 (by omega), Int.le_refl _, by omega⟩
  · repeat trivial
    refine xIc rfl rfl (cmul 30 42 (by decide) (by omega)) ?_
    repeat trivial
    refine xIc rfl rfl (cpow 201 (by omega) (by decide) (by decide)) ?_
    repeat trivial
    refine xIc rfl rfl (by decide +kernel) ?_
    repeat trivial
    refine xIc rfl rfl (cmul 30 42 (by decide) (by omega)) ?_
    repeat trivial
    generalize hz : ((b + 433494437 * (c + 1)) ^ (3 : Int).toNat % (10 ^ (41 : Int).toNat + 37)) = z
    have z0 : 0 ≤ z := hz ▸ Int.emod_nonneg _ (by decide +kernel)
    have z1 : z < 2 ^ 180 := hz ▸ Int.lt_of_lt_of_le (Int.emod_lt_of_pos _ (by decide +kernel)) (by decide +kernel)
    refine xIc rfl rfl (cpow 201 (by omega) (by decide) (by decide)) ?_
    repeat trivial
    refine xIc rfl rfl (by decide +kernel) ?_
    repeat trivial
    refine ⟨rfl, q _ _ fun a' b' c' m' e => ?_⟩
    obtain ⟨rfl, rfl, rfl, rfl⟩ := potn_inj e
    exact ⟨_, rfl, Int.emod_nonneg _ (by omega), Int.emod_lt_of_pos _ (by omega), _, _, rfl, a0, by omega, Int.le_refl _⟩
theorem xDip {ρ : Rho} {Q : T → Rho → Prop} {E : ExK} {r : Nat} {a b c m k : Int} (hg : ρ[r]? = some (some (potT a b c))) (hp : Pot a b c k) (hk : 1 ≤ k) (hm : 1 ≤ m) (hm2 : m ≤ 2 ^ 64)
    (q : ∀ i a' c', 0 ≤ i → i < m → Pot a' b c' (k - 1) → c ≤ c' → c' ≤ c + 1 → Q (.d (.int i)) (ρ.set r (some (potT a' b c')))) : caK [0] 2 S_law_dip [.a r [], .d (.int m)] ρ Q E := by
  obtain ⟨h1, h2, h3, h4, h5⟩ := hp
  refine xCaF hg rfl rfl rfl rfl ⟨a, b, c, m, rfl, ⟨h1, h2, h3, h4, by omega⟩, hm, hm2⟩ fun u ρ' h => ?_
  obtain ⟨i, rfl, i0, i1, a', c', e, g1, g2, g3⟩ := h a b c m rfl
  exact ⟨_, e, rfl, rfl, q i a' c' i0 i1 ⟨g1, h2, h3, by omega, by omega⟩ g2 g3⟩
/-! ### cards -/
def intL (cs : List Int) : T := .l ((cs.map PyData.int).map T.d)
def Cards (cs : List Int) : Prop := ∀ c ∈ cs, 0 ≤ c ∧ c ≤ 999999999
def S_law_cards : SpT := SpP (fun ts => ∃ a b c m, ts = [potT a b c, .d (.int m)] ∧ Pot a b c 32 ∧ 1 ≤ m ∧ m ≤ 24) fun ts t ρ => ∀ a b c m, ts = [potT a b c, .d (.int m)] → ∃ cs, t = intL cs ∧ Cards cs ∧ (cs.length : Int) = m ∧ cs.Pairwise (· < ·) ∧ PotTo 32 a b c ρ
theorem mS_law_cards : MonSp S_law_cards := mon_SpP
abbrev N_law_cards : List Str := ["_law_pot_here", "_law_many", "_law_wide", "_law_found", "_law_more", "_law_card"]
def w_law_cards : TwS := (wSeq (wSet 2 (wIx (wLst (wCons (wC (.d (.int 1))) (wCons (wC (.d (.int 9))) (wCons (wC (.d (.int 30000000))) wNil)))) (wCall [0] 2 S_law_dip (wCons (wVar 0) (wCons (wC (.d (.int 3))) wNil)))))
    (wSeq (wSet 3 (wLst (wCons (wIx (wLst (wCons (wC (.d (.int 0))) (wCons (wCall [0] 2 S_law_dip (wCons (wVar 0) (wCons (wC (.d (.int 200000000))) wNil))) wNil))) (wCall [0] 2 S_law_dip (wCons (wVar 0) (wCons (wC (.d (.int 2))) wNil)))) wNil)))
    (wSeq (wWhile (wT (wOp (fB fun i j => decide (i < j)) (wFn kLen (wCons (wVar 3) wNil)) (wVar 1))) (wDrop (wM isLst kApp (wVar 3) (wCons (wOp (fI (· + ·)) (wOp (fI (· + ·)) (wIx (wVar 3) (wNeg (wC (.d (.int 1))))) (wC (.d (.int 1)))) (wCall [0] 2 S_law_dip (wCons (wVar 0) (wCons (wVar 2) wNil)))) wNil))))
    (wSeq (wSet 4 (wIx (wLst (wCons (wC (.d (.int 0))) (wCons (wC (.d (.int 0))) (wCons (wOp (fI (· - ·)) (wC (.d (.int 999999999))) (wIx (wVar 3) (wNeg (wC (.d (.int 1)))))) wNil)))) (wCall [0] 2 S_law_dip (wCons (wVar 0) (wCons (wC (.d (.int 3))) wNil)))))
    (wFrz 3 (wRet (wLc (wILst (wVar 3)) (wNm 5) wYes (wOp (fI (· + ·)) (wVar 5) (wVar 4)) [5])))))))
theorem erase_intL {cs : List Int} : erase (intL cs) = some (.list (cs.map PyData.int)) := by unfold intL; simp only [erase, eraseAll_d, Option.map_some]
theorem pl_law_cards : PlD S_law_cards w_law_cards N_law_cards := by
  rintro ts Q Ex ⟨⟨a, b, c, m, rfl, hp, m1, m2⟩, q⟩
  unfold w_law_cards
  repeat trivial
  refine xDip rfl hp (by decide) (by decide) (by decide) fun i1 a1 c1 i10 i11 hp1 c10 c11 => ?_
  obtain ⟨wd, hw, ew⟩ := pickI (cs := [1, 9, 30000000]) i10 i11
  have hw' : 1 ≤ wd ∧ wd ≤ 30000000 := by simp only [List.mem_cons, List.not_mem_nil, or_false] at hw; omega
  refine xIxL ew ?_
  repeat trivial
  refine xDip rfl hp1 (by decide) (by decide) (by decide) fun i2 a2 c2 i20 i21 hp2 c20 c21 => ?_
  repeat trivial
  refine xDip rfl hp2 (by decide) (by decide) (by decide) fun i3 a3 c3 i30 i31 hp3 c30 c31 => ?_
  obtain ⟨z, hz, ez⟩ := pickI (cs := [0, i2]) i30 i31
  have hz' : 0 ≤ z ∧ z ≤ 199999999 := by simp only [List.mem_cons, List.not_mem_nil, or_false] at hz; omega
  refine xIxL ez ?_
  repeat trivial
  obtain ⟨p1, p2, p3, p4, p5⟩ := hp3
  obtain ⟨_, _, _, q4, q5⟩ := hp
  refine xWhile (fun ρ => ∃ (a' c' : Int) (cs : List Int) (l : Int), ρ = [some (potT a' b c'), some (.d (.int m)), some (.d (.int wd)), some (intL cs), none, none] ∧ 0 ≤ a' ∧ c ≤ c' ∧ c' ≤ c + 2 + cs.length ∧ 1 ≤ cs.length ∧ (cs.length : Int) ≤ m ∧
    cs.Pairwise (· < ·) ∧ cs[cs.length - 1]? = some l ∧ l + 30000000 ≤ 199999999 + 30000000 * cs.length ∧ ∀ x ∈ cs, 0 ≤ x ∧ x ≤ l)
    (fun ρ => match ρ[3]? with | some (some (T.l ts)) => 100 - ts.length | _ => 0) ⟨a3, c3, [z], z, rfl, p1, by omega, by simp; omega, by simp, by simp; omega, by simp, rfl, by simp; omega, by simp; omega⟩ ?_
  rintro ρ1 ⟨a', c', cs, l, rfl, g1, g2, g3, g4, g5, g6, g7, g8, g9⟩
  repeat trivial
  have len : (List.map T.d (List.map PyData.int cs)).length = cs.length := by simp
  refine xIte (fun h => ?_) fun h => ?_
  · have h' := of_decide_eq_true h
    repeat trivial
    refine xIxAL rfl (atLast g7) ?_
    repeat trivial
    refine xDip (k := 5) rfl ⟨g1, p2, p3, by omega, by omega⟩ (by decide) (by omega) (by omega) fun i a'' c'' i0 i1 hp' d0 d1 => ?_
    repeat trivial
    obtain ⟨e1, _, _, e4, e5⟩ := hp'
    refine xApp rfl rfl (small1000 (by simp; omega)) ?_
    have gl : ∀ x ∈ cs, x < l + 1 + i := fun x hx => by have := (g9 x hx).2; omega
    refine ⟨⟨a'', c'', cs ++ [l + 1 + i], l + 1 + i, ?_, e1, by omega, by simp; omega, by simp, by simp; omega, List.pairwise_append.mpr ⟨g6, List.pairwise_singleton .., fun x hx y hy => by simp at hy; subst hy; exact gl x hx⟩, by simp, by simp; omega, fun x hx => ?_⟩, ?_⟩
    · simp [intL, TX.putAt, putT, rho0]
    · rcases List.mem_append.mp hx with hx | hx
      · have := g9 x hx; have := gl x hx; omega
      · simp at hx; subst hx; have := g9 l (List.mem_of_getElem? g7); omega
    · simp [intL, TX.putAt, putT, rho0]; omega
  · have h' := of_decide_eq_false h
    have lm : (cs.length : Int) = m := by omega
    have l0 := g9 l (List.mem_of_getElem? g7)
    repeat trivial
    refine xIxAL rfl (atLast g7) ?_
    repeat trivial
    refine xDip (k := 3) rfl ⟨g1, p2, p3, by omega, by omega⟩ (by decide) (by omega) (by omega) fun i a'' c'' i0 i1 hp' d0 d1 => ?_
    obtain ⟨e1, _, _, e4, e5⟩ := hp'
    obtain ⟨mo, hm, em⟩ := pickI (cs := [0, 0, 999999999 - l]) i0 i1
    have hm' : 0 ≤ mo ∧ mo ≤ 999999999 - l := by simp only [List.mem_cons, List.not_mem_nil, or_false] at hm; omega
    refine xIxL em ?_
    repeat trivial
    refine xFrz rfl erase_intL ?_
    repeat trivial
    refine xLcM (fun _ => true) (fun x => match x with | .int z => .int (z + mo) | y => y) rfl (by simp; omega) (by simp [rho0]) (fun x hx Y Z hY _ => ?_) ?_
    · obtain ⟨z, _, rfl⟩ := List.mem_map.mp hx
      refine xYesT ⟨noNd1 rfl, xYes rfl ?_⟩
      repeat trivial
      exact ⟨noNd1 rfl, _, rfl, hY rfl⟩
    · refine ⟨rfl, ?_⟩
      have e : ((List.filter (fun _ => true) (cs.map PyData.int)).map fun x => match x with | .int z => PyData.int (z + mo) | y => y) = (cs.map (· + mo)).map PyData.int := by
        rw [List.filter_eq_self.mpr (fun _ _ => rfl), List.map_map, List.map_map]; rfl
      rw [e]
      refine q _ _ fun a9 b9 c9 m9 e9 => ?_
      obtain ⟨rfl, rfl, rfl, rfl⟩ := potn_inj e9
      refine ⟨cs.map (· + mo), rfl, fun x hx => ?_, by simpa using lm, List.pairwise_map.mpr (g6.imp fun h => by omega), _, _, rfl, e1, by omega, by omega⟩
      obtain ⟨y, hy, rfl⟩ := List.mem_map.mp hx
      have := g9 y hy
      omega
theorem xCards {ρ : Rho} {Q : T → Rho → Prop} {E : ExK} {r : Nat} {a b c m k : Int} (hg : ρ[r]? = some (some (potT a b c))) (hp : Pot a b c k) (hk : 32 ≤ k) (hm : 1 ≤ m) (hm2 : m ≤ 24)
    (q : ∀ cs a' c', Cards cs → (cs.length : Int) = m → cs.Pairwise (· < ·) → Pot a' b c' (k - 32) → c ≤ c' → c' ≤ c + 32 → Q (intL cs) (ρ.set r (some (potT a' b c')))) : caK [0] 2 S_law_cards [.a r [], .d (.int m)] ρ Q E := by
  obtain ⟨h1, h2, h3, h4, h5⟩ := hp
  refine xCaF hg rfl rfl rfl rfl ⟨a, b, c, m, rfl, ⟨h1, h2, h3, h4, by omega⟩, hm, hm2⟩ fun u ρ' h => ?_
  obtain ⟨cs, rfl, i0, i1, i2, a', c', e, g1, g2, g3⟩ := h a b c m rfl
  exact ⟨_, e, rfl, rfl, q cs a' c' i0 i1 i2 ⟨g1, h2, h3, by omega, by omega⟩ g2 g3⟩
/-! ### own lists of ints -/
theorem map_eraseI (cs : List Int) (j : Nat) : (cs.map PyData.int).eraseIdx j = (cs.eraseIdx j).map PyData.int := by
  rw [List.eraseIdx_eq_take_drop_succ, List.eraseIdx_eq_take_drop_succ, List.map_append, List.map_take, List.map_drop]
theorem xPopI {ρ : Rho} {Q : T → Rho → Prop} {r : Nat} {p : List Nat} {cs : List Int} {i : Int} (g : getT ρ r p = some (intL cs)) (h0 : 0 ≤ i) (h1 : i < cs.length) (h2 : cs.length ≤ 100000) (q : ∀ y, cs[i.toNat]? = some y → Q (.d (.int y)) (TX.putAt ρ r p (intL (cs.eraseIdx i.toNat)))) : kPopAt (.a r p) [.d (.int i)] ρ Q := by
  obtain ⟨y, _, e⟩ := at_in' h0 h1
  have := q y e
  unfold intL at this g
  rw [← map_eraseI] at this
  exact xPopAt g h0 (by simp; omega) (by simp; omega) (by rw [List.getElem?_map, e]; rfl) this
theorem xInsI {ρ : Rho} {Q : T → Rho → Prop} {r : Nat} {p : List Nat} {cs : List Int} {i y : Int} (g : getT ρ r p = some (intL cs)) (h0 : 0 ≤ i) (h1 : i ≤ cs.length) (h2 : cs.length ≤ 1000) (q : Q (.d .none) (TX.putAt ρ r p (intL (cs.take i.toNat ++ [y] ++ cs.drop i.toNat)))) : kIns (.a r p) [.d (.int i), .d (.int y)] ρ Q := by
  have e : (cs.take i.toNat ++ [y] ++ cs.drop i.toNat).map PyData.int = (cs.map PyData.int).take i.toNat ++ [PyData.int y] ++ (cs.map PyData.int).drop i.toNat := by simp [List.map_take, List.map_drop]
  unfold intL at q g
  rw [e] at q
  exact xIns g rfl (small1000 (by simp; omega)) h0 (by omega) q
theorem noNd_o {ρ : Rho} {k : Nat} {x : Option PyData} (h : ρ[k]? = some (x.map T.d)) : noNdB ρ k = true := by
  unfold noNdB
  rw [h]
  cases x <;> rfl
/-! ### rows -/
def RowOk (cs : List Int) : Prop := Cards cs ∧ cs.Nodup ∧ 1 ≤ cs.length ∧ cs.length ≤ 24
def S_law_row : SpT := SpP (fun ts => ∃ a b c m, ts = [potT a b c, .d (.int m)] ∧ Pot a b c 64 ∧ 1 ≤ m ∧ m ≤ 24) fun ts t ρ => ∀ a b c m, ts = [potT a b c, .d (.int m)] → ∃ cs, t = intL cs ∧ RowOk cs ∧ PotTo 64 a b c ρ
theorem mS_law_row : MonSp S_law_row := mon_SpP
theorem rowOk_perm {xs ys : List Int} (h : xs.Perm ys) (r : RowOk ys) : RowOk xs := ⟨fun c hc => r.1 c (h.mem_iff.mp hc), h.nodup_iff.mpr r.2.1, by rw [h.length_eq]; exact r.2.2.1, by rw [h.length_eq]; exact r.2.2.2⟩
theorem perm_pop : ∀ {cs : List Int} {j : Nat} {y : Int}, cs[j]? = some y → (y :: cs.eraseIdx j).Perm cs
  | [], _, _, h => by simp at h
  | x :: cs, 0, y, h => by simp at h; subst h; simp
  | x :: cs, j + 1, y, h => by
    rw [List.eraseIdx_cons_succ]
    exact (List.Perm.swap x y _).trans ((perm_pop (j := j) (by simpa using h)).cons x)
theorem len_pop {cs : List Int} {j : Nat} {y : Int} (h : cs[j]? = some y) : (cs.eraseIdx j).length + 1 = cs.length := by
  have := (perm_pop h).length_eq
  simpa using this
abbrev N_law_row : List Str := ["_law_pot_here", "_law_most", "_law_cards_here", "_law_way", "_law_turn", "_law_row_here", "_law_card"]
def w_law_row : TwS := (wSeq (wSet 2 (wCall [0] 2 S_law_cards (wCons (wVar 0) (wCons (wOp (fI (· + ·)) (wC (.d (.int 1))) (wCall [0] 2 S_law_dip (wCons (wVar 0) (wCons (wVar 1) wNil)))) wNil))))
    (wSeq (wSet 3 (wCall [0] 2 S_law_dip (wCons (wVar 0) (wCons (wC (.d (.int 3))) wNil))))
    (wSeq (wIfS (wT (wOp (fEq) (wVar 3) (wC (.d (.int 0))))) (wRet (wLc (wIR1 (wCons (wFn kLen (wCons (wVar 2) wNil)) wNil)) (wNm 4) wYes (wM isLst kPopAt (wVar 2) (wCons (wCall [0] 2 S_law_dip (wCons (wVar 0) (wCons (wFn kLen (wCons (wVar 2) wNil)) wNil))) wNil)) [4])) wNext)
    (wSeq (wSet 5 (wRevS (wVar 2)))
    (wSeq (wFor (wIR1 (wCons (wIx (wLst (wCons (wC (.d (.int 0))) (wCons (wOp (fI (· + ·)) (wC (.d (.int 1))) (wCall [0] 2 S_law_dip (wCons (wVar 0) (wCons (wC (.d (.int 4))) wNil)))) wNil))) (wOp (fI (· - ·)) (wVar 3) (wC (.d (.int 1))))) wNil)) (wNm 4) (wSeq (wSet 6 (wM isLst kPopAt (wVar 5) (wCons (wCall [0] 2 S_law_dip (wCons (wVar 0) (wCons (wFn kLen (wCons (wVar 5) wNil)) wNil))) wNil)))
    (wDrop (wM isLst kIns (wVar 5) (wCons (wCall [0] 2 S_law_dip (wCons (wVar 0) (wCons (wOp (fI (· + ·)) (wFn kLen (wCons (wVar 5) wNil)) (wC (.d (.int 1)))) wNil))) (wCons (wVar 6) wNil))))))
    (wRetV 5))))))
theorem pl_law_row : PlD S_law_row w_law_row N_law_row := by
  rintro ts Q Ex ⟨⟨a, b, c, m, rfl, hp, m1, m2⟩, q⟩
  have fin : ∀ cs a' c' ρ, RowOk cs → ρ[0]? = some (some (potT a' b c')) → 0 ≤ a' → c ≤ c' → c' ≤ c + 64 → Q (intL cs) ρ := fun cs a' c' ρ h e h1 h2 h3 => q _ _ fun a9 b9 c9 m9 e9 => by
    obtain ⟨rfl, rfl, rfl, rfl⟩ := potn_inj e9
    exact ⟨cs, rfl, h, a', c', e, h1, h2, h3⟩
  obtain ⟨_, p2, p3, q4, q5⟩ := id hp
  unfold w_law_row
  repeat trivial
  refine xDip rfl hp (by decide) m1 (by omega) fun i1 a1 c1 i10 i11 hp1 c10 c11 => ?_
  repeat trivial
  refine xCards rfl hp1 (by decide) (by omega) (by omega) fun cs a2 c2 hc hl hs hp2 c20 c21 => ?_
  have ok : RowOk cs := ⟨hc, hs.imp fun h => Int.ne_of_lt h, by omega, by omega⟩
  repeat trivial
  refine xDip rfl hp2 (by decide) (by decide) (by decide) fun i3 a3 c3 i30 i31 hp3 c30 c31 => ?_
  obtain ⟨e31, _, _, e34, e35⟩ := id hp3
  repeat trivial
  refine xIte (fun h => ?_) fun h => ?_
  · repeat trivial
    refine xIRK (by omega) (by simp; omega) ?_
    refine ⟨noNd1 rfl, by rw [range_len]; simp; omega, fun i acc ρ2 => ∃ (a' c' : Int) (out cs' : List Int), ρ2 = [some (potT a' b c'), some (.d (.int m)), some (intL cs'), some (.d (.int i3)), none, none, none] ∧ acc = out.map PyData.int ∧ (out ++ cs').Perm cs ∧ out.length = i ∧ 0 ≤ a' ∧ c3 ≤ c' ∧ c' ≤ c3 + i, ⟨a3, c3, [], cs, rfl, rfl, by simp, rfl, e31, by omega, by omega⟩, ?_, ?_⟩
    · rintro i x acc ρ2 e ⟨a', c', out, cs', rfl, rfl, pm, ol, g1, g2, g3⟩
      obtain ⟨hi, rfl⟩ := range_get e
      have hlen := pm.length_eq
      simp at hlen hi
      repeat trivial
      refine ⟨noNd1 rfl, xYes rfl ?_⟩
      repeat trivial
      refine xDip (k := 1) rfl ⟨g1, p2, p3, by omega, by omega⟩ (by decide) (by simp; omega) (by simp; omega) fun i5 a5 c5 i50 i51 hp5 c50 c51 => ?_
      simp at i51
      repeat trivial
      refine xPopI rfl i50 i51 (by omega) fun y hy => ?_
      refine ⟨noNd1 rfl, _, rfl, a5, c5, out ++ [y], cs'.eraseIdx i5.toNat, ?_, by simp, ?_, by simp; omega, hp5.1, by omega, by omega⟩
      · rfl
      · refine List.Perm.trans ?_ pm
        rw [List.append_assoc]
        exact (perm_pop hy).append_left out
    · rintro acc ρ2 ⟨a', c', out, cs', rfl, rfl, pm, ol, g1, g2, g3⟩
      rw [range_len] at ol g3
      have hlen := pm.length_eq
      simp at hlen ol g3
      have : cs' = [] := List.length_eq_zero_iff.mp (by omega)
      subst this
      rw [List.append_nil] at pm
      exact ⟨rfl, fin out a' c' _ (rowOk_perm pm ok) rfl g1 (by omega) (by omega)⟩
  · have h3 : i3 ≠ 0 := fun z => by subst z; exact absurd h (by decide)
    repeat trivial
    refine xRevK (allD_map _) ?_
    have erev : (List.map PyData.int cs).reverse = cs.reverse.map PyData.int := by rw [List.map_reverse]
    rw [erev]
    repeat trivial
    refine xDip rfl hp3 (by decide) (by decide) (by decide) fun i4 a4 c4 i40 i41 hp4 c40 c41 => ?_
    repeat trivial
    obtain ⟨w, hw, ew⟩ := pickI (cs := [0, 1 + i4]) (i := i3 - 1) (by omega) (by simp; omega)
    have hw' : 0 ≤ w ∧ w ≤ 4 := by simp only [List.mem_cons, List.not_mem_nil, or_false] at hw; omega
    refine xIxL ew ?_
    repeat trivial
    refine xIRK (by omega) (by omega) ?_
    refine xFoK (fun i ρ2 => ∃ (a' c' : Int) (cs' : List Int) (o4 o6 : Option PyData), ρ2 = [some (potT a' b c'), some (.d (.int m)), some (intL cs), some (.d (.int i3)), o4.map T.d, some (intL cs'), o6.map T.d] ∧ cs'.Perm cs ∧ 0 ≤ a' ∧ c4 ≤ c' ∧ c' ≤ c4 + 2 * i) ⟨a4, c4, cs.reverse, none, none, rfl, List.reverse_perm cs, hp4.1, by omega, by omega⟩ ?_ ?_
    · rintro i x ρ2 e ⟨a', c', cs', o4, o6, rfl, pm, g1, g2, g3⟩
      obtain ⟨hi, rfl⟩ := range_get e
      have hlen := pm.length_eq
      refine xNm (noNd_o rfl) ?_
      repeat trivial
      refine xDip (k := 2) rfl ⟨g1, p2, p3, by omega, by omega⟩ (by decide) (by simp; omega) (by simp; omega) fun i5 a5 c5 i50 i51 hp5 c50 c51 => ?_
      simp at i51
      repeat trivial
      refine xPopI rfl i50 i51 (by omega) fun y hy => ?_
      have hl5 := len_pop hy
      repeat trivial
      refine xDip rfl hp5 (by decide) (by simp; omega) (by simp; omega) fun i6 a6 c6 i60 i61 hp6 c60 c61 => ?_
      simp at i61
      repeat trivial
      refine xInsI rfl i60 (by omega) (by omega) ?_
      refine ⟨a6, c6, _, some _, some (.int y), rfl, ?_, hp6.1, by omega, by omega⟩
      refine List.Perm.trans ?_ ((perm_pop hy).trans pm)
      refine List.Perm.trans (List.perm_append_comm.append_right _) ?_
      simp [List.take_append_drop]
    · rintro ρ2 ⟨a', c', cs', o4, o6, rfl, pm, g1, g2, g3⟩
      rw [range_len] at g3
      repeat trivial
      exact xRetV rfl ⟨rfl, fin cs' a' c' _ (rowOk_perm pm ok) rfl g1 (by omega) (by omega)⟩end LW

namespace LW
open PySem PySem.Spec L2 TX

local macro_rules | `(tactic| trivial) => `(tactic| with_reducible first
  | refine xSeq ?_ | refine xSet ?_ | refine xSetK (by with_unfolding_all rfl) ?_ | refine xNext ?_ | refine xIfS ?_ | refine xDrop ?_ | refine xRet ?_ | refine xAsg ?_ | refine xAsK (by with_unfolding_all rfl) ?_ | refine xSub ?_ | refine xSbK (by with_unfolding_all rfl) (by with_unfolding_all rfl) (by with_unfolding_all rfl) ?_
  | refine xVarD (by with_unfolding_all rfl) ?_ | refine xVarZ (by with_unfolding_all rfl) ?_ | refine xVarN (by with_unfolding_all rfl) (by with_unfolding_all rfl) ?_ | refine xC ?_ | refine xOp ?_ | refine xI (by with_unfolding_all rfl) (by with_unfolding_all rfl) ?_ | refine xB (by with_unfolding_all rfl) (by with_unfolding_all rfl) ?_ | refine xEqI (by with_unfolding_all rfl) (by with_unfolding_all rfl) ?_ | refine xNeI (by with_unfolding_all rfl) (by with_unfolding_all rfl) ?_ | refine xNeg ?_ | refine xNegK ?_
  | refine xIc (by with_unfolding_all rfl) (by with_unfolding_all rfl) (by with_unfolding_all first | omega | exact ⟨by decide, by decide +kernel⟩) ?_
  | refine xT ?_ | refine xTK ?_ | refine xNot ?_ | refine xAnd ?_ | refine xOr ?_ | refine xAndV ?_ | refine xOrV ?_ | refine xNotV ?_ | refine xBK ?_ | refine xIf ?_ | refine xCh ?_ | refine xCh1 (by with_unfolding_all rfl) (by with_unfolding_all rfl) ?_ | refine xCh2 (by with_unfolding_all rfl) (by with_unfolding_all rfl) ?_
  | refine xIx ?_ | refine xIxA (by with_unfolding_all rfl) (by with_unfolding_all rfl) (by with_unfolding_all rfl) ?_ | refine xNil ?_ | refine xCons ?_ | refine xFn ?_ | refine xLst ?_ | refine xLstK (by with_unfolding_all rfl) ?_ | refine xTup ?_ | refine xTupK (by with_unfolding_all rfl) ?_ | refine xLen (by with_unfolding_all rfl) ?_ | refine xMax (by with_unfolding_all rfl) (by with_unfolding_all rfl) ?_ | refine xMin (by with_unfolding_all rfl) (by with_unfolding_all rfl) ?_
  | refine xYes (by with_unfolding_all rfl) ?_ | refine xNo (by with_unfolding_all rfl) ?_ | refine xIs (by with_unfolding_all rfl) (by with_unfolding_all rfl) ?_ | refine xCall ?_ | refine xM ?_ | refine xMA (by with_unfolding_all rfl) ?_ | refine xMD ?_ | refine xLc ?_ | refine xFor ?_ | refine xILst ?_ | refine xILK (by with_unfolding_all rfl) ?_ | refine xIR1 ?_ | refine xIEn ?_ | refine xSl ?_ | refine xNoPart ?_ | refine xPart ?_ | refine xPartK ?_ | refine xRevS ?_ | refine xCat ?_ | refine xLenSet ?_
  | refine xNm (by with_unfolding_all rfl) ?_ | refine xGTup (by with_unfolding_all rfl) ?_ | refine xGsCons ?_ | refine xGsNil ?_ | refine xYesT ?_ | refine xDg1 ?_ | refine xDp1 ?_ | refine xDg2 ?_ | refine xDp2 ?_ | refine xPar ?_ | refine xPaK (by with_unfolding_all rfl) (by with_unfolding_all rfl) ?_ | refine xRevT ?_ | refine xRevTK ?_ | refine xDi1 ?_ | refine xDi2 ?_ | refine xITup ?_ | refine xITupK ?_ | refine xIZip ?_ | refine xIR2 ?_ | refine xIsNK (by with_unfolding_all rfl) ?_ | refine xRev2 ?_ | refine xListR ?_ | refine xSlT ?_ | refine xSlTK ?_ | refine xGt1 ?_ | refine xGt2 ?_ | refine xGtA (by with_unfolding_all rfl) ?_ | refine xGtD ?_ | refine xRep ?_ | refine xDcL ?_ | refine xDc ?_ | refine xDpl ?_ | refine xGe1 ?_ | refine xGe2 ?_ | refine xIe1 ?_ | refine xIe2 ?_ | refine xGLst (by with_unfolding_all rfl) ?_ | refine xIsB (by with_unfolding_all rfl) (by with_unfolding_all rfl) ?_ | refine xVarL (by with_unfolding_all rfl) ?_ | refine xIDc ?_ | refine xIDcK ?_ | refine xLc2 ?_ | refine xGd1 ?_ | refine xGd2 ?_ | refine xGdA (by with_unfolding_all rfl) ?_ | refine xGdD ?_ | refine xDcT ?_ | refine xClip ?_ | refine xAppD ?_ | refine xAppD11 ?_ | refine xAppD21 ?_)

/-! ### cards, rows: of anything -/
def rowD (cs : List Int) : T := .d (.list (cs.map PyData.int))
theorem map_int_inj : ∀ {xs ys : List Int}, xs.map PyData.int = ys.map PyData.int → xs = ys
  | [], [], _ => rfl
  | [], _ :: _, h => by cases h
  | _ :: _, [], h => by cases h
  | x :: xs, y :: ys, h => by
    simp only [List.map_cons, List.cons.injEq, PyData.int.injEq] at h
    rw [h.1, map_int_inj h.2]
theorem rowD_inj {xs ys : List Int} (h : rowD xs = rowD ys) : xs = ys := by
  unfold rowD at h
  simp only [T.d.injEq, PyData.list.injEq] at h
  exact map_int_inj h
theorem imm_prs : ∀ ps : List (Int × Int), immTs ((ps.map pr).map T.d) = true
  | [] => rfl
  | p :: ps => by
    simp only [List.map_cons, immTs, imm_prs ps, Bool.and_true]
    rfl
theorem imm_ints : ∀ ps : List Int, immTs ((ps.map PyData.int).map T.d) = true
  | [] => rfl
  | p :: ps => by
    simp only [List.map_cons, immTs, imm_ints ps, Bool.and_true]
    rfl
def isCardD : PyData → Bool
  | .int i => decide (0 ≤ i) && decide (i ≤ 999999999)
  | _ => false
def intsD : List PyData → List Int
  | [] => []
  | .int i :: r => i :: intsD r
  | _ :: r => intsD r
theorem intsD_map : ∀ cs : List Int, intsD (cs.map PyData.int) = cs
  | [] => rfl
  | c :: cs => by simp only [List.map_cons, intsD, intsD_map cs]
theorem cards_ints : ∀ {ds : List PyData}, ds.all isCardD = true → ds = (intsD ds).map PyData.int ∧ Cards (intsD ds)
  | [], _ => ⟨rfl, fun c h => (by cases h)⟩
  | d :: ds, h => by
    simp only [List.all_cons, Bool.and_eq_true] at h
    obtain ⟨h1, h2⟩ := cards_ints h.2
    cases d with
    | int i =>
      simp only [isCardD, Bool.and_eq_true, decide_eq_true_eq] at h
      refine ⟨by simp only [intsD, List.map_cons]; rw [← h1], fun c hc => ?_⟩
      simp only [intsD, List.mem_cons] at hc
      rcases hc with rfl | hc
      · exact h.1
      · exact h2 c hc
    | _ => simp [isCardD] at h
theorem cards_all {cs : List Int} : (cs.map PyData.int).all isCardD = true ↔ Cards cs := by
  simp only [List.all_map, List.all_eq_true, Function.comp, isCardD, Bool.and_eq_true, decide_eq_true_eq]
  exact ⟨fun h c hc => h c hc, fun h c hc => h c hc⟩
def isRowD : PyData → Bool
  | .list ds => (decide (1 ≤ ds.length) && decide (ds.length ≤ 24)) && (ds.all isCardD && decide (distI (intsD ds) = ds.length))
  | _ => false
theorem met_take (ns : List Int) : ∀ i, i ≤ ns.length → (List.range i).map (fun i => ns.getD i 0) = ns.take i := fun i hi => by
  refine List.ext_getElem? fun j => ?_
  rw [List.getElem?_map]
  by_cases q : j < i
  · rw [List.getElem?_range q, List.getElem?_take_of_lt q]
    have : j < ns.length := by omega
    simp [List.getD, this]
  · rw [List.getElem?_eq_none (by simpa using q), List.getElem?_eq_none (by rw [List.length_take]; omega)]; rfl
theorem met_nodup (ns : List Int) : ∀ i, i ≤ ns.length → (PyProof.Rows.firstMet (fun i => ns.getD i 0) i).length = i → (ns.take i).Nodup
  | 0, _, _ => by simp
  | i + 1, hi, h => by
    have hany := PyProof.Rows.firstMet_any (fun i => ns.getD i 0) i (ns.getD i 0)
    have hle := PyProof.Rows.firstMet_length_le (fun i => ns.getD i 0) i
    rw [PyProof.Rows.firstMet_succ] at h
    unfold PyProof.Rows.step_dedup at h
    split at h
    · omega
    · rename_i no
      rw [List.length_append, List.length_singleton] at h
      have ih := met_nodup ns i (by omega) (by omega)
      rw [met_take ns i (by omega)] at hany
      have hi' : i < ns.length := hi
      rw [List.take_succ, List.getElem?_eq_getElem hi']
      refine List.nodup_append.mpr ⟨ih, by simp, fun a ha b hb e => ?_⟩
      simp at hb
      subst hb
      subst e
      refine no ?_
      rw [hany]
      refine List.any_eq_true.mpr ⟨_, ha, ?_⟩
      simp [List.getD, hi']
theorem distI_nodup {cs : List Int} : distI cs = cs.length ↔ cs.Nodup := by
  constructor
  · intro h
    unfold distI at h
    have := met_nodup cs cs.length (Nat.le_refl _) h
    rwa [List.take_length] at this
  · intro h; unfold distI; rw [RZ.firstMet_nodup h _ (Nat.le_refl _), List.take_length]
theorem isRow_iff {cs : List Int} : isRowD (.list (cs.map PyData.int)) = true ↔ RowOk cs := by
  unfold isRowD RowOk
  simp only [Bool.and_eq_true, decide_eq_true_eq, intsD_map, List.length_map, cards_all, distI_nodup]
  exact ⟨fun ⟨⟨a, b⟩, c, d⟩ => ⟨c, d, a, b⟩, fun ⟨c, d, a, b⟩ => ⟨⟨a, b⟩, c, d⟩⟩
theorem vw_l {ρ : Rho} {ds : List PyData} : vw ρ (.l (ds.map T.d)) = some (.list ds) := by simp only [vw, erase, eraseAll_d, Option.map_some]
def S_is_card : SpT := SpP (fun ts => ∃ x, ts = [.d x]) fun ts t _ => ∀ x, ts = [.d x] → t = .d (.bool (isCardD x))
def S_is_row : SpT := SpP (fun ts => ∃ x, ts = [.d x]) fun ts t _ => ∀ x, ts = [.d x] → t = .d (.bool (isRowD x))
def S_need_row : SpT := SpP (fun ts => ∃ x, ts = [.d x] ∧ isRowD x = true) fun _ t _ => t = .d .none
theorem mS_is_card : MonSp S_is_card := mon_SpP
theorem mS_is_row : MonSp S_is_row := mon_SpP
theorem mS_need_row : MonSp S_need_row := mon_SpP
theorem d1_inj {x y : PyData} (h : [T.d x] = [T.d y]) : x = y := by simpa using h
abbrev N_is_card : List Str := ["thing"]
def w_is_card : TwS := (wRet (wAndV (wFn kIs (wCons (wVar 0) (wCons (wC (.raw (.ty "int"))) wNil))) (wAndV (wNotV (wFn kIs (wCons (wVar 0) (wCons (wC (.raw (.ty "bool"))) wNil)))) (wCh (fB fun i j => decide (i ≤ j)) (fB fun i j => decide (i ≤ j)) (wC (.d (.int 0))) (wVar 0) (wC (.d (.int 999999999)))))))
abbrev N_is_row : List Str := ["thing", "one"]
def w_is_row : TwS := (wSeq (wIfS (wOr (wNot (wT (wFn kIs (wCons (wVar 0) (wCons (wC (.raw (.ty "list"))) wNil))))) (wNot (wT (wCh (fB fun i j => decide (i ≤ j)) (fB fun i j => decide (i ≤ j)) (wC (.d (.int 1))) (wFn kLen (wCons (wVar 0) wNil)) (wC (.d (.int 24))))))) (wRet (wC (.d (.bool false)))) wNext)
    (wRet (wAndV (wFn (k1 fAll) (wCons (wLc (wILst (wVar 0)) (wNm 1) wYes (wCall [] 1 S_is_card (wCons (wVar 1) wNil)) [1]) wNil)) (wOp (fEq) (wLenSet (wVar 0)) (wFn kLen (wCons (wVar 0) wNil))))))
abbrev N_need_row : List Str := ["thing"]
def w_need_row : TwS := (wIfS (wNot (wT (wCall [] 1 S_is_row (wCons (wVar 0) wNil)))) wNever wNext)
theorem pl_is_card : PlD S_is_card w_is_card N_is_card := by
  rintro ts Q Ex ⟨⟨x, rfl⟩, q⟩
  unfold w_is_card
  have fin : ∀ b ρ, b = isCardD x → Q (.d (.bool b)) ρ := fun b ρ e => q _ _ fun y e' => by rw [← d1_inj e', e]
  cases x with
  | int i =>
    repeat trivial
    refine xIte (fun h => ?_) fun h => ?_
    · repeat trivial
      exact ⟨rfl, fin _ _ (by simp only [isCardD, h, Bool.true_and])⟩
    · repeat trivial
      exact ⟨rfl, fin _ _ (by simp only [isCardD, h, Bool.false_and])⟩
  | _ =>
    repeat trivial
    exact ⟨rfl, fin _ _ rfl⟩
theorem xIsCard {ρ : Rho} {Q : T → Rho → Prop} {E : ExK} {x : PyData} (q : Q (.d (.bool (isCardD x))) ρ) : caK [] 1 S_is_card [.d x] ρ Q E :=
  xCaP rfl rfl rfl ⟨x, rfl⟩ fun t ρ' e => by rw [e x rfl]; exact ⟨rfl, q⟩
theorem bools_of (f : PyData → Bool) (ds : List PyData) : ((List.filter (fun _ => true) ds).map fun x => PyData.bool (f x)) = (ds.map f).map PyData.bool := by
  rw [List.filter_eq_self.mpr (fun _ _ => rfl), List.map_map]; rfl
theorem all_of_map (f : PyData → Bool) (ds : List PyData) : (ds.map f).all id = ds.all f := by rw [List.all_map]; rfl
theorem pl_is_row : PlD S_is_row w_is_row N_is_row := by
  rintro ts Q Ex ⟨⟨x, rfl⟩, q⟩
  unfold w_is_row
  have fin : ∀ b ρ, b = isRowD x → Q (.d (.bool b)) ρ := fun b ρ e => q _ _ fun y e' => by rw [← d1_inj e', e]
  cases x with
  | list ds =>
    repeat trivial
    refine xIte (fun h1 => ?_) fun h1 => ?_
    · repeat trivial
      refine xIte (fun h2 => ?_) fun h2 => ?_
      · repeat trivial
        exact ⟨rfl, fin _ _ (by simp only [Bool.not_eq_true'] at h2; have h2' := of_decide_eq_false h2; have : decide (ds.length ≤ 24) = false := decide_eq_false (by omega); simp only [isRowD, this, Bool.and_false, Bool.false_and])⟩
      · have g1 := of_decide_eq_true h1
        have g2 : ds.length ≤ 24 := by simp only [Bool.not_eq_false'] at h2; have := of_decide_eq_true h2; omega
        repeat trivial
        refine xLcM (fun _ => true) (fun x => .bool (isCardD x)) rfl (by omega) (by simp [rho0]) (fun x hx Y Z hY _ => ?_) ?_
        · refine xYesT ⟨noNd1 rfl, xYes rfl ?_⟩
          repeat trivial
          refine xIsCard ?_
          exact ⟨noNd1 rfl, _, rfl, hY rfl⟩
        · rw [bools_of]
          repeat trivial
          refine xAll (bs := ds.map isCardD) vw_l ?_
          rw [all_of_map]
          repeat trivial
          refine xIte (fun h3 => ?_) fun h3 => ?_
          · obtain ⟨e1, e2⟩ := cards_ints h3
            repeat trivial
            refine ⟨intsD ds, by show some (PyData.list ds) = _; rw [← e1], by have := congrArg List.length e1; rw [List.length_map] at this; omega, ?_⟩
            repeat trivial
            refine ⟨rfl, fin _ _ ?_⟩
            simp only [isRowD, h3, Bool.true_and]
            rw [decide_eq_true (show 1 ≤ ds.length by omega), decide_eq_true g2, Bool.true_and, Bool.true_and, Bool.eq_iff_iff]
            simp only [beq_iff_eq, decide_eq_true_eq]
            omega
          · repeat trivial
            exact ⟨rfl, fin _ _ (by simp only [isRowD, h3, Bool.false_and, Bool.and_false])⟩
    · repeat trivial
      exact ⟨rfl, fin _ _ (by have h1' := of_decide_eq_false h1; have : decide (1 ≤ ds.length) = false := decide_eq_false (by omega); simp only [isRowD, this, Bool.false_and])⟩
  | _ =>
    repeat trivial
    exact ⟨rfl, fin _ _ rfl⟩
theorem pl_need_row : PlD S_need_row w_need_row N_need_row := by
  rintro ts Q Ex ⟨⟨x, rfl, h⟩, q⟩
  unfold w_need_row
  repeat trivial
  refine xCaP rfl rfl rfl ⟨x, rfl⟩ fun t ρ' e => ?_
  cases e x rfl
  refine ⟨rfl, ?_⟩
  repeat trivial
  refine xNo (by rw [h]; rfl) ?_
  repeat trivial
  exact q _ _ rfl
theorem eqv_intsB : ∀ cs ds : List Int, PyData.eqvAll (cs.map PyData.int) (ds.map PyData.int) = decide (cs = ds)
  | [], [] => by simp [PyData.eqvAll]
  | [], d :: ds => by simp [PyData.eqvAll]
  | c :: cs, [] => by simp [PyData.eqvAll]
  | c :: cs, d :: ds => by
    simp only [List.map_cons, PyData.eqvAll, eqv_int, eqv_intsB cs ds]
    rw [Bool.eq_iff_iff]; simp
theorem any_int (cs : List Int) (y : Int) : ((cs.map PyData.int).any fun w => PyData.eqv w (.int y)) = decide (y ∈ cs) := by
  rw [Bool.eq_iff_iff]
  simp only [List.any_map, List.any_eq_true, Function.comp, eqv_int, beq_iff_eq, decide_eq_true_eq]
  exact ⟨fun ⟨x, h, e⟩ => e ▸ h, fun h => ⟨y, h, rfl⟩⟩
theorem eqv_prs (p q : Int × Int) : PyData.eqv (pr p) (pr q) = decide (p = q) := by
  rw [Bool.eq_iff_iff]
  obtain ⟨a, b⟩ := p; obtain ⟨c, d⟩ := q
  simp [pr, PyData.eqv, PyData.eqvAll, eqv_int]
theorem any_prB (ps : List (Int × Int)) (p : Int × Int) : ((ps.map pr).any fun w => PyData.eqv w (pr p)) = decide (p ∈ ps) := by
  rw [Bool.eq_iff_iff]
  simp only [List.any_map, List.any_eq_true, Function.comp, eqv_prs, decide_eq_true_eq]
  exact ⟨fun ⟨x, h, e⟩ => e ▸ h, fun h => ⟨p, h, rfl⟩⟩
theorem canLay_prs : ∀ ps : List (Int × Int), PyData.canLayAll0 (ps.map pr) = true
  | [] => rfl
  | p :: ps => by simp only [List.map_cons, PyData.canLayAll0, pr, PyData.canLay0, canLay_prs ps, Bool.and_self]
theorem depthAll_prs : ∀ ps : List (Int × Int), PyData.depthAll (ps.map pr) ≤ 3
  | [] => by simp [PyData.depthAll]
  | p :: ps => by
    have := depthAll_prs ps
    simp only [List.map_cons, PyData.depthAll, pr, PyData.depth]; omega
theorem shaped_prs (ps : List (Int × Int)) : SeqAt.shaped (.list (ps.map pr)) = true := by
  have := depthAll_prs ps
  have e : (PyData.list (ps.map pr)).depth ≤ 64 := by simp only [PyData.depth]; omega
  simp only [SeqAt.shaped, PyData.canLay0, canLay_prs, Bool.true_and, decide_eq_true_eq]
  exact e
theorem shaped_pr (p : Int × Int) : SeqAt.shaped (pr p) = true := by
  have e : (pr p).depth ≤ 64 := by simp [pr, PyData.depth, PyData.depthAll]
  simp only [SeqAt.shaped, pr, PyData.canLay0, PyData.canLayAll0, Bool.and_self, Bool.true_and]
  exact decide_eq_true e
/-- the eq of two lists of ints -/
theorem xEqL {ρ : Rho} {Q : T → Rho → Prop} {t u : T} {xs ys : List Int} (h1 : vw ρ t = some (.list (xs.map PyData.int))) (h2 : vw ρ u = some (.list (ys.map PyData.int))) (q : Q (.d (.bool (decide (xs = ys)))) ρ) : opK fEq t u ρ Q :=
  xEq h1 h2 (shaped_ints _) (shaped_ints _) (by simp only [PyData.eqv, eqv_intsB]; exact q)
theorem xNeL {ρ : Rho} {Q : T → Rho → Prop} {t u : T} {xs ys : List Int} (h1 : vw ρ t = some (.list (xs.map PyData.int))) (h2 : vw ρ u = some (.list (ys.map PyData.int))) (q : Q (.d (.bool (!decide (xs = ys)))) ρ) : opK fNe t u ρ Q :=
  xNe h1 h2 (shaped_ints _) (shaped_ints _) (by simp only [PyData.eqv, eqv_intsB]; exact q)
theorem bne_f (b : Bool) : (false != b) = b := by cases b <;> rfl
theorem bne_t (b : Bool) : (true != b) = !b := by cases b <;> rfl
theorem xInI {ρ : Rho} {Q : T → Rho → Prop} {t u : T} {xs : List Int} {y : Int} (h1 : vw ρ t = some (.int y)) (h2 : vw ρ u = some (.list (xs.map PyData.int))) (q : Q (.d (.bool (decide (y ∈ xs)))) ρ) : opK (fIn false) t u ρ Q :=
  xIn h1 h2 rfl (shaped_ints _) (by rw [any_int, bne_f]; exact q)
theorem xInPr {ρ : Rho} {Q : T → Rho → Prop} {t u : T} {xs : List (Int × Int)} {y : Int × Int} (h1 : vw ρ t = some (pr y)) (h2 : vw ρ u = some (.list (xs.map pr))) (q : Q (.d (.bool (decide (y ∈ xs)))) ρ) : opK (fIn false) t u ρ Q :=
  xIn h1 h2 (shaped_pr _) (shaped_prs _) (by rw [any_prB, bne_f]; exact q)
theorem xNiPr {ρ : Rho} {Q : T → Rho → Prop} {t u : T} {xs : List (Int × Int)} {y : Int × Int} (h1 : vw ρ t = some (pr y)) (h2 : vw ρ u = some (.list (xs.map pr))) (q : Q (.d (.bool (!decide (y ∈ xs)))) ρ) : opK (fIn true) t u ρ Q :=
  xIn h1 h2 (shaped_pr _) (shaped_prs _) (by rw [any_prB, bne_t]; exact q)
end LW

namespace LW
open PySem PySem.Spec L2 TX
/-! ### exchanges -/
def mayB (cs : List Int) (a b : Int) : Bool := decide (a < b) && (decide (b ∈ cs) && decide ((cs.drop (pos cs b + 1)).take 1 = [a]))
def mayL (cs : List Int) : List Int → Bool
  | [a, b] => mayB cs a b
  | _ => false
def mayD (cs : List Int) : PyData → Bool
  | .tuple ds => decide (ds.length = 2) && (ds.all isCardD && mayL cs (intsD ds))
  | _ => false
def sw (cs : List Int) (a b : Int) : List Int := (cs.set (pos cs b) a).set (pos cs b + 1) b
def swL (cs : List Int) : List Int → List Int
  | [a, b] => sw cs a b
  | _ => cs
def swD (cs : List Int) : PyData → List Int
  | .tuple ds => swL cs (intsD ds)
  | _ => cs
def ledL : List Int → List PyData → Option (List Int)
  | cs, [] => some cs
  | cs, x :: xs => if mayD cs x = true then ledL (swD cs x) xs else none
def ledD (cs : List Int) : PyData → Option (List Int)
  | .list ds => ledL cs ds
  | _ => none
theorem mayD_pair {cs : List Int} {x : PyData} (h : mayD cs x = true) : ∃ a b, x = pr (a, b) ∧ (0 ≤ a ∧ a ≤ 999999999) ∧ (0 ≤ b ∧ b ≤ 999999999) ∧ mayB cs a b = true := by
  cases x with
  | tuple ds =>
    simp only [mayD, Bool.and_eq_true, decide_eq_true_eq] at h
    obtain ⟨h1, h2, h3⟩ := h
    obtain ⟨e, c⟩ := cards_ints h2
    generalize intsD ds = is at *
    subst e
    match is, h1, h3 with
    | [a, b], _, h3 => exact ⟨a, b, rfl, c a (by simp), c b (by simp), h3⟩
  | _ => simp [mayD] at h
theorem mayD_pr {cs : List Int} {a b : Int} : mayD cs (pr (a, b)) = true ↔ ((0 ≤ a ∧ a ≤ 999999999) ∧ (0 ≤ b ∧ b ≤ 999999999)) ∧ mayB cs a b = true := by
  simp [mayD, pr, isCardD, intsD, mayL]
theorem swD_pr {cs : List Int} {a b : Int} : swD cs (pr (a, b)) = sw cs a b := rfl
theorem pos_split : ∀ {cs : List Int} {b : Int}, b ∈ cs → cs = cs.take (pos cs b) ++ b :: cs.drop (pos cs b + 1)
  | c :: cs, b, h => by
    unfold pos
    by_cases e : c = b
    · subst e; simp
    · rw [if_neg e]
      simp only [List.take_succ_cons, List.drop_succ_cons, List.cons_append]
      rw [← pos_split ((List.mem_cons.mp h).resolve_left fun z => e z.symm)]
theorem pos_app {u v : List Int} {b : Int} (h : b ∉ u) : pos (u ++ b :: v) b = u.length := by
  induction u with
  | nil => simp [pos]
  | cons x u ih =>
    simp only [List.cons_append, pos, List.length_cons]
    rw [if_neg fun e => h (by simp [e]), ih fun z => h (List.mem_cons_of_mem _ z)]
theorem may_iff {cs : List Int} {a b : Int} (nd : cs.Nodup) : mayB cs a b = true ↔ a < b ∧ ∃ u v, cs = u ++ b :: a :: v := by
  simp only [mayB, Bool.and_eq_true, decide_eq_true_eq]
  constructor
  · rintro ⟨h1, h2, h3⟩
    refine ⟨h1, cs.take (pos cs b), cs.drop (pos cs b + 2), ?_⟩
    have e := pos_split h2
    cases hd : cs.drop (pos cs b + 1) with
    | nil => rw [hd] at h3; simp at h3
    | cons x r =>
      rw [hd] at h3 e
      simp at h3
      subst h3
      have : cs.drop (pos cs b + 2) = r := by
        rw [show pos cs b + 2 = (pos cs b + 1) + 1 from rfl, ← List.drop_drop, hd]; rfl
      rw [this]; exact e
  · rintro ⟨h1, u, v, rfl⟩
    have nb : b ∉ u := fun h => (List.nodup_append.mp nd).2.2 b h b (by simp) rfl
    refine ⟨h1, by simp, ?_⟩
    rw [pos_app nb, show u.length + 1 = u.length + 1 from rfl, ← List.drop_drop, List.drop_left]
    rfl
theorem sw_eq {u v : List Int} {a b : Int} (h : b ∉ u) : sw (u ++ b :: a :: v) a b = u ++ a :: b :: v := by
  unfold sw
  rw [pos_app h, List.set_append_right _ _ (Nat.le_refl _), Nat.sub_self, List.set_append_right _ _ (by omega), show u.length + 1 - u.length = 1 by omega]
  rfl
theorem sw_perm {cs : List Int} {a b : Int} (nd : cs.Nodup) (h : mayB cs a b = true) : (sw cs a b).Perm cs := by
  obtain ⟨h1, u, v, rfl⟩ := (may_iff nd).mp h
  rw [sw_eq fun h => (List.nodup_append.mp nd).2.2 b h b (by simp) rfl]
  exact (List.Perm.swap b a v).append_left u
theorem may_at {cs : List Int} {a b : Int} (h : mayB cs a b = true) : b ∈ cs ∧ cs[pos cs b]? = some b ∧ cs[pos cs b + 1]? = some a ∧ pos cs b + 1 < cs.length := by
  simp only [mayB, Bool.and_eq_true, decide_eq_true_eq] at h
  have e : cs[pos cs b + 1]? = some a := by
    have := congrArg (fun l : List Int => l[0]?) h.2.2
    simpa using this
  exact ⟨h.2.1, pos_at h.2.1, e, (List.getElem?_eq_some_iff.mp e).1⟩
theorem swD_ok {cs : List Int} {x : PyData} (ok : RowOk cs) (h : mayD cs x = true) : RowOk (swD cs x) := by
  obtain ⟨a, b, rfl, _, _, h⟩ := mayD_pair h
  exact rowOk_perm (sw_perm ok.2.1 h) ok
theorem swD_perm {cs : List Int} {x : PyData} (ok : RowOk cs) (h : mayD cs x = true) : (swD cs x).Perm cs := by
  obtain ⟨a, b, rfl, _, _, h⟩ := mayD_pair h
  exact sw_perm ok.2.1 h
theorem ledL_app : ∀ {xs ys : List PyData} {cs : List Int}, ledL cs (xs ++ ys) = (ledL cs xs).bind fun r => ledL r ys
  | [], ys, cs => rfl
  | x :: xs, ys, cs => by
    simp only [List.cons_append, ledL]
    split
    · exact ledL_app
    · rfl
theorem ledL_pre {xs ys : List PyData} {cs r : List Int} (h : ledL cs (xs ++ ys) = some r) : ∃ s, ledL cs xs = some s ∧ ledL s ys = some r := by
  rw [ledL_app] at h
  cases e : ledL cs xs with
  | none => rw [e] at h; cases h
  | some s => rw [e] at h; exact ⟨s, rfl, h⟩
theorem ledL_ok : ∀ {xs : List PyData} {cs r : List Int}, RowOk cs → ledL cs xs = some r → RowOk r ∧ r.Perm cs
  | [], cs, r, ok, h => by cases h; exact ⟨ok, .refl _⟩
  | x :: xs, cs, r, ok, h => by
    simp only [ledL] at h
    split at h
    · rename_i hm
      obtain ⟨h1, h2⟩ := ledL_ok (swD_ok ok hm) h
      exact ⟨h1, h2.trans (swD_perm ok hm)⟩
    · cases h
theorem ledL_cons {cs r : List Int} {x : PyData} {xs : List PyData} (h : ledL cs (x :: xs) = some r) : mayD cs x = true ∧ ledL (swD cs x) xs = some r := by
  simp only [ledL] at h
  split at h
  · rename_i hm; exact ⟨hm, h⟩
  · cases h
/-! ### what may come next -/
def nx : List Int → List (Int × Int)
  | b :: a :: r => if a < b then (a, b) :: nx (a :: r) else nx (a :: r)
  | _ => []
def nxs (cs : List Int) : List (Int × Int) := (nx cs).mergeSort leP
theorem nx_mem : ∀ {cs : List Int} {p : Int × Int}, p ∈ nx cs ↔ p.1 < p.2 ∧ ∃ u v, cs = u ++ p.2 :: p.1 :: v
  | [], p => by simp [nx]
  | [x], p => by
    simp only [nx, List.not_mem_nil, false_iff, not_and, not_exists]
    intro _ u v e
    have := congrArg List.length e
    simp at this; omega
  | b :: a :: r, (x, y) => by
    have ih := nx_mem (cs := a :: r) (p := (x, y))
    have key : (x, y) ∈ nx (b :: a :: r) ↔ (a < b ∧ x = a ∧ y = b) ∨ (x, y) ∈ nx (a :: r) := by
      simp only [nx]
      split
      · rename_i h; simp [h]
      · rename_i h; simp [h]
    rw [key, ih]
    constructor
    · rintro (⟨h, rfl, rfl⟩ | ⟨h, u, v, e⟩)
      · exact ⟨h, [], r, rfl⟩
      · exact ⟨h, b :: u, v, by simp only at e ⊢; rw [e]; rfl⟩
    · rintro ⟨h, u, v, e⟩
      cases u with
      | nil => simp at e; obtain ⟨rfl, rfl, rfl⟩ := e; exact .inl ⟨h, rfl, rfl⟩
      | cons z u => simp at e; exact .inr ⟨h, u, v, e.2⟩
theorem nx_len : ∀ cs : List Int, (nx cs).length ≤ cs.length
  | [] => Nat.le_refl _
  | [x] => by simp [nx]
  | b :: a :: r => by
    have := nx_len (a :: r)
    simp only [nx]
    split <;> simp only [List.length_cons] at * <;> omega
theorem nxs_mem {cs : List Int} {p : Int × Int} : p ∈ nxs cs ↔ p ∈ nx cs := (List.mergeSort_perm _ leP).mem_iff
theorem nxs_len (cs : List Int) : (nxs cs).length ≤ cs.length := by rw [nxs, (List.mergeSort_perm _ leP).length_eq]; exact nx_len cs
theorem may_nxs {cs : List Int} {a b : Int} (ok : RowOk cs) : mayD cs (pr (a, b)) = true ↔ (a, b) ∈ nxs cs := by
  rw [nxs_mem, nx_mem, mayD_pr, may_iff ok.2.1]
  refine ⟨fun h => h.2, fun h => ⟨?_, h⟩⟩
  obtain ⟨_, u, v, e⟩ := h
  simp only at e
  exact ⟨ok.1 a (by rw [e]; simp), ok.1 b (by rw [e]; simp)⟩
def nrf (cs : List Int) : PyData → Bool
  | .int k => decide (cs.getD (k + 1).toNat 0 < cs.getD k.toNat 0)
  | _ => false
def nrg (cs : List Int) : PyData → PyData
  | .int k => PyData.tuple [.int (cs.getD (k + 1).toNat 0), .int (cs.getD k.toNat 0)]
  | y => y
theorem rangeD_succ {lo : Int} {n : Nat} : rangeD lo (n + 1) = .int lo :: rangeD (lo + 1) n := by
  unfold rangeD
  rw [List.range_succ_eq_map, List.map_cons, List.map_map]
  congr 1
  · simp
  · exact List.map_congr_left fun i _ => by simp only [Function.comp]; congr 1; omega
theorem nx_range : ∀ (cs u : List Int), ((rangeD (u.length : Nat) (cs.length - 1)).filter (nrf (u ++ cs))).map (nrg (u ++ cs)) = (nx cs).map pr
  | [], u => rfl
  | [x], u => rfl
  | b :: a :: r, u => by
    have ih := nx_range (a :: r) (u ++ [b])
    have e : u ++ [b] ++ a :: r = u ++ b :: a :: r := by simp
    rw [e] at ih
    have l : ((u ++ [b]).length : Int) = (u.length : Nat) + 1 := by simp
    rw [l] at ih
    have e1 : (u ++ b :: a :: r).getD u.length 0 = b := by simp [List.getD]
    have e2 : (u ++ b :: a :: r).getD (u.length + 1) 0 = a := by simp [List.getD]
    have z1 : ((u.length : Nat) : Int).toNat = u.length := by omega
    have z2 : (((u.length : Nat) : Int) + 1).toNat = u.length + 1 := by omega
    simp only [List.length_cons, Nat.add_sub_cancel] at ih ⊢
    rw [rangeD_succ, List.filter_cons]
    simp only [nrf, z1, z2, e1, e2]
    by_cases h : a < b
    · simp only [h, decide_true, if_true, List.map_cons, nrg, nx, z1, z2, e1, e2]
      rw [ih]; rfl
    · simp only [h, decide_false, nx, Bool.false_eq_true, if_false]
      exact ih
end LW

namespace LW
open PySem PySem.Spec L2 TX

local macro_rules | `(tactic| trivial) => `(tactic| with_reducible first
  | refine xSeq ?_ | refine xSet ?_ | refine xSetK (by with_unfolding_all rfl) ?_ | refine xNext ?_ | refine xIfS ?_ | refine xDrop ?_ | refine xRet ?_ | refine xAsg ?_ | refine xAsK (by with_unfolding_all rfl) ?_ | refine xSub ?_ | refine xSbK (by with_unfolding_all rfl) (by with_unfolding_all rfl) (by with_unfolding_all rfl) ?_
  | refine xVarD (by with_unfolding_all rfl) ?_ | refine xVarZ (by with_unfolding_all rfl) ?_ | refine xVarN (by with_unfolding_all rfl) (by with_unfolding_all rfl) ?_ | refine xC ?_ | refine xOp ?_ | refine xI (by with_unfolding_all rfl) (by with_unfolding_all rfl) ?_ | refine xB (by with_unfolding_all rfl) (by with_unfolding_all rfl) ?_ | refine xEqI (by with_unfolding_all rfl) (by with_unfolding_all rfl) ?_ | refine xNeI (by with_unfolding_all rfl) (by with_unfolding_all rfl) ?_ | refine xNeg ?_ | refine xNegK ?_
  | refine xIc (by with_unfolding_all rfl) (by with_unfolding_all rfl) (by with_unfolding_all first | omega | exact ⟨by decide, by decide +kernel⟩) ?_
  | refine xT ?_ | refine xTK ?_ | refine xNot ?_ | refine xAnd ?_ | refine xOr ?_ | refine xAndV ?_ | refine xOrV ?_ | refine xNotV ?_ | refine xBK ?_ | refine xIf ?_ | refine xCh ?_ | refine xCh1 (by with_unfolding_all rfl) (by with_unfolding_all rfl) ?_ | refine xCh2 (by with_unfolding_all rfl) (by with_unfolding_all rfl) ?_
  | refine xIx ?_ | refine xIxA (by with_unfolding_all rfl) (by with_unfolding_all rfl) (by with_unfolding_all rfl) ?_ | refine xNil ?_ | refine xCons ?_ | refine xFn ?_ | refine xLst ?_ | refine xLstK (by with_unfolding_all rfl) ?_ | refine xTup ?_ | refine xTupK (by with_unfolding_all rfl) ?_ | refine xLen (by with_unfolding_all rfl) ?_ | refine xMax (by with_unfolding_all rfl) (by with_unfolding_all rfl) ?_ | refine xMin (by with_unfolding_all rfl) (by with_unfolding_all rfl) ?_
  | refine xYes (by with_unfolding_all rfl) ?_ | refine xNo (by with_unfolding_all rfl) ?_ | refine xIs (by with_unfolding_all rfl) (by with_unfolding_all rfl) ?_ | refine xCall ?_ | refine xM ?_ | refine xMA (by with_unfolding_all rfl) ?_ | refine xMD ?_ | refine xLc ?_ | refine xFor ?_ | refine xILst ?_ | refine xILK (by with_unfolding_all rfl) ?_ | refine xIR1 ?_ | refine xIEn ?_ | refine xSl ?_ | refine xNoPart ?_ | refine xPart ?_ | refine xPartK ?_ | refine xRevS ?_ | refine xCat ?_ | refine xLenSet ?_
  | refine xNm (by with_unfolding_all rfl) ?_ | refine xGTup (by with_unfolding_all rfl) ?_ | refine xGsCons ?_ | refine xGsNil ?_ | refine xYesT ?_ | refine xDg1 ?_ | refine xDp1 ?_ | refine xDg2 ?_ | refine xDp2 ?_ | refine xPar ?_ | refine xPaK (by with_unfolding_all rfl) (by with_unfolding_all rfl) ?_ | refine xRevT ?_ | refine xRevTK ?_ | refine xDi1 ?_ | refine xDi2 ?_ | refine xITup ?_ | refine xITupK ?_ | refine xIZip ?_ | refine xIR2 ?_ | refine xIsNK (by with_unfolding_all rfl) ?_ | refine xRev2 ?_ | refine xListR ?_ | refine xSlT ?_ | refine xSlTK ?_ | refine xGt1 ?_ | refine xGt2 ?_ | refine xGtA (by with_unfolding_all rfl) ?_ | refine xGtD ?_ | refine xRep ?_ | refine xDcL ?_ | refine xDc ?_ | refine xDpl ?_ | refine xGe1 ?_ | refine xGe2 ?_ | refine xIe1 ?_ | refine xIe2 ?_ | refine xGLst (by with_unfolding_all rfl) ?_ | refine xIsB (by with_unfolding_all rfl) (by with_unfolding_all rfl) ?_ | refine xVarL (by with_unfolding_all rfl) ?_ | refine xIDc ?_ | refine xIDcK ?_ | refine xLc2 ?_ | refine xGd1 ?_ | refine xGd2 ?_ | refine xGdA (by with_unfolding_all rfl) ?_ | refine xGdD ?_ | refine xDcT ?_ | refine xClip ?_ | refine xAppD ?_ | refine xAppD11 ?_ | refine xAppD21 ?_)

/-! ### histories -/
theorem rows2_inj {cs cs' : List Int} {x x' : PyData} (h : [rowD cs, T.d x] = [rowD cs', T.d x']) : cs = cs' ∧ x = x' := by
  simp only [List.cons.injEq, T.d.injEq, and_true] at h
  exact ⟨rowD_inj h.1, h.2⟩
def ledT (cs : List Int) (x : PyData) : T := match ledD cs x with
  | none => .d .none
  | some r => intL r
def S_may_change : SpT := SpP (fun ts => ∃ cs x, ts = [rowD cs, .d x]) fun ts t _ => ∀ cs x, ts = [rowD cs, .d x] → t = .d (.bool (mayD cs x))
def S_led_by : SpT := SpP (fun ts => ∃ cs x, ts = [rowD cs, .d x] ∧ RowOk cs) fun ts t _ => ∀ cs x, ts = [rowD cs, .d x] → t = ledT cs x
def S_is_history : SpT := SpP (fun ts => ∃ cs x, ts = [rowD cs, .d x] ∧ RowOk cs) fun ts t _ => ∀ cs x, ts = [rowD cs, .d x] → t = .d (.bool (ledD cs x).isSome)
def S_need_history : SpT := SpP (fun ts => ∃ cs x, ts = [rowD cs, .d x] ∧ RowOk cs ∧ (ledD cs x).isSome = true) fun ts t _ => t = .d .none
theorem mS_may_change : MonSp S_may_change := mon_SpP
theorem mS_led_by : MonSp S_led_by := mon_SpP
theorem mS_is_history : MonSp S_is_history := mon_SpP
theorem mS_need_history : MonSp S_need_history := mon_SpP
theorem cut_to {cs : List Int} {k : Int} (h : 0 ≤ k) : cutD (cs.map PyData.int) none (some k) = (cs.take k.toNat).map PyData.int := by
  unfold cutD HT.sIx
  simp only
  rw [if_neg (by omega)]
  generalize e : cs.map PyData.int = ds
  rw [List.map_take, e]
  simp only [Nat.min_zero, Nat.zero_min, List.drop_zero, Nat.sub_zero]
  by_cases q : k.toNat ≤ ds.length
  · rw [Nat.min_eq_left q]
  · rw [Nat.min_eq_right (by omega), List.take_of_length_le (Nat.le_refl _), List.take_of_length_le (by omega)]
abbrev N_may_change : List Str := ["row", "thing", "card", "less", "greater"]
def w_may_change : TwS := (wSeq (wIfS (wOr (wNot (wT (wFn kIs (wCons (wVar 1) (wCons (wC (.raw (.ty "tuple"))) wNil))))) (wOr (wT (wOp (fNe) (wFn kLen (wCons (wVar 1) wNil)) (wC (.d (.int 2))))) (wNot (wT (wFn (k1 fAll) (wCons (wLc (wITup (wVar 1)) (wNm 2) wYes (wCall [] 1 S_is_card (wCons (wVar 2) wNil)) [2]) wNil)))))) (wRet (wC (.d (.bool false)))) wNext)
    (wSeq (wAsg (wVar 1) (wGTup 2 (wGsCons (wNm 3) (wGsCons (wNm 4) wGsNil))))
    (wRet (wAndV (wOp (fB fun i j => decide (i < j)) (wVar 3) (wVar 4)) (wAndV (wOp (fIn false) (wVar 4) (wVar 0)) (wOp (fEq) (wSl (wSl (wVar 0) (wPart (wOp (fI (· + ·)) (wM isLst kIdx (wVar 0) (wCons (wVar 4) wNil)) (wC (.d (.int 1))))) wNoPart) wNoPart (wPart (wC (.d (.int 1))))) (wLst (wCons (wVar 3) wNil))))))))
abbrev N_led_by : List Str := ["row", "thing", "found", "pair", "at"]
def w_led_by : TwS := (wSeq (wIfS (wNot (wT (wFn kIs (wCons (wVar 1) (wCons (wC (.raw (.ty "list"))) wNil))))) (wRet (wC (.d .none))) wNext)
    (wSeq (wSet 2 (wFn kList (wCons (wVar 0) wNil)))
    (wSeq (wFor (wILst (wVar 1)) (wNm 3) (wSeq (wIfS (wNot (wT (wCall [] 2 S_may_change (wCons (wVar 2) (wCons (wVar 3) wNil))))) (wRet (wC (.d .none))) wNext)
    (wSeq (wSet 4 (wM isLst kIdx (wVar 2) (wCons (wIx (wVar 3) (wC (.d (.int 1)))) wNil)))
    (wAsg (wTup (wCons (wIx (wVar 2) (wOp (fI (· + ·)) (wVar 4) (wC (.d (.int 1))))) (wCons (wIx (wVar 2) (wVar 4)) wNil))) (wGTup 2 (wGsCons (wSub (wVar 2) (wVar 4)) (wGsCons (wSub (wVar 2) (wOp (fI (· + ·)) (wVar 4) (wC (.d (.int 1))))) wGsNil)))))))
    (wRetV 2))))
abbrev N_is_history : List Str := ["row", "thing"]
def w_is_history : TwS := (wSeq (wDrop (wCall [] 1 S_need_row (wCons (wVar 0) wNil)))
    (wRet (wOp (fIsN true) (wCall [] 2 S_led_by (wCons (wVar 0) (wCons (wVar 1) wNil))) (wC (.d .none)))))
abbrev N_need_history : List Str := ["row", "history"]
def w_need_history : TwS := (wIfS (wNot (wT (wCall [] 2 S_is_history (wCons (wVar 0) (wCons (wVar 1) wNil))))) wNever wNext)
theorem pl_may_change : PlD S_may_change w_may_change N_may_change := by
  rintro ts Q Ex ⟨⟨cs, x, rfl⟩, q⟩
  unfold w_may_change
  have fin : ∀ b ρ, b = mayD cs x → Q (.d (.bool b)) ρ := fun b ρ e => q _ _ fun cs' y e' => by
    obtain ⟨rfl, rfl⟩ := rows2_inj e'
    rw [e]
  cases x with
  | tuple ds =>
    repeat trivial
    refine xIte (fun h1 => ?_) fun h1 => ?_
    · repeat trivial
      exact ⟨rfl, fin _ _ (by simp at h1; have : decide (ds.length = 2) = false := decide_eq_false (by omega); simp only [mayD, this, Bool.false_and])⟩
    · have l2 : ds.length = 2 := by simp at h1; omega
      repeat trivial
      refine xLcM (fun _ => true) (fun x => .bool (isCardD x)) rfl (by omega) (by simp [rho0]) (fun x hx Y Z hY _ => ?_) ?_
      · refine xYesT ⟨noNd1 rfl, xYes rfl ?_⟩
        repeat trivial
        refine xIsCard ?_
        exact ⟨noNd1 rfl, _, rfl, hY rfl⟩
      · rw [bools_of]
        repeat trivial
        refine xAll (bs := ds.map isCardD) vw_l ?_
        rw [all_of_map]
        repeat trivial
        refine xIte (fun h3 => ?_) fun h3 => ?_
        · repeat trivial
          exact ⟨rfl, fin _ _ (by have h3' : ds.all isCardD = false := (by simpa using h3); simp only [mayD, h3', Bool.false_and, Bool.and_false])⟩
        · have h3' : ds.all isCardD = true := by simpa using h3
          obtain ⟨e1, e2⟩ := cards_ints h3'
          generalize hi : intsD ds = is at e1 e2
          subst e1
          rw [List.length_map] at l2
          match is, l2 with
          | [a, b], _ =>
            simp only [List.map_cons, List.map_nil] at h3' fin ⊢
            have fin' : ∀ c ρ, c = mayB cs a b → Q (.d (.bool c)) ρ := fun c ρ e => fin c ρ (by rw [e]; simp only [mayD, h3', Bool.true_and]; rfl)
            repeat trivial
            refine xIte (fun h4 => ?_) fun h4 => ?_
            · repeat trivial
              refine xInI rfl rfl ?_
              repeat trivial
              refine xIte (fun h5 => ?_) fun h5 => ?_
              · have hb : b ∈ cs := of_decide_eq_true h5
                repeat trivial
                refine xIdxI rfl rfl hb ?_
                repeat trivial
                refine xSlK rfl ?_
                rw [cut_from (by omega), show ((pos cs b : Int) + 1).toNat = pos cs b + 1 by omega]
                repeat trivial
                refine xSlK (allD_map _) ?_
                rw [cut_to (by decide)]
                repeat trivial
                refine xEqL (ys := [a]) vw_l vw_l ?_
                exact ⟨rfl, fin' _ _ (by simp only [mayB, h4, h5, Bool.true_and]; rfl)⟩
              · repeat trivial
                exact ⟨rfl, fin' _ _ (by simp only [mayB, h5, Bool.false_and, Bool.and_false])⟩
            · repeat trivial
              exact ⟨rfl, fin' _ _ (by simp only [mayB, h4, Bool.false_and])⟩
  | _ =>
    repeat trivial
    exact ⟨rfl, fin _ _ rfl⟩
theorem xSbI {ρ : Rho} {N : Rho → Prop} {r : Nat} {p : List Nat} {cs : List Int} {i y : Int} (g : getT ρ r p = some (intL cs)) (h0 : 0 ≤ i) (h1 : i < cs.length) (q : N (TX.putAt ρ r p (intL (cs.set i.toNat y)))) : sbK (.int y) (.a r p) (.d (.int i)) ρ N := by
  refine ⟨r, p, cs.map PyData.int, i, i.toNat, rfl, rfl, g, by unfold ixN; rw [if_pos h0, if_pos (by simp; omega)], ?_⟩
  rw [← List.map_set]
  exact q
theorem pl_led_by : PlD S_led_by w_led_by N_led_by := by
  rintro ts Q Ex ⟨⟨cs, x, rfl, ok⟩, q⟩
  unfold w_led_by
  have fin : ∀ t ρ, t = ledT cs x → Q t ρ := fun t ρ e => q _ _ fun cs' y e' => by
    obtain ⟨rfl, rfl⟩ := rows2_inj e'
    rw [e]
  cases x with
  | list ds =>
    repeat trivial
    refine xList rfl ?_
    repeat trivial
    refine xFoK (fun i ρ => ∃ (r : List Int) (o3 o4 : Option PyData), ρ = [some (rowD cs), some (.d (.list ds)), some (intL r), o3.map T.d, o4.map T.d] ∧ RowOk r ∧ ledL r (ds.drop i) = ledL cs ds) ⟨cs, none, none, rfl, ok, rfl⟩ ?_ ?_
    · rintro i x ρ2 e ⟨r, o3, o4, rfl, okr, hr⟩
      obtain ⟨hi, hxi⟩ := List.getElem?_eq_some_iff.mp e
      rw [List.drop_eq_getElem_cons hi, hxi] at hr
      simp only [ledL] at hr
      refine xNm (noNd_o rfl) ?_
      repeat trivial
      refine xCaV (argV rfl rfl erase_intL (argD rfl rfl rfl argNil)) rfl rfl ⟨r, x, rfl⟩ fun u ρ' e => ?_
      cases e r x rfl
      refine ⟨rfl, rfl, ?_⟩
      repeat trivial
      refine xIte (fun h => ?_) fun h => ?_
      · have h' : mayD r x = false := by simpa using h
        rw [h'] at hr
        repeat trivial
        exact ⟨rfl, fin _ _ (by simp only [ledT, ledD, ← hr]; rfl)⟩
      · have h' : mayD r x = true := by simpa using h
        rw [if_pos h'] at hr
        have okr' := swD_ok okr h'
        obtain ⟨a, b, rfl, _, _, hm⟩ := mayD_pair h'
        obtain ⟨m1, m2, m3, m4⟩ := may_at hm
        simp only [pr] at hr ⊢
        repeat trivial
        refine xIxT rfl ?_
        refine xIdxI erase_intL rfl m1 ?_
        repeat trivial
        refine xIxAL rfl (at_of (by omega) (by rw [List.getElem?_map, show ((pos r b : Int) + 1).toNat = pos r b + 1 by omega, m3]; rfl)) ?_
        repeat trivial
        refine xIxAL rfl (at_of (by omega) (by rw [List.getElem?_map, show ((pos r b : Int)).toNat = pos r b by omega, m2]; rfl)) ?_
        repeat trivial
        refine xSbI rfl (by omega) (by omega) ?_
        repeat trivial
        refine xSbI rfl (by omega) (by rw [List.length_set]; omega) ?_
        repeat trivial
        refine ⟨sw r a b, some (pr (a, b)), some (.int (pos r b : Nat)), ?_, okr', hr⟩
        rw [show ((pos r b : Int) + 1).toNat = pos r b + 1 by omega, show ((pos r b : Int)).toNat = pos r b by omega]
        rfl
    · rintro ρ2 ⟨r, o3, o4, rfl, okr, hr⟩
      rw [List.drop_length] at hr
      repeat trivial
      exact xRetV rfl ⟨rfl, fin _ _ (by simp only [ledT, ledD, ← hr]; rfl)⟩
  | _ =>
    repeat trivial
    exact ⟨rfl, fin _ _ rfl⟩
theorem vw_led {ρ : Rho} {cs : List Int} {x : PyData} : vw ρ (ledT cs x) = some (match ledD cs x with | none => .none | some r => .list (r.map PyData.int)) := by
  unfold ledT
  cases ledD cs x with
  | none => rfl
  | some r => exact erase_intL
theorem noAl_led {cs : List Int} {x : PyData} : noAl (ledT cs x) = true := by
  unfold ledT
  cases ledD cs x <;> rfl
theorem xIsRow {ρ : Rho} {Q : T → Rho → Prop} {E : ExK} {cs : List Int} (ok : RowOk cs) (q : Q (.d .none) ρ) : caK [] 1 S_need_row [rowD cs] ρ Q E :=
  xCaP rfl rfl rfl ⟨_, rfl, isRow_iff.mpr ok⟩ fun t ρ' e => by rw [e]; exact ⟨rfl, q⟩
theorem pl_is_history : PlD S_is_history w_is_history N_is_history := by
  rintro ts Q Ex ⟨⟨cs, x, rfl, ok⟩, q⟩
  unfold w_is_history
  repeat trivial
  refine xIsRow ok ?_
  repeat trivial
  refine xCaP rfl rfl rfl ⟨cs, x, rfl, ok⟩ fun t ρ' e => ?_
  cases e cs x rfl
  refine ⟨noAl_led, ?_⟩
  repeat trivial
  refine xIsNK vw_led ?_
  refine ⟨rfl, q _ _ fun cs' y e' => ?_⟩
  obtain ⟨rfl, rfl⟩ := rows2_inj e'
  cases ledD cs x <;> rfl
theorem xIsHist {ρ : Rho} {Q : T → Rho → Prop} {E : ExK} {cs : List Int} {x : PyData} {ts : List T} (ok : RowOk cs) (h : argsF [] ρ false 0 ts = some [rowD cs, .d x]) (ha : apartB ts = true) (q : Q (.d (.bool (ledD cs x).isSome)) ρ) : caK [] 2 S_is_history ts ρ Q E :=
  xCaP h rfl ha ⟨cs, x, rfl, ok⟩ fun t ρ' e => by rw [e cs x rfl]; exact ⟨rfl, q⟩
theorem pl_need_history : PlD S_need_history w_need_history N_need_history := by
  rintro ts Q Ex ⟨⟨cs, x, rfl, ok, h⟩, q⟩
  unfold w_need_history
  repeat trivial
  refine xIsHist ok rfl rfl ?_
  repeat trivial
  refine xNo (by rw [h]; rfl) ?_
  repeat trivial
  exact q _ _ rfl
theorem xNeedHist {ρ : Rho} {Q : T → Rho → Prop} {E : ExK} {cs r : List Int} {x : PyData} (ok : RowOk cs) (h : ledD cs x = some r) (q : Q (.d .none) ρ) : caK [] 2 S_need_history [rowD cs, .d x] ρ Q E :=
  xCaP rfl rfl rfl ⟨cs, x, rfl, ok, by rw [h]; rfl⟩ fun t ρ' e => by rw [e]; exact ⟨rfl, q⟩
theorem xLed {ρ : Rho} {Q : T → Rho → Prop} {E : ExK} {cs r : List Int} {x : PyData} {ts : List T} (ok : RowOk cs) (hr : ledD cs x = some r) (h : argsF [] ρ false 0 ts = some [rowD cs, .d x]) (ha : apartB ts = true) (q : Q (intL r) ρ) : caK [] 2 S_led_by ts ρ Q E :=
  xCaP h rfl ha ⟨cs, x, rfl, ok⟩ fun t ρ' e => by rw [e cs x rfl]; unfold ledT; rw [hr]; exact ⟨rfl, q⟩
end LW

namespace LW
open PySem PySem.Spec L2 TX

local macro_rules | `(tactic| trivial) => `(tactic| with_reducible first
  | refine xSeq ?_ | refine xSet ?_ | refine xSetK (by with_unfolding_all rfl) ?_ | refine xNext ?_ | refine xIfS ?_ | refine xDrop ?_ | refine xRet ?_ | refine xAsg ?_ | refine xAsK (by with_unfolding_all rfl) ?_ | refine xSub ?_ | refine xSbK (by with_unfolding_all rfl) (by with_unfolding_all rfl) (by with_unfolding_all rfl) ?_
  | refine xVarD (by with_unfolding_all rfl) ?_ | refine xVarZ (by with_unfolding_all rfl) ?_ | refine xVarN (by with_unfolding_all rfl) (by with_unfolding_all rfl) ?_ | refine xC ?_ | refine xOp ?_ | refine xI (by with_unfolding_all rfl) (by with_unfolding_all rfl) ?_ | refine xB (by with_unfolding_all rfl) (by with_unfolding_all rfl) ?_ | refine xEqI (by with_unfolding_all rfl) (by with_unfolding_all rfl) ?_ | refine xNeI (by with_unfolding_all rfl) (by with_unfolding_all rfl) ?_ | refine xNeg ?_ | refine xNegK ?_
  | refine xIc (by with_unfolding_all rfl) (by with_unfolding_all rfl) (by with_unfolding_all first | omega | exact ⟨by decide, by decide +kernel⟩) ?_
  | refine xT ?_ | refine xTK ?_ | refine xNot ?_ | refine xAnd ?_ | refine xOr ?_ | refine xAndV ?_ | refine xOrV ?_ | refine xNotV ?_ | refine xBK ?_ | refine xIf ?_ | refine xCh ?_ | refine xCh1 (by with_unfolding_all rfl) (by with_unfolding_all rfl) ?_ | refine xCh2 (by with_unfolding_all rfl) (by with_unfolding_all rfl) ?_
  | refine xIx ?_ | refine xIxA (by with_unfolding_all rfl) (by with_unfolding_all rfl) (by with_unfolding_all rfl) ?_ | refine xNil ?_ | refine xCons ?_ | refine xFn ?_ | refine xLst ?_ | refine xLstK (by with_unfolding_all rfl) ?_ | refine xTup ?_ | refine xTupK (by with_unfolding_all rfl) ?_ | refine xLen (by with_unfolding_all rfl) ?_ | refine xMax (by with_unfolding_all rfl) (by with_unfolding_all rfl) ?_ | refine xMin (by with_unfolding_all rfl) (by with_unfolding_all rfl) ?_
  | refine xYes (by with_unfolding_all rfl) ?_ | refine xNo (by with_unfolding_all rfl) ?_ | refine xIs (by with_unfolding_all rfl) (by with_unfolding_all rfl) ?_ | refine xCall ?_ | refine xM ?_ | refine xMA (by with_unfolding_all rfl) ?_ | refine xMD ?_ | refine xLc ?_ | refine xFor ?_ | refine xILst ?_ | refine xILK (by with_unfolding_all rfl) ?_ | refine xIR1 ?_ | refine xIEn ?_ | refine xSl ?_ | refine xNoPart ?_ | refine xPart ?_ | refine xPartK ?_ | refine xRevS ?_ | refine xCat ?_ | refine xLenSet ?_
  | refine xNm (by with_unfolding_all rfl) ?_ | refine xGTup (by with_unfolding_all rfl) ?_ | refine xGsCons ?_ | refine xGsNil ?_ | refine xYesT ?_ | refine xDg1 ?_ | refine xDp1 ?_ | refine xDg2 ?_ | refine xDp2 ?_ | refine xPar ?_ | refine xPaK (by with_unfolding_all rfl) (by with_unfolding_all rfl) ?_ | refine xRevT ?_ | refine xRevTK ?_ | refine xDi1 ?_ | refine xDi2 ?_ | refine xITup ?_ | refine xITupK ?_ | refine xIZip ?_ | refine xIR2 ?_ | refine xIsNK (by with_unfolding_all rfl) ?_ | refine xRev2 ?_ | refine xListR ?_ | refine xSlT ?_ | refine xSlTK ?_ | refine xGt1 ?_ | refine xGt2 ?_ | refine xGtA (by with_unfolding_all rfl) ?_ | refine xGtD ?_ | refine xRep ?_ | refine xDcL ?_ | refine xDc ?_ | refine xDpl ?_ | refine xGe1 ?_ | refine xGe2 ?_ | refine xIe1 ?_ | refine xIe2 ?_ | refine xGLst (by with_unfolding_all rfl) ?_ | refine xIsB (by with_unfolding_all rfl) (by with_unfolding_all rfl) ?_ | refine xVarL (by with_unfolding_all rfl) ?_ | refine xIDc ?_ | refine xIDcK ?_ | refine xLc2 ?_ | refine xGd1 ?_ | refine xGd2 ?_ | refine xGdA (by with_unfolding_all rfl) ?_ | refine xGdD ?_ | refine xDcT ?_ | refine xClip ?_ | refine xAppD ?_ | refine xAppD11 ?_ | refine xAppD21 ?_)

/-! ### the law's own histories -/
def pairsD (hs : List (Int × Int)) : PyData := .list (hs.map pr)
theorem pairsD_inj {xs ys : List (Int × Int)} (h : pairsD xs = pairsD ys) : xs = ys := by
  unfold pairsD at h
  simp only [PyData.list.injEq] at h
  exact map_inj (fun a b e => by obtain ⟨a1, a2⟩ := a; obtain ⟨b1, b2⟩ := b; simp [pr] at e; simp [e]) h
def S_law_behind : SpT := SpP (fun ts => ∃ cs hs r, ts = [rowD cs, .d (pairsD hs)] ∧ RowOk cs ∧ ledL cs (hs.map pr) = some r) fun ts t _ => ∀ cs hs r, ts = [rowD cs, .d (pairsD hs)] → ledL cs (hs.map pr) = some r → t = intL r
def S_law_next : SpT := SpP (fun ts => ∃ cs, ts = [rowD cs] ∧ RowOk cs) fun ts t _ => ∀ cs, ts = [rowD cs] → t = pairL (nxs cs)
def HistOk (cs : List Int) (hs : List (Int × Int)) : Prop := hs.length ≤ 300 ∧ (ledL cs (hs.map pr)).isSome = true
def Done (cs : List Int) (hs : List (Int × Int)) : Prop := ∃ r, ledL cs (hs.map pr) = some r ∧ nxs r = []
def S_law_history : SpT := SpP (fun ts => ∃ a b c cs m, ts = [potT a b c, rowD cs, .d (.int m)] ∧ Pot a b c 400 ∧ RowOk cs ∧ m ≤ 300) fun ts t ρ => ∀ a b c cs m, ts = [potT a b c, rowD cs, .d (.int m)] → ∃ hs, t = pairL hs ∧ HistOk cs hs ∧ PotTo 400 a b c ρ ∧ (hs.length < m → Done cs hs)
theorem mS_law_behind : MonSp S_law_behind := mon_SpP
theorem mS_law_next : MonSp S_law_next := mon_SpP
theorem mS_law_history : MonSp S_law_history := mon_SpP
abbrev N_law_behind : List Str := ["_law_row_here", "_law_history_here", "_law_found", "_law_less", "_law_greater", "_law_at"]
def w_law_behind : TwS := (wSeq (wSet 2 (wFn kList (wCons (wVar 0) wNil)))
    (wSeq (wFor (wILst (wVar 1)) (wGTup 2 (wGsCons (wNm 3) (wGsCons (wNm 4) wGsNil))) (wSeq (wSet 5 (wM isLst kIdx (wVar 2) (wCons (wVar 4) wNil)))
    (wAsg (wTup (wCons (wVar 3) (wCons (wVar 4) wNil))) (wGTup 2 (wGsCons (wSub (wVar 2) (wVar 5)) (wGsCons (wSub (wVar 2) (wOp (fI (· + ·)) (wVar 5) (wC (.d (.int 1))))) wGsNil))))))
    (wRetV 2)))
abbrev N_law_next : List Str := ["_law_row_here", "_law_at"]
def w_law_next : TwS := (wRet (wFn kSort (wCons (wLc (wIR1 (wCons (wOp (fI (· - ·)) (wFn kLen (wCons (wVar 0) wNil)) (wC (.d (.int 1)))) wNil)) (wNm 1) (wT (wOp (fB fun i j => decide (i < j)) (wIx (wVar 0) (wOp (fI (· + ·)) (wVar 1) (wC (.d (.int 1))))) (wIx (wVar 0) (wVar 1)))) (wTup (wCons (wIx (wVar 0) (wOp (fI (· + ·)) (wVar 1) (wC (.d (.int 1))))) (wCons (wIx (wVar 0) (wVar 1)) wNil))) [1]) wNil)))
abbrev N_law_history : List Str := ["_law_pot_here", "_law_row_here", "_law_many", "_law_here", "_law_found", "_law_way", "_law_some", "_law_last", "_law_pair"]
def w_law_history : TwS := (wSeq (wPar 3 4 (wCons (wFn kList (wCons (wVar 1) wNil)) (wCons (wLst wNil) wNil)))
    (wSeq (wSet 5 (wCall [0] 2 S_law_dip (wCons (wVar 0) (wCons (wC (.d (.int 3))) wNil))))
    (wSeq (wWhile (wAnd (wT (wOp (fB fun i j => decide (i < j)) (wFn kLen (wCons (wVar 4) wNil)) (wVar 2))) (wT (wOp (fNe) (wCall [] 1 S_law_next (wCons (wVar 3) wNil)) (wLst wNil)))) (wSeq (wSet 6 (wCall [] 1 S_law_next (wCons (wVar 3) wNil)))
    (wSeq (wFrz 6 (wSet 7 (wIx (wFn kSort (wCons (wLc (wILst (wVar 6)) (wNm 8) wYes (wRevT (wVar 8)) [8]) wNil)) (wNeg (wC (.d (.int 1)))))))
    (wSeq (wDrop (wM isLst kApp (wVar 4) (wCons (wIx (wLst (wCons (wIx (wVar 6) (wC (.d (.int 0)))) (wCons (wRevT (wVar 7)) (wCons (wIx (wVar 6) (wCall [0] 2 S_law_dip (wCons (wVar 0) (wCons (wFn kLen (wCons (wVar 6) wNil)) wNil)))) wNil)))) (wVar 5)) wNil)))
    (wSet 3 (wCall [] 2 S_law_behind (wCons (wVar 3) (wCons (wSl (wVar 4) (wPart (wNeg (wC (.d (.int 1))))) wNoPart) wNil))))))))
    (wRetV 4))))
theorem pl_law_behind : PlD S_law_behind w_law_behind N_law_behind := by
  rintro ts Q Ex ⟨⟨cs, hs, z, rfl, ok, hz⟩, q⟩
  unfold w_law_behind
  repeat trivial
  refine xList rfl ?_
  repeat trivial
  refine xFoK (fun i ρ => ∃ (r : List Int) (o3 o4 o5 : Option PyData), ρ = [some (rowD cs), some (.d (pairsD hs)), some (intL r), o3.map T.d, o4.map T.d, o5.map T.d] ∧ RowOk r ∧ ledL r ((hs.map pr).drop i) = some z) ⟨cs, none, none, none, rfl, ok, hz⟩ ?_ ?_
  · rintro i x ρ2 e ⟨r, o3, o4, o5, rfl, okr, hr⟩
    obtain ⟨hi, hxi⟩ := List.getElem?_eq_some_iff.mp e
    rw [List.drop_eq_getElem_cons hi, hxi] at hr
    obtain ⟨h', hr⟩ := ledL_cons hr
    have okr' := swD_ok okr h'
    obtain ⟨a, b, rfl, _, _, hm⟩ := mayD_pair h'
    obtain ⟨m1, m2, m3, m4⟩ := may_at hm
    simp only [pr] at hr ⊢
    repeat trivial
    refine xNm (noNd_o rfl) ?_
    repeat trivial
    refine xNm (noNd_o rfl) ?_
    repeat trivial
    refine xIdxI erase_intL rfl m1 ?_
    repeat trivial
    refine xSbI rfl (by omega) (by omega) ?_
    repeat trivial
    refine xSbI rfl (by omega) (by rw [List.length_set]; omega) ?_
    repeat trivial
    refine ⟨sw r a b, some (.int a), some (.int b), some (.int (pos r b : Nat)), ?_, okr', hr⟩
    rw [show ((pos r b : Int) + 1).toNat = pos r b + 1 by omega, show ((pos r b : Int)).toNat = pos r b by omega]
    rfl
  · rintro ρ2 ⟨r, o3, o4, o5, rfl, okr, hr⟩
    rw [List.drop_length] at hr
    cases hr
    repeat trivial
    refine xRetV rfl ⟨rfl, q _ _ fun cs' hs' r' e e2 => ?_⟩
    simp only [List.cons.injEq, T.d.injEq, and_true] at e
    cases rowD_inj e.1
    cases pairsD_inj e.2
    rw [hz] at e2
    cases e2
    rfl
theorem get_at {cs : List Int} {k : Nat} (h : k < cs.length) : atI (cs.map PyData.int) (k : Nat) = some (.int (cs.getD k 0)) :=
  at_of (by omega) (by rw [List.getElem?_map, show ((k : Nat) : Int).toNat = k by omega, List.getElem?_eq_getElem h]; simp [List.getD, h])
theorem pl_law_next : PlD S_law_next w_law_next N_law_next := by
  rintro ts Q Ex ⟨⟨cs, rfl, ok⟩, q⟩
  unfold w_law_next
  repeat trivial
  refine xIRK (by simp; omega) (by simp; have := ok.2.2.2; omega) ?_
  rw [show ((cs.map PyData.int).length - 1 : Int).toNat = cs.length - 1 by rw [List.length_map]; omega]
  refine xLcM (nrf cs) (nrg cs) rfl (by rw [range_len]; have := ok.2.2.2; omega) (by simp [rho0]) (fun x hx Y Z hY hZ => ?_) ?_
  · obtain ⟨i, hi⟩ := List.getElem?_of_mem hx
    obtain ⟨hi, rfl⟩ := range_get hi
    have z1 : (0 + (i : Nat) : Int) = (i : Nat) := by omega
    rw [z1] at hY hZ ⊢
    repeat trivial
    refine xIxD (by rw [show ((i : Nat) : Int) + 1 = ((i + 1 : Nat) : Int) by omega]; exact get_at (by omega)) ?_
    repeat trivial
    refine xIxD (get_at (by omega)) ?_
    repeat trivial
    refine ⟨noNd1 rfl, xIte (fun h => ?_) fun h => ?_⟩
    · repeat trivial
      refine xIxD (by rw [show ((i : Nat) : Int) + 1 = ((i + 1 : Nat) : Int) by omega]; exact get_at (by omega)) ?_
      repeat trivial
      refine xIxD (get_at (by omega)) ?_
      repeat trivial
      have z2 : (((i : Nat) : Int) + 1).toNat = i + 1 := by omega
      have z3 : (((i : Nat) : Int)).toNat = i := by omega
      refine ⟨noNd1 rfl, _, rfl, ?_⟩
      have := hY (by simp only [nrf, z2, z3]; exact h)
      simp only [nrg, z2, z3] at this
      exact this
    · refine hZ ?_
      have z2 : (((i : Nat) : Int) + 1).toNat = i + 1 := by omega
      have z3 : (((i : Nat) : Int)).toNat = i := by omega
      simp only [nrf, z2, z3]; exact h
  · have := nx_range cs []
    simp only [List.nil_append, List.length_nil, Int.ofNat_zero, Int.natCast_zero] at this
    rw [this]
    repeat trivial
    refine xSort (allD_map _) (alike_prs _) (sortable_prs _) (depth_prs _) ?_
    rw [sortP]
    refine ⟨rfl, q _ _ fun cs' e => ?_⟩
    simp only [List.cons.injEq, and_true] at e
    cases rowD_inj e
    rfl
theorem xBehind {ρ : Rho} {Q : T → Rho → Prop} {E : ExK} {cs r : List Int} {hs : List (Int × Int)} {ts : List T} {vu : Bool} (ok : RowOk cs) (hr : ledL cs (hs.map pr) = some r) (h : argsF [] ρ vu 0 ts = some [rowD cs, .d (pairsD hs)]) (ha : apartB ts = true) (q : Q (intL r) ρ) : caK [] 2 S_law_behind ts ρ Q E := by
  cases vu with
  | false => exact xCaP h rfl ha ⟨cs, hs, r, rfl, ok, hr⟩ fun t ρ' e => by rw [e cs hs r rfl hr]; exact ⟨rfl, q⟩
  | true => exact xCaV h rfl ha ⟨cs, hs, r, rfl, ok, hr⟩ fun t ρ' e => by rw [e cs hs r rfl hr]; exact ⟨imm_ints _, rfl, q⟩
theorem xNext1 {ρ : Rho} {Q : T → Rho → Prop} {E : ExK} {cs : List Int} {ts : List T} {vu : Bool} (ok : RowOk cs) (h : argsF [] ρ vu 0 ts = some [rowD cs]) (ha : apartB ts = true) (q : Q (pairL (nxs cs)) ρ) : caK [] 1 S_law_next ts ρ Q E := by
  cases vu with
  | false => exact xCaP h rfl ha ⟨cs, rfl, ok⟩ fun t ρ' e => by rw [e cs rfl]; exact ⟨rfl, q⟩
  | true => exact xCaV h rfl ha ⟨cs, rfl, ok⟩ fun t ρ' e => by rw [e cs rfl]; exact ⟨imm_prs _, rfl, q⟩
theorem pickD {ds : List PyData} {i : Int} (h0 : 0 ≤ i) (h1 : i < ds.length) : ∃ w ∈ ds, atI ds i = some w := by
  obtain ⟨x, e1, e2⟩ := at_in' h0 h1
  exact ⟨x, List.mem_of_getElem? e2, e1⟩
theorem pickP {ps : List (Int × Int)} {i : Int} (h0 : 0 ≤ i) (h1 : i < ps.length) : ∃ w ∈ ps, atI (ps.map pr) i = some (pr w) := by
  obtain ⟨x, hx, e⟩ := pickD (ds := ps.map pr) h0 (by simpa using h1)
  obtain ⟨w, hw, rfl⟩ := List.mem_map.mp hx
  exact ⟨w, hw, e⟩
theorem lastP {ps : List (Int × Int)} (h : ps ≠ []) : ∃ w ∈ ps, atI (ps.map pr) (-1) = some (pr w) := by
  have hl : 0 < ps.length := List.length_pos_iff.mpr h
  have h2 : ps.length - 1 < ps.length := by omega
  refine ⟨ps[ps.length - 1], List.getElem_mem h2, atI_of (j := ps.length - 1) ?_ (by rw [List.getElem?_map, List.getElem?_eq_getElem h2]; rfl)⟩
  unfold ixN
  rw [List.length_map, if_neg (by omega), if_pos (by omega)]
  congr 1; omega
theorem eqv_nil (ps : List (Int × Int)) : PyData.eqvAll (ps.map pr) [] = decide (ps = []) := by cases ps <;> simp [PyData.eqvAll]
theorem xNeP0 {ρ : Rho} {Q : T → Rho → Prop} {t u : T} {ps : List (Int × Int)} (h1 : vw ρ t = some (.list (ps.map pr))) (h2 : vw ρ u = some (.list [])) (q : Q (.d (.bool (!decide (ps = [])))) ρ) : opK fNe t u ρ Q :=
  xNe h1 h2 (shaped_prs _) rfl (by simp only [PyData.eqv, eqv_nil]; exact q)
theorem cut_last {ds : List PyData} {x : PyData} : cutD (ds ++ [x]) (some (-1)) none = [x] := by
  unfold cutD HT.sIx
  simp only [List.length_append, List.length_singleton]
  rw [if_pos (by decide), show ((-1 : Int) + ((ds.length + 1 : Nat) : Int)).toNat = ds.length by omega]
  try simp only [Nat.min_eq_left (Nat.le_succ _)]
  rw [List.drop_left' rfl]
  simp
theorem pl_law_history : PlD S_law_history w_law_history N_law_history := by
  rintro ts Q Ex ⟨⟨a, b, c, cs, m, rfl, hp, ok, hm⟩, q⟩
  unfold w_law_history
  repeat trivial
  refine xList rfl ?_
  repeat trivial
  refine xDip rfl hp (by decide) (by decide) (by decide) fun w a1 c1 w0 w1 hp1 c10 c11 => ?_
  obtain ⟨p1, p2, p3, p4, p5⟩ := id hp
  obtain ⟨g1, _⟩ := id hp1
  repeat trivial
  refine xWhile (fun ρ => ∃ (a' c' : Int) (r : List Int) (hs : List (Int × Int)) (o6 o7 o8 : Option PyData), ρ = [some (potT a' b c'), some (rowD cs), some (.d (.int m)), some (intL r), some (pairL hs), some (.d (.int w)), o6.map T.d, o7.map T.d, o8.map T.d] ∧ 0 ≤ a' ∧ c ≤ c' ∧ c' ≤ c + 1 + hs.length ∧ RowOk r ∧ hs.length ≤ 300 ∧ ledL cs (hs.map pr) = some r)
    (fun ρ => match ρ[4]? with | some (some (T.l ts)) => 1000 - ts.length | _ => 0) ⟨a1, c1, cs, [], none, none, none, rfl, g1, by omega, by simp; omega, ok, by simp, rfl⟩ ?_
  rintro ρ1 ⟨a', c', r, hs, o6, o7, o8, rfl, e1, e2, e3, okr, e4, e5⟩
  have fin : ∀ ρ, ((hs.length : Int) < m → nxs r = []) → ρ[0]? = some (some (potT a' b c')) → Q (pairL hs) ρ := fun ρ hn h => q _ _ fun a9 b9 c9 cs9 m9 e9 => by
    simp only [List.cons.injEq, T.d.injEq, PyData.int.injEq, and_true] at e9
    obtain ⟨rfl, rfl, rfl⟩ := pot_inj e9.1
    cases rowD_inj e9.2.1
    cases e9.2.2
    exact ⟨hs, rfl, ⟨e4, by rw [e5]; rfl⟩, ⟨a', c', h, e1, e2, by omega⟩, fun z => ⟨r, e5, hn z⟩⟩
  repeat trivial
  have len : (List.map T.d (List.map pr hs)).length = hs.length := by simp
  refine xIte (fun h1 => ?_) fun h1 => ?_
  · have h1' : (hs.length : Int) < m := by have := of_decide_eq_true h1; omega
    repeat trivial
    refine xNext1 (vu := true) okr (argV rfl rfl erase_intL argNil) rfl ?_
    repeat trivial
    refine xNeP0 erase_pairL rfl ?_
    repeat trivial
    refine xIte (fun h2 => ?_) fun h2 => ?_
    · have ne : nxs r ≠ [] := by simpa using h2
      have nl : 0 < (nxs r).length := List.length_pos_iff.mpr ne
      have nl2 := nxs_len r
      have r24 := okr.2.2.2
      repeat trivial
      refine xNext1 (vu := true) okr (argV rfl rfl erase_intL argNil) rfl ?_
      repeat trivial
      refine xFrz rfl (erase_pairL (ps := nxs r)) ?_
      repeat trivial
      refine xLcM (fun _ => true) (fun x => match x with | .tuple ds => .tuple ds.reverse | y => y) (noNd_o rfl) (by simp; omega) (by simp) (fun x hx Y Z hY _ => ?_) ?_
      · obtain ⟨p, hp, rfl⟩ := List.mem_map.mp hx
        refine xYesT ⟨noNd1 rfl, xYes rfl ?_⟩
        unfold pr
        repeat trivial
        exact ⟨noNd1 rfl, _, rfl, hY rfl⟩
      · have er : ((List.filter (fun _ => true) ((nxs r).map pr)).map fun x => match x with | .tuple ds => PyData.tuple ds.reverse | y => y) = ((nxs r).map Prod.swap).map pr := by
          rw [List.filter_eq_self.mpr (fun _ _ => rfl), List.map_map, List.map_map]; rfl
        rw [er]
        repeat trivial
        refine xSort (allD_map _) (alike_prs _) (sortable_prs _) (depth_prs _) ?_
        rw [sortP]
        repeat trivial
        obtain ⟨l, hl, el⟩ := lastP (ps := ((nxs r).map Prod.swap).mergeSort leP) (fun z => ne (by
          have := (List.mergeSort_perm ((nxs r).map Prod.swap) leP).length_eq
          rw [z] at this
          exact List.length_eq_zero_iff.mp (by simpa using this.symm)))
        have hl' : (l.2, l.1) ∈ nxs r := by
          have := (List.mergeSort_perm ((nxs r).map Prod.swap) leP).mem_iff.mp hl
          obtain ⟨p, hp, rfl⟩ := List.mem_map.mp this
          exact hp
        refine xIxL el ?_
        repeat trivial
        obtain ⟨f, hf, ef⟩ := pickP (ps := nxs r) (i := 0) (by decide) (by omega)
        refine xIxD ef ?_
        unfold pr
        repeat trivial
        refine xDip (k := 5) rfl ⟨e1, p2, p3, by omega, by omega⟩ (by decide) (by simp; omega) (by simp; omega) fun i a3 c3 i0 i1 hp3 c30 c31 => ?_
        obtain ⟨d, hd, ed⟩ := pickP (ps := nxs r) (i := i) i0 (by simpa using i1)
        refine xIxD ed ?_
        repeat trivial
        obtain ⟨t, ht, et⟩ : ∃ t ∈ nxs r, atI [pr f, pr (l.2, l.1), pr d] w = some (pr t) := by
          obtain ⟨t, ht, et⟩ := pickP (ps := [f, (l.2, l.1), d]) (i := w) w0 (by simp; omega)
          refine ⟨t, ?_, et⟩
          simp only [List.mem_cons, List.not_mem_nil, or_false] at ht
          rcases ht with rfl | rfl | rfl <;> assumption
        refine xIxL et ?_
        repeat trivial
        refine xApp (ds := hs.map pr) rfl rfl (small1000 (by simp; omega)) ?_
        repeat trivial
        refine xSlK (ds := hs.map pr ++ [pr t]) (allD_map _) ?_
        rw [cut_last]
        have mt := (may_nxs okr).mpr ht
        have okr' := swD_ok okr mt
        have led' : ledL cs ((hs ++ [t]).map pr) = some (swD r (pr t)) := by
          rw [List.map_append, ledL_app, e5]
          simp only [Option.bind_some, List.map_cons, List.map_nil, ledL]
          rw [if_pos mt]
        repeat trivial
        refine xBehind (vu := true) (hs := [t]) okr (r := swD r (pr t)) (by simp only [List.map_cons, List.map_nil, ledL]; rw [if_pos mt]) (argV rfl rfl erase_intL (argD rfl rfl rfl argNil)) rfl ?_
        repeat trivial
        refine ⟨⟨a3, c3, swD r (pr t), hs ++ [t], some (pairsD (nxs r)), some (pr l), o8, ?_, hp3.1, by omega, by simp; omega, okr', by simp; omega, led'⟩, ?_⟩
        · simp [pairL, intL, TX.putAt, putT]
          exact ⟨rfl, rfl⟩
        · simp [pairL, intL, TX.putAt, putT]; omega
    · repeat trivial
      exact xRetV rfl ⟨rfl, fin _ (fun _ => by simpa using h2) rfl⟩
  · refine xNo rfl ?_
    repeat trivial
    exact xRetV rfl ⟨rfl, fin _ (fun z => absurd z (by have := of_decide_eq_false h1; omega)) rfl⟩
end LW

namespace LW
open PySem PySem.Spec L2 TX
/-! ### what a repr asks -/
structure Rpr (d : PyData) (w k : Nat) : Prop where
  sh : d.showable = true
  lv : d.leavesShort 60 = true
  wt : d.weight ≤ w
  dp : d.depth ≤ k
structure RprA (d : List PyData) (w k : Nat) : Prop where
  sh : PyData.showableAll d = true
  lv : PyData.leavesShortAll 60 d = true
  wt : PyData.weightAll d ≤ w
  dp : PyData.depthAll d ≤ k
theorem lvs60 {i : Int} (h : i.natAbs < 10 ^ 12) : (PyData.int i).leavesShort 60 = true := by
  simp only [PyData.leavesShort, decide_eq_true_eq]
  exact Nat.le_trans (PyData.shown_int_le h) (by decide)
theorem Rpr.int {i : Int} (h : i.natAbs < 10 ^ 12) : Rpr (.int i) 41 1 := ⟨shb_int h, lvs60 h, wt_int h, by simp [PyData.depth]⟩
theorem Rpr.none : Rpr .none 41 1 := ⟨rfl, by decide +kernel, by simp [PyData.weight], by simp [PyData.depth]⟩
theorem Rpr.bool {b : Bool} : Rpr (.bool b) 41 1 := ⟨rfl, by cases b <;> decide +kernel, by simp [PyData.weight], by simp [PyData.depth]⟩
theorem RprA.mono {d : List PyData} {w k w' : Nat} (h : RprA d w k) (h1 : w ≤ w') : RprA d w' k := ⟨h.sh, h.lv, Nat.le_trans h.wt h1, h.dp⟩
theorem RprA.nil {k : Nat} : RprA [] 0 k := ⟨rfl, rfl, Nat.le_refl _, by simp [PyData.depthAll]⟩
theorem RprA.cons {d : PyData} {ds : List PyData} {w w' k : Nat} (h : Rpr d w k) (t : RprA ds w' k) : RprA (d :: ds) (w + 1 + w') k :=
  ⟨by simp only [PyData.showableAll, h.sh, t.sh, Bool.and_self], by simp only [PyData.leavesShortAll, h.lv, t.lv, Bool.and_self], by
    have := h.wt; have := t.wt; simp only [PyData.weightAll]; omega, by
    have := h.dp; have := t.dp; simp only [PyData.depthAll]; omega⟩
theorem Rpr.list {ds : List PyData} {w k : Nat} (h : RprA ds w k) : Rpr (.list ds) w (k + 1) :=
  ⟨by simpa only [PyData.showable] using h.sh, by simpa only [PyData.leavesShort] using h.lv, by simpa only [PyData.weight] using h.wt, by have := h.dp; simp only [PyData.depth]; omega⟩
theorem Rpr.tuple {ds : List PyData} {w k : Nat} (h : RprA ds w k) : Rpr (.tuple ds) w (k + 1) :=
  ⟨by simpa only [PyData.showable] using h.sh, by simpa only [PyData.leavesShort] using h.lv, by simpa only [PyData.weight] using h.wt, by have := h.dp; simp only [PyData.depth]; omega⟩
theorem Rpr.mono {d : PyData} {w k w' k' : Nat} (h : Rpr d w k) (h1 : w ≤ w') (h2 : k ≤ k') : Rpr d w' k' := ⟨h.sh, h.lv, Nat.le_trans h.wt h1, Nat.le_trans h.dp h2⟩
theorem RprA.all {w k : Nat} : ∀ {ds : List PyData}, (∀ d ∈ ds, Rpr d w k) → RprA ds ((w + 1) * ds.length) k
  | [], _ => .nil
  | d :: ds, h => by
    have := RprA.cons (h d List.mem_cons_self) (RprA.all fun x hx => h x (List.mem_cons_of_mem _ hx))
    rw [List.length_cons, Nat.mul_succ, Nat.add_comm]
    exact this
theorem RprA.allN {w k n : Nat} {ds : List PyData} (h : ∀ d ∈ ds, Rpr d w k) (hn : ds.length ≤ n) : RprA ds ((w + 1) * n) k := by
  have := RprA.all h
  exact ⟨this.sh, this.lv, Nat.le_trans this.wt (Nat.mul_le_mul_left _ hn), this.dp⟩
theorem er2 {t : T} {ts : List T} {x : PyData} {xs : List PyData} (h : erase t = some x) (h2 : eraseAll ts = some xs) : eraseAll (t :: ts) = some (x :: xs) := by simp only [eraseAll, h, h2]
theorem er0 : eraseAll [] = some [] := rfl
theorem lsz {n : Nat} (h : n ≤ 10000) : n ≤ sizeLine := Nat.le_trans h (by decide)
def repK (t u : T) (ρ : Rho) (Q : T → Rho → Prop) : Prop := ∃ xs k, lsq ρ t = some xs ∧ u = .d (.int k) ∧ -(2 ^ 63) ≤ k ∧ k < 2 ^ 63 ∧ xs.length * k.toNat ≤ sizeLine ∧ Q (.l ((List.replicate k.toNat xs).flatten.map T.d)) ρ
theorem xRep {ρ : Rho} {Q : T → Rho → Prop} {E : ExK} {ta tb : TwE} (h : ta ρ (fun t ρ1 => tb ρ1 (fun u ρ2 => repK t u ρ2 Q) E) E) : wRep ta tb ρ Q E := h
theorem Rpr.str {x : Str} (h : (PyData.str x).leavesShort 60 = true) (hw : (PyData.str x).weight ≤ 41) : Rpr (.str x) 41 1 := ⟨rfl, h, hw, by simp [PyData.depth]⟩
theorem RprA.app {w w' k : Nat} : ∀ {xs ys : List PyData}, RprA xs w k → RprA ys w' k → RprA (xs ++ ys) (w + w') k
  | [], ys, h, t => ⟨t.sh, t.lv, by have := t.wt; simp only [List.nil_append]; omega, t.dp⟩
  | x :: xs, ys, h, t => by
    have h1 := h.sh; have h2 := h.lv; have h3 := h.wt; have h4 := h.dp
    simp only [PyData.showableAll, PyData.leavesShortAll, PyData.weightAll, PyData.depthAll, Bool.and_eq_true] at h1 h2 h3 h4
    have := RprA.app (w := w - (x.weight + 1)) ⟨h1.2, h2.2, by omega, by omega⟩ t
    have r := RprA.cons (⟨h1.1, h2.1, Nat.le_refl _, by omega⟩ : Rpr x x.weight k) this
    exact ⟨r.sh, r.lv, by have := r.wt; simp only [List.cons_append]; omega, r.dp⟩
theorem Rpr.pr {p : Int × Int} (h : smallP p) : Rpr (pr p) 84 2 := .tuple (.cons (.int h.1) (.cons (.int h.2) .nil))
theorem Rpr.row {cs : List Int} (ok : RowOk cs) : Rpr (.list (cs.map PyData.int)) 1008 2 := .list (.allN (n := 24) (w := 41) (fun d hd => by
  obtain ⟨c, hc, rfl⟩ := List.mem_map.mp hd
  have := ok.1 c hc
  exact .int (by omega)) (by simpa using ok.2.2.2))
theorem xInt {ρ : Rho} {Q : T → Rho → Prop} {t : T} {b : Bool} (h : vw ρ t = some (.bool b)) (q : Q (.d (.int (if b then 1 else 0))) ρ) : k1 fInt [t] ρ Q := ⟨t, _, _, rfl, h, .inr ⟨b, rfl, rfl⟩, q⟩
theorem erase_l {ds : List PyData} : erase (.l (ds.map T.d)) = some (.list ds) := by simp only [erase, eraseAll_d, Option.map_some]
end LW

namespace LW
open PySem PySem.Spec L2 TX

local macro_rules | `(tactic| trivial) => `(tactic| with_reducible first
  | refine xSeq ?_ | refine xSet ?_ | refine xSetK (by with_unfolding_all rfl) ?_ | refine xNext ?_ | refine xIfS ?_ | refine xDrop ?_ | refine xRet ?_ | refine xAsg ?_ | refine xAsK (by with_unfolding_all rfl) ?_ | refine xSub ?_ | refine xSbK (by with_unfolding_all rfl) (by with_unfolding_all rfl) (by with_unfolding_all rfl) ?_
  | refine xVarD (by with_unfolding_all rfl) ?_ | refine xVarZ (by with_unfolding_all rfl) ?_ | refine xVarN (by with_unfolding_all rfl) (by with_unfolding_all rfl) ?_ | refine xC ?_ | refine xOp ?_ | refine xI (by with_unfolding_all rfl) (by with_unfolding_all rfl) ?_ | refine xB (by with_unfolding_all rfl) (by with_unfolding_all rfl) ?_ | refine xEqI (by with_unfolding_all rfl) (by with_unfolding_all rfl) ?_ | refine xNeI (by with_unfolding_all rfl) (by with_unfolding_all rfl) ?_ | refine xNeg ?_ | refine xNegK ?_
  | refine xIc (by with_unfolding_all rfl) (by with_unfolding_all rfl) (by with_unfolding_all first | omega | exact ⟨by decide, by decide +kernel⟩) ?_
  | refine xT ?_ | refine xTK ?_ | refine xNot ?_ | refine xAnd ?_ | refine xOr ?_ | refine xAndV ?_ | refine xOrV ?_ | refine xNotV ?_ | refine xBK ?_ | refine xIf ?_ | refine xCh ?_ | refine xCh1 (by with_unfolding_all rfl) (by with_unfolding_all rfl) ?_ | refine xCh2 (by with_unfolding_all rfl) (by with_unfolding_all rfl) ?_
  | refine xIx ?_ | refine xIxA (by with_unfolding_all rfl) (by with_unfolding_all rfl) (by with_unfolding_all rfl) ?_ | refine xNil ?_ | refine xCons ?_ | refine xFn ?_ | refine xLst ?_ | refine xLstK (by with_unfolding_all rfl) ?_ | refine xTup ?_ | refine xTupK (by with_unfolding_all rfl) ?_ | refine xLen (by with_unfolding_all rfl) ?_ | refine xMax (by with_unfolding_all rfl) (by with_unfolding_all rfl) ?_ | refine xMin (by with_unfolding_all rfl) (by with_unfolding_all rfl) ?_
  | refine xYes (by with_unfolding_all rfl) ?_ | refine xNo (by with_unfolding_all rfl) ?_ | refine xIs (by with_unfolding_all rfl) (by with_unfolding_all rfl) ?_ | refine xCall ?_ | refine xM ?_ | refine xMA (by with_unfolding_all rfl) ?_ | refine xMD ?_ | refine xLc ?_ | refine xFor ?_ | refine xILst ?_ | refine xILK (by with_unfolding_all rfl) ?_ | refine xIR1 ?_ | refine xIEn ?_ | refine xSl ?_ | refine xNoPart ?_ | refine xPart ?_ | refine xPartK ?_ | refine xRevS ?_ | refine xCat ?_ | refine xLenSet ?_
  | refine xNm (by with_unfolding_all rfl) ?_ | refine xGTup (by with_unfolding_all rfl) ?_ | refine xGsCons ?_ | refine xGsNil ?_ | refine xYesT ?_ | refine xDg1 ?_ | refine xDp1 ?_ | refine xDg2 ?_ | refine xDp2 ?_ | refine xPar ?_ | refine xPaK (by with_unfolding_all rfl) (by with_unfolding_all rfl) ?_ | refine xRevT ?_ | refine xRevTK ?_ | refine xDi1 ?_ | refine xDi2 ?_ | refine xITup ?_ | refine xITupK ?_ | refine xIZip ?_ | refine xIR2 ?_ | refine xIsNK (by with_unfolding_all rfl) ?_ | refine xRev2 ?_ | refine xListR ?_ | refine xSlT ?_ | refine xSlTK ?_ | refine xGt1 ?_ | refine xGt2 ?_ | refine xGtA (by with_unfolding_all rfl) ?_ | refine xGtD ?_ | refine xRep ?_ | refine xDcL ?_ | refine xDc ?_ | refine xDpl ?_ | refine xGe1 ?_ | refine xGe2 ?_ | refine xIe1 ?_ | refine xIe2 ?_ | refine xGLst (by with_unfolding_all rfl) ?_ | refine xIsB (by with_unfolding_all rfl) (by with_unfolding_all rfl) ?_ | refine xVarL (by with_unfolding_all rfl) ?_ | refine xIDc ?_ | refine xIDcK ?_ | refine xLc2 ?_ | refine xGd1 ?_ | refine xGd2 ?_ | refine xGdA (by with_unfolding_all rfl) ?_ | refine xGdD ?_ | refine xDcT ?_ | refine xClip ?_ | refine xAppD ?_ | refine xAppD11 ?_ | refine xAppD21 ?_)

/-! ### what all laws of rows begin with -/
def S_law : SpT := SpP (fun ts => ∃ ns : List Int, ts = [.fz ns] ∧ ns.length ≤ 63) fun _ t _ => t = .d (.bool true)
theorem mS_law : MonSp S_law := mon_SpP
theorem all_true : ∀ ns : List Int, ns.length ≤ 63 → S_law [.fz ns] (fun t _ => t = .d (.bool true)) fun _ _ => False := fun ns h => ⟨⟨ns, rfl, h⟩, fun _ _ e => e⟩
theorem xPot {ρ : Rho} {Q : T → Rho → Prop} {E : ExK} {ns : List Int} {k : Int} (h0 : 0 ≤ k) (h1 : k ≤ 1000) (q : ∀ a b, Pot a b 0 (2 ^ 40) → Q (potT a b 0) ρ) : caK [] 2 S_law_pot [.fz ns, .d (.int k)] ρ Q E :=
  xCaP rfl rfl rfl ⟨ns, k, rfl, h0, h1⟩ fun t ρ' ⟨a, b, e, hp⟩ => by subst e; exact ⟨rfl, q a b hp⟩
theorem xRow {ρ : Rho} {Q : T → Rho → Prop} {E : ExK} {r : Nat} {a b c m k : Int} (hg : ρ[r]? = some (some (potT a b c))) (hp : Pot a b c k) (hk : 64 ≤ k) (hm : 1 ≤ m) (hm2 : m ≤ 24)
    (q : ∀ cs a' c', RowOk cs → Pot a' b c' (k - 64) → c ≤ c' → c' ≤ c + 64 → Q (intL cs) (ρ.set r (some (potT a' b c')))) : caK [0] 2 S_law_row [.a r [], .d (.int m)] ρ Q E := by
  obtain ⟨h1, h2, h3, h4, h5⟩ := hp
  refine xCaF hg rfl rfl rfl rfl ⟨a, b, c, m, rfl, ⟨h1, h2, h3, h4, by omega⟩, hm, hm2⟩ fun u ρ' h => ?_
  obtain ⟨cs, rfl, i0, a', c', e, g1, g2, g3⟩ := h a b c m rfl
  exact ⟨_, e, rfl, rfl, q cs a' c' i0 ⟨g1, h2, h3, by omega, by omega⟩ g2 g3⟩
/-- a history of a row that is data -/
theorem xHistoryD {ρ : Rho} {Q : T → Rho → Prop} {E : ExK} {r : Nat} {a b c m k : Int} {cs : List Int} (hg : ρ[r]? = some (some (potT a b c))) (hp : Pot a b c k) (hk : 400 ≤ k) (ok : RowOk cs) (hm : m ≤ 300)
    (q : ∀ hs a' c', HistOk cs hs → Pot a' b c' (k - 400) → c ≤ c' → c' ≤ c + 400 → Q (pairL hs) (ρ.set r (some (potT a' b c')))) : caK [0] 3 S_law_history [.a r [], rowD cs, .d (.int m)] ρ Q E := by
  obtain ⟨h1, h2, h3, h4, h5⟩ := hp
  refine xCaF hg rfl rfl rfl rfl ⟨a, b, c, cs, m, rfl, ⟨h1, h2, h3, h4, by omega⟩, ok, hm⟩ fun u ρ' h => ?_
  obtain ⟨hs, rfl, i0, ⟨a', c', e, g1, g2, g3⟩, _⟩ := h a b c cs m rfl
  exact ⟨_, e, rfl, rfl, q hs a' c' i0 ⟨g1, h2, h3, by omega, by omega⟩ g2 g3⟩
end LW

namespace LW
open PySem PySem.Spec L2 TX
/-! ### who stands ahead of whom, behind exchanges -/
theorem pos_if : ∀ (u w : List Int) (x : Int), pos (u ++ w) x = if x ∈ u then pos u x else u.length + pos w x
  | [], w, x => by simp
  | c :: u, w, x => by
    simp only [List.cons_append, pos, List.length_cons]
    by_cases e : c = x
    · subst e; simp
    · rw [if_neg e, if_neg e, pos_if u w x]
      by_cases h : x ∈ u
      · rw [if_pos h, if_pos (List.mem_cons_of_mem _ h)]
      · rw [if_neg h, if_neg fun z => h ((List.mem_cons.mp z).resolve_left fun z => e z.symm)]; omega
theorem pos_lt {u : List Int} {x : Int} (h : x ∈ u) : pos u x < u.length := (List.getElem?_eq_some_iff.mp (pos_at h)).1
theorem pos_inj {cs : List Int} {x y : Int} (hx : x ∈ cs) (hy : y ∈ cs) (h : pos cs x = pos cs y) : x = y := by
  have a := pos_at hx
  rw [h, pos_at hy] at a
  exact (Option.some.inj a).symm
theorem sw_rt {r : List Int} {a b x y : Int} (nd : r.Nodup) (hm : mayB r a b = true) (hx : x ∈ r) (hy : y ∈ r) (hxy : x < y) : pos (sw r a b) x < pos (sw r a b) y ↔ pos r x < pos r y ∨ (x = a ∧ y = b) := by
  obtain ⟨hab, u, v, rfl⟩ := (may_iff nd).mp hm
  have nb : b ∉ u := fun h => (List.nodup_append.mp nd).2.2 b h b (by simp) rfl
  have na : a ∉ u := fun h => (List.nodup_append.mp nd).2.2 a h a (by simp) rfl
  rw [sw_eq nb, pos_if, pos_if, pos_if, pos_if]
  have lx : x ∈ u → pos u x < u.length := fun h => pos_lt h
  have ly : y ∈ u → pos u y < u.length := fun h => pos_lt h
  have e1 : ∀ z, pos (b :: a :: v) z = if b = z then 0 else if a = z then 1 else pos v z + 2 := fun z => by
    simp only [pos]
    by_cases h1 : b = z
    · simp [h1]
    · by_cases h2 : a = z <;> simp [h1, h2]
  have e2 : ∀ z, pos (a :: b :: v) z = if a = z then 0 else if b = z then 1 else pos v z + 2 := fun z => by
    simp only [pos]
    by_cases h1 : a = z
    · simp [h1]
    · by_cases h2 : b = z <;> simp [h1, h2]
  rw [e1, e1, e2, e2]
  by_cases xu : x ∈ u
  · have xa : x ≠ a := fun z => na (z ▸ xu)
    rw [if_pos xu, if_pos xu]
    by_cases yu : y ∈ u
    · rw [if_pos yu, if_pos yu]; simp [xa]
    · rw [if_neg yu, if_neg yu]
      have := lx xu
      constructor
      · intro _; left; split <;> (try split) <;> omega
      · intro _; split <;> (try split) <;> omega
  · rw [if_neg xu, if_neg xu]
    by_cases yu : y ∈ u
    · have yb : y ≠ b := fun z => nb (z ▸ yu)
      rw [if_pos yu, if_pos yu]
      have := ly yu
      constructor
      · intro h; split at h <;> (try split at h) <;> omega
      · rintro (h | ⟨_, h⟩)
        · split at h <;> (try split at h) <;> omega
        · exact absurd h yb
    · rw [if_neg yu, if_neg yu]
      by_cases h1 : b = x
      · subst h1
        have : ¬ a = y := by omega
        have : ¬ b = y := by omega
        have : ¬ a = b := by omega
        simp [*]
      · by_cases h2 : a = x
        · subst h2
          have : ¬ a = y := by omega
          by_cases h3 : b = y
          · subst h3; simp [*]
          · simp [*]
        · have h2' : ¬ x = a := fun z => h2 z.symm
          by_cases h3 : b = y
          · subst h3
            simp [*]
            by_cases h4 : a = b <;> simp [h4] <;> omega
          · by_cases h4 : a = y
            · subst h4; simp [*]
            · simp [*]
theorem led_rt : ∀ {hs : List (Int × Int)} {cs r : List Int} {x y : Int}, RowOk cs → ledL cs (hs.map pr) = some r → x ∈ cs → y ∈ cs → x < y → (pos r x < pos r y ↔ pos cs x < pos cs y ∨ (x, y) ∈ hs)
  | [], cs, r, x, y, ok, h, hx, hy, hxy => by cases h; simp
  | q :: hs, cs, r, x, y, ok, h, hx, hy, hxy => by
    obtain ⟨h1, h2⟩ := ledL_cons h
    obtain ⟨a, b⟩ := q
    have pm := swD_perm ok h1
    obtain ⟨_, hm⟩ := mayD_pr.mp h1
    have e := sw_rt ok.2.1 hm hx hy hxy
    rw [led_rt (swD_ok ok h1) h2 (pm.mem_iff.mpr hx) (pm.mem_iff.mpr hy) hxy, swD_pr, e]
    simp only [List.mem_cons, Prod.mk.injEq]
    constructor
    · rintro ((h | h) | h)
      · exact .inl h
      · exact .inr (.inl h)
      · exact .inr (.inr h)
    · rintro (h | h | h)
      · exact .inl (.inl h)
      · exact .inl (.inr h)
      · exact .inr h
/-- an exchange, at its time, stands wrong, so it did at first, and it was none ahead -/
theorem hist_at {u v : List (Int × Int)} {cs r : List Int} {a b : Int} (ok : RowOk cs) (h : ledL cs ((u ++ (a, b) :: v).map pr) = some r) : a < b ∧ a ∈ cs ∧ b ∈ cs ∧ pos cs b < pos cs a ∧ (a, b) ∉ u := by
  rw [List.map_append] at h
  obtain ⟨s, h1, h2⟩ := ledL_pre h
  obtain ⟨oks, pm⟩ := ledL_ok ok h1
  obtain ⟨h3, _⟩ := ledL_cons h2
  obtain ⟨_, hm⟩ := mayD_pr.mp h3
  obtain ⟨hab, w, t, e⟩ := (may_iff oks.2.1).mp hm
  have ha : a ∈ s := by rw [e]; simp
  have hb : b ∈ s := by rw [e]; simp
  have nd := oks.2.1
  have wr : ¬ pos s a < pos s b := by
    rw [e] at nd
    have nb : b ∉ w := fun h => (List.nodup_append.mp nd).2.2 b h b (by simp) rfl
    have na : a ∉ w := fun h => (List.nodup_append.mp nd).2.2 a h a (by simp) rfl
    rw [e, pos_if, pos_if, if_neg na, if_neg nb]
    have : ¬ b = a := by omega
    simp [pos, this]
  have ha' := pm.mem_iff.mp ha
  have hb' := pm.mem_iff.mp hb
  rw [led_rt ok h1 ha' hb' hab] at wr
  have ne : pos cs a ≠ pos cs b := fun z => by have := pos_inj ha' hb' z; omega
  exact ⟨hab, ha', hb', by omega, fun z => wr (.inr z)⟩
/-! ### when a pair stands right -/
def pidx : List (Int × Int) → Int × Int → Nat
  | [], _ => 0
  | c :: cs, y => if c = y then 0 else pidx cs y + 1
theorem pidx_if : ∀ (u w : List (Int × Int)) (x : Int × Int), pidx (u ++ w) x = if x ∈ u then pidx u x else u.length + pidx w x
  | [], w, x => by simp
  | c :: u, w, x => by
    simp only [List.cons_append, pidx, List.length_cons]
    by_cases e : c = x
    · subst e; simp
    · rw [if_neg e, if_neg e, pidx_if u w x]
      by_cases h : x ∈ u
      · rw [if_pos h, if_pos (List.mem_cons_of_mem _ h)]
      · rw [if_neg h, if_neg fun z => h ((List.mem_cons.mp z).resolve_left fun z => e z.symm)]; omega
theorem pidx_at : ∀ {cs : List (Int × Int)} {y : Int × Int}, y ∈ cs → cs[pidx cs y]? = some y
  | c :: cs, y, h => by
    unfold pidx
    by_cases e : c = y
    · rw [if_pos e]; simp [e]
    · rw [if_neg e]; simp only [List.getElem?_cons_succ]; exact pidx_at ((List.mem_cons.mp h).resolve_left fun z => e z.symm)
theorem pidx_no : ∀ {cs : List (Int × Int)} {y : Int × Int} {m : Nat} {z : Int × Int}, m < pidx cs y → cs[m]? = some z → z ≠ y
  | [], _, _, _, h, _ => by simp [pidx] at h
  | c :: cs, y, m, z, h, e => by
    unfold pidx at h
    by_cases q : c = y
    · rw [if_pos q] at h; omega
    · rw [if_neg q] at h
      cases m with
      | zero => simp at e; subst e; exact q
      | succ m => exact pidx_no (cs := cs) (m := m) (Nat.lt_of_succ_lt_succ h) (by simpa using e)
theorem xIdxP {ρ : Rho} {Q : T → Rho → Prop} {t u : T} {cs : List (Int × Int)} {y : Int × Int} (h1 : vw ρ t = some (.list (cs.map pr))) (h2 : vw ρ u = some (pr y)) (hy : y ∈ cs) (q : Q (.d (.int (pidx cs y : Nat))) ρ) : kIdx t [u] ρ Q :=
  ⟨u, _, _, pidx cs y, pr y, rfl, h1, h2, shaped_prs cs, shaped_pr y, by rw [List.getElem?_map, pidx_at hy]; rfl, by rw [eqv_prs]; simp, fun m z hm hz => by
    rw [List.getElem?_map] at hz
    cases e : cs[m]? with
    | none => rw [e] at hz; cases hz
    | some w => rw [e] at hz; cases hz; rw [eqv_prs]; exact decide_eq_false (pidx_no hm e), q⟩
def whenO (cs : List Int) (hs : List (Int × Int)) (p : Int × Int) : Option Int := if pos cs p.1 < pos cs p.2 then some (-1) else if p ∈ hs then some (pidx hs p : Nat) else none
def wayS : Option Int → Option Int → Str
  | some a, some b => if a = -1 ∧ b = -1 then "never" else if a < b then "low" else "high"
  | none, none => "open"
  | some _, none => "low"
  | none, some _ => "high"
def wayW (cs : List Int) (hs : List (Int × Int)) (p : I3) : Str := wayS (whenO cs hs (p.1, p.2.1)) (whenO cs hs (p.2.1, p.2.2))
theorem when_range {cs : List Int} {hs : List (Int × Int)} {p : Int × Int} {i : Int} (h : whenO cs hs p = some i) : -1 ≤ i := by
  unfold whenO at h
  split at h
  · cases h; omega
  · split at h
    · cases h; omega
    · cases h
/-! ### what none may be exchanged of, rises -/
theorem nx_nil : ∀ {cs : List Int}, cs.Nodup → nx cs = [] → cs.Pairwise (· < ·)
  | [], _, _ => .nil
  | [x], _, _ => List.pairwise_singleton ..
  | b :: a :: r, nd, h => by
    simp only [nx] at h
    split at h
    · cases h
    · rename_i hab
      have nd' := (List.nodup_cons.mp nd)
      have ih := nx_nil nd'.2 h
      have ne : b ≠ a := fun z => nd'.1 (by simp [z])
      refine List.pairwise_cons.mpr ⟨fun z hz => ?_, ih⟩
      rcases List.mem_cons.mp hz with rfl | hz
      · omega
      · have := (List.pairwise_cons.mp ih).1 z hz
        omega
theorem sorted_pos : ∀ {cs : List Int} {x y : Int}, cs.Pairwise (· < ·) → x ∈ cs → y ∈ cs → x < y → pos cs x < pos cs y
  | c :: cs, x, y, h, hx, hy, hxy => by
    obtain ⟨h1, h2⟩ := List.pairwise_cons.mp h
    unfold pos
    by_cases e : c = x
    · subst e
      have : ¬ c = y := by omega
      rw [if_pos rfl, if_neg this]; omega
    · have hx' := (List.mem_cons.mp hx).resolve_left fun z => e z.symm
      have := h1 x hx'
      have e2 : ¬ c = y := by omega
      have hy' := (List.mem_cons.mp hy).resolve_left fun z => e2 z.symm
      rw [if_neg e, if_neg e2]
      have := sorted_pos h2 hx' hy' hxy
      omega
theorem open_next {cs r : List Int} {hs : List (Int × Int)} {x y : Int} (ok : RowOk cs) (hr : ledL cs (hs.map pr) = some r) (hx : x ∈ cs) (hy : y ∈ cs) (hxy : x < y) (h : whenO cs hs (x, y) = none) : nxs r ≠ [] := by
  intro z
  obtain ⟨okr, pm⟩ := ledL_ok ok hr
  have z' : nx r = [] := by
    have := (List.mergeSort_perm (nx r) leP).length_eq
    rw [show (nx r).mergeSort leP = [] from z] at this
    exact List.length_eq_zero_iff.mp this.symm
  have := sorted_pos (nx_nil okr.2.1 z') (pm.mem_iff.mpr hx) (pm.mem_iff.mpr hy) hxy
  rw [led_rt ok hr hx hy hxy] at this
  unfold whenO at h
  rcases this with t | t
  · rw [if_pos t] at h; cases h
  · split at h
    · cases h
    · first | (rw [if_pos t] at h; cases h) | cases h
/-! ### the first exchange of an outer pair -/
def outer (p : I3) (q : Int × Int) : Bool := decide (q = (p.1, p.2.1)) || decide (q = (p.2.1, p.2.2))
/-- the places of a list's items that pass -/
def dn (f : Int × Int → Bool) : List (Int × Int) → Nat → List Int
  | [], _ => []
  | h :: hs, n => if f h = true then ((n : Nat) : Int) :: dn f hs (n + 1) else dn f hs (n + 1)
end LW

namespace LW
open PySem PySem.Spec L2 TX

local macro_rules | `(tactic| trivial) => `(tactic| with_reducible first
  | refine xSeq ?_ | refine xSet ?_ | refine xSetK (by with_unfolding_all rfl) ?_ | refine xNext ?_ | refine xIfS ?_ | refine xDrop ?_ | refine xRet ?_ | refine xAsg ?_ | refine xAsK (by with_unfolding_all rfl) ?_ | refine xSub ?_ | refine xSbK (by with_unfolding_all rfl) (by with_unfolding_all rfl) (by with_unfolding_all rfl) ?_
  | refine xVarD (by with_unfolding_all rfl) ?_ | refine xVarZ (by with_unfolding_all rfl) ?_ | refine xVarN (by with_unfolding_all rfl) (by with_unfolding_all rfl) ?_ | refine xC ?_ | refine xOp ?_ | refine xI (by with_unfolding_all rfl) (by with_unfolding_all rfl) ?_ | refine xB (by with_unfolding_all rfl) (by with_unfolding_all rfl) ?_ | refine xEqI (by with_unfolding_all rfl) (by with_unfolding_all rfl) ?_ | refine xNeI (by with_unfolding_all rfl) (by with_unfolding_all rfl) ?_ | refine xNeg ?_ | refine xNegK ?_
  | refine xIc (by with_unfolding_all rfl) (by with_unfolding_all rfl) (by with_unfolding_all first | omega | exact ⟨by decide, by decide +kernel⟩) ?_
  | refine xT ?_ | refine xTK ?_ | refine xNot ?_ | refine xAnd ?_ | refine xOr ?_ | refine xAndV ?_ | refine xOrV ?_ | refine xNotV ?_ | refine xBK ?_ | refine xIf ?_ | refine xCh ?_ | refine xCh1 (by with_unfolding_all rfl) (by with_unfolding_all rfl) ?_ | refine xCh2 (by with_unfolding_all rfl) (by with_unfolding_all rfl) ?_
  | refine xIx ?_ | refine xIxA (by with_unfolding_all rfl) (by with_unfolding_all rfl) (by with_unfolding_all rfl) ?_ | refine xNil ?_ | refine xCons ?_ | refine xFn ?_ | refine xLst ?_ | refine xLstK (by with_unfolding_all rfl) ?_ | refine xTup ?_ | refine xTupK (by with_unfolding_all rfl) ?_ | refine xLen (by with_unfolding_all rfl) ?_ | refine xMax (by with_unfolding_all rfl) (by with_unfolding_all rfl) ?_ | refine xMin (by with_unfolding_all rfl) (by with_unfolding_all rfl) ?_
  | refine xYes (by with_unfolding_all rfl) ?_ | refine xNo (by with_unfolding_all rfl) ?_ | refine xIs (by with_unfolding_all rfl) (by with_unfolding_all rfl) ?_ | refine xCall ?_ | refine xM ?_ | refine xMA (by with_unfolding_all rfl) ?_ | refine xMD ?_ | refine xLc ?_ | refine xFor ?_ | refine xILst ?_ | refine xILK (by with_unfolding_all rfl) ?_ | refine xIR1 ?_ | refine xIEn ?_ | refine xSl ?_ | refine xNoPart ?_ | refine xPart ?_ | refine xPartK ?_ | refine xRevS ?_ | refine xCat ?_ | refine xLenSet ?_
  | refine xNm (by with_unfolding_all rfl) ?_ | refine xGTup (by with_unfolding_all rfl) ?_ | refine xGsCons ?_ | refine xGsNil ?_ | refine xYesT ?_ | refine xDg1 ?_ | refine xDp1 ?_ | refine xDg2 ?_ | refine xDp2 ?_ | refine xPar ?_ | refine xPaK (by with_unfolding_all rfl) (by with_unfolding_all rfl) ?_ | refine xRevT ?_ | refine xRevTK ?_ | refine xDi1 ?_ | refine xDi2 ?_ | refine xITup ?_ | refine xITupK ?_ | refine xIZip ?_ | refine xIR2 ?_ | refine xIsNK (by with_unfolding_all rfl) ?_ | refine xRev2 ?_ | refine xListR ?_ | refine xSlT ?_ | refine xSlTK ?_ | refine xGt1 ?_ | refine xGt2 ?_ | refine xGtA (by with_unfolding_all rfl) ?_ | refine xGtD ?_ | refine xRep ?_ | refine xDcL ?_ | refine xDc ?_ | refine xDpl ?_ | refine xGe1 ?_ | refine xGe2 ?_ | refine xIe1 ?_ | refine xIe2 ?_ | refine xGLst (by with_unfolding_all rfl) ?_ | refine xIsB (by with_unfolding_all rfl) (by with_unfolding_all rfl) ?_ | refine xVarL (by with_unfolding_all rfl) ?_ | refine xIDc ?_ | refine xIDcK ?_ | refine xLc2 ?_ | refine xGd1 ?_ | refine xGd2 ?_ | refine xGdA (by with_unfolding_all rfl) ?_ | refine xGdD ?_ | refine xDcT ?_ | refine xClip ?_ | refine xAppD ?_ | refine xAppD11 ?_ | refine xAppD21 ?_)

/-! ### wrong pairs, threes -/
def S_wrong_in : SpT := SpP (fun ts => ∃ cs, ts = [rowD cs] ∧ RowOk cs) fun ts t _ => ∀ cs, ts = [rowD cs] → t = pairL (dp cs (sI cs))
theorem mS_wrong_in : MonSp S_wrong_in := mon_SpP
theorem rowD1_inj {xs ys : List Int} (h : [rowD xs] = [rowD ys]) : xs = ys := by
  simp only [List.cons.injEq, and_true] at h
  exact rowD_inj h
abbrev N_wrong_in : List Str := ["row", "found", "at", "card", "less"]
def w_wrong_in : TwS := (wSeq (wSet 1 (wLst wNil))
    (wSeq (wFor (wIEn (wCons (wVar 0) wNil)) (wGTup 2 (wGsCons (wNm 2) (wGsCons (wNm 3) wGsNil))) (wDrop (wM isLst kExt (wVar 1) (wCons (wLc (wILst (wSl (wVar 0) (wPart (wOp (fI (· + ·)) (wVar 2) (wC (.d (.int 1))))) wNoPart)) (wNm 4) (wT (wOp (fB fun i j => decide (i < j)) (wVar 4) (wVar 3))) (wTup (wCons (wVar 4) (wCons (wVar 3) wNil))) [4]) wNil))))
    (wRet (wFn kSort (wCons (wVar 1) wNil)))))
theorem blk_map (c : Int) (xs : List Int) : ((List.filter (fun x => match x with | .int z => decide (z < c) | _ => false) (xs.map PyData.int)).map fun x => PyData.tuple [x, .int c]) = ((xs.filter fun x => decide (x < c)).map fun x => (x, c)).map pr := by
  rw [List.filter_map, List.map_map, List.map_map]; rfl
theorem pl_wrong_in : PlD S_wrong_in w_wrong_in N_wrong_in := by
  rintro ts Q Ex ⟨⟨cs, rfl, ok⟩, q⟩
  have wl := wp_len cs
  have l2 : cs.length * cs.length ≤ 576 := Nat.mul_le_mul ok.2.2.2 ok.2.2.2
  have l24 := ok.2.2.2
  unfold w_wrong_in
  repeat trivial
  refine xIEK rfl ?_
  refine xFoK (fun i ρ => ∃ (fs : List (Int × Int)) (o2 o3 : Option PyData), ρ = [some (rowD cs), some (pairL fs), o2.map T.d, o3.map T.d, none] ∧ fs ++ wp (cs.drop i) = wp cs) ⟨[], none, none, rfl, rfl⟩ ?_ ?_
  · rintro i x ρ2 e ⟨fs, o2, o3, rfl, hf⟩
    obtain ⟨y, e1, rfl⟩ := enumD_get e
    rw [List.getElem?_map] at e1
    cases e2 : cs[i]? with
    | none => rw [e2] at e1; cases e1
    | some c =>
      rw [e2] at e1; cases e1
      obtain ⟨hi, hci⟩ := List.getElem?_eq_some_iff.mp e2
      have hd : cs.drop i = c :: cs.drop (i + 1) := by rw [List.drop_eq_getElem_cons hi, hci]
      rw [hd, show wp (c :: cs.drop (i + 1)) = ((cs.drop (i + 1)).filter fun x => decide (x < c)).map (fun x => (x, c)) ++ wp (cs.drop (i + 1)) from rfl] at hf
      have hlen := congrArg List.length hf
      simp only [List.length_append, List.length_map] at hlen
      repeat trivial
      refine xNm (noNd_o rfl) ?_
      repeat trivial
      refine xNm (noNd_o rfl) ?_
      repeat trivial
      refine xSlK rfl ?_
      rw [cut_from (by omega)]
      refine xILK flat_map ?_
      refine xLcM (fun x => match x with | .int z => decide (z < c) | _ => false) (fun x => .tuple [x, .int c]) rfl (by simp; omega) (by simp [rho0]) (fun x hx Y Z hY hZ => ?_) ?_
      · obtain ⟨z, hz, rfl⟩ := List.mem_map.mp hx
        repeat trivial
        refine ⟨noNd1 rfl, xIte (fun h => ?_) fun h => hZ h⟩
        repeat trivial
        exact ⟨noNd1 rfl, _, rfl, hY h⟩
      · rw [blk_map]
        repeat trivial
        rw [show ((i : Int) + 1).toNat = i + 1 by omega]
        refine xExt rfl (allD_map _) ?_ ⟨fs ++ ((cs.drop (i + 1)).filter fun x => decide (x < c)).map (fun x => (x, c)), some (.int i), some (.int c), ?_, ?_⟩
        · rw [List.length_map, List.length_map, List.length_map]
          exact Nat.le_of_lt (small1000 (by omega))
        · simp [pairL, TX.putAt, putT, rho0]
        · rw [List.append_assoc]; exact hf
  · rintro ρ2 ⟨fs, o2, o3, rfl, hf⟩
    have hf' : fs = wp cs := by
      rw [List.drop_of_length_le (by simp [enumD])] at hf
      simpa [wp] using hf
    subst hf'
    repeat trivial
    refine xSort (allD_map _) (alike_prs _) (sortable_prs _) (depth_prs _) ?_
    rw [sortP, wrong_due ok.2.1]
    refine ⟨rfl, q _ _ fun cs' e => ?_⟩
    cases rowD1_inj e
    rfl
theorem xWrongIn {ρ : Rho} {Q : T → Rho → Prop} {E : ExK} {cs : List Int} (ok : RowOk cs) (q : Q (pairL (dp cs (sI cs))) ρ) : caK [] 1 S_wrong_in [rowD cs] ρ Q E :=
  xCaP rfl rfl rfl ⟨cs, rfl, ok⟩ fun t ρ' e => by rw [e cs rfl]; exact ⟨rfl, q⟩
theorem wrong_iff {cs : List Int} {p : Int × Int} (ok : RowOk cs) : p ∈ dp cs (sI cs) ↔ p.1 ∈ cs ∧ p.2 ∈ cs ∧ p.1 < p.2 ∧ pos cs p.2 < pos cs p.1 := by
  rw [dp_mem (sI_sorted cs ok.2.1), (sI_perm cs).mem_iff, (sI_perm cs).mem_iff]
end LW

namespace LW
open PySem PySem.Spec L2 TX

local macro_rules | `(tactic| trivial) => `(tactic| with_reducible first
  | refine xSeq ?_ | refine xSet ?_ | refine xSetK (by with_unfolding_all rfl) ?_ | refine xNext ?_ | refine xIfS ?_ | refine xDrop ?_ | refine xRet ?_ | refine xAsg ?_ | refine xAsK (by with_unfolding_all rfl) ?_ | refine xSub ?_ | refine xSbK (by with_unfolding_all rfl) (by with_unfolding_all rfl) (by with_unfolding_all rfl) ?_
  | refine xVarD (by with_unfolding_all rfl) ?_ | refine xVarZ (by with_unfolding_all rfl) ?_ | refine xVarN (by with_unfolding_all rfl) (by with_unfolding_all rfl) ?_ | refine xC ?_ | refine xOp ?_ | refine xI (by with_unfolding_all rfl) (by with_unfolding_all rfl) ?_ | refine xB (by with_unfolding_all rfl) (by with_unfolding_all rfl) ?_ | refine xEqI (by with_unfolding_all rfl) (by with_unfolding_all rfl) ?_ | refine xNeI (by with_unfolding_all rfl) (by with_unfolding_all rfl) ?_ | refine xNeg ?_ | refine xNegK ?_
  | refine xIc (by with_unfolding_all rfl) (by with_unfolding_all rfl) (by with_unfolding_all first | omega | exact ⟨by decide, by decide +kernel⟩) ?_
  | refine xT ?_ | refine xTK ?_ | refine xNot ?_ | refine xAnd ?_ | refine xOr ?_ | refine xAndV ?_ | refine xOrV ?_ | refine xNotV ?_ | refine xBK ?_ | refine xIf ?_ | refine xCh ?_ | refine xCh1 (by with_unfolding_all rfl) (by with_unfolding_all rfl) ?_ | refine xCh2 (by with_unfolding_all rfl) (by with_unfolding_all rfl) ?_
  | refine xIx ?_ | refine xIxA (by with_unfolding_all rfl) (by with_unfolding_all rfl) (by with_unfolding_all rfl) ?_ | refine xNil ?_ | refine xCons ?_ | refine xFn ?_ | refine xLst ?_ | refine xLstK (by with_unfolding_all rfl) ?_ | refine xTup ?_ | refine xTupK (by with_unfolding_all rfl) ?_ | refine xLen (by with_unfolding_all rfl) ?_ | refine xMax (by with_unfolding_all rfl) (by with_unfolding_all rfl) ?_ | refine xMin (by with_unfolding_all rfl) (by with_unfolding_all rfl) ?_
  | refine xYes (by with_unfolding_all rfl) ?_ | refine xNo (by with_unfolding_all rfl) ?_ | refine xIs (by with_unfolding_all rfl) (by with_unfolding_all rfl) ?_ | refine xCall ?_ | refine xM ?_ | refine xMA (by with_unfolding_all rfl) ?_ | refine xMD ?_ | refine xLc ?_ | refine xFor ?_ | refine xILst ?_ | refine xILK (by with_unfolding_all rfl) ?_ | refine xIR1 ?_ | refine xIEn ?_ | refine xSl ?_ | refine xNoPart ?_ | refine xPart ?_ | refine xPartK ?_ | refine xRevS ?_ | refine xCat ?_ | refine xLenSet ?_
  | refine xNm (by with_unfolding_all rfl) ?_ | refine xGTup (by with_unfolding_all rfl) ?_ | refine xGsCons ?_ | refine xGsNil ?_ | refine xYesT ?_ | refine xDg1 ?_ | refine xDp1 ?_ | refine xDg2 ?_ | refine xDp2 ?_ | refine xPar ?_ | refine xPaK (by with_unfolding_all rfl) (by with_unfolding_all rfl) ?_ | refine xRevT ?_ | refine xRevTK ?_ | refine xDi1 ?_ | refine xDi2 ?_ | refine xITup ?_ | refine xITupK ?_ | refine xIZip ?_ | refine xIR2 ?_ | refine xIsNK (by with_unfolding_all rfl) ?_ | refine xRev2 ?_ | refine xListR ?_ | refine xSlT ?_ | refine xSlTK ?_ | refine xGt1 ?_ | refine xGt2 ?_ | refine xGtA (by with_unfolding_all rfl) ?_ | refine xGtD ?_ | refine xRep ?_ | refine xDcL ?_ | refine xDc ?_ | refine xDpl ?_ | refine xGe1 ?_ | refine xGe2 ?_ | refine xIe1 ?_ | refine xIe2 ?_ | refine xGLst (by with_unfolding_all rfl) ?_ | refine xIsB (by with_unfolding_all rfl) (by with_unfolding_all rfl) ?_ | refine xVarL (by with_unfolding_all rfl) ?_ | refine xIDc ?_ | refine xIDcK ?_ | refine xLc2 ?_ | refine xGd1 ?_ | refine xGd2 ?_ | refine xGdA (by with_unfolding_all rfl) ?_ | refine xGdD ?_ | refine xDcT ?_ | refine xClip ?_ | refine xAppD ?_ | refine xAppD11 ?_ | refine xAppD21 ?_)

/-! ### triples as data -/
def tripL (ps : List I3) : T := .l ((ps.map tr3).map T.d)
theorem erase_tripL {ps : List I3} : erase (tripL ps) = some (.list (ps.map tr3)) := by unfold tripL; simp only [erase, eraseAll_d, Option.map_some]
theorem alike_trs (ps : List I3) : PySem.W.AllAlike (ps.map tr3) := fun d h d' h' => by
  obtain ⟨p, _, rfl⟩ := List.mem_map.mp h
  obtain ⟨q, _, rfl⟩ := List.mem_map.mp h'
  rfl
theorem sortable_trs (ps : List I3) : PySem.W.Sortable (ps.map tr3) := .inl fun d h => by
  obtain ⟨p, _, rfl⟩ := List.mem_map.mp h
  exact ⟨_, _, rfl⟩
theorem depth_trs (ps : List I3) : ∀ d ∈ ps.map tr3, d.depth ≤ 60 := fun d h => by
  obtain ⟨p, _, rfl⟩ := List.mem_map.mp h
  simp [tr3, PyData.depth, PyData.depthAll]
theorem blk_all (x y : Int) (zs : List Int) : ((List.filter (fun _ => true) (zs.map PyData.int)).map fun z => PyData.tuple [.int x, .int y, z]) = ((zs.map fun z => (y, z)).map fun p => (x, p.1, p.2)).map tr3 := by
  rw [List.filter_eq_self.mpr (fun _ _ => rfl), List.map_map, List.map_map, List.map_map]; rfl
theorem len3 {n : Nat} (h : n ≤ 24) : n * (n * n) ≤ 13824 := Nat.le_trans (Nat.mul_le_mul h (Nat.mul_le_mul h h)) (by decide)
theorem p2_len : ∀ s : List Int, (p2 s).length ≤ s.length * s.length
  | [] => Nat.le_refl _
  | y :: s => by
    unfold p2
    rw [List.length_append, List.length_map, List.length_cons, Nat.succ_mul, Nat.mul_succ]
    have := p2_len s
    omega
theorem th_len : ∀ s : List Int, (th s).length ≤ s.length * (s.length * s.length)
  | [] => Nat.le_refl _
  | x :: s => by
    unfold th
    rw [List.length_append, List.length_map, List.length_cons]
    have h1 := th_len s
    have h2 := p2_len s
    have h5 : s.length * s.length ≤ (s.length + 1) * (s.length + 1) := Nat.mul_le_mul (by omega) (by omega)
    have h6 : s.length * (s.length * s.length) ≤ s.length * ((s.length + 1) * (s.length + 1)) := Nat.mul_le_mul_left _ h5
    rw [Nat.succ_mul]
    omega
theorem lt16k {n : Nat} (h : n ≤ 13824) : n ≤ sizeLine := Nat.le_trans h (by decide)
def S_law_threes : SpT := SpP (fun ts => ∃ cs, ts = [rowD cs] ∧ RowOk cs) fun ts t _ => ∀ cs, ts = [rowD cs] → t = tripL (th (sI cs))
theorem mS_law_threes : MonSp S_law_threes := mon_SpP
abbrev N_law_threes : List Str := ["_law_row_here", "_law_cards_here", "_law_found", "_law_at", "_law_x", "_law_more", "_law_y", "_law_z"]
def w_law_threes : TwS := (wSeq (wSet 1 (wFn kSort (wCons (wVar 0) wNil)))
    (wSeq (wFrz 1 (wSet 2 (wLst wNil)))
    (wSeq (wFor (wIEn (wCons (wVar 1) wNil)) (wGTup 2 (wGsCons (wNm 3) (wGsCons (wNm 4) wGsNil))) (wFor (wIEn (wCons (wSl (wVar 1) (wPart (wOp (fI (· + ·)) (wVar 3) (wC (.d (.int 1))))) wNoPart) wNil)) (wGTup 2 (wGsCons (wNm 5) (wGsCons (wNm 6) wGsNil))) (wDrop (wM isLst kExt (wVar 2) (wCons (wLc (wILst (wSl (wVar 1) (wPart (wOp (fI (· + ·)) (wOp (fI (· + ·)) (wVar 3) (wVar 5)) (wC (.d (.int 2))))) wNoPart)) (wNm 7) wYes (wTup (wCons (wVar 4) (wCons (wVar 6) (wCons (wVar 7) wNil)))) [7]) wNil)))))
    (wRetV 2))))
theorem pl_law_threes : PlD S_law_threes w_law_threes N_law_threes := by
  rintro ts Q Ex ⟨⟨cs, rfl, ok⟩, q⟩
  have sl : (sI cs).length = cs.length := (sI_perm cs).length_eq
  have l24 : (sI cs).length ≤ 24 := by rw [sl]; exact ok.2.2.2
  have wl := Nat.le_trans (th_len (sI cs)) (len3 l24)
  unfold w_law_threes
  repeat trivial
  refine xSort rfl (alike_ints _) (sortable_ints _) (depth_ints _) ?_
  rw [sortI]
  repeat trivial
  refine xFrz rfl (erase_intL (cs := sI cs)) ?_
  repeat trivial
  refine xIEK rfl ?_
  generalize hs : sI cs = s at *
  refine xFoK (fun i ρ => ∃ (fs : List I3) (o3 o4 o5 o6 : Option PyData), ρ = [some (rowD cs), some (rowD s), some (tripL fs), o3.map T.d, o4.map T.d, o5.map T.d, o6.map T.d, none] ∧ fs ++ th (s.drop i) = th s) ⟨[], none, none, none, none, rfl, rfl⟩ ?_ ?_
  · rintro i x ρ2 e ⟨fs, o3, o4, o5, o6, rfl, hf⟩
    obtain ⟨y, e1, rfl⟩ := enumD_get e
    rw [List.getElem?_map] at e1
    cases e2 : s[i]? with
    | none => rw [e2] at e1; cases e1
    | some x =>
      rw [e2] at e1; cases e1
      obtain ⟨hi, hci⟩ := List.getElem?_eq_some_iff.mp e2
      have hd : s.drop i = x :: s.drop (i + 1) := by rw [List.drop_eq_getElem_cons hi, hci]
      rw [hd, show th (x :: s.drop (i + 1)) = (p2 (s.drop (i + 1))).map (fun p => (x, p.1, p.2)) ++ th (s.drop (i + 1)) from rfl] at hf
      have hlen := congrArg List.length hf
      simp only [List.length_append, List.length_map] at hlen
      repeat trivial
      refine xNm (noNd_o rfl) ?_
      repeat trivial
      refine xNm (noNd_o rfl) ?_
      repeat trivial
      refine xSlK rfl ?_
      rw [cut_from (by omega), show ((i : Int) + 1).toNat = i + 1 by omega]
      repeat trivial
      refine xIEK flat_map ?_
      refine xFoK (fun j ρ => ∃ (gs : List I3) (o5 o6 : Option PyData), ρ = [some (rowD cs), some (rowD s), some (tripL gs), some (.d (.int i)), some (.d (.int x)), o5.map T.d, o6.map T.d, none] ∧ gs ++ (p2 (s.drop (i + 1 + j))).map (fun p => (x, p.1, p.2)) = fs ++ (p2 (s.drop (i + 1))).map (fun p => (x, p.1, p.2))) ⟨fs, o5, o6, rfl, rfl⟩ ?_ ?_
      · rintro j x' ρ2 e' ⟨gs, o5, o6, rfl, hg⟩
        obtain ⟨y, e3, rfl⟩ := enumD_get e'
        rw [List.getElem?_map, List.getElem?_drop] at e3
        cases e4 : s[i + 1 + j]? with
        | none => rw [e4] at e3; cases e3
        | some y =>
          rw [e4] at e3; cases e3
          obtain ⟨hj, hcj⟩ := List.getElem?_eq_some_iff.mp e4
          have hdj : s.drop (i + 1 + j) = y :: s.drop (i + 1 + j + 1) := by rw [List.drop_eq_getElem_cons hj, hcj]
          rw [hdj, show p2 (y :: s.drop (i + 1 + j + 1)) = (s.drop (i + 1 + j + 1)).map (fun z => (y, z)) ++ p2 (s.drop (i + 1 + j + 1)) from rfl, List.map_append] at hg
          have hlen2 := congrArg List.length hg
          simp only [List.length_append, List.length_map] at hlen2
          repeat trivial
          refine xNm (noNd_o rfl) ?_
          repeat trivial
          refine xNm (noNd_o rfl) ?_
          repeat trivial
          refine xSlK rfl ?_
          rw [cut_from (by omega), show ((i : Int) + j + 2).toNat = i + 1 + j + 1 by omega]
          refine xILK flat_map ?_
          refine xLcM (fun _ => true) (fun z => .tuple [.int x, .int y, z]) rfl (by simp; omega) (by simp) (fun z hz Y Z hY _ => ?_) ?_
          · obtain ⟨z, hz, rfl⟩ := List.mem_map.mp hz
            refine xYesT ⟨noNd1 rfl, xYes rfl ?_⟩
            repeat trivial
            exact ⟨noNd1 rfl, _, rfl, hY rfl⟩
          · rw [blk_all]
            repeat trivial
            refine xExt rfl (allD_map _) ?_ ⟨gs ++ ((s.drop (i + 1 + j + 1)).map (fun z => (y, z))).map (fun p => (x, p.1, p.2)), some (.int j), some (.int y), ?_, ?_⟩
            · simp only [List.length_map]
              exact lt16k (by simp only [List.length_map] at *; omega)
            · simp [tripL, TX.putAt, putT]
            · rw [List.append_assoc]; exact hg
      · rintro ρ2 ⟨gs, o5, o6, rfl, hg⟩
        rw [List.drop_of_length_le (by simp [enumD]; omega)] at hg
        refine ⟨gs, some (.int i), some (.int x), o5, o6, rfl, ?_⟩
        have hg' : gs = fs ++ (p2 (s.drop (i + 1))).map (fun p => (x, p.1, p.2)) := by simpa [p2] using hg
        rw [hg', List.append_assoc]; exact hf
  · rintro ρ2 ⟨fs, o3, o4, o5, o6, rfl, hf⟩
    have hf' : fs = th s := by
      rw [List.drop_of_length_le (by simp [enumD])] at hf
      simpa [th] using hf
    subst hf'
    repeat trivial
    refine xRetV rfl ⟨rfl, q _ _ fun cs' e => ?_⟩
    cases rowD1_inj e
    rw [hs]
end LW
namespace LW
open PySem PySem.Spec L2 TX

local macro_rules | `(tactic| trivial) => `(tactic| with_reducible first
  | refine xSeq ?_ | refine xSet ?_ | refine xSetK (by with_unfolding_all rfl) ?_ | refine xNext ?_ | refine xIfS ?_ | refine xDrop ?_ | refine xRet ?_ | refine xAsg ?_ | refine xAsK (by with_unfolding_all rfl) ?_ | refine xSub ?_ | refine xSbK (by with_unfolding_all rfl) (by with_unfolding_all rfl) (by with_unfolding_all rfl) ?_
  | refine xVarD (by with_unfolding_all rfl) ?_ | refine xVarZ (by with_unfolding_all rfl) ?_ | refine xVarN (by with_unfolding_all rfl) (by with_unfolding_all rfl) ?_ | refine xC ?_ | refine xOp ?_ | refine xI (by with_unfolding_all rfl) (by with_unfolding_all rfl) ?_ | refine xB (by with_unfolding_all rfl) (by with_unfolding_all rfl) ?_ | refine xEqI (by with_unfolding_all rfl) (by with_unfolding_all rfl) ?_ | refine xNeI (by with_unfolding_all rfl) (by with_unfolding_all rfl) ?_ | refine xNeg ?_ | refine xNegK ?_
  | refine xIc (by with_unfolding_all rfl) (by with_unfolding_all rfl) (by with_unfolding_all first | omega | exact ⟨by decide, by decide +kernel⟩) ?_
  | refine xT ?_ | refine xTK ?_ | refine xNot ?_ | refine xAnd ?_ | refine xOr ?_ | refine xAndV ?_ | refine xOrV ?_ | refine xNotV ?_ | refine xBK ?_ | refine xIf ?_ | refine xCh ?_ | refine xCh1 (by with_unfolding_all rfl) (by with_unfolding_all rfl) ?_ | refine xCh2 (by with_unfolding_all rfl) (by with_unfolding_all rfl) ?_
  | refine xIx ?_ | refine xIxA (by with_unfolding_all rfl) (by with_unfolding_all rfl) (by with_unfolding_all rfl) ?_ | refine xNil ?_ | refine xCons ?_ | refine xFn ?_ | refine xLst ?_ | refine xLstK (by with_unfolding_all rfl) ?_ | refine xTup ?_ | refine xTupK (by with_unfolding_all rfl) ?_ | refine xLen (by with_unfolding_all rfl) ?_ | refine xMax (by with_unfolding_all rfl) (by with_unfolding_all rfl) ?_ | refine xMin (by with_unfolding_all rfl) (by with_unfolding_all rfl) ?_
  | refine xYes (by with_unfolding_all rfl) ?_ | refine xNo (by with_unfolding_all rfl) ?_ | refine xIs (by with_unfolding_all rfl) (by with_unfolding_all rfl) ?_ | refine xCall ?_ | refine xM ?_ | refine xMA (by with_unfolding_all rfl) ?_ | refine xMD ?_ | refine xLc ?_ | refine xFor ?_ | refine xILst ?_ | refine xILK (by with_unfolding_all rfl) ?_ | refine xIR1 ?_ | refine xIEn ?_ | refine xSl ?_ | refine xNoPart ?_ | refine xPart ?_ | refine xPartK ?_ | refine xRevS ?_ | refine xCat ?_ | refine xLenSet ?_
  | refine xNm (by with_unfolding_all rfl) ?_ | refine xGTup (by with_unfolding_all rfl) ?_ | refine xGsCons ?_ | refine xGsNil ?_ | refine xYesT ?_ | refine xDg1 ?_ | refine xDp1 ?_ | refine xDg2 ?_ | refine xDp2 ?_ | refine xPar ?_ | refine xPaK (by with_unfolding_all rfl) (by with_unfolding_all rfl) ?_ | refine xRevT ?_ | refine xRevTK ?_ | refine xDi1 ?_ | refine xDi2 ?_ | refine xITup ?_ | refine xITupK ?_ | refine xIZip ?_ | refine xIR2 ?_ | refine xIsNK (by with_unfolding_all rfl) ?_ | refine xRev2 ?_ | refine xListR ?_ | refine xSlT ?_ | refine xSlTK ?_ | refine xGt1 ?_ | refine xGt2 ?_ | refine xGtA (by with_unfolding_all rfl) ?_ | refine xGtD ?_ | refine xRep ?_ | refine xDcL ?_ | refine xDc ?_ | refine xDpl ?_ | refine xGe1 ?_ | refine xGe2 ?_ | refine xIe1 ?_ | refine xIe2 ?_ | refine xGLst (by with_unfolding_all rfl) ?_ | refine xIsB (by with_unfolding_all rfl) (by with_unfolding_all rfl) ?_ | refine xVarL (by with_unfolding_all rfl) ?_ | refine xIDc ?_ | refine xIDcK ?_ | refine xLc2 ?_ | refine xGd1 ?_ | refine xGd2 ?_ | refine xGdA (by with_unfolding_all rfl) ?_ | refine xGdD ?_ | refine xDcT ?_ | refine xClip ?_ | refine xAppD ?_ | refine xAppD11 ?_ | refine xAppD21 ?_)

/-! ### ways -/
def thL (cs : List Int) : List Int → Bool
  | [a, b, c] => (decide (a < b) && decide (b < c)) && ([a, b, c].all fun z => decide (z ∈ cs))
  | _ => false
def isThreeD (cs : List Int) : PyData → Bool
  | .tuple ds => decide (ds.length = 3) && (ds.all isCardD && thL cs (intsD ds))
  | _ => false
theorem three_ok {cs : List Int} {p : I3} (ok : RowOk cs) (h : p.1 ∈ cs ∧ p.2.1 ∈ cs ∧ p.2.2 ∈ cs) (h1 : p.1 < p.2.1) (h2 : p.2.1 < p.2.2) : isThreeD cs (tr3 p) = true := by
  have a := ok.1 _ h.1
  have b := ok.1 _ h.2.1
  have c := ok.1 _ h.2.2
  simp [isThreeD, tr3, isCardD, intsD, thL, *]
def S_is_three : SpT := SpP (fun ts => ∃ cs x, ts = [rowD cs, .d x]) fun ts t _ => ∀ cs x, ts = [rowD cs, .d x] → t = .d (.bool (isThreeD cs x))
def S_need_three : SpT := SpP (fun ts => ∃ cs x, ts = [rowD cs, .d x] ∧ isThreeD cs x = true) fun ts t _ => t = .d .none
def whenL (wr hs : List (Int × Int)) (q : Int × Int) : Option Int := if q ∈ wr then (if q ∈ hs then some (pidx hs q : Nat) else none) else some (-1)
def S_way_of : SpT := SpP (fun ts => ∃ wr hs p, ts = [.d (pairsD wr), .d (pairsD hs), .d (tr3 p)]) fun ts t _ => ∀ wr hs p, ts = [.d (pairsD wr), .d (pairsD hs), .d (tr3 p)] → t = .d (.str (wayS (whenL wr hs (p.1, p.2.1)) (whenL wr hs (p.2.1, p.2.2))))
theorem mS_is_three : MonSp S_is_three := mon_SpP
theorem mS_need_three : MonSp S_need_three := mon_SpP
theorem mS_way_of : MonSp S_way_of := mon_SpP
theorem tr3_inj {p q : I3} (h : tr3 p = tr3 q) : p = q := by
  obtain ⟨a, b, c⟩ := p; obtain ⟨d, e, f⟩ := q
  simp [tr3] at h
  simp [h]
abbrev N_is_three : List Str := ["row", "thing", "card"]
def w_is_three : TwS := (wSeq (wIfS (wOr (wNot (wT (wFn kIs (wCons (wVar 1) (wCons (wC (.raw (.ty "tuple"))) wNil))))) (wOr (wT (wOp (fNe) (wFn kLen (wCons (wVar 1) wNil)) (wC (.d (.int 3))))) (wNot (wT (wFn (k1 fAll) (wCons (wLc (wITup (wVar 1)) (wNm 2) wYes (wCall [] 1 S_is_card (wCons (wVar 2) wNil)) [2]) wNil)))))) (wRet (wC (.d (.bool false)))) wNext)
    (wRet (wAndV (wCh (fB fun i j => decide (i < j)) (fB fun i j => decide (i < j)) (wIx (wVar 1) (wC (.d (.int 0)))) (wIx (wVar 1) (wC (.d (.int 1)))) (wIx (wVar 1) (wC (.d (.int 2))))) (wFn (k1 fAll) (wCons (wLc (wITup (wVar 1)) (wNm 2) wYes (wOp (fIn false) (wVar 2) (wVar 0)) [2]) wNil)))))
abbrev N_need_three : List Str := ["row", "thing"]
def w_need_three : TwS := (wIfS (wNot (wT (wCall [] 2 S_is_three (wCons (wVar 0) (wCons (wVar 1) wNil))))) wNever wNext)
abbrev N_way_of : List Str := ["wrong", "history", "three", "x", "y", "z", "whens", "pair", "lesser", "greater"]
def w_way_of : TwS := (wSeq (wAsg (wVar 2) (wGTup 3 (wGsCons (wNm 3) (wGsCons (wNm 4) (wGsCons (wNm 5) wGsNil)))))
    (wSeq (wSet 6 (wLst wNil))
    (wSeq (wFor (wILst (wLst (wCons (wTup (wCons (wVar 3) (wCons (wVar 4) wNil))) (wCons (wTup (wCons (wVar 4) (wCons (wVar 5) wNil))) wNil)))) (wNm 7) (wDrop (wM isLst kApp (wVar 6) (wCons (wIf (wT (wOp (fIn true) (wVar 7) (wVar 0))) (wNeg (wC (.d (.int 1)))) (wIf (wT (wOp (fIn false) (wVar 7) (wVar 1))) (wM isLst kIdx (wVar 1) (wCons (wVar 7) wNil)) (wC (.d .none)))) wNil))))
    (wSeq (wIfS (wT (wOp (fEq) (wVar 6) (wLst (wCons (wNeg (wC (.d (.int 1)))) (wCons (wNeg (wC (.d (.int 1)))) wNil))))) (wRet (wC (.d (.str "never")))) wNext)
    (wSeq (wIfS (wT (wOp (fEq) (wVar 6) (wLst (wCons (wC (.d .none)) (wCons (wC (.d .none)) wNil))))) (wRet (wC (.d (.str "open")))) wNext)
    (wSeq (wFrz 6 (wAsg (wVar 6) (wGLst 2 (wGsCons (wNm 8) (wGsCons (wNm 9) wGsNil)))))
    (wRet (wIf (wOr (wT (wOp (fIsN false) (wVar 9) (wC (.d .none)))) (wAnd (wT (wOp (fIsN true) (wVar 8) (wC (.d .none)))) (wT (wOp (fB fun i j => decide (i < j)) (wVar 8) (wVar 9))))) (wC (.d (.str "low"))) (wC (.d (.str "high")))))))))))
theorem pl_is_three : PlD S_is_three w_is_three N_is_three := by
  rintro ts Q Ex ⟨⟨cs, x, rfl⟩, q⟩
  unfold w_is_three
  have fin : ∀ b ρ, b = isThreeD cs x → Q (.d (.bool b)) ρ := fun b ρ e => q _ _ fun cs' y e' => by
    obtain ⟨rfl, rfl⟩ := rows2_inj e'
    rw [e]
  cases x with
  | tuple ds =>
    repeat trivial
    refine xIte (fun h1 => ?_) fun h1 => ?_
    · repeat trivial
      exact ⟨rfl, fin _ _ (by simp at h1; have : decide (ds.length = 3) = false := decide_eq_false (by omega); simp only [isThreeD, this, Bool.false_and])⟩
    · have l2 : ds.length = 3 := by simp at h1; omega
      repeat trivial
      refine xLcM (fun _ => true) (fun x => .bool (isCardD x)) rfl (by omega) (by simp [rho0]) (fun x hx Y Z hY _ => ?_) ?_
      · refine xYesT ⟨noNd1 rfl, xYes rfl ?_⟩
        repeat trivial
        refine xIsCard ?_
        exact ⟨noNd1 rfl, _, rfl, hY rfl⟩
      · rw [bools_of]
        repeat trivial
        refine xAll (bs := ds.map isCardD) vw_l ?_
        rw [all_of_map]
        repeat trivial
        refine xIte (fun h3 => ?_) fun h3 => ?_
        · repeat trivial
          exact ⟨rfl, fin _ _ (by have h3' : ds.all isCardD = false := (by simpa using h3); simp only [isThreeD, h3', Bool.false_and, Bool.and_false])⟩
        · have h3' : ds.all isCardD = true := by simpa using h3
          obtain ⟨e1, e2⟩ := cards_ints h3'
          generalize hi : intsD ds = is at e1 e2
          subst e1
          rw [List.length_map] at l2
          match is, l2 with
          | [a, b, c], _ =>
            simp only [List.map_cons, List.map_nil] at h3' fin ⊢
            have fin' : ∀ e ρ, e = thL cs [a, b, c] → Q (.d (.bool e)) ρ := fun e ρ h => fin e ρ (by rw [h]; simp only [isThreeD, h3', Bool.true_and]; rfl)
            repeat trivial
            refine xIxT rfl ?_
            repeat trivial
            refine xIxT rfl ?_
            repeat trivial
            refine xIte (fun h4 => ?_) fun h4 => ?_
            · repeat trivial
              refine xIxT rfl ?_
              repeat trivial
              refine xIte (fun h5 => ?_) fun h5 => ?_
              · repeat trivial
                refine xLcM (fun _ => true) (fun x => .bool (match x with | .int z => decide (z ∈ cs) | _ => false)) rfl (by simp) (by simp [rho0]) (fun x hx Y Z hY _ => ?_) ?_
                · have : ∃ z : Int, x = .int z := by
                    simp at hx
                    rcases hx with rfl | rfl | rfl <;> exact ⟨_, rfl⟩
                  obtain ⟨z, rfl⟩ := this
                  refine xYesT ⟨noNd1 rfl, xYes rfl ?_⟩
                  repeat trivial
                  refine xInI (xs := cs) rfl rfl ?_
                  exact ⟨noNd1 rfl, _, rfl, hY rfl⟩
                · rw [bools_of]
                  repeat trivial
                  refine xAll (bs := [decide (a ∈ cs), decide (b ∈ cs), decide (c ∈ cs)]) vw_l ?_
                  exact ⟨rfl, fin' _ _ (by simp only [thL, h4, h5, Bool.true_and]; rfl)⟩
              · repeat trivial
                exact ⟨rfl, fin' _ _ (by simp only [thL, h5, Bool.false_and, Bool.and_false])⟩
            · repeat trivial
              exact ⟨rfl, fin' _ _ (by simp only [thL, h4, Bool.false_and])⟩
  | _ =>
    repeat trivial
    exact ⟨rfl, fin _ _ rfl⟩
theorem pl_need_three : PlD S_need_three w_need_three N_need_three := by
  rintro ts Q Ex ⟨⟨cs, x, rfl, h⟩, q⟩
  unfold w_need_three
  repeat trivial
  refine xCaP rfl rfl rfl ⟨cs, x, rfl⟩ fun t ρ' e => ?_
  cases e cs x rfl
  refine ⟨rfl, ?_⟩
  repeat trivial
  refine xNo (by rw [h]; rfl) ?_
  repeat trivial
  exact q _ _ rfl
theorem xNeedThree {ρ : Rho} {Q : T → Rho → Prop} {E : ExK} {cs : List Int} {x : PyData} (h : isThreeD cs x = true) (q : Q (.d .none) ρ) : caK [] 2 S_need_three [rowD cs, .d x] ρ Q E :=
  xCaP rfl rfl rfl ⟨cs, x, rfl, h⟩ fun t ρ' e => by rw [e]; exact ⟨rfl, q⟩
def optD : Option Int → PyData
  | none => .none
  | some i => .int i
theorem shaped_opt2 (a b : Option Int) : SeqAt.shaped (.list [optD a, optD b]) = true := by cases a <;> cases b <;> rfl
theorem pl_way_of : PlD S_way_of w_way_of N_way_of := by
  rintro ts Q Ex ⟨⟨wr, hs, ⟨x, y, z⟩, rfl⟩, q⟩
  unfold w_way_of
  generalize ho1 : whenL wr hs (x, y) = o1
  generalize ho2 : whenL wr hs (y, z) = o2
  have fin : ∀ s ρ, s = wayS o1 o2 → Q (.d (.str s)) ρ := fun s ρ e => q _ _ fun wr' hs' p' e' => by
    simp only [List.cons.injEq, T.d.injEq, and_true] at e'
    cases pairsD_inj e'.1
    cases pairsD_inj e'.2.1
    cases tr3_inj e'.2.2
    rw [e, ho1, ho2]
  simp only [tr3]
  repeat trivial
  refine xFoK (fun i ρ => ∃ (o7 : Option PyData), ρ = [some (.d (pairsD wr)), some (.d (pairsD hs)), some (.d (.tuple [.int x, .int y, .int z])), some (.d (.int x)), some (.d (.int y)), some (.d (.int z)), some (.l ((([optD o1, optD o2]).take i).map T.d)), o7.map T.d, none, none]) ⟨none, rfl⟩ ?_ ?_
  · rintro i d ρ2 e ⟨o7, rfl⟩
    have : ∃ p o, d = pr p ∧ whenL wr hs p = o ∧ ([optD o1, optD o2]).take (i + 1) = ([optD o1, optD o2]).take i ++ [optD o] ∧ i ≤ 2 := by
      match i with
      | 0 => cases e; exact ⟨(x, y), o1, rfl, ho1, rfl, by decide⟩
      | 1 => cases e; exact ⟨(y, z), o2, rfl, ho2, rfl, by decide⟩
      | i + 2 => simp at e
    obtain ⟨p, o, rfl, hp, ht, hi⟩ := this
    have il : (([optD o1, optD o2]).take i).length < sizeLine := small1000 (by rw [List.length_take]; simp; omega)
    refine xNm (noNd_o rfl) ?_
    repeat trivial
    refine xNiPr (xs := wr) (y := p) rfl rfl ?_
    repeat trivial
    unfold whenL at hp
    refine xIte (fun h1 => ?_) fun h1 => ?_
    · have h1' : p ∉ wr := by simpa using h1
      rw [if_neg h1'] at hp
      subst hp
      repeat trivial
      refine xApp rfl rfl il ?_
      exact ⟨some (pr p), by rw [ht]; rfl⟩
    · have h1' : p ∈ wr := by simpa using h1
      rw [if_pos h1'] at hp
      repeat trivial
      refine xInPr (xs := hs) (y := p) rfl rfl ?_
      repeat trivial
      refine xIte (fun h2 => ?_) fun h2 => ?_
      · have h2' : p ∈ hs := of_decide_eq_true h2
        rw [if_pos h2'] at hp
        subst hp
        repeat trivial
        refine xIdxP (cs := hs) rfl rfl h2' ?_
        repeat trivial
        refine xApp rfl rfl il ?_
        exact ⟨some (pr p), by rw [ht]; rfl⟩
      · have h2' : p ∉ hs := of_decide_eq_false h2
        rw [if_neg h2'] at hp
        subst hp
        repeat trivial
        refine xApp rfl rfl il ?_
        exact ⟨some (pr p), by rw [ht]; rfl⟩
  · rintro ρ2 ⟨o7, rfl⟩
    repeat trivial
    refine xEq (x := .list [optD o1, optD o2]) (y := .list [.int (-1), .int (-1)]) rfl rfl (shaped_opt2 _ _) rfl ?_
    repeat trivial
    refine xIte (fun h1 => ?_) fun h1 => ?_
    · repeat trivial
      refine ⟨rfl, fin _ _ ?_⟩
      cases o1 <;> cases o2 <;> simp [PyData.eqv, PyData.eqvAll, optD, eqv_int] at h1
      simp [wayS, h1]
    · repeat trivial
      refine xEq (x := .list [optD o1, optD o2]) (y := .list [.none, .none]) rfl rfl (shaped_opt2 _ _) rfl ?_
      repeat trivial
      refine xIte (fun h2 => ?_) fun h2 => ?_
      · repeat trivial
        refine ⟨rfl, fin _ _ ?_⟩
        cases o1 <;> cases o2 <;> simp [PyData.eqv, PyData.eqvAll, optD] at h2
        rfl
      · repeat trivial
        refine xFrz (t := .l ([optD o1, optD o2].map T.d)) rfl erase_l ?_
        repeat trivial
        cases o2 with
        | none =>
          cases o1 with
          | none => simp [PyData.eqv, PyData.eqvAll, optD] at h2
          | some a =>
            simp only [optD]
            repeat trivial
            exact ⟨rfl, fin _ _ rfl⟩
        | some b =>
          cases o1 with
          | none =>
            simp only [optD]
            repeat trivial
            exact ⟨rfl, fin _ _ rfl⟩
          | some a =>
            simp only [optD]
            have nn : ¬ (a = -1 ∧ b = -1) := fun ⟨e1, e2⟩ => by
              subst e1 e2
              simp [PyData.eqv, PyData.eqvAll, optD] at h1
            repeat trivial
            refine xIte (fun h3 => ?_) fun h3 => ?_
            · repeat trivial
              exact ⟨rfl, fin _ _ (by simp only [wayS]; rw [if_neg nn, if_pos (of_decide_eq_true h3)])⟩
            · repeat trivial
              exact ⟨rfl, fin _ _ (by simp only [wayS]; rw [if_neg nn, if_neg (of_decide_eq_false h3)])⟩
theorem when_eq {cs : List Int} {hs : List (Int × Int)} {x y : Int} (ok : RowOk cs) (hx : x ∈ cs) (hy : y ∈ cs) (hxy : x < y) : whenL (dp cs (sI cs)) hs (x, y) = whenO cs hs (x, y) := by
  have ne : pos cs x ≠ pos cs y := fun z => by have := pos_inj hx hy z; omega
  unfold whenL whenO
  by_cases h : pos cs x < pos cs y
  · rw [if_neg fun z => by have := ((wrong_iff ok).mp z).2.2.2; simp only at this; omega, if_pos h]
  · rw [if_pos ((wrong_iff ok).mpr ⟨hx, hy, hxy, by simp only; omega⟩), if_neg h]
def S_way_by : SpT := SpP (fun ts => ∃ cs hs p r, ts = [rowD cs, .d (pairsD hs), .d (tr3 p)] ∧ RowOk cs ∧ ledL cs (hs.map pr) = some r ∧ isThreeD cs (tr3 p) = true) fun ts t _ => ∀ cs hs p, ts = [rowD cs, .d (pairsD hs), .d (tr3 p)] → t = .d (.str (wayW cs hs p))
theorem mS_way_by : MonSp S_way_by := mon_SpP
theorem three_iff {cs : List Int} {p : I3} (h : isThreeD cs (tr3 p) = true) : (p.1 ∈ cs ∧ p.2.1 ∈ cs ∧ p.2.2 ∈ cs) ∧ p.1 < p.2.1 ∧ p.2.1 < p.2.2 := by
  simp [isThreeD, tr3, isCardD, intsD, thL] at h
  exact ⟨h.2.2, h.2.1⟩
abbrev N_way_by : List Str := ["row", "history", "three"]
def w_way_by : TwS := (wSeq (wDrop (wCall [] 2 S_need_history (wCons (wVar 0) (wCons (wVar 1) wNil))))
    (wSeq (wDrop (wCall [] 2 S_need_three (wCons (wVar 0) (wCons (wVar 2) wNil))))
    (wRet (wCall [] 3 S_way_of (wCons (wCall [] 1 S_wrong_in (wCons (wVar 0) wNil)) (wCons (wVar 1) (wCons (wVar 2) wNil)))))))
theorem pl_way_by : PlD S_way_by w_way_by N_way_by := by
  rintro ts Q Ex ⟨⟨cs, hs, p, r, rfl, ok, hr, h3⟩, q⟩
  unfold w_way_by
  obtain ⟨⟨m1, m2, m3⟩, l1, l2⟩ := three_iff h3
  repeat trivial
  refine xNeedHist (x := pairsD hs) ok hr ?_
  repeat trivial
  refine xNeedThree h3 ?_
  repeat trivial
  refine xWrongIn ok ?_
  repeat trivial
  refine xCaP (us := [.d (pairsD (dp cs (sI cs))), .d (pairsD hs), .d (tr3 p)]) (argD rfl rfl erase_pairL (argD rfl rfl rfl (argD rfl rfl rfl argNil))) rfl rfl ⟨_, hs, p, rfl⟩ fun t ρ' e => ?_
  cases e _ hs p rfl
  refine ⟨rfl, rfl, q _ _ fun cs' hs' p' e' => ?_⟩
  simp only [List.cons.injEq, T.d.injEq, and_true] at e'
  cases rowD_inj e'.1
  cases pairsD_inj e'.2.1
  cases tr3_inj e'.2.2
  rw [when_eq ok m1 m2 l1, when_eq ok m2 m3 l2]
  rfl
theorem xWayBy {ρ : Rho} {Q : T → Rho → Prop} {E : ExK} {cs r : List Int} {hs : List (Int × Int)} {p : I3} {ts : List T} (ok : RowOk cs) (hr : ledL cs (hs.map pr) = some r) (h3 : isThreeD cs (tr3 p) = true) (h : argsF [] ρ false 0 ts = some [rowD cs, .d (pairsD hs), .d (tr3 p)]) (ha : apartB ts = true) (q : Q (.d (.str (wayW cs hs p))) ρ) : caK [] 3 S_way_by ts ρ Q E :=
  xCaP h rfl ha ⟨cs, hs, p, r, rfl, ok, hr, h3⟩ fun t ρ' e => by rw [e cs hs p rfl]; exact ⟨rfl, q⟩
end LW

namespace LW
open PySem PySem.Spec L2 TX
/-! ### dicts of pairs -/
end LW

namespace LW
open PySem PySem.Spec L2 TX

local macro_rules | `(tactic| trivial) => `(tactic| with_reducible first
  | refine xSeq ?_ | refine xSet ?_ | refine xSetK (by with_unfolding_all rfl) ?_ | refine xNext ?_ | refine xIfS ?_ | refine xDrop ?_ | refine xRet ?_ | refine xAsg ?_ | refine xAsK (by with_unfolding_all rfl) ?_ | refine xSub ?_ | refine xSbK (by with_unfolding_all rfl) (by with_unfolding_all rfl) (by with_unfolding_all rfl) ?_
  | refine xVarD (by with_unfolding_all rfl) ?_ | refine xVarZ (by with_unfolding_all rfl) ?_ | refine xVarN (by with_unfolding_all rfl) (by with_unfolding_all rfl) ?_ | refine xC ?_ | refine xOp ?_ | refine xI (by with_unfolding_all rfl) (by with_unfolding_all rfl) ?_ | refine xB (by with_unfolding_all rfl) (by with_unfolding_all rfl) ?_ | refine xEqI (by with_unfolding_all rfl) (by with_unfolding_all rfl) ?_ | refine xNeI (by with_unfolding_all rfl) (by with_unfolding_all rfl) ?_ | refine xNeg ?_ | refine xNegK ?_
  | refine xIc (by with_unfolding_all rfl) (by with_unfolding_all rfl) (by with_unfolding_all first | omega | exact ⟨by decide, by decide +kernel⟩) ?_
  | refine xT ?_ | refine xTK ?_ | refine xNot ?_ | refine xAnd ?_ | refine xOr ?_ | refine xAndV ?_ | refine xOrV ?_ | refine xNotV ?_ | refine xBK ?_ | refine xIf ?_ | refine xCh ?_ | refine xCh1 (by with_unfolding_all rfl) (by with_unfolding_all rfl) ?_ | refine xCh2 (by with_unfolding_all rfl) (by with_unfolding_all rfl) ?_
  | refine xIx ?_ | refine xIxA (by with_unfolding_all rfl) (by with_unfolding_all rfl) (by with_unfolding_all rfl) ?_ | refine xNil ?_ | refine xCons ?_ | refine xFn ?_ | refine xLst ?_ | refine xLstK (by with_unfolding_all rfl) ?_ | refine xTup ?_ | refine xTupK (by with_unfolding_all rfl) ?_ | refine xLen (by with_unfolding_all rfl) ?_ | refine xMax (by with_unfolding_all rfl) (by with_unfolding_all rfl) ?_ | refine xMin (by with_unfolding_all rfl) (by with_unfolding_all rfl) ?_
  | refine xYes (by with_unfolding_all rfl) ?_ | refine xNo (by with_unfolding_all rfl) ?_ | refine xIs (by with_unfolding_all rfl) (by with_unfolding_all rfl) ?_ | refine xCall ?_ | refine xM ?_ | refine xMA (by with_unfolding_all rfl) ?_ | refine xMD ?_ | refine xLc ?_ | refine xFor ?_ | refine xILst ?_ | refine xILK (by with_unfolding_all rfl) ?_ | refine xIR1 ?_ | refine xIEn ?_ | refine xSl ?_ | refine xNoPart ?_ | refine xPart ?_ | refine xPartK ?_ | refine xRevS ?_ | refine xCat ?_ | refine xLenSet ?_
  | refine xNm (by with_unfolding_all rfl) ?_ | refine xGTup (by with_unfolding_all rfl) ?_ | refine xGsCons ?_ | refine xGsNil ?_ | refine xYesT ?_ | refine xDg1 ?_ | refine xDp1 ?_ | refine xDg2 ?_ | refine xDp2 ?_ | refine xPar ?_ | refine xPaK (by with_unfolding_all rfl) (by with_unfolding_all rfl) ?_ | refine xRevT ?_ | refine xRevTK ?_ | refine xDi1 ?_ | refine xDi2 ?_ | refine xITup ?_ | refine xITupK ?_ | refine xIZip ?_ | refine xIR2 ?_ | refine xIsNK (by with_unfolding_all rfl) ?_ | refine xRev2 ?_ | refine xListR ?_ | refine xSlT ?_ | refine xSlTK ?_ | refine xGt1 ?_ | refine xGt2 ?_ | refine xGtA (by with_unfolding_all rfl) ?_ | refine xGtD ?_ | refine xRep ?_ | refine xDcL ?_ | refine xDc ?_ | refine xDpl ?_ | refine xGe1 ?_ | refine xGe2 ?_ | refine xIe1 ?_ | refine xIe2 ?_ | refine xGLst (by with_unfolding_all rfl) ?_ | refine xIsB (by with_unfolding_all rfl) (by with_unfolding_all rfl) ?_ | refine xVarL (by with_unfolding_all rfl) ?_ | refine xIDc ?_ | refine xIDcK ?_ | refine xLc2 ?_ | refine xGd1 ?_ | refine xGd2 ?_ | refine xGdA (by with_unfolding_all rfl) ?_ | refine xGdD ?_ | refine xDcT ?_ | refine xClip ?_ | refine xAppD ?_ | refine xAppD11 ?_ | refine xAppD21 ?_)

/-! ### books -/
def bookOf (hs : List (Int × Int)) (c : Int) : List Int := hs.filterMap fun p => if p.1 = c then some p.2 else if p.2 = c then some p.1 else none
def bkT (ks : List Int) (hs : List (Int × Int)) : T := .m false (ks.map PyData.int) (ks.map fun c => intL (bookOf hs c))
def bkK (ks : List Int) (hs : List (Int × Int)) : List (Key × PyData) := ks.map fun c => (.inl c, .list ((bookOf hs c).map PyData.int))
def bkD (ks : List Int) (hs : List (Int × Int)) : PyData := .dict ((bkK ks hs).map fun p => (keyD p.1, p.2))
theorem eraseAll_bk (hs : List (Int × Int)) : ∀ ks : List Int, eraseAll (ks.map fun c => intL (bookOf hs c)) = some (ks.map fun c => .list ((bookOf hs c).map PyData.int))
  | [] => rfl
  | c :: ks => by simp only [List.map_cons, eraseAll, erase_intL, eraseAll_bk hs ks]
theorem erase_bk {ks : List Int} {hs : List (Int × Int)} : erase (bkT ks hs) = some (bkD ks hs) := by
  unfold bkT bkD bkK
  simp only [erase, eraseAll_bk, Option.map_some, List.map_map]
  congr 2
  induction ks with
  | nil => rfl
  | cons c ks ih => simp only [List.map_cons, List.zip_cons_cons, ih]; rfl
theorem book_snoc (hs : List (Int × Int)) (a b c : Int) (hab : a ≠ b) : bookOf (hs ++ [(a, b)]) c = if c = a then bookOf hs a ++ [b] else if c = b then bookOf hs b ++ [a] else bookOf hs c := by
  unfold bookOf
  rw [List.filterMap_append]
  by_cases h1 : c = a
  · subst h1; simp
  · by_cases h2 : c = b
    · subst h2
      have : ¬ a = c := hab
      simp [h1, this]
    · have h3 : ¬ a = c := fun z => h1 z.symm
      have h4 : ¬ b = c := fun z => h2 z.symm
      simp [h1, h2, h3, h4]
theorem book_app (u v : List (Int × Int)) (c : Int) : bookOf (u ++ v) c = bookOf u c ++ bookOf v c := by
  unfold bookOf
  rw [List.filterMap_append]
theorem kix_at : ∀ {ks : List Int} {k : Int}, k ∈ ks → ks[kix ks k]? = some k
  | c :: ks, k, h => by
    unfold kix
    by_cases e : c = k
    · rw [if_pos e]; simp [e]
    · rw [if_neg e, List.getElem?_cons_succ]; exact kix_at ((List.mem_cons.mp h).resolve_left fun z => e z.symm)
theorem set_kix {α : Type} : ∀ {ks : List Int} {f : Int → α} {k : Int} {y : α}, ks.Nodup → k ∈ ks → (ks.map f).set (kix ks k) y = ks.map fun c => if c = k then y else f c
  | c :: ks, f, k, y, nd, h => by
    unfold kix
    obtain ⟨n1, n2⟩ := List.nodup_cons.mp nd
    by_cases e : c = k
    · subst e
      rw [if_pos rfl]
      simp only [List.map_cons, List.set_cons_zero, if_true]
      congr 1
      refine List.map_congr_left fun d hd => ?_
      rw [if_neg (fun (z : d = c) => n1 (z ▸ hd))]
    · rw [if_neg e]
      simp only [List.map_cons, List.set_cons_succ, if_neg e]
      rw [set_kix n2 ((List.mem_cons.mp h).resolve_left fun z => e z.symm)]
theorem getT_m {ρ : Rho} {r j : Nat} {tk : Bool} {K : List PyData} {ts : List T} {c : T} (h : ρ[r]? = some (some (.m tk K ts))) (hc : ts[j]? = some c) : getT ρ r ([] ++ [j]) = some c := by
  unfold getT
  rw [h]
  simp only [List.nil_append, subT, kid, hc]
theorem putAt_m {ρ : Rho} {r j : Nat} {tk : Bool} {K : List PyData} {ts : List T} {c u : T} (h : ρ[r]? = some (some (.m tk K ts))) (hc : ts[j]? = some c) : TX.putAt ρ r ([] ++ [j]) u = ρ.set r (some (.m tk K (ts.set j u))) := by
  unfold TX.putAt
  rw [h]
  simp only [List.nil_append, putT, kid, hc, setKid]
def S_books_in : SpT := SpP (fun ts => ∃ cs hs r, ts = [rowD cs, .d (pairsD hs)] ∧ RowOk cs ∧ hs.length ≤ 5000 ∧ ledL cs (hs.map pr) = some r) fun ts t _ => ∀ cs hs, ts = [rowD cs, .d (pairsD hs)] → t = bkT (sI cs) hs
def S_books_by : SpT := S_books_in
theorem mS_books_in : MonSp S_books_in := mon_SpP
theorem mS_books_by : MonSp S_books_by := mon_SpP
theorem nodup_sI {cs : List Int} (ok : RowOk cs) : (sI cs).Nodup := (sI_perm cs).nodup_iff.mpr ok.2.1
theorem book_len (hs : List (Int × Int)) (c : Int) : (bookOf hs c).length ≤ hs.length := List.length_filterMap_le _ _
abbrev N_books_in : List Str := ["row", "history", "found", "card", "less", "greater"]
def w_books_in : TwS := (wSeq (wSet 2 (wDcL (wILst (wFn kSort (wCons (wVar 0) wNil))) (wNm 3) (wVar 3) [3]))
    (wSeq (wFor (wILst (wVar 1)) (wGTup 2 (wGsCons (wNm 4) (wGsCons (wNm 5) wGsNil))) (wSeq (wDrop (wM isLst kApp (wDpl (wVar 2) (wVar 4)) (wCons (wVar 5) wNil)))
    (wDrop (wM isLst kApp (wDpl (wVar 2) (wVar 5)) (wCons (wVar 4) wNil)))))
    (wRetV 2)))
abbrev N_books_by : List Str := ["row", "history"]
def w_books_by : TwS := (wSeq (wDrop (wCall [] 2 S_need_history (wCons (wVar 0) (wCons (wVar 1) wNil))))
    (wRet (wCall [] 2 S_books_in (wCons (wVar 0) (wCons (wVar 1) wNil)))))
theorem pl_books_in : PlD S_books_in w_books_in N_books_in := by
  rintro ts Q Ex ⟨⟨cs, hs, z, rfl, ok, hl, hz⟩, q⟩
  have c24 := ok.2.2.2
  have sl : (sI cs).length = cs.length := (sI_perm cs).length_eq
  have nds := nodup_sI ok
  unfold w_books_in
  repeat trivial
  refine xSort rfl (alike_ints _) (sortable_ints _) (depth_ints _) ?_
  rw [sortI]
  repeat trivial
  refine xILK flat_map ?_
  generalize hs0 : sI cs = ks at *
  refine ⟨noNd1 rfl, by simp; omega, fun i acc ρ2 => acc = ks.take i ∧ ρ2 = [some (rowD cs), some (.d (pairsD hs)), none, none, none, none], ⟨rfl, rfl⟩, ?_, ?_⟩
  · rintro i x acc ρ2 e ⟨rfl, rfl⟩
    rw [List.getElem?_map] at e
    cases e2 : ks[i]? with
    | none => rw [e2] at e; cases e
    | some k =>
      rw [e2] at e; cases e
      obtain ⟨hi, hki⟩ := List.getElem?_eq_some_iff.mp e2
      refine xNm (noNd_o (x := none) rfl) ?_
      repeat trivial
      refine ⟨noNd1 rfl, k, rfl, fun hm => ?_, by rw [List.take_succ, e2]; rfl, rfl⟩
      have nd2 := nds
      rw [← List.take_append_drop i ks, List.drop_eq_getElem_cons hi, hki] at nd2
      exact (List.nodup_append.mp nd2).2.2 k hm k (by simp) rfl
  · rintro acc ρ2 ⟨rfl, rfl⟩
    rw [List.length_map, List.take_length]
    repeat trivial
    refine xFoK (fun i ρ => ∃ (o4 o5 : Option PyData), ρ = [some (rowD cs), some (.d (pairsD hs)), some (bkT ks (hs.take i)), none, o4.map T.d, o5.map T.d]) ⟨none, none, rfl⟩ ?_ ?_
    · rintro i x ρ2 e ⟨o4, o5, rfl⟩
      rw [List.getElem?_map] at e
      cases e2 : hs[i]? with
      | none => rw [e2] at e; cases e
      | some p =>
        rw [e2] at e; cases e
        obtain ⟨hi, hpi⟩ := List.getElem?_eq_some_iff.mp e2
        obtain ⟨a, b⟩ := p
        have sp : hs = hs.take i ++ (a, b) :: hs.drop (i + 1) := by rw [← hpi, ← List.drop_eq_getElem_cons hi, List.take_append_drop]
        have ex := hist_at (u := hs.take i) (v := hs.drop (i + 1)) ok (by rw [← sp]; exact hz)
        have hab : a ≠ b := by omega
        have ma : a ∈ ks := by rw [← hs0]; exact (sI_perm cs).mem_iff.mpr ex.2.1
        have mb : b ∈ ks := by rw [← hs0]; exact (sI_perm cs).mem_iff.mpr ex.2.2.1
        have li : (hs.take i).length ≤ 5000 := Nat.le_trans (List.length_take_le' _ _) hl
        have g1 : (ks.map fun c => intL (bookOf (hs.take i) c))[kix ks a]? = some (intL (bookOf (hs.take i) a)) := by rw [List.getElem?_map, kix_at ma]; rfl
        simp only [pr]
        repeat trivial
        refine xNm (noNd_o rfl) ?_
        repeat trivial
        refine xNm (noNd_o rfl) ?_
        repeat trivial
        refine xDplK (ks := ks) (k := a) rfl rfl ma g1 rfl ?_
        refine xMA (getT_m rfl g1) ?_
        repeat trivial
        refine xApp (ds := (bookOf (hs.take i) a).map PyData.int) (getT_m rfl g1) rfl (Nat.lt_of_le_of_lt (m := 5000) (by rw [List.length_map]; exact Nat.le_trans (book_len _ _) li) (by decide)) ?_
        rw [putAt_m rfl g1, set_kix nds ma]
        have g2 : (ks.map fun c => if c = a then T.l (((bookOf (hs.take i) a).map PyData.int ++ [PyData.int b]).map T.d) else intL (bookOf (hs.take i) c))[kix ks b]? = some (intL (bookOf (hs.take i) b)) := by
          rw [List.getElem?_map, kix_at mb]
          simp only [Option.map_some]
          rw [if_neg fun z => hab z.symm]
        repeat trivial
        refine xDplK (ks := ks) (k := b) rfl rfl mb g2 rfl ?_
        refine xMA (getT_m rfl g2) ?_
        repeat trivial
        refine xApp (ds := (bookOf (hs.take i) b).map PyData.int) (getT_m rfl g2) rfl (Nat.lt_of_le_of_lt (m := 5000) (by rw [List.length_map]; exact Nat.le_trans (book_len _ _) li) (by decide)) ?_
        rw [putAt_m rfl g2, set_kix nds mb]
        repeat trivial
        refine ⟨some (.int a), some (.int b), ?_⟩
        have tk : hs.take (i + 1) = hs.take i ++ [(a, b)] := by rw [List.take_succ, e2]; rfl
        have fe : (fun c => if c = b then T.l (((bookOf (hs.take i) b).map PyData.int ++ [PyData.int a]).map T.d) else if c = a then T.l (((bookOf (hs.take i) a).map PyData.int ++ [PyData.int b]).map T.d) else intL (bookOf (hs.take i) c)) = fun c => intL (bookOf (hs.take (i + 1)) c) := by
          funext c
          rw [tk, book_snoc _ _ _ _ hab]
          by_cases h1 : c = a
          · subst h1
            rw [if_neg hab, if_pos rfl, if_pos rfl]; simp [intL]
          · by_cases h2 : c = b
            · subst h2; rw [if_pos rfl, if_neg h1, if_pos rfl]; simp [intL]
            · rw [if_neg h2, if_neg h1, if_neg h1, if_neg h2]
        rw [fe]
        rfl
    · rintro ρ2 ⟨o4, o5, rfl⟩
      rw [List.length_map, List.take_length]
      repeat trivial
      refine xRetV rfl ⟨rfl, q _ _ fun cs' hs' e => ?_⟩
      simp only [List.cons.injEq, T.d.injEq, and_true] at e
      cases rowD_inj e.1
      cases pairsD_inj e.2
      rw [hs0]
theorem pl_books_by : PlD S_books_by w_books_by N_books_by := by
  rintro ts Q Ex ⟨⟨cs, hs, z, rfl, ok, hl, hz⟩, q⟩
  unfold w_books_by
  repeat trivial
  refine xNeedHist (x := pairsD hs) ok hz ?_
  repeat trivial
  refine xCaP rfl rfl rfl ⟨cs, hs, z, rfl, ok, hl, hz⟩ fun t ρ' e => ?_
  cases e cs hs rfl
  refine ⟨rfl, rfl, q _ _ fun cs' hs' e => ?_⟩
  simp only [List.cons.injEq, T.d.injEq, and_true] at e
  cases rowD_inj e.1
  cases pairsD_inj e.2
  rfl
theorem xBooksBy {ρ : Rho} {Q : T → Rho → Prop} {E : ExK} {cs r : List Int} {hs : List (Int × Int)} {ts : List T} (ok : RowOk cs) (hl : hs.length ≤ 5000) (hr : ledL cs (hs.map pr) = some r) (h : argsF [] ρ false 0 ts = some [rowD cs, .d (pairsD hs)]) (ha : apartB ts = true) (q : Q (bkT (sI cs) hs) ρ) : caK [] 2 S_books_by ts ρ Q E :=
  xCaP h rfl ha ⟨cs, hs, r, rfl, ok, hl, hr⟩ fun t ρ' e => by rw [e cs hs rfl]; exact ⟨rfl, q⟩
end LW

namespace LW
open PySem PySem.Spec L2 TX
/-! ### histories in two parts -/
theorem led_nodup {hs : List (Int × Int)} {cs r : List Int} (ok : RowOk cs) (h : ledL cs (hs.map pr) = some r) : hs.Nodup := by
  have key : ∀ n, (hs.take n).Nodup := fun n => by
    induction n with
    | zero => simp
    | succ n ih =>
      rw [List.take_succ]
      cases e : hs[n]? with
      | none => simpa using ih
      | some p =>
        obtain ⟨hn, hpn⟩ := List.getElem?_eq_some_iff.mp e
        obtain ⟨a, b⟩ := p
        have sp : hs = hs.take n ++ (a, b) :: hs.drop (n + 1) := by rw [← hpn, ← List.drop_eq_getElem_cons hn, List.take_append_drop]
        have ex := hist_at (u := hs.take n) (v := hs.drop (n + 1)) ok (by rw [← sp]; exact h)
        refine List.nodup_append.mpr ⟨ih, by simp, fun x hx y hy e => ?_⟩
        simp at hy; subst hy; subst e
        exact ex.2.2.2.2 hx
  have := key hs.length
  rwa [List.take_length] at this
theorem led_wrong {hs : List (Int × Int)} {cs r : List Int} (ok : RowOk cs) (h : ledL cs (hs.map pr) = some r) {p : Int × Int} (hp : p ∈ hs) : p ∈ dp cs (sI cs) := by
  obtain ⟨u, v, rfl⟩ := List.append_of_mem hp
  obtain ⟨a, b⟩ := p
  have ex := hist_at ok h
  exact (wrong_iff ok).mpr ⟨ex.2.1, ex.2.2.1, ex.1, ex.2.2.2.1⟩
theorem led_len {hs : List (Int × Int)} {cs r : List Int} (ok : RowOk cs) (h : ledL cs (hs.map pr) = some r) : hs.length ≤ 576 := by
  have h1 := (led_nodup ok h).length_le_of_subset fun p hp => led_wrong ok h hp
  have h2 := dp_len cs (sI cs)
  have sl : (sI cs).length = cs.length := (sI_perm cs).length_eq
  have l2 : (sI cs).length * (sI cs).length ≤ 24 * 24 := by rw [sl]; exact Nat.mul_le_mul ok.2.2.2 ok.2.2.2
  omega
theorem dp_nodup {cs : List Int} (ok : RowOk cs) : (dp cs (sI cs)).Nodup := (dp_sorted (sI_sorted cs ok.2.1)).imp fun {p q} h e => by
  subst e
  rcases h with h | ⟨_, h⟩ <;> omega
/-- as many pairs stand wrong as exchanges and those that stand wrong behind -/
theorem wrong_count {hs : List (Int × Int)} {cs r : List Int} (ok : RowOk cs) (h : ledL cs (hs.map pr) = some r) : (dp cs (sI cs)).length = hs.length + (dp r (sI r)).length := by
  obtain ⟨okr, pm⟩ := ledL_ok ok h
  rw [← List.length_append]
  refine List.Perm.length_eq ((List.perm_ext_iff_of_nodup (dp_nodup ok) (List.nodup_append.mpr ⟨led_nodup ok h, dp_nodup okr, fun p hp q hq e => ?_⟩)).mpr fun p => ?_)
  · subst e
    have w := (wrong_iff okr).mp hq
    have := (led_rt ok h (pm.mem_iff.mp w.1) (pm.mem_iff.mp w.2.1) w.2.2.1).mpr (.inr hp)
    omega
  · rw [List.mem_append, wrong_iff ok, wrong_iff okr]
    constructor
    · rintro ⟨h1, h2, h3, h4⟩
      have e := led_rt ok h h1 h2 h3
      by_cases z : p ∈ hs
      · exact .inl z
      · refine .inr ⟨pm.mem_iff.mpr h1, pm.mem_iff.mpr h2, h3, ?_⟩
        have : ¬ pos r p.1 < pos r p.2 := fun w => by
          rcases e.mp w with w | w
          · omega
          · exact z w
        have ne : pos r p.1 ≠ pos r p.2 := fun w => by have := pos_inj (pm.mem_iff.mpr h1) (pm.mem_iff.mpr h2) w; omega
        omega
    · rintro (z | ⟨h1, h2, h3, h4⟩)
      · exact (wrong_iff ok).mp (led_wrong ok h z)
      · have h1' := pm.mem_iff.mp h1
        have h2' := pm.mem_iff.mp h2
        have e := led_rt ok h h1' h2' h3
        have : ¬ pos cs p.1 < pos cs p.2 := fun w => by have := e.mpr (.inl w); omega
        have ne : pos cs p.1 ≠ pos cs p.2 := fun w => by have := pos_inj h1' h2' w; omega
        exact ⟨h1', h2', h3, by omega⟩
theorem when_app {hs rest : List (Int × Int)} {cs r : List Int} {x y : Int} (ok : RowOk cs) (h : ledL cs (hs.map pr) = some r) (hx : x ∈ cs) (hy : y ∈ cs) (hxy : x < y) :
    whenO cs (hs ++ rest) (x, y) = match whenO cs hs (x, y) with | some i => some i | none => (whenO r rest (x, y)).map (· + (hs.length : Nat)) := by
  have e := led_rt ok h hx hy hxy
  unfold whenO
  by_cases h1 : pos cs x < pos cs y
  · simp [h1]
  · by_cases h2 : (x, y) ∈ hs
    · simp only [h1, if_false, List.mem_append, h2, true_or, if_true]
      rw [pidx_if, if_pos h2]
    · have h3 : ¬ pos r x < pos r y := fun w => by
        rcases e.mp w with w | w
        · exact h1 w
        · exact h2 w
      simp only [h1, if_false, List.mem_append, h2, false_or, h3]
      by_cases h4 : (x, y) ∈ rest
      · simp only [h4, if_true, Option.map_some]
        rw [pidx_if, if_neg h2]
        congr 1; omega
      · simp [h4]
theorem when_none {hs : List (Int × Int)} {cs r : List Int} {x y : Int} (ok : RowOk cs) (h : ledL cs (hs.map pr) = some r) (hx : x ∈ cs) (hy : y ∈ cs) (hxy : x < y) : whenO cs hs (x, y) = none ↔ pos r y < pos r x := by
  obtain ⟨okr, pm⟩ := ledL_ok ok h
  have e := led_rt ok h hx hy hxy
  have ne : pos r x ≠ pos r y := fun w => by have := pos_inj (pm.mem_iff.mpr hx) (pm.mem_iff.mpr hy) w; omega
  unfold whenO
  by_cases h1 : pos cs x < pos cs y
  · have := e.mpr (.inl h1)
    simp [h1]; omega
  · by_cases h2 : (x, y) ∈ hs
    · have := e.mpr (.inr h2)
      simp [h1, h2]; omega
    · have : ¬ pos r x < pos r y := fun w => (e.mp w).elim h1 h2
      simp [h1, h2]; omega
theorem when_hi {hs : List (Int × Int)} {cs : List Int} {p : Int × Int} {i : Int} (h : whenO cs hs p = some i) : i < hs.length := by
  unfold whenO at h
  split at h
  · cases h; omega
  · split at h
    · rename_i hp
      cases h
      have := (List.getElem?_eq_some_iff.mp (pidx_at hp)).1
      omega
    · cases h
/-- what has a way keeps it; what is open has the way of what comes -/
theorem way_app {hs rest : List (Int × Int)} {cs r : List Int} {p : I3} (ok : RowOk cs) (h : ledL cs (hs.map pr) = some r) (hm : p.1 ∈ cs ∧ p.2.1 ∈ cs ∧ p.2.2 ∈ cs) (l1 : p.1 < p.2.1) (l2 : p.2.1 < p.2.2) :
    (wayW cs hs p ≠ "open" → wayW cs (hs ++ rest) p = wayW cs hs p) ∧ (wayW cs hs p = "open" → wayW cs (hs ++ rest) p = wayW r rest p) := by
  obtain ⟨x, y, z⟩ := p
  simp only at hm l1 l2
  have a := when_app (rest := rest) ok h hm.1 hm.2.1 l1
  have b := when_app (rest := rest) ok h hm.2.1 hm.2.2 l2
  unfold wayW
  simp only
  rw [a, b]
  cases h1 : whenO cs hs (x, y) with
  | none =>
    cases h2 : whenO cs hs (y, z) with
    | none =>
      simp only
      refine ⟨fun z => absurd rfl z, fun _ => ?_⟩
      cases h3 : whenO r rest (x, y) with
      | none => cases h4 : whenO r rest (y, z) <;> rfl
      | some i =>
        have g1 := when_range h3
        have n1 : ¬ pos r x < pos r y := by
          have := (when_none ok h hm.1 hm.2.1 l1).mp h1; omega
        have n2 : ¬ pos r y < pos r z := by
          have := (when_none ok h hm.2.1 hm.2.2 l2).mp h2; omega
        have i0 : 0 ≤ i := by
          unfold whenO at h3
          simp only [n1, if_false] at h3
          split at h3
          · cases h3; omega
          · cases h3
        cases h4 : whenO r rest (y, z) with
        | none => rfl
        | some j =>
          have j0 : 0 ≤ j := by
            unfold whenO at h4
            simp only [n2, if_false] at h4
            split at h4
            · cases h4; omega
            · cases h4
          simp only [Option.map_some, wayS]
          have e1 : ¬ (i + (hs.length : Int) = -1 ∧ j + (hs.length : Int) = -1) := by omega
          have e2 : ¬ (i = -1 ∧ j = -1) := by omega
          rw [if_neg e1, if_neg e2]
          by_cases q : i < j
          · rw [if_pos q, if_pos (by omega)]
          · rw [if_neg q, if_neg (by omega)]
    | some j =>
      simp only
      refine ⟨fun _ => ?_, fun z => absurd (show ("high" : Str) = "open" from z) (by decide)⟩
      have hj := when_hi h2
      have n1 : ¬ pos r x < pos r y := by
        have := (when_none ok h hm.1 hm.2.1 l1).mp h1; omega
      cases h3 : whenO r rest (x, y) with
      | none => rfl
      | some i =>
        have i0 : 0 ≤ i := by
          unfold whenO at h3
          simp only [n1, if_false] at h3
          split at h3
          · cases h3; omega
          · cases h3
        simp only [Option.map_some, wayS]
        rw [if_neg (by omega), if_neg (by omega)]
  | some i =>
    cases h2 : whenO cs hs (y, z) with
    | none =>
      simp only
      refine ⟨fun _ => ?_, fun z => absurd (show ("low" : Str) = "open" from z) (by decide)⟩
      have hi := when_hi h1
      have n2 : ¬ pos r y < pos r z := by
        have := (when_none ok h hm.2.1 hm.2.2 l2).mp h2; omega
      cases h4 : whenO r rest (y, z) with
      | none => rfl
      | some j =>
        have j0 : 0 ≤ j := by
          unfold whenO at h4
          simp only [n2, if_false] at h4
          split at h4
          · cases h4; omega
          · cases h4
        simp only [Option.map_some, wayS]
        rw [if_neg (by omega), if_pos (by omega)]
    | some j =>
      refine ⟨fun _ => rfl, fun z' => ?_⟩
      exfalso
      have : wayS (some i) (some j) ≠ "open" := by
        simp only [wayS]
        split
        · decide
        · split <;> decide
      exact this z'
/-! ### the least first, the greatest -/
theorem descent {l : List Int} {y : Int} : ∀ {b : Int} {v : List Int}, (b ≥ y) → (∃ x ∈ v, x < y) → ∃ s c a t, b :: v = s ++ c :: a :: t ∧ a < y ∧ a < c
  | b, [], _, ⟨x, hx, _⟩ => by cases hx
  | b, d :: v, hb, ⟨x, hx, hxy⟩ => by
    by_cases h : d < y
    · exact ⟨[], b, d, v, rfl, h, by omega⟩
    · have hx' : ∃ x ∈ v, x < y := by
        rcases List.mem_cons.mp hx with rfl | hx
        · exact absurd hxy h
        · exact ⟨x, hx, hxy⟩
      obtain ⟨s, c, a, t, e, h1, h2⟩ := descent (l := l) (b := d) (y := y) (by omega) hx'
      exact ⟨b :: s, c, a, t, by rw [e]; rfl, h1, h2⟩
theorem descent2 {y : Int} : ∀ {b : Int} {v : List Int}, b > y → (∃ x ∈ v, x ≤ y) → ∃ s c a t, b :: v = s ++ c :: a :: t ∧ y < c ∧ a < c
  | b, [], _, ⟨x, hx, _⟩ => by cases hx
  | b, d :: v, hb, ⟨x, hx, hxy⟩ => by
    by_cases h : d ≤ y
    · exact ⟨[], b, d, v, rfl, hb, by omega⟩
    · have hx' : ∃ x ∈ v, x ≤ y := by
        rcases List.mem_cons.mp hx with rfl | hx
        · exact absurd hxy h
        · exact ⟨x, hx, hxy⟩
      obtain ⟨s, c, a, t, e, h1, h2⟩ := descent2 (b := d) (y := y) (by omega) hx'
      exact ⟨b :: s, c, a, t, by rw [e]; rfl, h1, h2⟩
/-- what stands behind a card -/
theorem behind_mem {r : List Int} {x y : Int} (hx : x ∈ r) (hy : y ∈ r) (h : pos r y < pos r x) : ∃ u v, r = u ++ y :: v ∧ x ∈ v := by
  refine ⟨_, _, pos_split hy, ?_⟩
  have hxx := pos_at hx
  have hl := pos_lt hx
  rw [show pos r x = pos r y + 1 + (pos r x - (pos r y + 1)) by omega, ← List.getElem?_drop] at hxx
  exact List.mem_of_getElem? hxx
def Least (cs : List Int) (hs : List (Int × Int)) : Prop := ∀ u p v s, hs = u ++ p :: v → ledL cs (u.map pr) = some s → ∀ q ∈ nxs s, p.1 ≤ q.1
def Great (cs : List Int) (hs : List (Int × Int)) : Prop := ∀ u p v s, hs = u ++ p :: v → ledL cs (u.map pr) = some s → ∀ q ∈ nxs s, q.2 ≤ p.2
theorem whole_some {cs r : List Int} {hs : List (Int × Int)} {x y : Int} (ok : RowOk cs) (hr : ledL cs (hs.map pr) = some r) (nn : nxs r = []) (hx : x ∈ cs) (hy : y ∈ cs) (hxy : x < y) (w : pos cs y < pos cs x) : (x, y) ∈ hs := by
  by_cases z : (x, y) ∈ hs
  · exact z
  · refine absurd nn (open_next ok hr hx hy hxy ?_)
    unfold whenO
    rw [if_neg (by simp only; omega), if_neg z]
theorem when_in {cs : List Int} {hs : List (Int × Int)} {x y : Int} (w : pos cs y < pos cs x) (h : (x, y) ∈ hs) : whenO cs hs (x, y) = some ((pidx hs (x, y) : Nat) : Int) := by
  unfold whenO
  rw [if_neg (by simp only; omega), if_pos h]
theorem split_at {hs : List (Int × Int)} {p : Int × Int} (h : p ∈ hs) : ∃ u v, hs = u ++ p :: v ∧ p ∉ u ∧ pidx hs p = u.length := by
  induction hs with
  | nil => cases h
  | cons q hs ih =>
    by_cases e : q = p
    · subst e; exact ⟨[], hs, rfl, by simp, by simp [pidx]⟩
    · obtain ⟨u, v, h1, h2, h3⟩ := ih ((List.mem_cons.mp h).resolve_left fun z => e z.symm)
      exact ⟨q :: u, v, by rw [h1]; rfl, by simp [h2]; exact fun z => e z.symm, by simp only [pidx]; rw [if_neg e, h3]; rfl⟩
theorem low_way {cs r : List Int} {hs : List (Int × Int)} {p : I3} (ok : RowOk cs) (hr : ledL cs (hs.map pr) = some r) (nn : nxs r = []) (gr : Least cs hs) (hm : p.1 ∈ cs ∧ p.2.1 ∈ cs ∧ p.2.2 ∈ cs) (l1 : p.1 < p.2.1) (l2 : p.2.1 < p.2.2) (w1 : pos cs p.2.1 < pos cs p.1) (w2 : pos cs p.2.2 < pos cs p.2.1) : wayW cs hs p = "low" := by
  obtain ⟨x, y, z⟩ := p
  simp only at hm l1 l2 w1 w2
  have m1 := whole_some ok hr nn hm.1 hm.2.1 l1 w1
  have m2 := whole_some ok hr nn hm.2.1 hm.2.2 l2 w2
  obtain ⟨u, v, e, nu, eu⟩ := split_at m2
  have hr' := hr
  rw [e, List.map_append] at hr'
  obtain ⟨s, hs1, hs2⟩ := ledL_pre hr'
  obtain ⟨oks, pm⟩ := ledL_ok ok hs1
  have rt : pos s x < pos s y := by
    by_cases q : pos s x < pos s y
    · exact q
    · exfalso
      have hxs := pm.mem_iff.mpr hm.1
      have hys := pm.mem_iff.mpr hm.2.1
      have ne : pos s x ≠ pos s y := fun w => by have := pos_inj hxs hys w; omega
      obtain ⟨u', v', e1, hxv⟩ := behind_mem hxs hys (by omega)
      obtain ⟨s', c, a, t, e2, h1, h2⟩ := descent (l := []) (b := y) (y := y) (Int.le_refl _) ⟨x, hxv, l1⟩
      have mem : (a, c) ∈ nxs s := nxs_mem.mpr (nx_mem.mpr ⟨h2, u' ++ s', t, by rw [e1, e2]; simp⟩)
      have := gr u (y, z) v s e hs1 _ mem
      simp only at this
      omega
  have mu : (x, y) ∈ u := by
    rcases (led_rt ok hs1 hm.1 hm.2.1 l1).mp rt with q | q
    · omega
    · exact q
  have i1 : pidx hs (x, y) < pidx hs (y, z) := by
    rw [eu, e, pidx_if, if_pos mu]
    exact (List.getElem?_eq_some_iff.mp (pidx_at mu)).1
  unfold wayW
  simp only
  rw [when_in w1 m1, when_in w2 m2]
  simp only [wayS]
  rw [if_neg (by omega), if_pos (by omega)]
theorem high_way {cs r : List Int} {hs : List (Int × Int)} {p : I3} (ok : RowOk cs) (hr : ledL cs (hs.map pr) = some r) (nn : nxs r = []) (gr : Great cs hs) (hm : p.1 ∈ cs ∧ p.2.1 ∈ cs ∧ p.2.2 ∈ cs) (l1 : p.1 < p.2.1) (l2 : p.2.1 < p.2.2) (w1 : pos cs p.2.1 < pos cs p.1) (w2 : pos cs p.2.2 < pos cs p.2.1) : wayW cs hs p = "high" := by
  obtain ⟨x, y, z⟩ := p
  simp only at hm l1 l2 w1 w2
  have m1 := whole_some ok hr nn hm.1 hm.2.1 l1 w1
  have m2 := whole_some ok hr nn hm.2.1 hm.2.2 l2 w2
  obtain ⟨u, v, e, nu, eu⟩ := split_at m1
  have hr' := hr
  rw [e, List.map_append] at hr'
  obtain ⟨s, hs1, hs2⟩ := ledL_pre hr'
  obtain ⟨oks, pm⟩ := ledL_ok ok hs1
  have rt : pos s y < pos s z := by
    by_cases q : pos s y < pos s z
    · exact q
    · exfalso
      have hzs := pm.mem_iff.mpr hm.2.2
      have hys := pm.mem_iff.mpr hm.2.1
      have ne : pos s y ≠ pos s z := fun w => by have := pos_inj hys hzs w; omega
      obtain ⟨u', v', e1, hyv⟩ := behind_mem hys hzs (by omega)
      obtain ⟨s', c, a, t, e2, h1, h2⟩ := descent2 (b := z) (y := y) l2 ⟨y, hyv, Int.le_refl _⟩
      have mem : (a, c) ∈ nxs s := nxs_mem.mpr (nx_mem.mpr ⟨h2, u' ++ s', t, by rw [e1, e2]; simp⟩)
      have := gr u (x, y) v s e hs1 _ mem
      simp only at this
      omega
  have mu : (y, z) ∈ u := by
    rcases (led_rt ok hs1 hm.2.1 hm.2.2 l2).mp rt with q | q
    · omega
    · exact q
  have i1 : pidx hs (y, z) < pidx hs (x, y) := by
    rw [eu, e, pidx_if, if_pos mu]
    exact (List.getElem?_eq_some_iff.mp (pidx_at mu)).1
  unfold wayW
  simp only
  rw [when_in w1 m1, when_in w2 m2]
  simp only [wayS]
  rw [if_neg (by omega), if_neg (by omega)]
theorem low_least {cs s : List Int} {u : List (Int × Int)} {p : Int × Int} (h : Least cs u) (hs : ledL cs (u.map pr) = some s) (hp : ∀ q ∈ nxs s, p.1 ≤ q.1) : Least cs (u ++ [p]) := by
  intro u' p' v' s' e h'
  rcases List.append_eq_append_iff.mp e with ⟨w, e1, e2⟩ | ⟨w, e1, e2⟩
  · cases w with
    | nil =>
      simp at e1 e2
      obtain ⟨rfl, rfl⟩ := e2
      subst e1
      rw [hs] at h'; cases h'; exact hp
    | cons a b => simp at e2
  · cases w with
    | nil =>
      simp at e1 e2
      obtain ⟨rfl, rfl⟩ := e2
      subst e1
      rw [hs] at h'; cases h'; exact hp
    | cons a b =>
      simp only [List.cons_append, List.cons.injEq] at e2
      obtain ⟨rfl, e2⟩ := e2
      exact h u' _ b s' e1 h'
theorem high_great {cs s : List Int} {u : List (Int × Int)} {p : Int × Int} (h : Great cs u) (hs : ledL cs (u.map pr) = some s) (hp : ∀ q ∈ nxs s, q.2 ≤ p.2) : Great cs (u ++ [p]) := by
  intro u' p' v' s' e h'
  rcases List.append_eq_append_iff.mp e with ⟨w, e1, e2⟩ | ⟨w, e1, e2⟩
  · cases w with
    | nil =>
      simp at e1 e2
      obtain ⟨rfl, rfl⟩ := e2
      subst e1
      rw [hs] at h'; cases h'; exact hp
    | cons a b => simp at e2
  · cases w with
    | nil =>
      simp at e1 e2
      obtain ⟨rfl, rfl⟩ := e2
      subst e1
      rw [hs] at h'; cases h'; exact hp
    | cons a b =>
      simp only [List.cons_append, List.cons.injEq] at e2
      obtain ⟨rfl, e2⟩ := e2
      exact h u' _ b s' e1 h'
theorem leP_trans {p q r : Int × Int} (h1 : leP p q = true) (h2 : leP q r = true) : leP p r = true := by
  unfold leP at *
  simp only [decide_eq_true_eq] at *
  omega
theorem leP_total (p q : Int × Int) : (leP p q || leP q p) = true := by
  unfold leP
  simp only [Bool.or_eq_true, decide_eq_true_eq]
  omega
theorem sortP_pair (ps : List (Int × Int)) : (ps.mergeSort leP).Pairwise fun p q => leP p q = true := List.pairwise_mergeSort (le := leP) (fun _ _ _ h1 h2 => leP_trans h1 h2) leP_total ps
theorem first_least {ps : List (Int × Int)} {f : Int × Int} (h : (ps.mergeSort leP)[0]? = some f) : ∀ q ∈ ps, f.1 ≤ q.1 := fun q hq => by
  have hq' := (List.mergeSort_perm ps leP).mem_iff.mpr hq
  have sp := sortP_pair ps
  cases e : ps.mergeSort leP with
  | nil => rw [e] at h; cases h
  | cons a r =>
    rw [e] at h hq' sp
    cases h
    rcases List.mem_cons.mp hq' with rfl | hq'
    · exact Int.le_refl _
    · have := (List.pairwise_cons.mp sp).1 q hq'
      unfold leP at this
      simp only [decide_eq_true_eq] at this
      omega
theorem last_great {ps : List (Int × Int)} {f : Int × Int} (h : (ps.mergeSort leP)[(ps.mergeSort leP).length - 1]? = some f) : ∀ q ∈ ps, q.1 ≤ f.1 := fun q hq => by
  have hq' := (List.mergeSort_perm ps leP).mem_iff.mpr hq
  have sp := sortP_pair ps
  generalize ps.mergeSort leP = l at *
  obtain ⟨hl, hf⟩ := List.getElem?_eq_some_iff.mp h
  obtain ⟨j, hj⟩ := List.getElem?_of_mem hq'
  obtain ⟨hj1, hj2⟩ := List.getElem?_eq_some_iff.mp hj
  by_cases e : j = l.length - 1
  · subst e; rw [hf] at hj2; rw [hj2]; exact Int.le_refl _
  · have := List.pairwise_iff_getElem.mp sp j (l.length - 1) hj1 hl (by omega)
    rw [hj2, hf] at this
    unfold leP at this
    simp only [decide_eq_true_eq] at this
    omega
end LW

namespace LW
open PySem PySem.Spec L2 TX

local macro_rules | `(tactic| trivial) => `(tactic| with_reducible first
  | refine xSeq ?_ | refine xSet ?_ | refine xSetK (by with_unfolding_all rfl) ?_ | refine xNext ?_ | refine xIfS ?_ | refine xDrop ?_ | refine xRet ?_ | refine xAsg ?_ | refine xAsK (by with_unfolding_all rfl) ?_ | refine xSub ?_ | refine xSbK (by with_unfolding_all rfl) (by with_unfolding_all rfl) (by with_unfolding_all rfl) ?_
  | refine xVarD (by with_unfolding_all rfl) ?_ | refine xVarZ (by with_unfolding_all rfl) ?_ | refine xVarN (by with_unfolding_all rfl) (by with_unfolding_all rfl) ?_ | refine xC ?_ | refine xOp ?_ | refine xI (by with_unfolding_all rfl) (by with_unfolding_all rfl) ?_ | refine xB (by with_unfolding_all rfl) (by with_unfolding_all rfl) ?_ | refine xEqI (by with_unfolding_all rfl) (by with_unfolding_all rfl) ?_ | refine xNeI (by with_unfolding_all rfl) (by with_unfolding_all rfl) ?_ | refine xNeg ?_ | refine xNegK ?_
  | refine xIc (by with_unfolding_all rfl) (by with_unfolding_all rfl) (by with_unfolding_all first | omega | exact ⟨by decide, by decide +kernel⟩) ?_
  | refine xT ?_ | refine xTK ?_ | refine xNot ?_ | refine xAnd ?_ | refine xOr ?_ | refine xAndV ?_ | refine xOrV ?_ | refine xNotV ?_ | refine xBK ?_ | refine xIf ?_ | refine xCh ?_ | refine xCh1 (by with_unfolding_all rfl) (by with_unfolding_all rfl) ?_ | refine xCh2 (by with_unfolding_all rfl) (by with_unfolding_all rfl) ?_
  | refine xIx ?_ | refine xIxA (by with_unfolding_all rfl) (by with_unfolding_all rfl) (by with_unfolding_all rfl) ?_ | refine xNil ?_ | refine xCons ?_ | refine xFn ?_ | refine xLst ?_ | refine xLstK (by with_unfolding_all rfl) ?_ | refine xTup ?_ | refine xTupK (by with_unfolding_all rfl) ?_ | refine xLen (by with_unfolding_all rfl) ?_ | refine xMax (by with_unfolding_all rfl) (by with_unfolding_all rfl) ?_ | refine xMin (by with_unfolding_all rfl) (by with_unfolding_all rfl) ?_
  | refine xYes (by with_unfolding_all rfl) ?_ | refine xNo (by with_unfolding_all rfl) ?_ | refine xIs (by with_unfolding_all rfl) (by with_unfolding_all rfl) ?_ | refine xCall ?_ | refine xM ?_ | refine xMA (by with_unfolding_all rfl) ?_ | refine xMD ?_ | refine xLc ?_ | refine xFor ?_ | refine xILst ?_ | refine xILK (by with_unfolding_all rfl) ?_ | refine xIR1 ?_ | refine xIEn ?_ | refine xSl ?_ | refine xNoPart ?_ | refine xPart ?_ | refine xPartK ?_ | refine xRevS ?_ | refine xCat ?_ | refine xLenSet ?_
  | refine xNm (by with_unfolding_all rfl) ?_ | refine xGTup (by with_unfolding_all rfl) ?_ | refine xGsCons ?_ | refine xGsNil ?_ | refine xYesT ?_ | refine xDg1 ?_ | refine xDp1 ?_ | refine xDg2 ?_ | refine xDp2 ?_ | refine xPar ?_ | refine xPaK (by with_unfolding_all rfl) (by with_unfolding_all rfl) ?_ | refine xRevT ?_ | refine xRevTK ?_ | refine xDi1 ?_ | refine xDi2 ?_ | refine xITup ?_ | refine xITupK ?_ | refine xIZip ?_ | refine xIR2 ?_ | refine xIsNK (by with_unfolding_all rfl) ?_ | refine xRev2 ?_ | refine xListR ?_ | refine xSlT ?_ | refine xSlTK ?_ | refine xGt1 ?_ | refine xGt2 ?_ | refine xGtA (by with_unfolding_all rfl) ?_ | refine xGtD ?_ | refine xRep ?_ | refine xDcL ?_ | refine xDc ?_ | refine xDpl ?_ | refine xGe1 ?_ | refine xGe2 ?_ | refine xIe1 ?_ | refine xIe2 ?_ | refine xGLst (by with_unfolding_all rfl) ?_ | refine xIsB (by with_unfolding_all rfl) (by with_unfolding_all rfl) ?_ | refine xVarL (by with_unfolding_all rfl) ?_ | refine xIDc ?_ | refine xIDcK ?_ | refine xLc2 ?_ | refine xGd1 ?_ | refine xGd2 ?_ | refine xGdA (by with_unfolding_all rfl) ?_ | refine xGdD ?_ | refine xDcT ?_ | refine xClip ?_ | refine xAppD ?_ | refine xAppD11 ?_ | refine xAppD21 ?_)

/-! ### crossing threes, wrong pairs, rows behind -/
def S_crossing_threes : SpT := SpP (fun ts => ∃ cs, ts = [rowD cs] ∧ RowOk cs) fun ts t _ => ∀ cs, ts = [rowD cs] → t = tripL (dt cs)
def S_wrong_pairs : SpT := S_wrong_in
def S_row_behind : SpT := SpP (fun ts => ∃ cs x r, ts = [rowD cs, .d x] ∧ RowOk cs ∧ ledD cs x = some r) fun ts t _ => ∀ cs x r, ts = [rowD cs, .d x] → ledD cs x = some r → t = intL r
theorem mS_crossing_threes : MonSp S_crossing_threes := mon_SpP
theorem mS_wrong_pairs : MonSp S_wrong_pairs := mon_SpP
theorem mS_row_behind : MonSp S_row_behind := mon_SpP
abbrev N_crossing_threes : List Str := ["row", "found", "at", "greatest", "later", "card", "place", "middle", "least"]
def w_crossing_threes : TwS := (wSeq (wDrop (wCall [] 1 S_need_row (wCons (wVar 0) wNil)))
    (wSeq (wSet 1 (wLst wNil))
    (wSeq (wFor (wIEn (wCons (wVar 0) wNil)) (wGTup 2 (wGsCons (wNm 2) (wGsCons (wNm 3) wGsNil))) (wSeq (wSet 4 (wLc (wILst (wSl (wVar 0) (wPart (wOp (fI (· + ·)) (wVar 2) (wC (.d (.int 1))))) wNoPart)) (wNm 5) (wT (wOp (fB fun i j => decide (i < j)) (wVar 5) (wVar 3))) (wVar 5) [5]))
    (wFrz 4 (wFor (wIEn (wCons (wVar 4) wNil)) (wGTup 2 (wGsCons (wNm 6) (wGsCons (wNm 7) wGsNil))) (wDrop (wM isLst kExt (wVar 1) (wCons (wLc (wILst (wSl (wVar 4) (wPart (wOp (fI (· + ·)) (wVar 6) (wC (.d (.int 1))))) wNoPart)) (wNm 8) (wT (wOp (fB fun i j => decide (i < j)) (wVar 8) (wVar 7))) (wTup (wCons (wVar 8) (wCons (wVar 7) (wCons (wVar 3) wNil)))) [8]) wNil)))))))
    (wRet (wFn kSort (wCons (wVar 1) wNil))))))
abbrev N_wrong_pairs : List Str := ["row"]
def w_wrong_pairs : TwS := (wSeq (wDrop (wCall [] 1 S_need_row (wCons (wVar 0) wNil)))
    (wRet (wCall [] 1 S_wrong_in (wCons (wVar 0) wNil))))
abbrev N_row_behind : List Str := ["row", "history"]
def w_row_behind : TwS := (wSeq (wDrop (wCall [] 2 S_need_history (wCons (wVar 0) (wCons (wVar 1) wNil))))
    (wRet (wCall [] 2 S_led_by (wCons (wVar 0) (wCons (wVar 1) wNil)))))
theorem blk_trip' (c m : Int) (xs : List Int) : ((List.filter (fun x => match x with | .int z => decide (z < m) | _ => false) (xs.map PyData.int)).map fun x => PyData.tuple [x, .int m, .int c]) = (((xs.filter fun x => decide (x < m)).map fun x => (x, m)).map fun p => (p.1, p.2, c)).map tr3 := by
  rw [List.filter_map, List.map_map, List.map_map, List.map_map]; rfl
theorem blk_less' (c : Int) (xs : List Int) : ((List.filter (fun x => match x with | .int z => decide (z < c) | _ => false) (xs.map PyData.int)).map fun x => x) = (xs.filter fun x => decide (x < c)).map PyData.int := by
  rw [List.filter_map, List.map_id']; rfl
theorem pl_crossing_threes : PlD S_crossing_threes w_crossing_threes N_crossing_threes := by
  rintro ts Q Ex ⟨⟨cs, rfl, ok⟩, q⟩
  have wl := Nat.le_trans (wt_len cs) (len3 ok.2.2.2)
  have l24 := ok.2.2.2
  unfold w_crossing_threes
  repeat trivial
  refine xIsRow ok ?_
  repeat trivial
  refine xIEK rfl ?_
  refine xFoK (fun i ρ => ∃ (fs : List I3) (o2 o3 o6 o7 : Option PyData) (x4 : Option T), ρ = [some (rowD cs), some (tripL fs), o2.map T.d, o3.map T.d, x4, none, o6.map T.d, o7.map T.d, none] ∧ fs ++ wt (cs.drop i) = wt cs) ⟨[], none, none, none, none, none, rfl, rfl⟩ ?_ ?_
  · rintro i x ρ2 e ⟨fs, o2, o3, o6, o7, x4, rfl, hf⟩
    obtain ⟨y, e1, rfl⟩ := enumD_get e
    rw [List.getElem?_map] at e1
    cases e2 : cs[i]? with
    | none => rw [e2] at e1; cases e1
    | some c =>
      rw [e2] at e1; cases e1
      obtain ⟨hi, hci⟩ := List.getElem?_eq_some_iff.mp e2
      have hd : cs.drop i = c :: cs.drop (i + 1) := by rw [List.drop_eq_getElem_cons hi, hci]
      rw [hd, show wt (c :: cs.drop (i + 1)) = (wp ((cs.drop (i + 1)).filter fun x => decide (x < c))).map (fun p => (p.1, p.2, c)) ++ wt (cs.drop (i + 1)) from rfl] at hf
      repeat trivial
      refine xNm (noNd_o rfl) ?_
      repeat trivial
      refine xNm (noNd_o rfl) ?_
      repeat trivial
      refine xSlK rfl ?_
      rw [cut_from (by omega), show ((i : Int) + 1).toNat = i + 1 by omega]
      refine xILK flat_map ?_
      refine xLcM (fun x => match x with | .int z => decide (z < c) | _ => false) (fun x => x) rfl (by simp; omega) (by simp) (fun x hx Y Z hY hZ => ?_) ?_
      · obtain ⟨z, hz, rfl⟩ := List.mem_map.mp hx
        repeat trivial
        refine ⟨noNd1 rfl, xIte (fun h => ?_) fun h => hZ h⟩
        repeat trivial
        exact ⟨noNd1 rfl, _, rfl, hY h⟩
      · rw [blk_less']
        generalize hlt : ((cs.drop (i + 1)).filter fun x => decide (x < c)) = lt at hf
        have llt : lt.length ≤ 24 := by
          rw [← hlt]
          have := List.length_filter_le (fun x => decide (x < c)) (cs.drop (i + 1))
          rw [List.length_drop] at this
          omega
        have hlen := congrArg List.length hf
        simp only [List.length_append, List.length_map] at hlen
        repeat trivial
        refine xFrz rfl (erase_intL (cs := lt)) ?_
        repeat trivial
        refine xIEK rfl ?_
        refine xFoK (fun j ρ => ∃ (gs : List I3) (o6 o7 : Option PyData), ρ = [some (rowD cs), some (tripL gs), some (.d (.int i)), some (.d (.int c)), some (rowD lt), none, o6.map T.d, o7.map T.d, none] ∧ gs ++ (wp (lt.drop j)).map (fun p => (p.1, p.2, c)) = fs ++ (wp lt).map (fun p => (p.1, p.2, c))) ⟨fs, o6, o7, rfl, rfl⟩ ?_ ?_
        · rintro j x ρ2 e' ⟨gs, o6, o7, rfl, hg⟩
          obtain ⟨y, e3, rfl⟩ := enumD_get e'
          rw [List.getElem?_map] at e3
          cases e4 : lt[j]? with
          | none => rw [e4] at e3; cases e3
          | some m =>
            rw [e4] at e3; cases e3
            obtain ⟨hj, hcj⟩ := List.getElem?_eq_some_iff.mp e4
            have hdj : lt.drop j = m :: lt.drop (j + 1) := by rw [List.drop_eq_getElem_cons hj, hcj]
            rw [hdj, show wp (m :: lt.drop (j + 1)) = ((lt.drop (j + 1)).filter fun x => decide (x < m)).map (fun x => (x, m)) ++ wp (lt.drop (j + 1)) from rfl, List.map_append] at hg
            have hlen2 := congrArg List.length hg
            simp only [List.length_append, List.length_map] at hlen2
            repeat trivial
            refine xNm (noNd_o rfl) ?_
            repeat trivial
            refine xNm (noNd_o rfl) ?_
            repeat trivial
            refine xSlK rfl ?_
            rw [cut_from (by omega), show ((j : Int) + 1).toNat = j + 1 by omega]
            refine xILK flat_map ?_
            refine xLcM (fun x => match x with | .int z => decide (z < m) | _ => false) (fun x => .tuple [x, .int m, .int c]) rfl (by simp; omega) (by simp) (fun x hx Y Z hY hZ => ?_) ?_
            · obtain ⟨z, hz, rfl⟩ := List.mem_map.mp hx
              repeat trivial
              refine ⟨noNd1 rfl, xIte (fun h => ?_) fun h => hZ h⟩
              repeat trivial
              exact ⟨noNd1 rfl, _, rfl, hY h⟩
            · rw [blk_trip']
              repeat trivial
              refine xExt rfl (allD_map _) ?_ ⟨gs ++ (((lt.drop (j + 1)).filter fun x => decide (x < m)).map (fun x => (x, m))).map (fun p => (p.1, p.2, c)), some (.int j), some (.int m), ?_, ?_⟩
              · simp only [List.length_map]
                exact lt16k (by omega)
              · simp [tripL, TX.putAt, putT]
              · rw [List.append_assoc]; exact hg
        · rintro ρ2 ⟨gs, o6, o7, rfl, hg⟩
          rw [List.drop_of_length_le (by simp [enumD])] at hg
          refine ⟨gs, some (.int i), some (.int c), o6, o7, _, rfl, ?_⟩
          have hg' : gs = fs ++ (wp lt).map (fun p => (p.1, p.2, c)) := by simpa [wp] using hg
          rw [hg', List.append_assoc]; exact hf
  · rintro ρ2 ⟨fs, o2, o3, o6, o7, x4, rfl, hf⟩
    have hf' : fs = wt cs := by
      rw [List.drop_of_length_le (by simp [enumD])] at hf
      simpa [wt] using hf
    subst hf'
    repeat trivial
    refine xSort (allD_map _) (alike_trs _) (sortable_trs _) (depth_trs _) ?_
    rw [sortT, cross_due ok.2.1]
    refine ⟨rfl, q _ _ fun cs' e => ?_⟩
    cases rowD1_inj e
    rfl
theorem pl_wrong_pairs : PlD S_wrong_pairs w_wrong_pairs N_wrong_pairs := by
  rintro ts Q Ex ⟨⟨cs, rfl, ok⟩, q⟩
  unfold w_wrong_pairs
  repeat trivial
  refine xIsRow ok ?_
  repeat trivial
  refine xWrongIn ok ?_
  exact ⟨rfl, q _ _ fun cs' e => by cases rowD1_inj e; rfl⟩
theorem pl_row_behind : PlD S_row_behind w_row_behind N_row_behind := by
  rintro ts Q Ex ⟨⟨cs, x, r, rfl, ok, hr⟩, q⟩
  unfold w_row_behind
  repeat trivial
  refine xNeedHist ok hr ?_
  repeat trivial
  refine xLed ok hr rfl rfl ?_
  refine ⟨rfl, q _ _ fun cs' y r' e e2 => ?_⟩
  obtain ⟨rfl, rfl⟩ := rows2_inj e
  rw [hr] at e2; cases e2; rfl
theorem xRowBehind {ρ : Rho} {Q : T → Rho → Prop} {E : ExK} {cs r : List Int} {x : PyData} {ts : List T} (ok : RowOk cs) (hr : ledD cs x = some r) (h : argsF [] ρ false 0 ts = some [rowD cs, .d x]) (ha : apartB ts = true) (q : Q (intL r) ρ) : caK [] 2 S_row_behind ts ρ Q E :=
  xCaP h rfl ha ⟨cs, x, r, rfl, ok, hr⟩ fun t ρ' e => by rw [e cs x r rfl hr]; exact ⟨rfl, q⟩
theorem xWrongPairs {ρ : Rho} {Q : T → Rho → Prop} {E : ExK} {cs : List Int} (ok : RowOk cs) (q : Q (pairL (dp cs (sI cs))) ρ) : caK [] 1 S_wrong_pairs [rowD cs] ρ Q E :=
  xCaP rfl rfl rfl ⟨cs, rfl, ok⟩ fun t ρ' e => by rw [e cs rfl]; exact ⟨rfl, q⟩
theorem xCrossing {ρ : Rho} {Q : T → Rho → Prop} {E : ExK} {cs : List Int} (ok : RowOk cs) (q : Q (tripL (dt cs)) ρ) : caK [] 1 S_crossing_threes [rowD cs] ρ Q E :=
  xCaP rfl rfl rfl ⟨cs, rfl, ok⟩ fun t ρ' e => by rw [e cs rfl]; exact ⟨rfl, q⟩
theorem dt_iff {cs : List Int} (h : RowOk cs) {p : I3} : p ∈ dt cs ↔ (p.1 ∈ cs ∧ p.2.1 ∈ cs ∧ p.2.2 ∈ cs) ∧ p.1 < p.2.1 ∧ p.2.1 < p.2.2 ∧ pos cs p.2.1 < pos cs p.1 ∧ pos cs p.2.2 < pos cs p.2.1 := by
  unfold dt
  rw [List.mem_filter, th_mem (sI_sorted cs h.2.1), (sI_perm cs).mem_iff, (sI_perm cs).mem_iff, (sI_perm cs).mem_iff]
  simp only [Bool.and_eq_true, decide_eq_true_eq]
  constructor
  · rintro ⟨⟨a, b, c⟩, d, e⟩; exact ⟨a, b, c, e, d⟩
  · rintro ⟨a, b, c, e, d⟩; exact ⟨⟨a, b, c⟩, d, e⟩
end LW

namespace LW
open PySem PySem.Spec L2 TX

local macro_rules | `(tactic| trivial) => `(tactic| with_reducible first
  | refine xSeq ?_ | refine xSet ?_ | refine xSetK (by with_unfolding_all rfl) ?_ | refine xNext ?_ | refine xIfS ?_ | refine xDrop ?_ | refine xRet ?_ | refine xAsg ?_ | refine xAsK (by with_unfolding_all rfl) ?_ | refine xSub ?_ | refine xSbK (by with_unfolding_all rfl) (by with_unfolding_all rfl) (by with_unfolding_all rfl) ?_
  | refine xVarD (by with_unfolding_all rfl) ?_ | refine xVarZ (by with_unfolding_all rfl) ?_ | refine xVarN (by with_unfolding_all rfl) (by with_unfolding_all rfl) ?_ | refine xC ?_ | refine xOp ?_ | refine xI (by with_unfolding_all rfl) (by with_unfolding_all rfl) ?_ | refine xB (by with_unfolding_all rfl) (by with_unfolding_all rfl) ?_ | refine xEqI (by with_unfolding_all rfl) (by with_unfolding_all rfl) ?_ | refine xNeI (by with_unfolding_all rfl) (by with_unfolding_all rfl) ?_ | refine xNeg ?_ | refine xNegK ?_
  | refine xIc (by with_unfolding_all rfl) (by with_unfolding_all rfl) (by with_unfolding_all first | omega | exact ⟨by decide, by decide +kernel⟩) ?_
  | refine xT ?_ | refine xTK ?_ | refine xNot ?_ | refine xAnd ?_ | refine xOr ?_ | refine xAndV ?_ | refine xOrV ?_ | refine xNotV ?_ | refine xBK ?_ | refine xIf ?_ | refine xCh ?_ | refine xCh1 (by with_unfolding_all rfl) (by with_unfolding_all rfl) ?_ | refine xCh2 (by with_unfolding_all rfl) (by with_unfolding_all rfl) ?_
  | refine xIx ?_ | refine xIxA (by with_unfolding_all rfl) (by with_unfolding_all rfl) (by with_unfolding_all rfl) ?_ | refine xNil ?_ | refine xCons ?_ | refine xFn ?_ | refine xLst ?_ | refine xLstK (by with_unfolding_all rfl) ?_ | refine xTup ?_ | refine xTupK (by with_unfolding_all rfl) ?_ | refine xLen (by with_unfolding_all rfl) ?_ | refine xMax (by with_unfolding_all rfl) (by with_unfolding_all rfl) ?_ | refine xMin (by with_unfolding_all rfl) (by with_unfolding_all rfl) ?_
  | refine xYes (by with_unfolding_all rfl) ?_ | refine xNo (by with_unfolding_all rfl) ?_ | refine xIs (by with_unfolding_all rfl) (by with_unfolding_all rfl) ?_ | refine xCall ?_ | refine xM ?_ | refine xMA (by with_unfolding_all rfl) ?_ | refine xMD ?_ | refine xLc ?_ | refine xFor ?_ | refine xILst ?_ | refine xILK (by with_unfolding_all rfl) ?_ | refine xIR1 ?_ | refine xIEn ?_ | refine xSl ?_ | refine xNoPart ?_ | refine xPart ?_ | refine xPartK ?_ | refine xRevS ?_ | refine xCat ?_ | refine xLenSet ?_
  | refine xNm (by with_unfolding_all rfl) ?_ | refine xGTup (by with_unfolding_all rfl) ?_ | refine xGsCons ?_ | refine xGsNil ?_ | refine xYesT ?_ | refine xDg1 ?_ | refine xDp1 ?_ | refine xDg2 ?_ | refine xDp2 ?_ | refine xPar ?_ | refine xPaK (by with_unfolding_all rfl) (by with_unfolding_all rfl) ?_ | refine xRevT ?_ | refine xRevTK ?_ | refine xDi1 ?_ | refine xDi2 ?_ | refine xITup ?_ | refine xITupK ?_ | refine xIZip ?_ | refine xIR2 ?_ | refine xIsNK (by with_unfolding_all rfl) ?_ | refine xRev2 ?_ | refine xListR ?_ | refine xSlT ?_ | refine xSlTK ?_ | refine xGt1 ?_ | refine xGt2 ?_ | refine xGtA (by with_unfolding_all rfl) ?_ | refine xGtD ?_ | refine xRep ?_ | refine xDcL ?_ | refine xDc ?_ | refine xDpl ?_ | refine xGe1 ?_ | refine xGe2 ?_ | refine xIe1 ?_ | refine xIe2 ?_ | refine xGLst (by with_unfolding_all rfl) ?_ | refine xIsB (by with_unfolding_all rfl) (by with_unfolding_all rfl) ?_ | refine xVarL (by with_unfolding_all rfl) ?_ | refine xIDc ?_ | refine xIDcK ?_ | refine xLc2 ?_ | refine xGd1 ?_ | refine xGd2 ?_ | refine xGdA (by with_unfolding_all rfl) ?_ | refine xGdD ?_ | refine xDcT ?_ | refine xClip ?_ | refine xAppD ?_ | refine xAppD11 ?_ | refine xAppD21 ?_)

/-! ### the law of histories in parts -/
def S_law_ended : SpT := SpP (fun ts => ∃ cs hi, ts = [rowD cs, .d (.bool hi)] ∧ RowOk cs) fun ts t _ => ∀ cs hi, ts = [rowD cs, .d (.bool hi)] → ∃ hs r, t = pairL hs ∧ ledL cs (hs.map pr) = some r ∧ nxs r = [] ∧ (hi = false → Least cs hs) ∧ (hi = true → Great cs hs)
theorem mS_law_ended : MonSp S_law_ended := mon_SpP
theorem atFirst {ps : List (Int × Int)} {f : Int × Int} (h : ps[0]? = some f) : atI (ps.map pr) 0 = some (pr f) := at_of (by decide) (by rw [List.getElem?_map]; rw [show (0 : Int).toNat = 0 from rfl, h]; rfl)
theorem atLastP {ps : List (Int × Int)} {f : Int × Int} (h : ps[ps.length - 1]? = some f) : atI (ps.map pr) (-1) = some (pr f) := by
  have hl := (List.getElem?_eq_some_iff.mp h).1
  refine atI_of (j := ps.length - 1) ?_ (by rw [List.getElem?_map, h]; rfl)
  unfold ixN
  rw [List.length_map, if_neg (by omega), if_pos (by omega)]
  congr 1; omega
abbrev N_law_ended : List Str := ["_law_here", "_law_is_high", "_law_found", "_law_last", "_law_pair"]
def w_law_ended : TwS := (wSeq (wSet 2 (wLst wNil))
    (wSeq (wWhile (wT (wOp (fNe) (wCall [] 1 S_law_next (wCons (wVar 0) wNil)) (wLst wNil))) (wSeq (wSet 3 (wIx (wFn kSort (wCons (wLc (wILst (wCall [] 1 S_law_next (wCons (wVar 0) wNil))) (wNm 4) wYes (wRevT (wVar 4)) [4]) wNil)) (wNeg (wC (.d (.int 1))))))
    (wSeq (wDrop (wM isLst kApp (wVar 2) (wCons (wIx (wLst (wCons (wIx (wCall [] 1 S_law_next (wCons (wVar 0) wNil)) (wC (.d (.int 0)))) (wCons (wRevT (wVar 3)) wNil))) (wFn (k1 fInt) (wCons (wVar 1) wNil))) wNil)))
    (wSet 0 (wCall [] 2 S_law_behind (wCons (wVar 0) (wCons (wSl (wVar 2) (wPart (wNeg (wC (.d (.int 1))))) wNoPart) wNil)))))))
    (wRetV 2)))
theorem pl_law_ended : PlD S_law_ended w_law_ended N_law_ended := by
  rintro ts Q Ex ⟨⟨cs, hi, rfl, ok⟩, q⟩
  unfold w_law_ended
  repeat trivial
  refine xWhile (fun ρ => ∃ (x0 : T) (r : List Int) (hs : List (Int × Int)) (o3 : Option PyData), ρ = [some x0, some (.d (.bool hi)), some (pairL hs), o3.map T.d, none] ∧ (x0 = rowD r ∨ x0 = intL r) ∧ RowOk r ∧ ledL cs (hs.map pr) = some r ∧ (hi = false → Least cs hs) ∧ (hi = true → Great cs hs))
    (fun ρ => match ρ[2]? with | some (some (T.l ts)) => 1000 - ts.length | _ => 0) ⟨_, cs, [], none, rfl, .inl rfl, ok, rfl, fun _ u p v s e => by simp at e, fun _ u p v s e => by simp at e⟩ ?_
  rintro ρ1 ⟨x0, r, hs, o3, rfl, hx, okr, hr, gl, gg⟩
  have r24 := okr.2.2.2
  have nl2 := nxs_len r
  have hl := led_len ok hr
  rcases hx with rfl | rfl
  all_goals
    repeat trivial
    refine xNext1 (vu := true) okr (by first | exact argD rfl rfl rfl argNil | exact argV rfl rfl erase_intL argNil) rfl ?_
    repeat trivial
    refine xNeP0 erase_pairL rfl ?_
    repeat trivial
    refine xIte (fun h2 => ?_) fun h2 => ?_
    · have ne : nxs r ≠ [] := by simpa using h2
      have nl : 0 < (nxs r).length := List.length_pos_iff.mpr ne
      repeat trivial
      refine xNext1 (vu := true) okr (by first | exact argD rfl rfl rfl argNil | exact argV rfl rfl erase_intL argNil) rfl ?_
      repeat trivial
      refine xILK flat_map ?_
      refine xLcM (fun _ => true) (fun x => match x with | .tuple ds => .tuple ds.reverse | y => y) (noNd_o (x := none) rfl) (by simp; omega) (by simp) (fun x hx Y Z hY _ => ?_) ?_
      · obtain ⟨p, hp, rfl⟩ := List.mem_map.mp hx
        refine xYesT ⟨noNd1 rfl, xYes rfl ?_⟩
        simp only [pr]
        repeat trivial
        exact ⟨noNd1 rfl, _, rfl, hY rfl⟩
      · have er : ((List.filter (fun _ => true) ((nxs r).map pr)).map fun x => match x with | .tuple ds => PyData.tuple ds.reverse | y => y) = ((nxs r).map Prod.swap).map pr := by
          rw [List.filter_eq_self.mpr (fun _ _ => rfl), List.map_map, List.map_map]; rfl
        rw [er]
        repeat trivial
        refine xSort (allD_map _) (alike_prs _) (sortable_prs _) (depth_prs _) ?_
        rw [sortP]
        repeat trivial
        have ll : (((nxs r).map Prod.swap).mergeSort leP).length = (nxs r).length := by rw [(List.mergeSort_perm _ leP).length_eq, List.length_map]
        obtain ⟨l, el⟩ : ∃ l, (((nxs r).map Prod.swap).mergeSort leP)[(((nxs r).map Prod.swap).mergeSort leP).length - 1]? = some l := ⟨_, List.getElem?_eq_getElem (by omega)⟩
        have hl' : (l.2, l.1) ∈ nxs r := by
          have := (List.mergeSort_perm ((nxs r).map Prod.swap) leP).mem_iff.mp (List.mem_of_getElem? el)
          obtain ⟨p, hp, rfl⟩ := List.mem_map.mp this
          exact hp
        have lg : ∀ q ∈ nxs r, q.2 ≤ l.1 := fun q hq => last_great el q.swap (List.mem_map.mpr ⟨q, hq, rfl⟩)
        refine xIxL (atLastP el) ?_
        repeat trivial
        refine xNext1 (vu := true) okr (by first | exact argD rfl rfl rfl argNil | exact argV rfl rfl erase_intL argNil) rfl ?_
        repeat trivial
        obtain ⟨f, ef⟩ : ∃ f, (nxs r)[0]? = some f := ⟨_, List.getElem?_eq_getElem nl⟩
        have fl : ∀ q ∈ nxs r, f.1 ≤ q.1 := fun q hq => first_least (ps := nx r) ef q (nxs_mem.mp hq)
        have fm : f ∈ nxs r := List.mem_of_getElem? ef
        refine xIxL (atFirst ef) ?_
        simp only [pr]
        repeat trivial
        refine xInt rfl ?_
        obtain ⟨t, ht, et, t1, t2⟩ : ∃ t ∈ nxs r, atI [pr f, pr (l.2, l.1)] (if hi = true then 1 else 0) = some (pr t) ∧ (hi = false → ∀ q ∈ nxs r, t.1 ≤ q.1) ∧ (hi = true → ∀ q ∈ nxs r, q.2 ≤ t.2) := by
          cases hi with
          | false => exact ⟨f, fm, rfl, fun _ => fl, fun z => by cases z⟩
          | true => exact ⟨(l.2, l.1), hl', rfl, (fun z => by cases z), fun _ => lg⟩
        refine xIxL et ?_
        repeat trivial
        refine xApp (ds := hs.map pr) rfl rfl (small1000 (by simp; omega)) ?_
        repeat trivial
        refine xSlK (ds := hs.map pr ++ [pr t]) (allD_map _) ?_
        rw [cut_last]
        have mt := (may_nxs okr).mpr ht
        have okr' := swD_ok okr mt
        have led' : ledL cs ((hs ++ [t]).map pr) = some (swD r (pr t)) := by
          rw [List.map_append, ledL_app, hr]
          simp only [Option.bind_some, List.map_cons, List.map_nil, ledL]
          rw [if_pos mt]
        repeat trivial
        refine xBehind (vu := true) (hs := [t]) okr (r := swD r (pr t)) (by simp only [List.map_cons, List.map_nil, ledL]; rw [if_pos mt]) (by first | exact argD rfl rfl rfl (argD rfl rfl rfl argNil) | exact argV rfl rfl erase_intL (argD rfl rfl rfl argNil)) rfl ?_
        repeat trivial
        refine ⟨⟨intL (swD r (pr t)), swD r (pr t), hs ++ [t], some (pr l), ?_, .inr rfl, okr', led', fun z => low_least (gl z) hr (t1 z), fun z => high_great (gg z) hr (t2 z)⟩, ?_⟩
        · simp [pairL, intL, TX.putAt, putT]
          first | rfl | exact ⟨rfl, rfl⟩
        · simp [pairL, intL, TX.putAt, putT]; omega
    · have nn : nxs r = [] := by simpa using h2
      repeat trivial
      refine xRetV rfl ⟨rfl, q _ _ fun cs' hi' e => ?_⟩
      simp only [List.cons.injEq, T.d.injEq, PyData.bool.injEq, and_true] at e
      cases rowD_inj e.1
      obtain ⟨_, rfl⟩ := e
      exact ⟨hs, r, rfl, hr, nn, gl, gg⟩
end LW

namespace LW
open PySem PySem.Spec L2 TX

local macro_rules | `(tactic| trivial) => `(tactic| with_reducible first
  | refine xSeq ?_ | refine xSet ?_ | refine xSetK (by with_unfolding_all rfl) ?_ | refine xNext ?_ | refine xIfS ?_ | refine xDrop ?_ | refine xRet ?_ | refine xAsg ?_ | refine xAsK (by with_unfolding_all rfl) ?_ | refine xSub ?_ | refine xSbK (by with_unfolding_all rfl) (by with_unfolding_all rfl) (by with_unfolding_all rfl) ?_
  | refine xVarD (by with_unfolding_all rfl) ?_ | refine xVarZ (by with_unfolding_all rfl) ?_ | refine xVarN (by with_unfolding_all rfl) (by with_unfolding_all rfl) ?_ | refine xC ?_ | refine xOp ?_ | refine xI (by with_unfolding_all rfl) (by with_unfolding_all rfl) ?_ | refine xB (by with_unfolding_all rfl) (by with_unfolding_all rfl) ?_ | refine xEqI (by with_unfolding_all rfl) (by with_unfolding_all rfl) ?_ | refine xNeI (by with_unfolding_all rfl) (by with_unfolding_all rfl) ?_ | refine xNeg ?_ | refine xNegK ?_
  | refine xIc (by with_unfolding_all rfl) (by with_unfolding_all rfl) (by with_unfolding_all first | omega | exact ⟨by decide, by decide +kernel⟩) ?_
  | refine xT ?_ | refine xTK ?_ | refine xNot ?_ | refine xAnd ?_ | refine xOr ?_ | refine xAndV ?_ | refine xOrV ?_ | refine xNotV ?_ | refine xBK ?_ | refine xIf ?_ | refine xCh ?_ | refine xCh1 (by with_unfolding_all rfl) (by with_unfolding_all rfl) ?_ | refine xCh2 (by with_unfolding_all rfl) (by with_unfolding_all rfl) ?_
  | refine xIx ?_ | refine xIxA (by with_unfolding_all rfl) (by with_unfolding_all rfl) (by with_unfolding_all rfl) ?_ | refine xNil ?_ | refine xCons ?_ | refine xFn ?_ | refine xLst ?_ | refine xLstK (by with_unfolding_all rfl) ?_ | refine xTup ?_ | refine xTupK (by with_unfolding_all rfl) ?_ | refine xLen (by with_unfolding_all rfl) ?_ | refine xMax (by with_unfolding_all rfl) (by with_unfolding_all rfl) ?_ | refine xMin (by with_unfolding_all rfl) (by with_unfolding_all rfl) ?_
  | refine xYes (by with_unfolding_all rfl) ?_ | refine xNo (by with_unfolding_all rfl) ?_ | refine xIs (by with_unfolding_all rfl) (by with_unfolding_all rfl) ?_ | refine xCall ?_ | refine xM ?_ | refine xMA (by with_unfolding_all rfl) ?_ | refine xMD ?_ | refine xLc ?_ | refine xFor ?_ | refine xILst ?_ | refine xILK (by with_unfolding_all rfl) ?_ | refine xIR1 ?_ | refine xIEn ?_ | refine xSl ?_ | refine xNoPart ?_ | refine xPart ?_ | refine xPartK ?_ | refine xRevS ?_ | refine xCat ?_ | refine xLenSet ?_
  | refine xNm (by with_unfolding_all rfl) ?_ | refine xGTup (by with_unfolding_all rfl) ?_ | refine xGsCons ?_ | refine xGsNil ?_ | refine xYesT ?_ | refine xDg1 ?_ | refine xDp1 ?_ | refine xDg2 ?_ | refine xDp2 ?_ | refine xPar ?_ | refine xPaK (by with_unfolding_all rfl) (by with_unfolding_all rfl) ?_ | refine xRevT ?_ | refine xRevTK ?_ | refine xDi1 ?_ | refine xDi2 ?_ | refine xITup ?_ | refine xITupK ?_ | refine xIZip ?_ | refine xIR2 ?_ | refine xIsNK (by with_unfolding_all rfl) ?_ | refine xRev2 ?_ | refine xListR ?_ | refine xSlT ?_ | refine xSlTK ?_ | refine xGt1 ?_ | refine xGt2 ?_ | refine xGtA (by with_unfolding_all rfl) ?_ | refine xGtD ?_ | refine xRep ?_ | refine xDcL ?_ | refine xDc ?_ | refine xDpl ?_ | refine xGe1 ?_ | refine xGe2 ?_ | refine xIe1 ?_ | refine xIe2 ?_ | refine xGLst (by with_unfolding_all rfl) ?_ | refine xIsB (by with_unfolding_all rfl) (by with_unfolding_all rfl) ?_ | refine xVarL (by with_unfolding_all rfl) ?_ | refine xIDc ?_ | refine xIDcK ?_ | refine xLc2 ?_ | refine xGd1 ?_ | refine xGd2 ?_ | refine xGdA (by with_unfolding_all rfl) ?_ | refine xGdD ?_ | refine xDcT ?_ | refine xClip ?_ | refine xAppD ?_ | refine xAppD11 ?_ | refine xAppD21 ?_)

def S_law_parts_right : SpT := SpP (fun ts => ∃ cs hs rest r e, ts = [rowD cs, .d (pairsD hs), .d (pairsD rest)] ∧ RowOk cs ∧ ledL cs (hs.map pr) = some r ∧ ledL r (rest.map pr) = some e) fun _ t _ => t = .d (.bool true)
def Wish (r : List Int) (rest : List (Int × Int)) (w : Str) : Prop := w = "any" ∨ ((w = "low" ∨ w = "high") ∧ ∀ p ∈ dt r, wayW r rest p = w)
def S_law_ways_right : SpT := SpP (fun ts => ∃ cs hs rest r e w, ts = [rowD cs, .d (pairsD hs), .d (pairsD rest), .d (.str w)] ∧ RowOk cs ∧ ledL cs (hs.map pr) = some r ∧ ledL r (rest.map pr) = some e ∧ Wish r rest w) fun _ t _ => t = .d (.bool true)
theorem mS_law_parts_right : MonSp S_law_parts_right := mon_SpP
theorem mS_law_ways_right : MonSp S_law_ways_right := mon_SpP
theorem look_bk {hs : List (Int × Int)} : ∀ {ks : List Int} {c : Int}, c ∈ ks → lookD (bkK ks hs) (.inl c) = some (.list ((bookOf hs c).map PyData.int))
  | k :: ks, c, h => by
    unfold lookD bkK
    by_cases e : k = c
    · subst e; simp [List.find?_cons]
    · have h' := (List.mem_cons.mp h).resolve_left fun z => e z.symm
      have := look_bk (hs := hs) h'
      unfold lookD bkK at this
      rw [List.map_cons, List.find?_cons, show (decide ((Sum.inl k : Key) = Sum.inl c)) = false from decide_eq_false fun z => e (by injection z)]
      exact this
theorem xDgD1 {ρ : Rho} {Q : T → Rho → Prop} {u : T} {kvs : List (Key × PyData)} {k : Key} {x : PyData} (ne : kvs ≠ []) (e : vw ρ u = some (keyD k)) (h : lookD kvs k = some x) (q : Q (.d x) ρ) : dgK1 (.d (.dict (kvs.map fun p => (keyD p.1, p.2)))) u ρ Q := ⟨kvs, k, x, .inr ⟨ne, rfl⟩, e, h, q⟩
theorem eqv_trs (p q : I3) : PyData.eqv (tr3 p) (tr3 q) = decide (p = q) := by
  rw [Bool.eq_iff_iff]
  obtain ⟨a, b, c⟩ := p; obtain ⟨d, e, f⟩ := q
  simp [tr3, PyData.eqv, PyData.eqvAll, eqv_int]
theorem any_trB (ps : List I3) (p : I3) : ((ps.map tr3).any fun w => PyData.eqv w (tr3 p)) = decide (p ∈ ps) := by
  rw [Bool.eq_iff_iff]
  simp only [List.any_map, List.any_eq_true, Function.comp, eqv_trs, decide_eq_true_eq]
  exact ⟨fun ⟨x, h, e⟩ => e ▸ h, fun h => ⟨p, h, rfl⟩⟩
theorem canLay_trs : ∀ ps : List I3, PyData.canLayAll0 (ps.map tr3) = true
  | [] => rfl
  | p :: ps => by simp only [List.map_cons, PyData.canLayAll0, tr3, PyData.canLay0, canLay_trs ps, Bool.and_self]
theorem depthAll_trs : ∀ ps : List I3, PyData.depthAll (ps.map tr3) ≤ 3
  | [] => by simp [PyData.depthAll]
  | p :: ps => by
    have := depthAll_trs ps
    simp only [List.map_cons, PyData.depthAll, tr3, PyData.depth]; omega
theorem shaped_trs (ps : List I3) : SeqAt.shaped (.list (ps.map tr3)) = true := by
  have := depthAll_trs ps
  have e : (PyData.list (ps.map tr3)).depth ≤ 64 := by simp only [PyData.depth]; omega
  simp only [SeqAt.shaped, PyData.canLay0, canLay_trs, Bool.true_and, decide_eq_true_eq]
  exact e
theorem shaped_tr (p : I3) : SeqAt.shaped (tr3 p) = true := by
  have e : (tr3 p).depth ≤ 64 := by simp [tr3, PyData.depth, PyData.depthAll]
  simp only [SeqAt.shaped, tr3, PyData.canLay0, PyData.canLayAll0, Bool.and_self, Bool.true_and]
  exact decide_eq_true e
theorem xInTr {ρ : Rho} {Q : T → Rho → Prop} {t u : T} {xs : List I3} {y : I3} (h1 : vw ρ t = some (tr3 y)) (h2 : vw ρ u = some (.list (xs.map tr3))) (q : Q (.d (.bool (decide (y ∈ xs)))) ρ) : opK (fIn false) t u ρ Q :=
  xIn h1 h2 (shaped_tr _) (shaped_trs _) (by rw [any_trB, bne_f]; exact q)
theorem way_open {a b : Option Int} (h : wayS a b = "open") : a = none ∧ b = none := by
  cases a with
  | none => cases b with
    | none => exact ⟨rfl, rfl⟩
    | some y => exact absurd (show ("high" : Str) = "open" from h) (by decide)
  | some x => cases b with
    | none => exact absurd (show ("low" : Str) = "open" from h) (by decide)
    | some y =>
      simp only [wayS] at h
      split at h
      · exact absurd h (by decide)
      · split at h
        · exact absurd h (by decide)
        · exact absurd h (by decide)
theorem shaped_way (a b : Option Int) : SeqAt.shaped (.str (wayS a b)) = true := by
  cases a with
  | none => cases b with
    | none => decide +kernel
    | some y => exact (show SeqAt.shaped (.str "high") = true by decide +kernel)
  | some x => cases b with
    | none => exact (show SeqAt.shaped (.str "low") = true by decide +kernel)
    | some y =>
      simp only [wayS]
      split
      · decide +kernel
      · split <;> decide +kernel
theorem shaped_str2 {s t : Str} (h1 : SeqAt.shaped (.str s) = true) (h2 : SeqAt.shaped (.str t) = true) : SeqAt.shaped (.tuple [.str s, .str t]) = true := by
  have g1 : PyData.canLay0 (.str s) = true := SeqAt.canLay_of_shaped h1
  have g2 : PyData.canLay0 (.str t) = true := SeqAt.canLay_of_shaped h2
  simp only [SeqAt.shaped, PyData.canLay0, PyData.canLayAll0, PyData.depth, PyData.depthAll] at g1 g2 ⊢
  rw [g1, g2]
  rfl
theorem open_iff {cs r : List Int} {hs : List (Int × Int)} {p : I3} (ok : RowOk cs) (hr : ledL cs (hs.map pr) = some r) (hm : p.1 ∈ cs ∧ p.2.1 ∈ cs ∧ p.2.2 ∈ cs) (l1 : p.1 < p.2.1) (l2 : p.2.1 < p.2.2) : (wayW cs hs p == "open") = decide (p ∈ dt r) := by
  obtain ⟨okr, pm⟩ := ledL_ok ok hr
  have a := when_none ok hr hm.1 hm.2.1 l1
  have b := when_none ok hr hm.2.1 hm.2.2 l2
  rw [Bool.eq_iff_iff, beq_iff_eq, decide_eq_true_eq, dt_iff okr]
  constructor
  · intro h
    obtain ⟨h1, h2⟩ := way_open h
    exact ⟨⟨pm.mem_iff.mpr hm.1, pm.mem_iff.mpr hm.2.1, pm.mem_iff.mpr hm.2.2⟩, l1, l2, a.mp h1, b.mp h2⟩
  · rintro ⟨_, _, _, w1, w2⟩
    unfold wayW
    rw [show whenO cs hs (p.1, p.2.1) = none from a.mpr w1, show whenO cs hs (p.2.1, p.2.2) = none from b.mpr w2]
    rfl
abbrev N_law_parts_right : List Str := ["_law_row_here", "_law_first", "_law_rest", "_law_there", "_law_books", "_law_later", "_law_both", "_law_card"]
def w_law_parts_right : TwS := (wSeq (wSet 3 (wCall [] 2 S_row_behind (wCons (wVar 0) (wCons (wVar 1) wNil))))
    (wSeq (wFrz 3 (wIfS (wOr (wNot (wT (wCall [] 2 S_is_history (wCons (wVar 0) (wCons (wCat (wVar 1) (wVar 2)) wNil))))) (wNot (wT (wCall [] 2 S_is_history (wCons (wVar 3) (wCons (wVar 2) wNil)))))) (wRet (wC (.d (.bool false)))) wNext))
    (wSeq (wIfS (wT (wOp (fNe) (wCall [] 2 S_row_behind (wCons (wVar 0) (wCons (wCat (wVar 1) (wVar 2)) wNil))) (wCall [] 2 S_row_behind (wCons (wVar 3) (wCons (wVar 2) wNil))))) (wRet (wC (.d (.bool false)))) wNext)
    (wSeq (wPar 4 5 (wCons (wCall [] 2 S_books_by (wCons (wVar 0) (wCons (wVar 1) wNil))) (wCons (wCall [] 2 S_books_by (wCons (wVar 3) (wCons (wVar 2) wNil))) wNil)))
    (wSeq (wSet 6 (wCall [] 2 S_books_by (wCons (wVar 0) (wCons (wCat (wVar 1) (wVar 2)) wNil))))
    (wSeq (wFrz 5 (wFrz 4 (wFrz 6 (wIfS (wT (wOp (fNe) (wLc (wILst (wVar 0)) (wNm 7) (wT (wOp (fNe) (wDg1 (wVar 6) (wVar 7)) (wCat (wDg1 (wVar 4) (wVar 7)) (wDg1 (wVar 5) (wVar 7))))) (wVar 7) [7]) (wLst wNil))) (wRet (wC (.d (.bool false)))) wNext))))
    (wRet (wOp (fEq) (wFn kLen (wCons (wCall [] 1 S_wrong_pairs (wCons (wVar 0) wNil)) wNil)) (wOp (fI (· + ·)) (wFn kLen (wCons (wVar 1) wNil)) (wFn kLen (wCons (wCall [] 1 S_wrong_pairs (wCons (wVar 3) wNil)) wNil)))))))))))
abbrev N_law_ways_right : List Str := ["_law_row_here", "_law_first", "_law_rest", "_law_wished", "_law_there", "_law_crossing", "_law_three", "_law_way", "_law_last"]
def w_law_ways_right : TwS := (wSeq (wSet 4 (wCall [] 2 S_row_behind (wCons (wVar 0) (wCons (wVar 1) wNil))))
    (wSeq (wFrz 4 (wSet 5 (wCall [] 1 S_crossing_threes (wCons (wVar 4) wNil))))
    (wSeq (wFor (wILst (wCall [] 1 S_law_threes (wCons (wVar 0) wNil))) (wNm 6) (wSeq (wPar 7 8 (wCons (wCall [] 3 S_way_by (wCons (wVar 0) (wCons (wVar 1) (wCons (wVar 6) wNil)))) (wCons (wCall [] 3 S_way_by (wCons (wVar 0) (wCons (wCat (wVar 1) (wVar 2)) (wCons (wVar 6) wNil)))) wNil)))
    (wSeq (wIfS (wOr (wT (wOp (fNe) (wOp (fEq) (wVar 7) (wC (.d (.str "open")))) (wOp (fIn false) (wVar 6) (wVar 5)))) (wAnd (wT (wOp (fNe) (wVar 7) (wC (.d (.str "open"))))) (wT (wOp (fNe) (wVar 8) (wVar 7))))) (wRet (wC (.d (.bool false)))) wNext)
    (wIfS (wAnd (wT (wOp (fEq) (wVar 7) (wC (.d (.str "open"))))) (wOr (wT (wOp (fNe) (wVar 8) (wCall [] 3 S_way_by (wCons (wVar 4) (wCons (wVar 2) (wCons (wVar 6) wNil)))))) (wT (wOp (fInT true) (wVar 3) (wTup (wCons (wC (.d (.str "any"))) (wCons (wVar 8) wNil))))))) (wRet (wC (.d (.bool false)))) wNext))))
    (wRet (wC (.d (.bool true)))))))
theorem pl_law_parts_right : PlD S_law_parts_right w_law_parts_right N_law_parts_right := by
  rintro ts Q Ex ⟨⟨cs, hs, rest, r, e, rfl, ok, hr, he⟩, q⟩
  obtain ⟨okr, pm⟩ := ledL_ok ok hr
  obtain ⟨oke, pme⟩ := ledL_ok okr he
  have h1 := led_len ok hr
  have h2 := led_len okr he
  have c24 := ok.2.2.2
  have both : ledL cs ((hs ++ rest).map pr) = some e := by rw [List.map_append, ledL_app, hr]; exact he
  have bD : ledD cs (.list ((hs ++ rest).map pr)) = some e := both
  have rD : ledD r (pairsD rest) = some e := he
  have sz : (hs.map pr).length + (rest.map pr).length ≤ sizeLine := lsz (by simp; omega)
  have l3 := led_len ok both
  unfold w_law_parts_right
  repeat trivial
  refine xRowBehind ok (show ledD cs (pairsD hs) = some r from hr) rfl rfl ?_
  repeat trivial
  refine xFrz rfl (erase_intL (cs := r)) ?_
  repeat trivial
  refine xCatK (ds := hs.map pr) (es := rest.map pr) rfl rfl sz ?_
  rw [← List.map_append]
  repeat trivial
  refine xIsHist (x := .list ((hs ++ rest).map pr)) ok (argD rfl rfl rfl (argD rfl rfl erase_l argNil)) rfl ?_
  rw [bD]
  repeat trivial
  refine xIsHist (x := pairsD rest) okr rfl rfl ?_
  rw [rD]
  repeat trivial
  refine xCatK (ds := hs.map pr) (es := rest.map pr) rfl rfl sz ?_
  rw [← List.map_append]
  repeat trivial
  refine xRowBehind (x := .list ((hs ++ rest).map pr)) ok bD (argD rfl rfl rfl (argD rfl rfl erase_l argNil)) rfl ?_
  repeat trivial
  refine xRowBehind (x := pairsD rest) okr rD rfl rfl ?_
  repeat trivial
  refine xNeL erase_intL erase_intL ?_
  repeat trivial
  refine xNo (by simp) ?_
  repeat trivial
  refine xBooksBy ok (by omega) hr rfl rfl ?_
  repeat trivial
  refine xBooksBy okr (by omega) he rfl rfl ?_
  repeat trivial
  try (refine xTupK (er2 erase_bk (er2 erase_bk er0)) ?_)
  repeat trivial
  refine xCatK (ds := hs.map pr) (es := rest.map pr) rfl rfl sz ?_
  rw [← List.map_append]
  repeat trivial
  refine xBooksBy (hs := hs ++ rest) ok (by omega) both (argD rfl rfl rfl (argD rfl rfl erase_l argNil)) rfl ?_
  repeat trivial
  refine xFrz rfl (erase_bk (ks := sI r) (hs := rest)) ?_
  refine xFrz rfl (erase_bk (ks := sI cs) (hs := hs)) ?_
  refine xFrz rfl (erase_bk (ks := sI cs) (hs := hs ++ rest)) ?_
  repeat trivial
  have sl : (sI cs).length = cs.length := (sI_perm cs).length_eq
  have slr : (sI r).length = r.length := (sI_perm r).length_eq
  have c1 := ok.2.2.1
  have r1 := okr.2.2.1
  have nb : ∀ x : List (Int × Int), bkK (sI cs) x ≠ [] := fun x z => by have := congrArg List.length z; simp [bkK] at this; rw [this] at sl; simp at sl; omega
  have nbr : ∀ x : List (Int × Int), bkK (sI r) x ≠ [] := fun x z => by have := congrArg List.length z; simp [bkK] at this; rw [this] at slr; simp at slr; omega
  refine xLcM (fun _ => false) (fun x => x) (noNd_o (x := none) rfl) (by simp; omega) (by simp [rho0]) (fun x hx Y Z _ hZ => ?_) ?_
  · obtain ⟨c, hc, rfl⟩ := List.mem_map.mp hx
    have k1 : c ∈ sI cs := (sI_perm cs).mem_iff.mpr hc
    have k2 : c ∈ sI r := (sI_perm r).mem_iff.mpr (pm.mem_iff.mpr hc)
    have b1 := book_len hs c
    have b2 := book_len rest c
    repeat trivial
    refine xDgD1 (kvs := bkK (sI cs) (hs ++ rest)) (k := .inl c) (nb _) rfl (look_bk k1) ?_
    repeat trivial
    refine xDgD1 (kvs := bkK (sI cs) hs) (k := .inl c) (nb _) rfl (look_bk k1) ?_
    repeat trivial
    refine xDgD1 (kvs := bkK (sI r) rest) (k := .inl c) (nbr _) rfl (look_bk k2) ?_
    repeat trivial
    refine xCatK rfl rfl (lsz (by simp; omega)) ?_
    rw [← List.map_append]
    refine xNeL (xs := bookOf (hs ++ rest) c) (ys := bookOf hs c ++ bookOf rest c) rfl vw_l ?_
    rw [decide_eq_true (book_app hs rest c)]
    repeat trivial
    exact ⟨noNd1 rfl, xNo rfl (hZ rfl)⟩
  · have ee : ((List.filter (fun _ => false) (cs.map PyData.int)).map fun x => x) = [] := by simp
    rw [ee]
    repeat trivial
    refine xNeL (xs := []) (ys := []) rfl rfl ?_
    repeat trivial
    refine xWrongPairs ok ?_
    repeat trivial
    refine xWrongPairs okr ?_
    repeat trivial
    refine ⟨rfl, q _ _ ?_⟩
    have wc := wrong_count ok hr
    simp
    omega
theorem pl_law_ways_right : PlD S_law_ways_right w_law_ways_right N_law_ways_right := by
  rintro ts Q Ex ⟨⟨cs, hs, rest, r, e, w, rfl, ok, hr, he, wish⟩, q⟩
  obtain ⟨okr, pm⟩ := ledL_ok ok hr
  have h1 := led_len ok hr
  have h2 := led_len okr he
  have both : ledL cs ((hs ++ rest).map pr) = some e := by rw [List.map_append, ledL_app, hr]; exact he
  have sz : (hs.map pr).length + (rest.map pr).length ≤ sizeLine := lsz (by simp; omega)
  have sw : SeqAt.shaped (.str w) = true := by
    rcases wish with rfl | ⟨rfl | rfl, _⟩ <;> decide +kernel
  have ee : ∀ b : Bool, (!PyData.eqv (.bool b) (.bool b)) = false := fun b => by cases b <;> simp [PyData.eqv]
  unfold w_law_ways_right
  repeat trivial
  refine xRowBehind ok (show ledD cs (pairsD hs) = some r from hr) rfl rfl ?_
  repeat trivial
  refine xFrz rfl (erase_intL (cs := r)) ?_
  repeat trivial
  refine xCrossing okr ?_
  repeat trivial
  refine xCaP rfl rfl rfl ⟨cs, rfl, ok⟩ fun t ρ' e => ?_
  cases e cs rfl
  refine ⟨rfl, ?_⟩
  repeat trivial
  refine xILK flat_map ?_
  refine xFoK (fun i ρ => ∃ (o6 o7 o8 : Option PyData), ρ = [some (rowD cs), some (.d (pairsD hs)), some (.d (pairsD rest)), some (.d (.str w)), some (rowD r), some (tripL (dt r)), o6.map T.d, o7.map T.d, o8.map T.d]) ⟨none, none, none, rfl⟩ ?_ ?_
  · rintro i x ρ2 ex ⟨o6, o7, o8, rfl⟩
    obtain ⟨p, hp, rfl⟩ := List.mem_map.mp (List.mem_of_getElem? ex)
    obtain ⟨⟨q1, q2, q3⟩, l1, l2⟩ := (th_mem (sI_sorted cs ok.2.1) p).mp hp
    have hm : p.1 ∈ cs ∧ p.2.1 ∈ cs ∧ p.2.2 ∈ cs := ⟨(sI_perm cs).mem_iff.mp q1, (sI_perm cs).mem_iff.mp q2, (sI_perm cs).mem_iff.mp q3⟩
    have h3 := three_ok ok hm l1 l2
    have h3r := three_ok okr ⟨pm.mem_iff.mpr hm.1, pm.mem_iff.mpr hm.2.1, pm.mem_iff.mpr hm.2.2⟩ l1 l2
    obtain ⟨wa, wo⟩ := way_app (rest := rest) ok hr hm l1 l2
    have oi := open_iff ok hr hm l1 l2
    refine xNm (noNd_o rfl) ?_
    repeat trivial
    refine xWayBy ok hr h3 rfl rfl ?_
    repeat trivial
    refine xCatK (ds := hs.map pr) (es := rest.map pr) rfl rfl sz ?_
    rw [← List.map_append]
    repeat trivial
    refine xWayBy (hs := hs ++ rest) ok both h3 (argD rfl rfl rfl (argD rfl rfl erase_l (argD rfl rfl rfl argNil))) rfl ?_
    repeat trivial
    refine xEqS rfl rfl ?_
    repeat trivial
    refine xInTr (xs := dt r) (y := p) rfl erase_tripL ?_
    rw [oi]
    repeat trivial
    refine xNe (x := .bool _) (y := .bool _) rfl rfl rfl rfl ?_
    repeat trivial
    refine xNo (ee _) ?_
    repeat trivial
    refine xNeS rfl rfl ?_
    repeat trivial
    refine xIte (fun h4 => ?_) fun h4 => ?_
    · have no : wayW cs hs p ≠ "open" := by simpa using h4
      have no' : (wayW cs hs p == "open") = false := by simpa using no
      repeat trivial
      refine xNeS rfl rfl ?_
      repeat trivial
      refine xNo (by rw [wa no]; simp) ?_
      repeat trivial
      refine xEqS rfl rfl ?_
      repeat trivial
      refine xNo no' ?_
      repeat trivial
      exact ⟨some _, some _, some _, rfl⟩
    · have op : wayW cs hs p = "open" := by simpa using h4
      have pd : p ∈ dt r := by rw [op] at oi; simpa using oi.symm
      repeat trivial
      refine xEqS rfl rfl ?_
      repeat trivial
      refine xYes (by rw [op]; rfl) ?_
      repeat trivial
      refine xWayBy okr he h3r rfl rfl ?_
      repeat trivial
      refine xNeS rfl rfl ?_
      repeat trivial
      refine xNo (by rw [wo op]; simp) ?_
      repeat trivial
      refine xInT (x := .str w) (ds := [.str "any", .str (wayW cs (hs ++ rest) p)]) rfl rfl sw (shaped_str2 (by decide +kernel) (shaped_way _ _)) ?_
      repeat trivial
      refine xNo (by
        rcases wish with rfl | ⟨_, hw⟩
        · simp [eqv_str]
        · rw [wo op, hw p pd]; simp [eqv_str]) ?_
      repeat trivial
      exact ⟨some _, some _, some _, rfl⟩
  · rintro ρ2 ⟨o6, o7, o8, rfl⟩
    repeat trivial
    exact ⟨rfl, q _ _ rfl⟩
abbrev N_law : List Str := ["_law_script", "_law_k", "_law_pot_here", "_law_row_here", "_law_first", "_law_there", "_law_cut", "_law_rest", "_law_wished"]
def w_law : TwS := (wSeq (wFor (wIR1 (wCons (wFn (k2 fMax) (wCons (wC (.d (.int 1))) (wCons (wFn (k2 fMin) (wCons (wC (.d (.int 6))) (wCons (wOp (fI (· + ·)) (wFn kLen (wCons (wVar 0) wNil)) (wC (.d (.int 1)))) wNil))) wNil))) wNil)) (wNm 1) (wSeq (wSet 2 (wCall [] 2 S_law_pot (wCons (wVar 0) (wCons (wVar 1) wNil))))
    (wSeq (wSet 3 (wCall [0] 2 S_law_row (wCons (wVar 2) (wCons (wC (.d (.int 9))) wNil))))
    (wSeq (wFrz 3 (wSet 4 (wCall [0] 3 S_law_history (wCons (wVar 2) (wCons (wVar 3) (wCons (wCall [0] 2 S_law_dip (wCons (wVar 2) (wCons (wC (.d (.int 20))) wNil))) wNil))))))
    (wSeq (wFrz 4 (wSet 5 (wCall [] 2 S_law_behind (wCons (wVar 3) (wCons (wVar 4) wNil)))))
    (wSeq (wFrz 5 (wSet 6 (wCall [0] 3 S_law_history (wCons (wVar 2) (wCons (wVar 5) (wCons (wCall [0] 2 S_law_dip (wCons (wVar 2) (wCons (wC (.d (.int 20))) wNil))) wNil))))))
    (wSeq (wFrz 6 (wFor (wILst (wLst (wCons (wTup (wCons (wCall [] 2 S_law_ended (wCons (wVar 5) (wCons (wC (.d (.bool false))) wNil))) (wCons (wC (.d (.str "low"))) wNil))) (wCons (wTup (wCons (wCall [] 2 S_law_ended (wCons (wVar 5) (wCons (wC (.d (.bool true))) wNil))) (wCons (wC (.d (.str "high"))) wNil))) (wCons (wTup (wCons (wVar 6) (wCons (wC (.d (.str ""))) wNil))) wNil))))) (wGTup 2 (wGsCons (wNm 7) (wGsCons (wNm 8) wGsNil))) (wSeq (wIfS (wNot (wT (wCall [] 3 S_law_parts_right (wCons (wVar 3) (wCons (wVar 4) (wCons (wVar 7) wNil)))))) (wRet (wC (.d (.bool false)))) wNext)
    (wIfS (wAnd (wT (wOp (fNe) (wVar 8) (wC (.d (.str ""))))) (wNot (wT (wCall [] 4 S_law_ways_right (wCons (wVar 3) (wCons (wVar 4) (wCons (wVar 7) (wCons (wVar 8) wNil)))))))) (wRet (wC (.d (.bool false)))) wNext))))
    (wIfS (wNot (wT (wCall [] 4 S_law_ways_right (wCons (wVar 3) (wCons (wVar 4) (wCons (wCall [0] 3 S_law_history (wCons (wVar 2) (wCons (wVar 5) (wCons (wC (.d (.int 300))) wNil)))) (wCons (wC (.d (.str "any"))) wNil))))))) (wRet (wC (.d (.bool false)))) wNext))))))))
    (wRet (wC (.d (.bool true)))))
theorem pl_law : PlD S_law w_law N_law := by
  rintro ts Q Ex ⟨⟨ns, rfl, hn⟩, q⟩
  unfold w_law
  repeat trivial
  refine xIRK (by omega) (by omega) ?_
  refine xFoK (fun i ρ => ∃ (o1 o7 o8 : Option PyData) (x2 x3 x4 x5 x6 : Option T), ρ = [some (.fz ns), o1.map T.d, x2, x3, x4, x5, x6, o7.map T.d, o8.map T.d]) ⟨none, none, none, none, none, none, none, none, rfl⟩ ?_ ?_
  · rintro i x ρ2 e ⟨o1, o7, o8, x2, x3, x4, x5, x6, rfl⟩
    obtain ⟨hi, rfl⟩ := range_get e
    refine xNm (noNd_o rfl) ?_
    repeat trivial
    refine xPot (by omega) (by omega) fun a b hp => ?_
    repeat trivial
    refine xRow rfl hp (by decide) (by decide) (by decide) fun cs a1 c1 ok hp1 c10 c11 => ?_
    repeat trivial
    refine xFrz rfl (erase_intL (cs := cs)) ?_
    repeat trivial
    refine xDip rfl hp1 (by decide) (by decide) (by decide) fun i2 a2 c2 i20 i21 hp2 c20 c21 => ?_
    repeat trivial
    refine xHistoryD rfl hp2 (by decide) ok (by omega) fun hs a3 c3 hh hp3 c30 c31 => ?_
    obtain ⟨r, hr⟩ := Option.isSome_iff_exists.mp hh.2
    obtain ⟨okr, pm⟩ := ledL_ok ok hr
    repeat trivial
    refine xFrz rfl (erase_pairL (ps := hs)) ?_
    repeat trivial
    refine xBehind (vu := false) ok hr rfl rfl ?_
    repeat trivial
    refine xFrz rfl (erase_intL (cs := r)) ?_
    repeat trivial
    refine xDip rfl hp3 (by decide) (by decide) (by decide) fun i4 a4 c4 i40 i41 hp4 c40 c41 => ?_
    repeat trivial
    refine xHistoryD rfl hp4 (by decide) okr (by omega) fun cut a5 c5 hc hp5 c50 c51 => ?_
    obtain ⟨ec, hec⟩ := Option.isSome_iff_exists.mp hc.2
    repeat trivial
    refine xFrz rfl (erase_pairL (ps := cut)) ?_
    repeat trivial
    refine xCaP rfl rfl rfl ⟨r, false, rfl, okr⟩ fun t ρ' e => ?_
    obtain ⟨lo, e1, rfl, he1, nn1, gl, _⟩ := e r false rfl
    refine ⟨rfl, ?_⟩
    repeat trivial
    refine xTupK (er2 erase_pairL (er2 rfl er0)) ?_
    repeat trivial
    refine xCaP rfl rfl rfl ⟨r, true, rfl, okr⟩ fun t ρ' e => ?_
    obtain ⟨hi', e2, rfl, he2, nn2, _, gg⟩ := e r true rfl
    refine ⟨rfl, ?_⟩
    repeat trivial
    refine xTupK (er2 erase_pairL (er2 rfl er0)) ?_
    repeat trivial
    refine xFoK (fun j ρ => ∃ (o7 o8 : Option PyData), ρ = [some (.fz ns), some (.d (.int (0 + (i : Nat)))), some (potT a5 b c5), some (rowD cs), some (.d (pairsD hs)), some (rowD r), some (.d (pairsD cut)), o7.map T.d, o8.map T.d]) ⟨o7, o8, rfl⟩ ?_ ?_
    · rintro j d ρ2 ed ⟨o7, o8, rfl⟩
      have cs3 : ∃ rest w e, d = .tuple [pairsD rest, .str w] ∧ ledL r (rest.map pr) = some e ∧ (w = "" ∨ (w ≠ "" ∧ Wish r rest w)) := by
        have hd := List.mem_of_getElem? ed
        simp only [List.mem_cons, List.not_mem_nil, or_false] at hd
        rcases hd with rfl | rfl | rfl
        · exact ⟨lo, "low", e1, rfl, he1, .inr ⟨by decide, .inr ⟨.inl rfl, fun p hp => by
            obtain ⟨hm, l1, l2, w1, w2⟩ := (dt_iff okr).mp hp
            exact low_way okr he1 nn1 (gl rfl) hm l1 l2 w1 w2⟩⟩⟩
        · exact ⟨hi', "high", e2, rfl, he2, .inr ⟨by decide, .inr ⟨.inr rfl, fun p hp => by
            obtain ⟨hm, l1, l2, w1, w2⟩ := (dt_iff okr).mp hp
            exact high_way okr he2 nn2 (gg rfl) hm l1 l2 w1 w2⟩⟩⟩
        · exact ⟨cut, "", ec, rfl, hec, .inl rfl⟩
      obtain ⟨rest, w, e, rfl, he, hw⟩ := cs3
      refine xGTup rfl ?_
      repeat trivial
      refine xNm (noNd_o rfl) ?_
      repeat trivial
      refine xNm (noNd_o rfl) ?_
      repeat trivial
      refine xCaP rfl rfl rfl ⟨cs, hs, rest, r, e, rfl, ok, hr, he⟩ fun t ρ' z => ?_
      cases z
      refine ⟨rfl, ?_⟩
      repeat trivial
      refine xNeS rfl rfl ?_
      repeat trivial
      rcases hw with rfl | ⟨ne, hw⟩
      · refine xNo (by decide) ?_
        repeat trivial
        exact ⟨some _, some _, rfl⟩
      · refine xYes (by simpa using ne) ?_
        repeat trivial
        refine xCaP rfl rfl rfl ⟨cs, hs, rest, r, e, w, rfl, ok, hr, he, hw⟩ fun t ρ' z => ?_
        cases z
        refine ⟨rfl, ?_⟩
        repeat trivial
        exact ⟨some _, some _, rfl⟩
    · rintro ρ2 ⟨o7, o8, rfl⟩
      repeat trivial
      refine xHistoryD rfl hp5 (by decide) okr (by decide) fun more a6 c6 hm hp6 c60 c61 => ?_
      obtain ⟨em, hem⟩ := Option.isSome_iff_exists.mp hm.2
      repeat trivial
      refine xCaP (us := [rowD cs, .d (pairsD hs), .d (pairsD more), .d (.str "any")]) (argD rfl rfl rfl (argD rfl rfl rfl (argD rfl rfl erase_pairL (argD rfl rfl rfl argNil)))) rfl rfl ⟨cs, hs, more, r, em, "any", rfl, ok, hr, hem, .inl rfl⟩ fun t ρ' z => ?_
      cases z
      refine ⟨rfl, ?_⟩
      repeat trivial
      exact ⟨some _, o7, o8, _, _, _, _, _, rfl⟩
  · rintro ρ2 ⟨o1, o7, o8, x2, x3, x4, x5, x6, rfl⟩
    repeat trivial
    exact ⟨rfl, q _ _ rfl⟩
end LW

namespace LW
open PySem PySem.Spec L2 TX PyProof.Rows 
def top (i : Nat) : Stmt := PySem.Challenge.pw_threecrossings_k12_whole_histories_in_pa.main.body.getD i (.Pass ⟨0, 0, 0, 0⟩)
abbrev s_is_card : Stmt := top 8
theorem sc_is_card : FnScope N_is_card ["thing"] (defScope s_is_card) := ⟨rfl, rfl, rfl, by decide +kernel, rfl, by decide +kernel, by decide +kernel⟩
abbrev s_is_row : Stmt := top 9
theorem sc_is_row : FnScope N_is_row ["thing"] (defScope s_is_row) := ⟨rfl, rfl, rfl, by decide +kernel, rfl, by decide +kernel, by decide +kernel⟩
abbrev s_need_row : Stmt := top 10
theorem sc_need_row : FnScope N_need_row ["thing"] (defScope s_need_row) := ⟨rfl, rfl, rfl, by decide +kernel, rfl, by decide +kernel, by decide +kernel⟩
abbrev s_wrong_in : Stmt := top 11
theorem sc_wrong_in : FnScope N_wrong_in ["row"] (defScope s_wrong_in) := ⟨rfl, rfl, rfl, by decide +kernel, rfl, by decide +kernel, by decide +kernel⟩
abbrev s_wrong_pairs : Stmt := top 12
theorem sc_wrong_pairs : FnScope N_wrong_pairs ["row"] (defScope s_wrong_pairs) := ⟨rfl, rfl, rfl, by decide +kernel, rfl, by decide +kernel, by decide +kernel⟩
abbrev s_crossing_threes : Stmt := top 13
theorem sc_crossing_threes : FnScope N_crossing_threes ["row"] (defScope s_crossing_threes) := ⟨rfl, rfl, rfl, by decide +kernel, rfl, by decide +kernel, by decide +kernel⟩
abbrev s_is_three : Stmt := top 14
theorem sc_is_three : FnScope N_is_three ["row", "thing"] (defScope s_is_three) := ⟨rfl, rfl, rfl, by decide +kernel, rfl, by decide +kernel, by decide +kernel⟩
abbrev s_need_three : Stmt := top 15
theorem sc_need_three : FnScope N_need_three ["row", "thing"] (defScope s_need_three) := ⟨rfl, rfl, rfl, by decide +kernel, rfl, by decide +kernel, by decide +kernel⟩
abbrev s_may_change : Stmt := top 21
theorem sc_may_change : FnScope N_may_change ["row", "thing"] (defScope s_may_change) := ⟨rfl, rfl, rfl, by decide +kernel, rfl, by decide +kernel, by decide +kernel⟩
abbrev s_led_by : Stmt := top 22
theorem sc_led_by : FnScope N_led_by ["row", "thing"] (defScope s_led_by) := ⟨rfl, rfl, rfl, by decide +kernel, rfl, by decide +kernel, by decide +kernel⟩
abbrev s_is_history : Stmt := top 23
theorem sc_is_history : FnScope N_is_history ["row", "thing"] (defScope s_is_history) := ⟨rfl, rfl, rfl, by decide +kernel, rfl, by decide +kernel, by decide +kernel⟩
abbrev s_need_history : Stmt := top 24
theorem sc_need_history : FnScope N_need_history ["row", "history"] (defScope s_need_history) := ⟨rfl, rfl, rfl, by decide +kernel, rfl, by decide +kernel, by decide +kernel⟩
abbrev s_row_behind : Stmt := top 25
theorem sc_row_behind : FnScope N_row_behind ["row", "history"] (defScope s_row_behind) := ⟨rfl, rfl, rfl, by decide +kernel, rfl, by decide +kernel, by decide +kernel⟩
abbrev s_way_of : Stmt := top 26
theorem sc_way_of : FnScope N_way_of ["wrong", "history", "three"] (defScope s_way_of) := ⟨rfl, rfl, rfl, by decide +kernel, rfl, by decide +kernel, by decide +kernel⟩
abbrev s_way_by : Stmt := top 27
theorem sc_way_by : FnScope N_way_by ["row", "history", "three"] (defScope s_way_by) := ⟨rfl, rfl, rfl, by decide +kernel, rfl, by decide +kernel, by decide +kernel⟩
abbrev s_books_in : Stmt := top 28
theorem sc_books_in : FnScope N_books_in ["row", "history"] (defScope s_books_in) := ⟨rfl, rfl, rfl, by decide +kernel, rfl, by decide +kernel, by decide +kernel⟩
abbrev s_books_by : Stmt := top 29
theorem sc_books_by : FnScope N_books_by ["row", "history"] (defScope s_books_by) := ⟨rfl, rfl, rfl, by decide +kernel, rfl, by decide +kernel, by decide +kernel⟩
abbrev s_law_pot : Stmt := top 31
theorem sc_law_pot : FnScope N_law_pot ["_law_script", "_law_k"] (defScope s_law_pot) := ⟨rfl, rfl, rfl, by decide +kernel, rfl, by decide +kernel, by decide +kernel⟩
abbrev s_law_dip : Stmt := top 32
theorem sc_law_dip : FnScope N_law_dip ["_law_pot_here", "_law_many"] (defScope s_law_dip) := ⟨rfl, rfl, rfl, by decide +kernel, rfl, by decide +kernel, by decide +kernel⟩
abbrev s_law_cards : Stmt := top 33
theorem sc_law_cards : FnScope N_law_cards ["_law_pot_here", "_law_many"] (defScope s_law_cards) := ⟨rfl, rfl, rfl, by decide +kernel, rfl, by decide +kernel, by decide +kernel⟩
abbrev s_law_row : Stmt := top 34
theorem sc_law_row : FnScope N_law_row ["_law_pot_here", "_law_most"] (defScope s_law_row) := ⟨rfl, rfl, rfl, by decide +kernel, rfl, by decide +kernel, by decide +kernel⟩
abbrev s_law_behind : Stmt := top 35
theorem sc_law_behind : FnScope N_law_behind ["_law_row_here", "_law_history_here"] (defScope s_law_behind) := ⟨rfl, rfl, rfl, by decide +kernel, rfl, by decide +kernel, by decide +kernel⟩
abbrev s_law_next : Stmt := top 36
theorem sc_law_next : FnScope N_law_next ["_law_row_here"] (defScope s_law_next) := ⟨rfl, rfl, rfl, by decide +kernel, rfl, by decide +kernel, by decide +kernel⟩
abbrev s_law_history : Stmt := top 37
theorem sc_law_history : FnScope N_law_history ["_law_pot_here", "_law_row_here", "_law_many"] (defScope s_law_history) := ⟨rfl, rfl, rfl, by decide +kernel, rfl, by decide +kernel, by decide +kernel⟩
abbrev s_law_threes : Stmt := top 38
theorem sc_law_threes : FnScope N_law_threes ["_law_row_here"] (defScope s_law_threes) := ⟨rfl, rfl, rfl, by decide +kernel, rfl, by decide +kernel, by decide +kernel⟩
abbrev s_law_ended : Stmt := top 39
theorem sc_law_ended : FnScope N_law_ended ["_law_here", "_law_is_high"] (defScope s_law_ended) := ⟨rfl, rfl, rfl, by decide +kernel, rfl, by decide +kernel, by decide +kernel⟩
abbrev s_law_parts_right : Stmt := top 40
theorem sc_law_parts_right : FnScope N_law_parts_right ["_law_row_here", "_law_first", "_law_rest"] (defScope s_law_parts_right) := ⟨rfl, rfl, rfl, by decide +kernel, rfl, by decide +kernel, by decide +kernel⟩
abbrev s_law_ways_right : Stmt := top 41
theorem sc_law_ways_right : FnScope N_law_ways_right ["_law_row_here", "_law_first", "_law_rest", "_law_wished"] (defScope s_law_ways_right) := ⟨rfl, rfl, rfl, by decide +kernel, rfl, by decide +kernel, by decide +kernel⟩
abbrev s_law : Stmt := top 42
theorem sc_law : FnScope N_law ["_law_script"] (defScope s_law) := ⟨rfl, rfl, rfl, by decide +kernel, rfl, by decide +kernel, by decide +kernel⟩
structure Bl (mg : Str → Option Value) : Prop where
  all_ : mg "all" = none
  bool_ : mg "bool" = none
  enumerate_ : mg "enumerate" = none
  int_ : mg "int" = none
  isinstance_ : mg "isinstance" = none
  len_ : mg "len" = none
  list_ : mg "list" = none
  max_ : mg "max" = none
  min_ : mg "min" = none
  range_ : mg "range" = none
  set_ : mg "set" = none
  sorted_ : mg "sorted" = none
  tuple_ : mg "tuple" = none
  HIGH : ∃ k, mg "HIGH" = some (.str "high" k)
  LOW : ∃ k, mg "LOW" = some (.str "low" k)
  MOST_CARD : ∃ k, mg "MOST_CARD" = some (.int 999999999 k)
  MOST_CARDS : ∃ k, mg "MOST_CARDS" = some (.int 24 k)
  NEVER : ∃ k, mg "NEVER" = some (.str "never" k)
  OPEN : ∃ k, mg "OPEN" = some (.str "open" k)
section
variable {P : Program} {w : World} {K : PySem.W.Frag} {mg : Str → Option Value} {base : Heap}
theorem ok_is_card {f : Addr} {fd : FuncData} (D : Fd K mg "is_card" s_is_card ["thing"] f fd) (T : Bl mg)   : FnG P w K mg base 1 f fd ["thing"] (lfSp K 1 [] S_is_card) := by
  refine D.F.okT sc_is_card rfl (by decide) fun cv B out s H E room gu => ?_
  have hu := hu64 room
  have hu5 := hu65 room
  have hu1 := hu_of room
  have hu6 := hu66 room
  have nd := sc_is_card.nd
  exact ⟨w_is_card, (lss_one (ls_ret (le_and (le_isB rfl T.isinstance_ (la_cons (lv 0) (la_cons (le_ty (n := "int") rfl T.int_ (by decide +kernel)) la_nil))) (le_and (le_not (le_isB rfl T.isinstance_ (la_cons (lv 0) (la_cons (le_ty (n := "bool") rfl T.bool_ (by decide +kernel)) la_nil)))) (le_one (le_chain op_le op_le od_le od_le le_int (lv 0) (le_gX rfl T.MOST_CARD))))))), pl_is_card⟩
theorem ok_is_row {f : Addr} {fd : FuncData} (D : Fd K mg "is_row" s_is_row ["thing"] f fd) (T : Bl mg) (D_is_card : Df P w K mg base "is_card" 1 ["thing"] 1 [] S_is_card)  : FnG P w K mg base 2 f fd ["thing"] (lfSp K 1 [] S_is_row) := by
  refine D.F.okT sc_is_row rfl (by decide) fun cv B out s H E room gu => ?_
  have hu := hu64 room
  have hu5 := hu65 room
  have hu1 := hu_of room
  have hu6 := hu66 room
  have nd := sc_is_row.nd
  exact ⟨w_is_row, (lss_cons (ls_if (TX.LW.lt (lw_or (lt_not (lt_val (le_isB rfl T.isinstance_ (la_cons (lv 0) (la_cons (le_ty (n := "list") rfl T.list_ (by decide +kernel)) la_nil))))) (lw_or1 (lt_not (lt_chain op_le op_le od_le od_le le_int (le_len' rfl T.len_ (la_cons (lv 0) la_nil)) (le_gX rfl T.MOST_CARDS)))))) (lss_one (ls_ret le_bl)) lss_nil)
    (lss_one (ls_ret (le_and (le_all rfl rfl T.all_ (la_cons (le_lc (own := [("one", 1)]) rfl nd (li_list (lv 0)) (blkOk_by (own := [("one", 1)]) (N := N_is_row) (sc := defScope s_is_row) (by first | decide +kernel | with_unfolding_all rfl)) (fun _ _ _ _ _ => (lg_name (i := 1) nd rfl (by first | exact Or.inl rfl | exact Or.inr rfl))) (fun _ _ _ _ _ => lts_nil) (fun _ _ _ _ _ => (le_callD D_is_card room (by decide) gu mS_is_card rfl (la_cons (lv 1) la_nil)))) la_nil)) (le_one (le_cmp (op_eqX hu) od_Eq (le_lenSet rfl rfl T.len_ rfl T.set_ (lv 0)) (le_len' rfl T.len_ (la_cons (lv 0) la_nil)) (nomark _))))))), pl_is_row⟩
theorem ok_need_row {f : Addr} {fd : FuncData} (D : Fd K mg "need_row" s_need_row ["thing"] f fd) (T : Bl mg) (D_is_row : Df P w K mg base "is_row" 2 ["thing"] 1 [] S_is_row)  : FnG P w K mg base 3 f fd ["thing"] (lfSp K 1 [] S_need_row) := by
  refine D.F.okT sc_need_row rfl (by decide) fun cv B out s H E room gu => ?_
  have hu := hu64 room
  have hu5 := hu65 room
  have hu1 := hu_of room
  have hu6 := hu66 room
  have nd := sc_need_row.nd
  exact ⟨w_need_row, (lss_one (ls_if (lt_not (lt_val (le_callD D_is_row room (by decide) gu mS_is_row rfl (la_cons (lv 0) la_nil)))) (lss_one ls_never) lss_nil)), pl_need_row⟩
theorem ok_wrong_in {f : Addr} {fd : FuncData} (D : Fd K mg "wrong_in" s_wrong_in ["row"] f fd) (T : Bl mg)   : FnG P w K mg base 1 f fd ["row"] (lfSp K 1 [] S_wrong_in) := by
  refine D.F.okT sc_wrong_in rfl (by decide) fun cv B out s H E room gu => ?_
  have hu := hu64 room
  have hu5 := hu65 room
  have hu1 := hu_of room
  have hu6 := hu66 room
  have nd := sc_wrong_in.nd
  exact ⟨w_wrong_in, (lss_cons (ls_set (i := 1) nd rfl (by first | exact Or.inl rfl | exact Or.inr rfl) (le_lst la_nil))
    (lss_cons (ls_for rfl (li_enum rfl T.enumerate_ (la_cons (lv 0) la_nil)) (lg_tup rfl (lgs_cons (lg_name (i := 2) nd rfl (by first | exact Or.inl rfl | exact Or.inr rfl)) (lgs_cons (lg_name (i := 3) nd rfl (by first | exact Or.inl rfl | exact Or.inr rfl)) lgs_nil))) (lss_one (ls_expr (le_extend (lv 1) (la_cons (le_lc (own := [("less", 4)]) rfl nd (li_list (le_sl (lv 0) (lo_some (le_add (lv 2) le_int)) lo_none)) (blkOk_by (own := [("less", 4)]) (N := N_wrong_in) (sc := defScope s_wrong_in) (by first | decide +kernel | with_unfolding_all rfl)) (fun _ _ _ _ _ => (lg_name (i := 4) nd rfl (by first | exact Or.inl rfl | exact Or.inr rfl))) (fun _ _ _ _ _ => (lts_one (lt_cmp op_lt od_lt (lv 4) (lv 3) (nomark _)))) (fun _ _ _ _ _ => (le_tup (la_cons (lv 4) (la_cons (lv 3) la_nil))))) la_nil)))))
    (lss_one (ls_ret (le_sorted hu rfl T.sorted_ (la_cons (lv 1) la_nil)))))), pl_wrong_in⟩
theorem ok_wrong_pairs {f : Addr} {fd : FuncData} (D : Fd K mg "wrong_pairs" s_wrong_pairs ["row"] f fd) (T : Bl mg) (D_need_row : Df P w K mg base "need_row" 3 ["thing"] 1 [] S_need_row) (D_wrong_in : Df P w K mg base "wrong_in" 1 ["row"] 1 [] S_wrong_in)  : FnG P w K mg base 4 f fd ["row"] (lfSp K 1 [] S_wrong_pairs) := by
  refine D.F.okT sc_wrong_pairs rfl (by decide) fun cv B out s H E room gu => ?_
  have hu := hu64 room
  have hu5 := hu65 room
  have hu1 := hu_of room
  have hu6 := hu66 room
  have nd := sc_wrong_pairs.nd
  exact ⟨w_wrong_pairs, (lss_cons (ls_expr (le_callD D_need_row room (by decide) gu mS_need_row rfl (la_cons (lv 0) la_nil)))
    (lss_one (ls_ret (le_callD D_wrong_in room (by decide) gu mS_wrong_in rfl (la_cons (lv 0) la_nil))))), pl_wrong_pairs⟩
theorem ok_crossing_threes {f : Addr} {fd : FuncData} (D : Fd K mg "crossing_threes" s_crossing_threes ["row"] f fd) (T : Bl mg) (D_need_row : Df P w K mg base "need_row" 3 ["thing"] 1 [] S_need_row)  : FnG P w K mg base 4 f fd ["row"] (lfSp K 1 [] S_crossing_threes) := by
  refine D.F.okT sc_crossing_threes rfl (by decide) fun cv B out s H E room gu => ?_
  have hu := hu64 room
  have hu5 := hu65 room
  have hu1 := hu_of room
  have hu6 := hu66 room
  have nd := sc_crossing_threes.nd
  exact ⟨w_crossing_threes, (lss_cons (ls_expr (le_callD D_need_row room (by decide) gu mS_need_row rfl (la_cons (lv 0) la_nil)))
    (lss_cons (ls_set (i := 1) nd rfl (by first | exact Or.inl rfl | exact Or.inr rfl) (le_lst la_nil))
    (lss_cons (ls_for rfl (li_enum rfl T.enumerate_ (la_cons (lv 0) la_nil)) (lg_tup rfl (lgs_cons (lg_name (i := 2) nd rfl (by first | exact Or.inl rfl | exact Or.inr rfl)) (lgs_cons (lg_name (i := 3) nd rfl (by first | exact Or.inl rfl | exact Or.inr rfl)) lgs_nil))) (lss_cons (ls_setLc (i := 4) (own := [("card", 5)]) rfl nd rfl rfl (sw_true rfl rfl rfl (by decide +kernel)) (li_list (le_sl (lv 0) (lo_some (le_add (lv 2) le_int)) lo_none)) (blkOk_by (own := [("card", 5)]) (N := N_crossing_threes) (sc := defScope s_crossing_threes) (by first | decide +kernel | with_unfolding_all rfl)) (fun _ _ _ _ _ => (lg_name (i := 5) nd rfl (by first | exact Or.inl rfl | exact Or.inr rfl))) (fun _ _ _ _ _ => (lts_one (lt_cmp op_lt od_lt (lv 5) (lv 3) (nomark _)))) (fun _ _ _ _ _ => (lv 5)))
    (lss_one (ls_frz 4 (ls_for rfl (li_enum rfl T.enumerate_ (la_cons (lv 4) la_nil)) (lg_tup rfl (lgs_cons (lg_name (i := 6) nd rfl (by first | exact Or.inl rfl | exact Or.inr rfl)) (lgs_cons (lg_name (i := 7) nd rfl (by first | exact Or.inl rfl | exact Or.inr rfl)) lgs_nil))) (lss_one (ls_expr (le_extend (lv 1) (la_cons (le_lc (own := [("least", 8)]) rfl nd (li_list (le_sl (lv 4) (lo_some (le_add (lv 6) le_int)) lo_none)) (blkOk_by (own := [("least", 8)]) (N := N_crossing_threes) (sc := defScope s_crossing_threes) (by first | decide +kernel | with_unfolding_all rfl)) (fun _ _ _ _ _ => (lg_name (i := 8) nd rfl (by first | exact Or.inl rfl | exact Or.inr rfl))) (fun _ _ _ _ _ => (lts_one (lt_cmp op_lt od_lt (lv 8) (lv 7) (nomark _)))) (fun _ _ _ _ _ => (le_tup (la_cons (lv 8) (la_cons (lv 7) (la_cons (lv 3) la_nil)))))) la_nil)))))))))
    (lss_one (ls_ret (le_sorted hu rfl T.sorted_ (la_cons (lv 1) la_nil))))))), pl_crossing_threes⟩
theorem ok_is_three {f : Addr} {fd : FuncData} (D : Fd K mg "is_three" s_is_three ["row", "thing"] f fd) (T : Bl mg) (D_is_card : Df P w K mg base "is_card" 1 ["thing"] 1 [] S_is_card)  : FnG P w K mg base 2 f fd ["row", "thing"] (lfSp K 2 [] S_is_three) := by
  refine D.F.okT sc_is_three rfl (by decide) fun cv B out s H E room gu => ?_
  have hu := hu64 room
  have hu5 := hu65 room
  have hu1 := hu_of room
  have hu6 := hu66 room
  have nd := sc_is_three.nd
  exact ⟨w_is_three, (lss_cons (ls_if (TX.LW.lt (lw_or (lt_not (lt_val (le_isB rfl T.isinstance_ (la_cons (lv 1) (la_cons (le_ty (n := "tuple") rfl T.tuple_ (by decide +kernel)) la_nil))))) (lw_or (lt_cmp (op_neX hu) od_Ne (le_len' rfl T.len_ (la_cons (lv 1) la_nil)) le_int (nomark _)) (lw_or1 (lt_not (lt_val (le_all rfl rfl T.all_ (la_cons (le_lc (own := [("card", 2)]) rfl nd (li_tup (lv 1)) (blkOk_by (own := [("card", 2)]) (N := N_is_three) (sc := defScope s_is_three) (by first | decide +kernel | with_unfolding_all rfl)) (fun _ _ _ _ _ => (lg_name (i := 2) nd rfl (by first | exact Or.inl rfl | exact Or.inr rfl))) (fun _ _ _ _ _ => lts_nil) (fun _ _ _ _ _ => (le_callD D_is_card room (by decide) gu mS_is_card rfl (la_cons (lv 2) la_nil)))) la_nil)))))))) (lss_one (ls_ret le_bl)) lss_nil)
    (lss_one (ls_ret (le_and (le_chain op_lt op_lt od_lt od_lt (le_ix (lv 1) le_int) (le_ix (lv 1) le_int) (le_ix (lv 1) le_int)) (le_one (le_all rfl rfl T.all_ (la_cons (le_lc (own := [("card", 2)]) rfl nd (li_tup (lv 1)) (blkOk_by (own := [("card", 2)]) (N := N_is_three) (sc := defScope s_is_three) (by first | decide +kernel | with_unfolding_all rfl)) (fun _ _ _ _ _ => (lg_name (i := 2) nd rfl (by first | exact Or.inl rfl | exact Or.inr rfl))) (fun _ _ _ _ _ => lts_nil) (fun _ _ _ _ _ => (le_cmp (op_inX hu5) od_In (lv 2) (lv 0) (by with_unfolding_all rfl)))) la_nil))))))), pl_is_three⟩
theorem ok_need_three {f : Addr} {fd : FuncData} (D : Fd K mg "need_three" s_need_three ["row", "thing"] f fd) (T : Bl mg) (D_is_three : Df P w K mg base "is_three" 2 ["row", "thing"] 2 [] S_is_three)  : FnG P w K mg base 3 f fd ["row", "thing"] (lfSp K 2 [] S_need_three) := by
  refine D.F.okT sc_need_three rfl (by decide) fun cv B out s H E room gu => ?_
  have hu := hu64 room
  have hu5 := hu65 room
  have hu1 := hu_of room
  have hu6 := hu66 room
  have nd := sc_need_three.nd
  exact ⟨w_need_three, (lss_one (ls_if (lt_not (lt_val (le_callD D_is_three room (by decide) gu mS_is_three rfl (la_cons (lv 0) (la_cons (lv 1) la_nil))))) (lss_one ls_never) lss_nil)), pl_need_three⟩
theorem ok_may_change {f : Addr} {fd : FuncData} (D : Fd K mg "may_change" s_may_change ["row", "thing"] f fd) (T : Bl mg) (D_is_card : Df P w K mg base "is_card" 1 ["thing"] 1 [] S_is_card)  : FnG P w K mg base 2 f fd ["row", "thing"] (lfSp K 2 [] S_may_change) := by
  refine D.F.okT sc_may_change rfl (by decide) fun cv B out s H E room gu => ?_
  have hu := hu64 room
  have hu5 := hu65 room
  have hu1 := hu_of room
  have hu6 := hu66 room
  have nd := sc_may_change.nd
  exact ⟨w_may_change, (lss_cons (ls_if (TX.LW.lt (lw_or (lt_not (lt_val (le_isB rfl T.isinstance_ (la_cons (lv 1) (la_cons (le_ty (n := "tuple") rfl T.tuple_ (by decide +kernel)) la_nil))))) (lw_or (lt_cmp (op_neX hu) od_Ne (le_len' rfl T.len_ (la_cons (lv 1) la_nil)) le_int (nomark _)) (lw_or1 (lt_not (lt_val (le_all rfl rfl T.all_ (la_cons (le_lc (own := [("card", 2)]) rfl nd (li_tup (lv 1)) (blkOk_by (own := [("card", 2)]) (N := N_may_change) (sc := defScope s_may_change) (by first | decide +kernel | with_unfolding_all rfl)) (fun _ _ _ _ _ => (lg_name (i := 2) nd rfl (by first | exact Or.inl rfl | exact Or.inr rfl))) (fun _ _ _ _ _ => lts_nil) (fun _ _ _ _ _ => (le_callD D_is_card room (by decide) gu mS_is_card rfl (la_cons (lv 2) la_nil)))) la_nil)))))))) (lss_one (ls_ret le_bl)) lss_nil)
    (lss_cons (ls_asg (lv 1) (lg_tup rfl (lgs_cons (lg_name (i := 3) nd rfl (by first | exact Or.inl rfl | exact Or.inr rfl)) (lgs_cons (lg_name (i := 4) nd rfl (by first | exact Or.inl rfl | exact Or.inr rfl)) lgs_nil))))
    (lss_one (ls_ret (le_and (le_cmp op_lt od_lt (lv 3) (lv 4) (nomark _)) (le_and (le_cmp (op_inX hu5) od_In (lv 4) (lv 0) (by with_unfolding_all rfl)) (le_one (le_cmp (op_eqX hu) od_Eq (le_sl (le_sl (lv 0) (lo_some (le_add (le_index hu5 (lv 0) (la_cons (lv 4) la_nil)) le_int)) lo_none) lo_none (lo_some le_int)) (le_lst (la_cons (lv 3) la_nil)) (nomark _))))))))), pl_may_change⟩
theorem ok_led_by {f : Addr} {fd : FuncData} (D : Fd K mg "led_by" s_led_by ["row", "thing"] f fd) (T : Bl mg) (D_may_change : Df P w K mg base "may_change" 2 ["row", "thing"] 2 [] S_may_change)  : FnG P w K mg base 3 f fd ["row", "thing"] (lfSp K 2 [] S_led_by) := by
  refine D.F.okT sc_led_by rfl (by decide) fun cv B out s H E room gu => ?_
  have hu := hu64 room
  have hu5 := hu65 room
  have hu1 := hu_of room
  have hu6 := hu66 room
  have nd := sc_led_by.nd
  exact ⟨w_led_by, (lss_cons (ls_if (lt_not (lt_val (le_isB rfl T.isinstance_ (la_cons (lv 1) (la_cons (le_ty (n := "list") rfl T.list_ (by decide +kernel)) la_nil))))) (lss_one (ls_ret le_non)) lss_nil)
    (lss_cons (ls_set (i := 2) nd rfl (by first | exact Or.inl rfl | exact Or.inr rfl) (le_list rfl T.list_ (la_cons (lv 0) la_nil)))
    (lss_cons (ls_for rfl (li_list (lv 1)) (lg_name (i := 3) nd rfl (by first | exact Or.inl rfl | exact Or.inr rfl)) (lss_cons (ls_if (lt_not (lt_val (le_callD D_may_change room (by decide) gu mS_may_change rfl (la_cons (lv 2) (la_cons (lv 3) la_nil))))) (lss_one (ls_ret le_non)) lss_nil)
    (lss_cons (ls_set (i := 4) nd rfl (by first | exact Or.inl rfl | exact Or.inr rfl) (le_index hu5 (lv 2) (la_cons (le_ix (lv 3) le_int) la_nil)))
    (lss_one (ls_asg (le_tup (la_cons (le_ix (lv 2) (le_add (lv 4) le_int)) (la_cons (le_ix (lv 2) (lv 4)) la_nil))) (lg_tup rfl (lgs_cons (lg_sub (lv 2) (lv 4)) (lgs_cons (lg_sub (lv 2) (le_add (lv 4) le_int)) lgs_nil))))))))
    (lss_one (ls_retV (i := 2) rfl (by first | exact Or.inl rfl | exact Or.inr (Or.inl rfl) | exact Or.inr (Or.inr rfl))))))), pl_led_by⟩
theorem ok_is_history {f : Addr} {fd : FuncData} (D : Fd K mg "is_history" s_is_history ["row", "thing"] f fd) (T : Bl mg) (D_need_row : Df P w K mg base "need_row" 3 ["thing"] 1 [] S_need_row) (D_led_by : Df P w K mg base "led_by" 3 ["row", "thing"] 2 [] S_led_by)  : FnG P w K mg base 4 f fd ["row", "thing"] (lfSp K 2 [] S_is_history) := by
  refine D.F.okT sc_is_history rfl (by decide) fun cv B out s H E room gu => ?_
  have hu := hu64 room
  have hu5 := hu65 room
  have hu1 := hu_of room
  have hu6 := hu66 room
  have nd := sc_is_history.nd
  exact ⟨w_is_history, (lss_cons (ls_expr (le_callD D_need_row room (by decide) gu mS_need_row rfl (la_cons (lv 0) la_nil)))
    (lss_one (ls_ret (le_cmp op_notN od_notN (le_callD D_led_by room (by decide) gu mS_led_by rfl (la_cons (lv 0) (la_cons (lv 1) la_nil))) le_non (nomark _))))), pl_is_history⟩
theorem ok_need_history {f : Addr} {fd : FuncData} (D : Fd K mg "need_history" s_need_history ["row", "history"] f fd) (T : Bl mg) (D_is_history : Df P w K mg base "is_history" 4 ["row", "thing"] 2 [] S_is_history)  : FnG P w K mg base 5 f fd ["row", "history"] (lfSp K 2 [] S_need_history) := by
  refine D.F.okT sc_need_history rfl (by decide) fun cv B out s H E room gu => ?_
  have hu := hu64 room
  have hu5 := hu65 room
  have hu1 := hu_of room
  have hu6 := hu66 room
  have nd := sc_need_history.nd
  exact ⟨w_need_history, (lss_one (ls_if (lt_not (lt_val (le_callD D_is_history room (by decide) gu mS_is_history rfl (la_cons (lv 0) (la_cons (lv 1) la_nil))))) (lss_one ls_never) lss_nil)), pl_need_history⟩
theorem ok_row_behind {f : Addr} {fd : FuncData} (D : Fd K mg "row_behind" s_row_behind ["row", "history"] f fd) (T : Bl mg) (D_led_by : Df P w K mg base "led_by" 3 ["row", "thing"] 2 [] S_led_by) (D_need_history : Df P w K mg base "need_history" 5 ["row", "history"] 2 [] S_need_history)  : FnG P w K mg base 6 f fd ["row", "history"] (lfSp K 2 [] S_row_behind) := by
  refine D.F.okT sc_row_behind rfl (by decide) fun cv B out s H E room gu => ?_
  have hu := hu64 room
  have hu5 := hu65 room
  have hu1 := hu_of room
  have hu6 := hu66 room
  have nd := sc_row_behind.nd
  exact ⟨w_row_behind, (lss_cons (ls_expr (le_callD D_need_history room (by decide) gu mS_need_history rfl (la_cons (lv 0) (la_cons (lv 1) la_nil))))
    (lss_one (ls_ret (le_callD D_led_by room (by decide) gu mS_led_by rfl (la_cons (lv 0) (la_cons (lv 1) la_nil)))))), pl_row_behind⟩
theorem ok_way_of {f : Addr} {fd : FuncData} (D : Fd K mg "way_of" s_way_of ["wrong", "history", "three"] f fd) (T : Bl mg)   : FnG P w K mg base 1 f fd ["wrong", "history", "three"] (lfSp K 3 [] S_way_of) := by
  refine D.F.okT sc_way_of rfl (by decide) fun cv B out s H E room gu => ?_
  have hu := hu64 room
  have hu5 := hu65 room
  have hu1 := hu_of room
  have hu6 := hu66 room
  have nd := sc_way_of.nd
  exact ⟨w_way_of, (lss_cons (ls_asg (lv 2) (lg_tup rfl (lgs_cons (lg_name (i := 3) nd rfl (by first | exact Or.inl rfl | exact Or.inr rfl)) (lgs_cons (lg_name (i := 4) nd rfl (by first | exact Or.inl rfl | exact Or.inr rfl)) (lgs_cons (lg_name (i := 5) nd rfl (by first | exact Or.inl rfl | exact Or.inr rfl)) lgs_nil)))))
    (lss_cons (ls_set (i := 6) nd rfl (by first | exact Or.inl rfl | exact Or.inr rfl) (le_lst la_nil))
    (lss_cons (ls_for rfl (li_list (le_lst (la_cons (le_tup (la_cons (lv 3) (la_cons (lv 4) la_nil))) (la_cons (le_tup (la_cons (lv 4) (la_cons (lv 5) la_nil))) la_nil)))) (lg_name (i := 7) nd rfl (by first | exact Or.inl rfl | exact Or.inr rfl)) (lss_one (ls_expr (le_append (lv 6) (la_cons (le_if (lt_cmp (op_notinX hu5) od_In (lv 7) (lv 0) (by with_unfolding_all rfl)) (le_neg le_int) (le_if (lt_cmp (op_inX hu5) od_In (lv 7) (lv 1) (by with_unfolding_all rfl)) (le_index hu5 (lv 1) (la_cons (lv 7) la_nil)) le_non)) la_nil)))))
    (lss_cons (ls_if (lt_cmp (op_eqX hu) od_Eq (lv 6) (le_lst (la_cons (le_neg le_int) (la_cons (le_neg le_int) la_nil))) (nomark _)) (lss_one (ls_ret (le_gS rfl T.NEVER))) lss_nil)
    (lss_cons (ls_if (lt_cmp (op_eqX hu) od_Eq (lv 6) (le_lst (la_cons le_non (la_cons le_non la_nil))) (nomark _)) (lss_one (ls_ret (le_gS rfl T.OPEN))) lss_nil)
    (lss_cons (ls_frz 6 (ls_asg (lv 6) (lg_lst rfl (lgs_cons (lg_name (i := 8) nd rfl (by first | exact Or.inl rfl | exact Or.inr rfl)) (lgs_cons (lg_name (i := 9) nd rfl (by first | exact Or.inl rfl | exact Or.inr rfl)) lgs_nil)))))
    (lss_one (ls_ret (le_if (TX.LW.lt (lw_or (lt_cmp op_isN od_isN (lv 9) le_non (nomark _)) (lw_or1 (TX.LW.lt (lw_and (lt_cmp op_notN od_notN (lv 8) le_non (nomark _)) (lw_and1 (lt_cmp op_lt od_lt (lv 8) (lv 9) (nomark _)))))))) (le_gS rfl T.LOW) (le_gS rfl T.HIGH)))))))))), pl_way_of⟩
theorem ok_way_by {f : Addr} {fd : FuncData} (D : Fd K mg "way_by" s_way_by ["row", "history", "three"] f fd) (T : Bl mg) (D_wrong_in : Df P w K mg base "wrong_in" 1 ["row"] 1 [] S_wrong_in) (D_need_three : Df P w K mg base "need_three" 3 ["row", "thing"] 2 [] S_need_three) (D_need_history : Df P w K mg base "need_history" 5 ["row", "history"] 2 [] S_need_history) (D_way_of : Df P w K mg base "way_of" 1 ["wrong", "history", "three"] 3 [] S_way_of)  : FnG P w K mg base 6 f fd ["row", "history", "three"] (lfSp K 3 [] S_way_by) := by
  refine D.F.okT sc_way_by rfl (by decide) fun cv B out s H E room gu => ?_
  have hu := hu64 room
  have hu5 := hu65 room
  have hu1 := hu_of room
  have hu6 := hu66 room
  have nd := sc_way_by.nd
  exact ⟨w_way_by, (lss_cons (ls_expr (le_callD D_need_history room (by decide) gu mS_need_history rfl (la_cons (lv 0) (la_cons (lv 1) la_nil))))
    (lss_cons (ls_expr (le_callD D_need_three room (by decide) gu mS_need_three rfl (la_cons (lv 0) (la_cons (lv 2) la_nil))))
    (lss_one (ls_ret (le_callD D_way_of room (by decide) gu mS_way_of rfl (la_cons (le_callD D_wrong_in room (by decide) gu mS_wrong_in rfl (la_cons (lv 0) la_nil)) (la_cons (lv 1) (la_cons (lv 2) la_nil)))))))), pl_way_by⟩
theorem ok_books_in {f : Addr} {fd : FuncData} (D : Fd K mg "books_in" s_books_in ["row", "history"] f fd) (T : Bl mg)   : FnG P w K mg base 1 f fd ["row", "history"] (lfSp K 2 [] S_books_in) := by
  refine D.F.okT sc_books_in rfl (by decide) fun cv B out s H E room gu => ?_
  have hu := hu64 room
  have hu5 := hu65 room
  have hu1 := hu_of room
  have hu6 := hu66 room
  have nd := sc_books_in.nd
  exact ⟨w_books_in, (lss_cons (ls_setDcL (i := 2) (own := [("card", 3)]) rfl nd rfl rfl (swd_true rfl rfl rfl (by decide +kernel)) (li_list (le_sorted hu rfl T.sorted_ (la_cons (lv 0) la_nil))) (blkOk_by (own := [("card", 3)]) (N := N_books_in) (sc := defScope s_books_in) (by decide +kernel)) (fun _ _ _ _ _ => (lg_name (i := 3) nd rfl (by first | exact Or.inl rfl | exact Or.inr rfl))) (fun _ _ _ _ _ => (lv 3)))
    (lss_cons (ls_for rfl (li_list (lv 1)) (lg_tup rfl (lgs_cons (lg_name (i := 4) nd rfl (by first | exact Or.inl rfl | exact Or.inr rfl)) (lgs_cons (lg_name (i := 5) nd rfl (by first | exact Or.inl rfl | exact Or.inr rfl)) lgs_nil))) (lss_cons (ls_expr (le_append (le_dpl hu1 (lv 2) (lv 4)) (la_cons (lv 5) la_nil)))
    (lss_one (ls_expr (le_append (le_dpl hu1 (lv 2) (lv 5)) (la_cons (lv 4) la_nil))))))
    (lss_one (ls_retV (i := 2) rfl (by first | exact Or.inl rfl | exact Or.inr (Or.inl rfl) | exact Or.inr (Or.inr rfl)))))), pl_books_in⟩
theorem ok_books_by {f : Addr} {fd : FuncData} (D : Fd K mg "books_by" s_books_by ["row", "history"] f fd) (T : Bl mg) (D_need_history : Df P w K mg base "need_history" 5 ["row", "history"] 2 [] S_need_history) (D_books_in : Df P w K mg base "books_in" 1 ["row", "history"] 2 [] S_books_in)  : FnG P w K mg base 6 f fd ["row", "history"] (lfSp K 2 [] S_books_by) := by
  refine D.F.okT sc_books_by rfl (by decide) fun cv B out s H E room gu => ?_
  have hu := hu64 room
  have hu5 := hu65 room
  have hu1 := hu_of room
  have hu6 := hu66 room
  have nd := sc_books_by.nd
  exact ⟨w_books_by, (lss_cons (ls_expr (le_callD D_need_history room (by decide) gu mS_need_history rfl (la_cons (lv 0) (la_cons (lv 1) la_nil))))
    (lss_one (ls_ret (le_callD D_books_in room (by decide) gu mS_books_in rfl (la_cons (lv 0) (la_cons (lv 1) la_nil)))))), pl_books_by⟩
theorem ok_law_pot {f : Addr} {fd : FuncData} (D : Fd K mg "_law_pot" s_law_pot ["_law_script", "_law_k"] f fd) (T : Bl mg)   : FnG P w K mg base 1 f fd ["_law_script", "_law_k"] (lfSp K 2 [] S_law_pot) := by
  refine D.F.okT sc_law_pot rfl (by decide) fun cv B out s H E room gu => ?_
  have hu := hu64 room
  have hu5 := hu65 room
  have hu1 := hu_of room
  have hu6 := hu66 room
  have nd := sc_law_pot.nd
  exact ⟨w_law_pot, (lss_cons (ls_set (i := 2) nd rfl (by first | exact Or.inl rfl | exact Or.inr rfl) le_int)
    (lss_cons (ls_if (lt_cmp op_lt od_lt (lv 1) (le_len' rfl T.len_ (la_cons (lv 0) la_nil)) (nomark _)) (lss_one (ls_set (i := 2) nd rfl (by first | exact Or.inl rfl | exact Or.inr rfl) (le_ix (lv 0) (lv 1)))) lss_nil)
    (lss_one (ls_ret (le_lst (la_cons (le_max rfl rfl T.max_ (la_cons le_int (la_cons (le_sub (lv 2) (le_pow le_int le_int)) la_nil))) (la_cons (le_add (le_add (le_mul (le_mod (lv 2) (le_add (le_pow le_int le_int) le_int)) le_int) (le_mul le_int (lv 1))) le_int) (la_cons le_int la_nil)))))))), pl_law_pot⟩
theorem ok_law_dip {f : Addr} {fd : FuncData} (D : Fd K mg "_law_dip" s_law_dip ["_law_pot_here", "_law_many"] f fd) (T : Bl mg)   : FnG P w K mg base 1 f fd ["_law_pot_here", "_law_many"] (lfSp K 2 [0] S_law_dip) := by
  refine D.F.okT sc_law_dip rfl (by decide) fun cv B out s H E room gu => ?_
  have hu := hu64 room
  have hu5 := hu65 room
  have hu1 := hu_of room
  have hu6 := hu66 room
  have nd := sc_law_dip.nd
  exact ⟨w_law_dip, (lss_cons (ls_if (lt_cmp op_gt od_gt (le_ix (lv 0) le_int) le_int (nomark _)) (lss_cons (ls_set (i := 2) nd rfl (by first | exact Or.inl rfl | exact Or.inr rfl) (le_mod (le_ix (lv 0) le_int) (lv 1)))
    (lss_cons (ls_asg (le_fdiv (le_ix (lv 0) le_int) (lv 1)) (lg_sub (lv 0) le_int))
    (lss_one (ls_retV (i := 2) rfl (by first | exact Or.inl rfl | exact Or.inr (Or.inl rfl) | exact Or.inr (Or.inr rfl)))))) lss_nil)
    (lss_cons (ls_asg (le_add (le_ix (lv 0) le_int) le_int) (lg_sub (lv 0) le_int))
    (lss_cons (ls_set (i := 3) nd rfl (by first | exact Or.inl rfl | exact Or.inr rfl) (le_mod (le_pow (le_add (le_ix (lv 0) le_int) (le_mul le_int (le_ix (lv 0) le_int))) le_int) (le_add (le_pow le_int le_int) le_int)))
    (lss_cons (ls_set (i := 3) nd rfl (by first | exact Or.inl rfl | exact Or.inr rfl) (le_mod (le_pow (le_add (lv 3) (le_mul le_int (le_ix (lv 0) le_int))) le_int) (le_add (le_pow le_int le_int) le_int)))
    (lss_one (ls_ret (le_mod (le_fdiv (lv 3) le_int) (lv 1)))))))), pl_law_dip⟩
theorem ok_law_cards {f : Addr} {fd : FuncData} (D : Fd K mg "_law_cards" s_law_cards ["_law_pot_here", "_law_many"] f fd) (T : Bl mg) (D_law_dip : Df P w K mg base "_law_dip" 1 ["_law_pot_here", "_law_many"] 2 [0] S_law_dip)  : FnG P w K mg base 2 f fd ["_law_pot_here", "_law_many"] (lfSp K 2 [0] S_law_cards) := by
  refine D.F.okT sc_law_cards rfl (by decide) fun cv B out s H E room gu => ?_
  have hu := hu64 room
  have hu5 := hu65 room
  have hu1 := hu_of room
  have hu6 := hu66 room
  have nd := sc_law_cards.nd
  exact ⟨w_law_cards, (lss_cons (ls_set (i := 2) nd rfl (by first | exact Or.inl rfl | exact Or.inr rfl) (le_ix (le_lst (la_cons le_int (la_cons le_int (la_cons le_int la_nil)))) (le_callD D_law_dip room (by decide) gu mS_law_dip rfl (la_cons (lv 0) (la_cons le_int la_nil)))))
    (lss_cons (ls_set (i := 3) nd rfl (by first | exact Or.inl rfl | exact Or.inr rfl) (le_lst (la_cons (le_ix (le_lst (la_cons le_int (la_cons (le_callD D_law_dip room (by decide) gu mS_law_dip rfl (la_cons (lv 0) (la_cons le_int la_nil))) la_nil))) (le_callD D_law_dip room (by decide) gu mS_law_dip rfl (la_cons (lv 0) (la_cons le_int la_nil)))) la_nil)))
    (lss_cons (ls_while (lt_cmp op_lt od_lt (le_len' rfl T.len_ (la_cons (lv 3) la_nil)) (lv 1) (nomark _)) (lss_one (ls_expr (le_append (lv 3) (la_cons (le_add (le_add (le_ix (lv 3) (le_neg le_int)) le_int) (le_callD D_law_dip room (by decide) gu mS_law_dip rfl (la_cons (lv 0) (la_cons (lv 2) la_nil)))) la_nil)))))
    (lss_cons (ls_set (i := 4) nd rfl (by first | exact Or.inl rfl | exact Or.inr rfl) (le_ix (le_lst (la_cons le_int (la_cons le_int (la_cons (le_sub le_int (le_ix (lv 3) (le_neg le_int))) la_nil)))) (le_callD D_law_dip room (by decide) gu mS_law_dip rfl (la_cons (lv 0) (la_cons le_int la_nil)))))
    (lss_one (ls_frz 3 (ls_ret (le_lc (own := [("_law_card", 5)]) rfl nd (li_list (lv 3)) (blkOk_by (own := [("_law_card", 5)]) (N := N_law_cards) (sc := defScope s_law_cards) (by first | decide +kernel | with_unfolding_all rfl)) (fun _ _ _ _ _ => (lg_name (i := 5) nd rfl (by first | exact Or.inl rfl | exact Or.inr rfl))) (fun _ _ _ _ _ => lts_nil) (fun _ _ _ _ _ => (le_add (lv 5) (lv 4))))))))))), pl_law_cards⟩
theorem ok_law_row {f : Addr} {fd : FuncData} (D : Fd K mg "_law_row" s_law_row ["_law_pot_here", "_law_most"] f fd) (T : Bl mg) (D_law_dip : Df P w K mg base "_law_dip" 1 ["_law_pot_here", "_law_many"] 2 [0] S_law_dip) (D_law_cards : Df P w K mg base "_law_cards" 2 ["_law_pot_here", "_law_many"] 2 [0] S_law_cards)  : FnG P w K mg base 3 f fd ["_law_pot_here", "_law_most"] (lfSp K 2 [0] S_law_row) := by
  refine D.F.okT sc_law_row rfl (by decide) fun cv B out s H E room gu => ?_
  have hu := hu64 room
  have hu5 := hu65 room
  have hu1 := hu_of room
  have hu6 := hu66 room
  have nd := sc_law_row.nd
  exact ⟨w_law_row, (lss_cons (ls_set (i := 2) nd rfl (by first | exact Or.inl rfl | exact Or.inr rfl) (le_callD D_law_cards room (by decide) gu mS_law_cards rfl (la_cons (lv 0) (la_cons (le_add le_int (le_callD D_law_dip room (by decide) gu mS_law_dip rfl (la_cons (lv 0) (la_cons (lv 1) la_nil)))) la_nil))))
    (lss_cons (ls_set (i := 3) nd rfl (by first | exact Or.inl rfl | exact Or.inr rfl) (le_callD D_law_dip room (by decide) gu mS_law_dip rfl (la_cons (lv 0) (la_cons le_int la_nil))))
    (lss_cons (ls_if (lt_cmp (op_eqX hu) od_Eq (lv 3) le_int (nomark _)) (lss_one (ls_ret (le_lc (own := [("_law_turn", 4)]) rfl nd (li_range1 rfl T.range_ (la_cons (le_len' rfl T.len_ (la_cons (lv 2) la_nil)) la_nil)) (blkOk_by (own := [("_law_turn", 4)]) (N := N_law_row) (sc := defScope s_law_row) (by first | decide +kernel | with_unfolding_all rfl)) (fun _ _ _ _ _ => (lg_name (i := 4) nd rfl (by first | exact Or.inl rfl | exact Or.inr rfl))) (fun _ _ _ _ _ => lts_nil) (fun _ _ _ _ _ => (le_popAt (lv 2) (la_cons (le_callD D_law_dip room (by decide) gu mS_law_dip rfl (la_cons (lv 0) (la_cons (le_len' rfl T.len_ (la_cons (lv 2) la_nil)) la_nil))) la_nil)))))) lss_nil)
    (lss_cons (ls_set (i := 5) nd rfl (by first | exact Or.inl rfl | exact Or.inr rfl) (le_revS (lv 2)))
    (lss_cons (ls_for rfl (li_range1 rfl T.range_ (la_cons (le_ix (le_lst (la_cons le_int (la_cons (le_add le_int (le_callD D_law_dip room (by decide) gu mS_law_dip rfl (la_cons (lv 0) (la_cons le_int la_nil)))) la_nil))) (le_sub (lv 3) le_int)) la_nil)) (lg_name (i := 4) nd rfl (by first | exact Or.inl rfl | exact Or.inr rfl)) (lss_cons (ls_set (i := 6) nd rfl (by first | exact Or.inl rfl | exact Or.inr rfl) (le_popAt (lv 5) (la_cons (le_callD D_law_dip room (by decide) gu mS_law_dip rfl (la_cons (lv 0) (la_cons (le_len' rfl T.len_ (la_cons (lv 5) la_nil)) la_nil))) la_nil)))
    (lss_one (ls_expr (le_insert (lv 5) (la_cons (le_callD D_law_dip room (by decide) gu mS_law_dip rfl (la_cons (lv 0) (la_cons (le_add (le_len' rfl T.len_ (la_cons (lv 5) la_nil)) le_int) la_nil))) (la_cons (lv 6) la_nil)))))))
    (lss_one (ls_retV (i := 5) rfl (by first | exact Or.inl rfl | exact Or.inr (Or.inl rfl) | exact Or.inr (Or.inr rfl))))))))), pl_law_row⟩
theorem ok_law_behind {f : Addr} {fd : FuncData} (D : Fd K mg "_law_behind" s_law_behind ["_law_row_here", "_law_history_here"] f fd) (T : Bl mg)   : FnG P w K mg base 1 f fd ["_law_row_here", "_law_history_here"] (lfSp K 2 [] S_law_behind) := by
  refine D.F.okT sc_law_behind rfl (by decide) fun cv B out s H E room gu => ?_
  have hu := hu64 room
  have hu5 := hu65 room
  have hu1 := hu_of room
  have hu6 := hu66 room
  have nd := sc_law_behind.nd
  exact ⟨w_law_behind, (lss_cons (ls_set (i := 2) nd rfl (by first | exact Or.inl rfl | exact Or.inr rfl) (le_list rfl T.list_ (la_cons (lv 0) la_nil)))
    (lss_cons (ls_for rfl (li_list (lv 1)) (lg_tup rfl (lgs_cons (lg_name (i := 3) nd rfl (by first | exact Or.inl rfl | exact Or.inr rfl)) (lgs_cons (lg_name (i := 4) nd rfl (by first | exact Or.inl rfl | exact Or.inr rfl)) lgs_nil))) (lss_cons (ls_set (i := 5) nd rfl (by first | exact Or.inl rfl | exact Or.inr rfl) (le_index hu5 (lv 2) (la_cons (lv 4) la_nil)))
    (lss_one (ls_asg (le_tup (la_cons (lv 3) (la_cons (lv 4) la_nil))) (lg_tup rfl (lgs_cons (lg_sub (lv 2) (lv 5)) (lgs_cons (lg_sub (lv 2) (le_add (lv 5) le_int)) lgs_nil)))))))
    (lss_one (ls_retV (i := 2) rfl (by first | exact Or.inl rfl | exact Or.inr (Or.inl rfl) | exact Or.inr (Or.inr rfl)))))), pl_law_behind⟩
theorem ok_law_next {f : Addr} {fd : FuncData} (D : Fd K mg "_law_next" s_law_next ["_law_row_here"] f fd) (T : Bl mg)   : FnG P w K mg base 1 f fd ["_law_row_here"] (lfSp K 1 [] S_law_next) := by
  refine D.F.okT sc_law_next rfl (by decide) fun cv B out s H E room gu => ?_
  have hu := hu64 room
  have hu5 := hu65 room
  have hu1 := hu_of room
  have hu6 := hu66 room
  have nd := sc_law_next.nd
  exact ⟨w_law_next, (lss_one (ls_ret (le_sorted hu rfl T.sorted_ (la_cons (le_lc (own := [("_law_at", 1)]) rfl nd (li_range1 rfl T.range_ (la_cons (le_sub (le_len' rfl T.len_ (la_cons (lv 0) la_nil)) le_int) la_nil)) (blkOk_by (own := [("_law_at", 1)]) (N := N_law_next) (sc := defScope s_law_next) (by first | decide +kernel | with_unfolding_all rfl)) (fun _ _ _ _ _ => (lg_name (i := 1) nd rfl (by first | exact Or.inl rfl | exact Or.inr rfl))) (fun _ _ _ _ _ => (lts_one (lt_cmp op_lt od_lt (le_ix (lv 0) (le_add (lv 1) le_int)) (le_ix (lv 0) (lv 1)) (nomark _)))) (fun _ _ _ _ _ => (le_tup (la_cons (le_ix (lv 0) (le_add (lv 1) le_int)) (la_cons (le_ix (lv 0) (lv 1)) la_nil))))) la_nil)))), pl_law_next⟩
theorem ok_law_history {f : Addr} {fd : FuncData} (D : Fd K mg "_law_history" s_law_history ["_law_pot_here", "_law_row_here", "_law_many"] f fd) (T : Bl mg) (D_law_dip : Df P w K mg base "_law_dip" 1 ["_law_pot_here", "_law_many"] 2 [0] S_law_dip) (D_law_behind : Df P w K mg base "_law_behind" 1 ["_law_row_here", "_law_history_here"] 2 [] S_law_behind) (D_law_next : Df P w K mg base "_law_next" 1 ["_law_row_here"] 1 [] S_law_next)  : FnG P w K mg base 2 f fd ["_law_pot_here", "_law_row_here", "_law_many"] (lfSp K 3 [0] S_law_history) := by
  refine D.F.okT sc_law_history rfl (by decide) fun cv B out s H E room gu => ?_
  have hu := hu64 room
  have hu5 := hu65 room
  have hu1 := hu_of room
  have hu6 := hu66 room
  have nd := sc_law_history.nd
  exact ⟨w_law_history, (lss_cons (ls_par (i := 3) (j := 4) rfl nd rfl rfl (by decide) rfl rfl (la_cons (le_list rfl T.list_ (la_cons (lv 1) la_nil)) (la_cons (le_lst la_nil) la_nil)) (by rfl))
    (lss_cons (ls_set (i := 5) nd rfl (by first | exact Or.inl rfl | exact Or.inr rfl) (le_callD D_law_dip room (by decide) gu mS_law_dip rfl (la_cons (lv 0) (la_cons le_int la_nil))))
    (lss_cons (ls_while (TX.LW.lt (lw_and (lt_cmp op_lt od_lt (le_len' rfl T.len_ (la_cons (lv 4) la_nil)) (lv 2) (nomark _)) (lw_and1 (lt_cmp (op_neX hu) od_Ne (le_callD D_law_next room (by decide) gu mS_law_next rfl (la_cons (lv 3) la_nil)) (le_lst la_nil) (nomark _))))) (lss_cons (ls_set (i := 6) nd rfl (by first | exact Or.inl rfl | exact Or.inr rfl) (le_callD D_law_next room (by decide) gu mS_law_next rfl (la_cons (lv 3) la_nil)))
    (lss_cons (ls_frz 6 (ls_set (i := 7) nd rfl (by first | exact Or.inl rfl | exact Or.inr rfl) (le_ix (le_sorted hu rfl T.sorted_ (la_cons (le_lc (own := [("_law_pair", 8)]) rfl nd (li_list (lv 6)) (blkOk_by (own := [("_law_pair", 8)]) (N := N_law_history) (sc := defScope s_law_history) (by first | decide +kernel | with_unfolding_all rfl)) (fun _ _ _ _ _ => (lg_name (i := 8) nd rfl (by first | exact Or.inl rfl | exact Or.inr rfl))) (fun _ _ _ _ _ => lts_nil) (fun _ _ _ _ _ => (le_revT (lv 8)))) la_nil)) (le_neg le_int))))
    (lss_cons (ls_expr (le_append (lv 4) (la_cons (le_ix (le_lst (la_cons (le_ix (lv 6) le_int) (la_cons (le_revT (lv 7)) (la_cons (le_ix (lv 6) (le_callD D_law_dip room (by decide) gu mS_law_dip rfl (la_cons (lv 0) (la_cons (le_len' rfl T.len_ (la_cons (lv 6) la_nil)) la_nil)))) la_nil)))) (lv 5)) la_nil)))
    (lss_one (ls_set (i := 3) nd rfl (by first | exact Or.inl rfl | exact Or.inr rfl) (le_callD D_law_behind room (by decide) gu mS_law_behind rfl (la_cons (lv 3) (la_cons (le_sl (lv 4) (lo_some (le_neg le_int)) lo_none) la_nil)))))))))
    (lss_one (ls_retV (i := 4) rfl (by first | exact Or.inl rfl | exact Or.inr (Or.inl rfl) | exact Or.inr (Or.inr rfl))))))), pl_law_history⟩
theorem ok_law_threes {f : Addr} {fd : FuncData} (D : Fd K mg "_law_threes" s_law_threes ["_law_row_here"] f fd) (T : Bl mg)   : FnG P w K mg base 1 f fd ["_law_row_here"] (lfSp K 1 [] S_law_threes) := by
  refine D.F.okT sc_law_threes rfl (by decide) fun cv B out s H E room gu => ?_
  have hu := hu64 room
  have hu5 := hu65 room
  have hu1 := hu_of room
  have hu6 := hu66 room
  have nd := sc_law_threes.nd
  exact ⟨w_law_threes, (lss_cons (ls_set (i := 1) nd rfl (by first | exact Or.inl rfl | exact Or.inr rfl) (le_sorted hu rfl T.sorted_ (la_cons (lv 0) la_nil)))
    (lss_cons (ls_frz 1 (ls_set (i := 2) nd rfl (by first | exact Or.inl rfl | exact Or.inr rfl) (le_lst la_nil)))
    (lss_cons (ls_for rfl (li_enum rfl T.enumerate_ (la_cons (lv 1) la_nil)) (lg_tup rfl (lgs_cons (lg_name (i := 3) nd rfl (by first | exact Or.inl rfl | exact Or.inr rfl)) (lgs_cons (lg_name (i := 4) nd rfl (by first | exact Or.inl rfl | exact Or.inr rfl)) lgs_nil))) (lss_one (ls_for rfl (li_enum rfl T.enumerate_ (la_cons (le_sl (lv 1) (lo_some (le_add (lv 3) le_int)) lo_none) la_nil)) (lg_tup rfl (lgs_cons (lg_name (i := 5) nd rfl (by first | exact Or.inl rfl | exact Or.inr rfl)) (lgs_cons (lg_name (i := 6) nd rfl (by first | exact Or.inl rfl | exact Or.inr rfl)) lgs_nil))) (lss_one (ls_expr (le_extend (lv 2) (la_cons (le_lc (own := [("_law_z", 7)]) rfl nd (li_list (le_sl (lv 1) (lo_some (le_add (le_add (lv 3) (lv 5)) le_int)) lo_none)) (blkOk_by (own := [("_law_z", 7)]) (N := N_law_threes) (sc := defScope s_law_threes) (by first | decide +kernel | with_unfolding_all rfl)) (fun _ _ _ _ _ => (lg_name (i := 7) nd rfl (by first | exact Or.inl rfl | exact Or.inr rfl))) (fun _ _ _ _ _ => lts_nil) (fun _ _ _ _ _ => (le_tup (la_cons (lv 4) (la_cons (lv 6) (la_cons (lv 7) la_nil)))))) la_nil)))))))
    (lss_one (ls_retV (i := 2) rfl (by first | exact Or.inl rfl | exact Or.inr (Or.inl rfl) | exact Or.inr (Or.inr rfl))))))), pl_law_threes⟩
theorem ok_law_ended {f : Addr} {fd : FuncData} (D : Fd K mg "_law_ended" s_law_ended ["_law_here", "_law_is_high"] f fd) (T : Bl mg) (D_law_behind : Df P w K mg base "_law_behind" 1 ["_law_row_here", "_law_history_here"] 2 [] S_law_behind) (D_law_next : Df P w K mg base "_law_next" 1 ["_law_row_here"] 1 [] S_law_next)  : FnG P w K mg base 2 f fd ["_law_here", "_law_is_high"] (lfSp K 2 [] S_law_ended) := by
  refine D.F.okT sc_law_ended rfl (by decide) fun cv B out s H E room gu => ?_
  have hu := hu64 room
  have hu5 := hu65 room
  have hu1 := hu_of room
  have hu6 := hu66 room
  have nd := sc_law_ended.nd
  exact ⟨w_law_ended, (lss_cons (ls_set (i := 2) nd rfl (by first | exact Or.inl rfl | exact Or.inr rfl) (le_lst la_nil))
    (lss_cons (ls_while (lt_cmp (op_neX hu) od_Ne (le_callD D_law_next room (by decide) gu mS_law_next rfl (la_cons (lv 0) la_nil)) (le_lst la_nil) (nomark _)) (lss_cons (ls_set (i := 3) nd rfl (by first | exact Or.inl rfl | exact Or.inr rfl) (le_ix (le_sorted hu rfl T.sorted_ (la_cons (le_lc (own := [("_law_pair", 4)]) rfl nd (li_list (le_callD D_law_next room (by decide) gu mS_law_next rfl (la_cons (lv 0) la_nil))) (blkOk_by (own := [("_law_pair", 4)]) (N := N_law_ended) (sc := defScope s_law_ended) (by first | decide +kernel | with_unfolding_all rfl)) (fun _ _ _ _ _ => (lg_name (i := 4) nd rfl (by first | exact Or.inl rfl | exact Or.inr rfl))) (fun _ _ _ _ _ => lts_nil) (fun _ _ _ _ _ => (le_revT (lv 4)))) la_nil)) (le_neg le_int)))
    (lss_cons (ls_expr (le_append (lv 2) (la_cons (le_ix (le_lst (la_cons (le_ix (le_callD D_law_next room (by decide) gu mS_law_next rfl (la_cons (lv 0) la_nil)) le_int) (la_cons (le_revT (lv 3)) la_nil))) (le_toInt rfl T.int_ (la_cons (lv 1) la_nil))) la_nil)))
    (lss_one (ls_set (i := 0) nd rfl (by first | exact Or.inl rfl | exact Or.inr rfl) (le_callD D_law_behind room (by decide) gu mS_law_behind rfl (la_cons (lv 0) (la_cons (le_sl (lv 2) (lo_some (le_neg le_int)) lo_none) la_nil))))))))
    (lss_one (ls_retV (i := 2) rfl (by first | exact Or.inl rfl | exact Or.inr (Or.inl rfl) | exact Or.inr (Or.inr rfl)))))), pl_law_ended⟩
theorem ok_law_parts_right {f : Addr} {fd : FuncData} (D : Fd K mg "_law_parts_right" s_law_parts_right ["_law_row_here", "_law_first", "_law_rest"] f fd) (T : Bl mg) (D_wrong_pairs : Df P w K mg base "wrong_pairs" 4 ["row"] 1 [] S_wrong_pairs) (D_is_history : Df P w K mg base "is_history" 4 ["row", "thing"] 2 [] S_is_history) (D_row_behind : Df P w K mg base "row_behind" 6 ["row", "history"] 2 [] S_row_behind) (D_books_by : Df P w K mg base "books_by" 6 ["row", "history"] 2 [] S_books_by)  : FnG P w K mg base 7 f fd ["_law_row_here", "_law_first", "_law_rest"] (lfSp K 3 [] S_law_parts_right) := by
  refine D.F.okT sc_law_parts_right rfl (by decide) fun cv B out s H E room gu => ?_
  have hu := hu64 room
  have hu5 := hu65 room
  have hu1 := hu_of room
  have hu6 := hu66 room
  have nd := sc_law_parts_right.nd
  exact ⟨w_law_parts_right, (lss_cons (ls_set (i := 3) nd rfl (by first | exact Or.inl rfl | exact Or.inr rfl) (le_callD D_row_behind room (by decide) gu mS_row_behind rfl (la_cons (lv 0) (la_cons (lv 1) la_nil))))
    (lss_cons (ls_frz 3 (ls_if (TX.LW.lt (lw_or (lt_not (lt_val (le_callD D_is_history room (by decide) gu mS_is_history rfl (la_cons (lv 0) (la_cons (le_cat (lv 1) (lv 2)) la_nil))))) (lw_or1 (lt_not (lt_val (le_callD D_is_history room (by decide) gu mS_is_history rfl (la_cons (lv 3) (la_cons (lv 2) la_nil)))))))) (lss_one (ls_ret le_bl)) lss_nil))
    (lss_cons (ls_if (lt_cmp (op_neX hu) od_Ne (le_callD D_row_behind room (by decide) gu mS_row_behind rfl (la_cons (lv 0) (la_cons (le_cat (lv 1) (lv 2)) la_nil))) (le_callD D_row_behind room (by decide) gu mS_row_behind rfl (la_cons (lv 3) (la_cons (lv 2) la_nil))) (nomark _)) (lss_one (ls_ret le_bl)) lss_nil)
    (lss_cons (ls_parC (i := 4) (j := 5) rfl nd rfl rfl (by decide) (by first | exact Or.inl rfl | exact Or.inr rfl) (by first | exact Or.inl rfl | exact Or.inr rfl) (la_cons (le_callD D_books_by room (by decide) gu mS_books_by rfl (la_cons (lv 0) (la_cons (lv 1) la_nil))) (la_cons (le_callD D_books_by room (by decide) gu mS_books_by rfl (la_cons (lv 3) (la_cons (lv 2) la_nil))) la_nil)) (by rfl))
    (lss_cons (ls_set (i := 6) nd rfl (by first | exact Or.inl rfl | exact Or.inr rfl) (le_callD D_books_by room (by decide) gu mS_books_by rfl (la_cons (lv 0) (la_cons (le_cat (lv 1) (lv 2)) la_nil))))
    (lss_cons (ls_frz 5 (ls_frz 4 (ls_frz 6 (ls_if (lt_cmp (op_neX hu) od_Ne (le_lc (own := [("_law_card", 7)]) rfl nd (li_list (lv 0)) (blkOk_by (own := [("_law_card", 7)]) (N := N_law_parts_right) (sc := defScope s_law_parts_right) (by first | decide +kernel | with_unfolding_all rfl)) (fun _ _ _ _ _ => (lg_name (i := 7) nd rfl (by first | exact Or.inl rfl | exact Or.inr rfl))) (fun _ _ _ _ _ => (lts_one (lt_cmp (op_neX hu) od_Ne (le_dg1 hu1 (lv 6) (lv 7)) (le_cat (le_dg1 hu1 (lv 4) (lv 7)) (le_dg1 hu1 (lv 5) (lv 7))) (nomark _)))) (fun _ _ _ _ _ => (lv 7))) (le_lst la_nil) (nomark _)) (lss_one (ls_ret le_bl)) lss_nil))))
    (lss_one (ls_ret (le_cmp (op_eqX hu) od_Eq (le_len' rfl T.len_ (la_cons (le_callD D_wrong_pairs room (by decide) gu mS_wrong_pairs rfl (la_cons (lv 0) la_nil)) la_nil)) (le_add (le_len' rfl T.len_ (la_cons (lv 1) la_nil)) (le_len' rfl T.len_ (la_cons (le_callD D_wrong_pairs room (by decide) gu mS_wrong_pairs rfl (la_cons (lv 3) la_nil)) la_nil))) (nomark _)))))))))), pl_law_parts_right⟩
theorem ok_law_ways_right {f : Addr} {fd : FuncData} (D : Fd K mg "_law_ways_right" s_law_ways_right ["_law_row_here", "_law_first", "_law_rest", "_law_wished"] f fd) (T : Bl mg) (D_crossing_threes : Df P w K mg base "crossing_threes" 4 ["row"] 1 [] S_crossing_threes) (D_row_behind : Df P w K mg base "row_behind" 6 ["row", "history"] 2 [] S_row_behind) (D_way_by : Df P w K mg base "way_by" 6 ["row", "history", "three"] 3 [] S_way_by) (D_law_threes : Df P w K mg base "_law_threes" 1 ["_law_row_here"] 1 [] S_law_threes)  : FnG P w K mg base 7 f fd ["_law_row_here", "_law_first", "_law_rest", "_law_wished"] (lfSp K 4 [] S_law_ways_right) := by
  refine D.F.okT sc_law_ways_right rfl (by decide) fun cv B out s H E room gu => ?_
  have hu := hu64 room
  have hu5 := hu65 room
  have hu1 := hu_of room
  have hu6 := hu66 room
  have nd := sc_law_ways_right.nd
  exact ⟨w_law_ways_right, (lss_cons (ls_set (i := 4) nd rfl (by first | exact Or.inl rfl | exact Or.inr rfl) (le_callD D_row_behind room (by decide) gu mS_row_behind rfl (la_cons (lv 0) (la_cons (lv 1) la_nil))))
    (lss_cons (ls_frz 4 (ls_set (i := 5) nd rfl (by first | exact Or.inl rfl | exact Or.inr rfl) (le_callD D_crossing_threes room (by decide) gu mS_crossing_threes rfl (la_cons (lv 4) la_nil))))
    (lss_cons (ls_for rfl (li_list (le_callD D_law_threes room (by decide) gu mS_law_threes rfl (la_cons (lv 0) la_nil))) (lg_name (i := 6) nd rfl (by first | exact Or.inl rfl | exact Or.inr rfl)) (lss_cons (ls_par (i := 7) (j := 8) rfl nd rfl rfl (by decide) rfl rfl (la_cons (le_callD D_way_by room (by decide) gu mS_way_by rfl (la_cons (lv 0) (la_cons (lv 1) (la_cons (lv 6) la_nil)))) (la_cons (le_callD D_way_by room (by decide) gu mS_way_by rfl (la_cons (lv 0) (la_cons (le_cat (lv 1) (lv 2)) (la_cons (lv 6) la_nil)))) la_nil)) (by rfl))
    (lss_cons (ls_if (TX.LW.lt (lw_or (lt_cmp (op_neX hu) od_Ne (le_cmp (op_eqX hu) od_Eq (lv 7) le_str (nomark _)) (le_cmp (op_inX hu5) od_In (lv 6) (lv 5) (by with_unfolding_all rfl)) (nomark _)) (lw_or1 (TX.LW.lt (lw_and (lt_cmp (op_neX hu) od_Ne (lv 7) le_str (nomark _)) (lw_and1 (lt_cmp (op_neX hu) od_Ne (lv 8) (lv 7) (nomark _)))))))) (lss_one (ls_ret le_bl)) lss_nil)
    (lss_one (ls_if (TX.LW.lt (lw_and (lt_cmp (op_eqX hu) od_Eq (lv 7) le_str (nomark _)) (lw_and1 (TX.LW.lt (lw_or (lt_cmp (op_neX hu) od_Ne (lv 8) (le_callD D_way_by room (by decide) gu mS_way_by rfl (la_cons (lv 4) (la_cons (lv 2) (la_cons (lv 6) la_nil)))) (nomark _)) (lw_or1 (lt_cmp (op_notinT hu5) od_InT (lv 3) (le_tup (la_cons le_str (la_cons (lv 8) la_nil))) (by with_unfolding_all rfl)))))))) (lss_one (ls_ret le_bl)) lss_nil)))))
    (lss_one (ls_ret le_bl))))), pl_law_ways_right⟩
theorem ok_law {f : Addr} {fd : FuncData} (D : Fd K mg "law" s_law ["_law_script"] f fd) (T : Bl mg) (D_law_pot : Df P w K mg base "_law_pot" 1 ["_law_script", "_law_k"] 2 [] S_law_pot) (D_law_dip : Df P w K mg base "_law_dip" 1 ["_law_pot_here", "_law_many"] 2 [0] S_law_dip) (D_law_row : Df P w K mg base "_law_row" 3 ["_law_pot_here", "_law_most"] 2 [0] S_law_row) (D_law_behind : Df P w K mg base "_law_behind" 1 ["_law_row_here", "_law_history_here"] 2 [] S_law_behind) (D_law_history : Df P w K mg base "_law_history" 2 ["_law_pot_here", "_law_row_here", "_law_many"] 3 [0] S_law_history) (D_law_ended : Df P w K mg base "_law_ended" 2 ["_law_here", "_law_is_high"] 2 [] S_law_ended) (D_law_parts_right : Df P w K mg base "_law_parts_right" 7 ["_law_row_here", "_law_first", "_law_rest"] 3 [] S_law_parts_right) (D_law_ways_right : Df P w K mg base "_law_ways_right" 7 ["_law_row_here", "_law_first", "_law_rest", "_law_wished"] 4 [] S_law_ways_right)  : FnG P w K mg base 8 f fd ["_law_script"] (lfSp K 1 [] S_law) := by
  refine D.F.okT sc_law rfl (by decide) fun cv B out s H E room gu => ?_
  have hu := hu64 room
  have hu5 := hu65 room
  have hu1 := hu_of room
  have hu6 := hu66 room
  have nd := sc_law.nd
  exact ⟨w_law, (lss_cons (ls_for rfl (li_range1 rfl T.range_ (la_cons (le_max rfl rfl T.max_ (la_cons le_int (la_cons (le_min rfl rfl T.min_ (la_cons le_int (la_cons (le_add (le_len' rfl T.len_ (la_cons (lv 0) la_nil)) le_int) la_nil))) la_nil))) la_nil)) (lg_name (i := 1) nd rfl (by first | exact Or.inl rfl | exact Or.inr rfl)) (lss_cons (ls_set (i := 2) nd rfl (by first | exact Or.inl rfl | exact Or.inr rfl) (le_callD D_law_pot room (by decide) gu mS_law_pot rfl (la_cons (lv 0) (la_cons (lv 1) la_nil))))
    (lss_cons (ls_set (i := 3) nd rfl (by first | exact Or.inl rfl | exact Or.inr rfl) (le_callD D_law_row room (by decide) gu mS_law_row rfl (la_cons (lv 2) (la_cons le_int la_nil))))
    (lss_cons (ls_frz 3 (ls_set (i := 4) nd rfl (by first | exact Or.inl rfl | exact Or.inr rfl) (le_callD D_law_history room (by decide) gu mS_law_history rfl (la_cons (lv 2) (la_cons (lv 3) (la_cons (le_callD D_law_dip room (by decide) gu mS_law_dip rfl (la_cons (lv 2) (la_cons le_int la_nil))) la_nil))))))
    (lss_cons (ls_frz 4 (ls_set (i := 5) nd rfl (by first | exact Or.inl rfl | exact Or.inr rfl) (le_callD D_law_behind room (by decide) gu mS_law_behind rfl (la_cons (lv 3) (la_cons (lv 4) la_nil)))))
    (lss_cons (ls_frz 5 (ls_set (i := 6) nd rfl (by first | exact Or.inl rfl | exact Or.inr rfl) (le_callD D_law_history room (by decide) gu mS_law_history rfl (la_cons (lv 2) (la_cons (lv 5) (la_cons (le_callD D_law_dip room (by decide) gu mS_law_dip rfl (la_cons (lv 2) (la_cons le_int la_nil))) la_nil))))))
    (lss_cons (ls_frz 6 (ls_for rfl (li_list (le_lst (la_cons (le_tup (la_cons (le_callD D_law_ended room (by decide) gu mS_law_ended rfl (la_cons (lv 5) (la_cons le_bl la_nil))) (la_cons le_str la_nil))) (la_cons (le_tup (la_cons (le_callD D_law_ended room (by decide) gu mS_law_ended rfl (la_cons (lv 5) (la_cons le_bl la_nil))) (la_cons le_str la_nil))) (la_cons (le_tup (la_cons (lv 6) (la_cons le_str la_nil))) la_nil))))) (lg_tup rfl (lgs_cons (lg_name (i := 7) nd rfl (by first | exact Or.inl rfl | exact Or.inr rfl)) (lgs_cons (lg_name (i := 8) nd rfl (by first | exact Or.inl rfl | exact Or.inr rfl)) lgs_nil))) (lss_cons (ls_if (lt_not (lt_val (le_callD D_law_parts_right room (by decide) gu mS_law_parts_right rfl (la_cons (lv 3) (la_cons (lv 4) (la_cons (lv 7) la_nil)))))) (lss_one (ls_ret le_bl)) lss_nil)
    (lss_one (ls_if (TX.LW.lt (lw_and (lt_cmp (op_neX hu) od_Ne (lv 8) le_str (nomark _)) (lw_and1 (lt_not (lt_val (le_callD D_law_ways_right room (by decide) gu mS_law_ways_right rfl (la_cons (lv 3) (la_cons (lv 4) (la_cons (lv 7) (la_cons (lv 8) la_nil)))))))))) (lss_one (ls_ret le_bl)) lss_nil)))))
    (lss_one (ls_if (lt_not (lt_val (le_callD D_law_ways_right room (by decide) gu mS_law_ways_right rfl (la_cons (lv 3) (la_cons (lv 4) (la_cons (le_callD D_law_history room (by decide) gu mS_law_history rfl (la_cons (lv 2) (la_cons (lv 5) (la_cons le_int la_nil)))) (la_cons le_str la_nil))))))) (lss_one (ls_ret le_bl)) lss_nil)))))))))
    (lss_one (ls_ret le_bl))), pl_law⟩
end
end LW

namespace LW
open PySem PySem.Spec L2 TX PyProof.Rows 
theorem all_of {l : PySem.W.OpenLaw} {w : World} {K : PySem.W.Frag} {h : Heap} {mg : Str → Option Value} {fa : Addr} (X : K.In h) (G : h.Ns mainGlobals mg) (hfa : mg "law" = some (.ref fa))
    {f0 : Addr} {od0 an0 : Option Addr} {sl0 : Array (Option Value)} {oc0 kV0 dc0 pm0 cd0 ct0 : Value} (a0 : PySem.W.nsIn K mainGlobals "is_card" = some (some (.ref f0)))
    (l0 : K.lookup f0 = some ⟨oc0, od0, .func (PySem.W.fnOf "is_card" "is_card" (defArgs s_is_card) (defBody s_is_card) (defScope s_is_card) .none kV0 dc0 pm0 an0 cd0 ct0), sl0⟩) (c0 : PySem.W.codeIn K cd0 "is_card" = true) (k0 : PySem.W.keepIn K (.ref f0) = true)
    {f1 : Addr} {od1 an1 : Option Addr} {sl1 : Array (Option Value)} {oc1 kV1 dc1 pm1 cd1 ct1 : Value} (a1 : PySem.W.nsIn K mainGlobals "is_row" = some (some (.ref f1)))
    (l1 : K.lookup f1 = some ⟨oc1, od1, .func (PySem.W.fnOf "is_row" "is_row" (defArgs s_is_row) (defBody s_is_row) (defScope s_is_row) .none kV1 dc1 pm1 an1 cd1 ct1), sl1⟩) (c1 : PySem.W.codeIn K cd1 "is_row" = true) (k1 : PySem.W.keepIn K (.ref f1) = true)
    {f2 : Addr} {od2 an2 : Option Addr} {sl2 : Array (Option Value)} {oc2 kV2 dc2 pm2 cd2 ct2 : Value} (a2 : PySem.W.nsIn K mainGlobals "need_row" = some (some (.ref f2)))
    (l2 : K.lookup f2 = some ⟨oc2, od2, .func (PySem.W.fnOf "need_row" "need_row" (defArgs s_need_row) (defBody s_need_row) (defScope s_need_row) .none kV2 dc2 pm2 an2 cd2 ct2), sl2⟩) (c2 : PySem.W.codeIn K cd2 "need_row" = true) (k2 : PySem.W.keepIn K (.ref f2) = true)
    {f3 : Addr} {od3 an3 : Option Addr} {sl3 : Array (Option Value)} {oc3 kV3 dc3 pm3 cd3 ct3 : Value} (a3 : PySem.W.nsIn K mainGlobals "wrong_in" = some (some (.ref f3)))
    (l3 : K.lookup f3 = some ⟨oc3, od3, .func (PySem.W.fnOf "wrong_in" "wrong_in" (defArgs s_wrong_in) (defBody s_wrong_in) (defScope s_wrong_in) .none kV3 dc3 pm3 an3 cd3 ct3), sl3⟩) (c3 : PySem.W.codeIn K cd3 "wrong_in" = true) (k3 : PySem.W.keepIn K (.ref f3) = true)
    {f4 : Addr} {od4 an4 : Option Addr} {sl4 : Array (Option Value)} {oc4 kV4 dc4 pm4 cd4 ct4 : Value} (a4 : PySem.W.nsIn K mainGlobals "wrong_pairs" = some (some (.ref f4)))
    (l4 : K.lookup f4 = some ⟨oc4, od4, .func (PySem.W.fnOf "wrong_pairs" "wrong_pairs" (defArgs s_wrong_pairs) (defBody s_wrong_pairs) (defScope s_wrong_pairs) .none kV4 dc4 pm4 an4 cd4 ct4), sl4⟩) (c4 : PySem.W.codeIn K cd4 "wrong_pairs" = true) (k4 : PySem.W.keepIn K (.ref f4) = true)
    {f5 : Addr} {od5 an5 : Option Addr} {sl5 : Array (Option Value)} {oc5 kV5 dc5 pm5 cd5 ct5 : Value} (a5 : PySem.W.nsIn K mainGlobals "crossing_threes" = some (some (.ref f5)))
    (l5 : K.lookup f5 = some ⟨oc5, od5, .func (PySem.W.fnOf "crossing_threes" "crossing_threes" (defArgs s_crossing_threes) (defBody s_crossing_threes) (defScope s_crossing_threes) .none kV5 dc5 pm5 an5 cd5 ct5), sl5⟩) (c5 : PySem.W.codeIn K cd5 "crossing_threes" = true) (k5 : PySem.W.keepIn K (.ref f5) = true)
    {f6 : Addr} {od6 an6 : Option Addr} {sl6 : Array (Option Value)} {oc6 kV6 dc6 pm6 cd6 ct6 : Value} (a6 : PySem.W.nsIn K mainGlobals "is_three" = some (some (.ref f6)))
    (l6 : K.lookup f6 = some ⟨oc6, od6, .func (PySem.W.fnOf "is_three" "is_three" (defArgs s_is_three) (defBody s_is_three) (defScope s_is_three) .none kV6 dc6 pm6 an6 cd6 ct6), sl6⟩) (c6 : PySem.W.codeIn K cd6 "is_three" = true) (k6 : PySem.W.keepIn K (.ref f6) = true)
    {f7 : Addr} {od7 an7 : Option Addr} {sl7 : Array (Option Value)} {oc7 kV7 dc7 pm7 cd7 ct7 : Value} (a7 : PySem.W.nsIn K mainGlobals "need_three" = some (some (.ref f7)))
    (l7 : K.lookup f7 = some ⟨oc7, od7, .func (PySem.W.fnOf "need_three" "need_three" (defArgs s_need_three) (defBody s_need_three) (defScope s_need_three) .none kV7 dc7 pm7 an7 cd7 ct7), sl7⟩) (c7 : PySem.W.codeIn K cd7 "need_three" = true) (k7 : PySem.W.keepIn K (.ref f7) = true)
    {f8 : Addr} {od8 an8 : Option Addr} {sl8 : Array (Option Value)} {oc8 kV8 dc8 pm8 cd8 ct8 : Value} (a8 : PySem.W.nsIn K mainGlobals "may_change" = some (some (.ref f8)))
    (l8 : K.lookup f8 = some ⟨oc8, od8, .func (PySem.W.fnOf "may_change" "may_change" (defArgs s_may_change) (defBody s_may_change) (defScope s_may_change) .none kV8 dc8 pm8 an8 cd8 ct8), sl8⟩) (c8 : PySem.W.codeIn K cd8 "may_change" = true) (k8 : PySem.W.keepIn K (.ref f8) = true)
    {f9 : Addr} {od9 an9 : Option Addr} {sl9 : Array (Option Value)} {oc9 kV9 dc9 pm9 cd9 ct9 : Value} (a9 : PySem.W.nsIn K mainGlobals "led_by" = some (some (.ref f9)))
    (l9 : K.lookup f9 = some ⟨oc9, od9, .func (PySem.W.fnOf "led_by" "led_by" (defArgs s_led_by) (defBody s_led_by) (defScope s_led_by) .none kV9 dc9 pm9 an9 cd9 ct9), sl9⟩) (c9 : PySem.W.codeIn K cd9 "led_by" = true) (k9 : PySem.W.keepIn K (.ref f9) = true)
    {f10 : Addr} {od10 an10 : Option Addr} {sl10 : Array (Option Value)} {oc10 kV10 dc10 pm10 cd10 ct10 : Value} (a10 : PySem.W.nsIn K mainGlobals "is_history" = some (some (.ref f10)))
    (l10 : K.lookup f10 = some ⟨oc10, od10, .func (PySem.W.fnOf "is_history" "is_history" (defArgs s_is_history) (defBody s_is_history) (defScope s_is_history) .none kV10 dc10 pm10 an10 cd10 ct10), sl10⟩) (c10 : PySem.W.codeIn K cd10 "is_history" = true) (k10 : PySem.W.keepIn K (.ref f10) = true)
    {f11 : Addr} {od11 an11 : Option Addr} {sl11 : Array (Option Value)} {oc11 kV11 dc11 pm11 cd11 ct11 : Value} (a11 : PySem.W.nsIn K mainGlobals "need_history" = some (some (.ref f11)))
    (l11 : K.lookup f11 = some ⟨oc11, od11, .func (PySem.W.fnOf "need_history" "need_history" (defArgs s_need_history) (defBody s_need_history) (defScope s_need_history) .none kV11 dc11 pm11 an11 cd11 ct11), sl11⟩) (c11 : PySem.W.codeIn K cd11 "need_history" = true) (k11 : PySem.W.keepIn K (.ref f11) = true)
    {f12 : Addr} {od12 an12 : Option Addr} {sl12 : Array (Option Value)} {oc12 kV12 dc12 pm12 cd12 ct12 : Value} (a12 : PySem.W.nsIn K mainGlobals "row_behind" = some (some (.ref f12)))
    (l12 : K.lookup f12 = some ⟨oc12, od12, .func (PySem.W.fnOf "row_behind" "row_behind" (defArgs s_row_behind) (defBody s_row_behind) (defScope s_row_behind) .none kV12 dc12 pm12 an12 cd12 ct12), sl12⟩) (c12 : PySem.W.codeIn K cd12 "row_behind" = true) (k12 : PySem.W.keepIn K (.ref f12) = true)
    {f13 : Addr} {od13 an13 : Option Addr} {sl13 : Array (Option Value)} {oc13 kV13 dc13 pm13 cd13 ct13 : Value} (a13 : PySem.W.nsIn K mainGlobals "way_of" = some (some (.ref f13)))
    (l13 : K.lookup f13 = some ⟨oc13, od13, .func (PySem.W.fnOf "way_of" "way_of" (defArgs s_way_of) (defBody s_way_of) (defScope s_way_of) .none kV13 dc13 pm13 an13 cd13 ct13), sl13⟩) (c13 : PySem.W.codeIn K cd13 "way_of" = true) (k13 : PySem.W.keepIn K (.ref f13) = true)
    {f14 : Addr} {od14 an14 : Option Addr} {sl14 : Array (Option Value)} {oc14 kV14 dc14 pm14 cd14 ct14 : Value} (a14 : PySem.W.nsIn K mainGlobals "way_by" = some (some (.ref f14)))
    (l14 : K.lookup f14 = some ⟨oc14, od14, .func (PySem.W.fnOf "way_by" "way_by" (defArgs s_way_by) (defBody s_way_by) (defScope s_way_by) .none kV14 dc14 pm14 an14 cd14 ct14), sl14⟩) (c14 : PySem.W.codeIn K cd14 "way_by" = true) (k14 : PySem.W.keepIn K (.ref f14) = true)
    {f15 : Addr} {od15 an15 : Option Addr} {sl15 : Array (Option Value)} {oc15 kV15 dc15 pm15 cd15 ct15 : Value} (a15 : PySem.W.nsIn K mainGlobals "books_in" = some (some (.ref f15)))
    (l15 : K.lookup f15 = some ⟨oc15, od15, .func (PySem.W.fnOf "books_in" "books_in" (defArgs s_books_in) (defBody s_books_in) (defScope s_books_in) .none kV15 dc15 pm15 an15 cd15 ct15), sl15⟩) (c15 : PySem.W.codeIn K cd15 "books_in" = true) (k15 : PySem.W.keepIn K (.ref f15) = true)
    {f16 : Addr} {od16 an16 : Option Addr} {sl16 : Array (Option Value)} {oc16 kV16 dc16 pm16 cd16 ct16 : Value} (a16 : PySem.W.nsIn K mainGlobals "books_by" = some (some (.ref f16)))
    (l16 : K.lookup f16 = some ⟨oc16, od16, .func (PySem.W.fnOf "books_by" "books_by" (defArgs s_books_by) (defBody s_books_by) (defScope s_books_by) .none kV16 dc16 pm16 an16 cd16 ct16), sl16⟩) (c16 : PySem.W.codeIn K cd16 "books_by" = true) (k16 : PySem.W.keepIn K (.ref f16) = true)
    {f17 : Addr} {od17 an17 : Option Addr} {sl17 : Array (Option Value)} {oc17 kV17 dc17 pm17 cd17 ct17 : Value} (a17 : PySem.W.nsIn K mainGlobals "_law_pot" = some (some (.ref f17)))
    (l17 : K.lookup f17 = some ⟨oc17, od17, .func (PySem.W.fnOf "_law_pot" "_law_pot" (defArgs s_law_pot) (defBody s_law_pot) (defScope s_law_pot) .none kV17 dc17 pm17 an17 cd17 ct17), sl17⟩) (c17 : PySem.W.codeIn K cd17 "_law_pot" = true) (k17 : PySem.W.keepIn K (.ref f17) = true)
    {f18 : Addr} {od18 an18 : Option Addr} {sl18 : Array (Option Value)} {oc18 kV18 dc18 pm18 cd18 ct18 : Value} (a18 : PySem.W.nsIn K mainGlobals "_law_dip" = some (some (.ref f18)))
    (l18 : K.lookup f18 = some ⟨oc18, od18, .func (PySem.W.fnOf "_law_dip" "_law_dip" (defArgs s_law_dip) (defBody s_law_dip) (defScope s_law_dip) .none kV18 dc18 pm18 an18 cd18 ct18), sl18⟩) (c18 : PySem.W.codeIn K cd18 "_law_dip" = true) (k18 : PySem.W.keepIn K (.ref f18) = true)
    {f19 : Addr} {od19 an19 : Option Addr} {sl19 : Array (Option Value)} {oc19 kV19 dc19 pm19 cd19 ct19 : Value} (a19 : PySem.W.nsIn K mainGlobals "_law_cards" = some (some (.ref f19)))
    (l19 : K.lookup f19 = some ⟨oc19, od19, .func (PySem.W.fnOf "_law_cards" "_law_cards" (defArgs s_law_cards) (defBody s_law_cards) (defScope s_law_cards) .none kV19 dc19 pm19 an19 cd19 ct19), sl19⟩) (c19 : PySem.W.codeIn K cd19 "_law_cards" = true) (k19 : PySem.W.keepIn K (.ref f19) = true)
    {f20 : Addr} {od20 an20 : Option Addr} {sl20 : Array (Option Value)} {oc20 kV20 dc20 pm20 cd20 ct20 : Value} (a20 : PySem.W.nsIn K mainGlobals "_law_row" = some (some (.ref f20)))
    (l20 : K.lookup f20 = some ⟨oc20, od20, .func (PySem.W.fnOf "_law_row" "_law_row" (defArgs s_law_row) (defBody s_law_row) (defScope s_law_row) .none kV20 dc20 pm20 an20 cd20 ct20), sl20⟩) (c20 : PySem.W.codeIn K cd20 "_law_row" = true) (k20 : PySem.W.keepIn K (.ref f20) = true)
    {f21 : Addr} {od21 an21 : Option Addr} {sl21 : Array (Option Value)} {oc21 kV21 dc21 pm21 cd21 ct21 : Value} (a21 : PySem.W.nsIn K mainGlobals "_law_behind" = some (some (.ref f21)))
    (l21 : K.lookup f21 = some ⟨oc21, od21, .func (PySem.W.fnOf "_law_behind" "_law_behind" (defArgs s_law_behind) (defBody s_law_behind) (defScope s_law_behind) .none kV21 dc21 pm21 an21 cd21 ct21), sl21⟩) (c21 : PySem.W.codeIn K cd21 "_law_behind" = true) (k21 : PySem.W.keepIn K (.ref f21) = true)
    {f22 : Addr} {od22 an22 : Option Addr} {sl22 : Array (Option Value)} {oc22 kV22 dc22 pm22 cd22 ct22 : Value} (a22 : PySem.W.nsIn K mainGlobals "_law_next" = some (some (.ref f22)))
    (l22 : K.lookup f22 = some ⟨oc22, od22, .func (PySem.W.fnOf "_law_next" "_law_next" (defArgs s_law_next) (defBody s_law_next) (defScope s_law_next) .none kV22 dc22 pm22 an22 cd22 ct22), sl22⟩) (c22 : PySem.W.codeIn K cd22 "_law_next" = true) (k22 : PySem.W.keepIn K (.ref f22) = true)
    {f23 : Addr} {od23 an23 : Option Addr} {sl23 : Array (Option Value)} {oc23 kV23 dc23 pm23 cd23 ct23 : Value} (a23 : PySem.W.nsIn K mainGlobals "_law_history" = some (some (.ref f23)))
    (l23 : K.lookup f23 = some ⟨oc23, od23, .func (PySem.W.fnOf "_law_history" "_law_history" (defArgs s_law_history) (defBody s_law_history) (defScope s_law_history) .none kV23 dc23 pm23 an23 cd23 ct23), sl23⟩) (c23 : PySem.W.codeIn K cd23 "_law_history" = true) (k23 : PySem.W.keepIn K (.ref f23) = true)
    {f24 : Addr} {od24 an24 : Option Addr} {sl24 : Array (Option Value)} {oc24 kV24 dc24 pm24 cd24 ct24 : Value} (a24 : PySem.W.nsIn K mainGlobals "_law_threes" = some (some (.ref f24)))
    (l24 : K.lookup f24 = some ⟨oc24, od24, .func (PySem.W.fnOf "_law_threes" "_law_threes" (defArgs s_law_threes) (defBody s_law_threes) (defScope s_law_threes) .none kV24 dc24 pm24 an24 cd24 ct24), sl24⟩) (c24 : PySem.W.codeIn K cd24 "_law_threes" = true) (k24 : PySem.W.keepIn K (.ref f24) = true)
    {f25 : Addr} {od25 an25 : Option Addr} {sl25 : Array (Option Value)} {oc25 kV25 dc25 pm25 cd25 ct25 : Value} (a25 : PySem.W.nsIn K mainGlobals "_law_ended" = some (some (.ref f25)))
    (l25 : K.lookup f25 = some ⟨oc25, od25, .func (PySem.W.fnOf "_law_ended" "_law_ended" (defArgs s_law_ended) (defBody s_law_ended) (defScope s_law_ended) .none kV25 dc25 pm25 an25 cd25 ct25), sl25⟩) (c25 : PySem.W.codeIn K cd25 "_law_ended" = true) (k25 : PySem.W.keepIn K (.ref f25) = true)
    {f26 : Addr} {od26 an26 : Option Addr} {sl26 : Array (Option Value)} {oc26 kV26 dc26 pm26 cd26 ct26 : Value} (a26 : PySem.W.nsIn K mainGlobals "_law_parts_right" = some (some (.ref f26)))
    (l26 : K.lookup f26 = some ⟨oc26, od26, .func (PySem.W.fnOf "_law_parts_right" "_law_parts_right" (defArgs s_law_parts_right) (defBody s_law_parts_right) (defScope s_law_parts_right) .none kV26 dc26 pm26 an26 cd26 ct26), sl26⟩) (c26 : PySem.W.codeIn K cd26 "_law_parts_right" = true) (k26 : PySem.W.keepIn K (.ref f26) = true)
    {f27 : Addr} {od27 an27 : Option Addr} {sl27 : Array (Option Value)} {oc27 kV27 dc27 pm27 cd27 ct27 : Value} (a27 : PySem.W.nsIn K mainGlobals "_law_ways_right" = some (some (.ref f27)))
    (l27 : K.lookup f27 = some ⟨oc27, od27, .func (PySem.W.fnOf "_law_ways_right" "_law_ways_right" (defArgs s_law_ways_right) (defBody s_law_ways_right) (defScope s_law_ways_right) .none kV27 dc27 pm27 an27 cd27 ct27), sl27⟩) (c27 : PySem.W.codeIn K cd27 "_law_ways_right" = true) (k27 : PySem.W.keepIn K (.ref f27) = true)
    {f28 : Addr} {od28 an28 : Option Addr} {sl28 : Array (Option Value)} {oc28 kV28 dc28 pm28 cd28 ct28 : Value} (a28 : PySem.W.nsIn K mainGlobals "law" = some (some (.ref f28)))
    (l28 : K.lookup f28 = some ⟨oc28, od28, .func (PySem.W.fnOf "law" "law" (defArgs s_law) (defBody s_law) (defScope s_law) .none kV28 dc28 pm28 an28 cd28 ct28), sl28⟩) (c28 : PySem.W.codeIn K cd28 "law" = true) (k28 : PySem.W.keepIn K (.ref f28) = true)
    (b_all : PySem.W.nsIn K mainGlobals "all" = some none)
    (b_bool : PySem.W.nsIn K mainGlobals "bool" = some none)
    (b_enumerate : PySem.W.nsIn K mainGlobals "enumerate" = some none)
    (b_int : PySem.W.nsIn K mainGlobals "int" = some none)
    (b_isinstance : PySem.W.nsIn K mainGlobals "isinstance" = some none)
    (b_len : PySem.W.nsIn K mainGlobals "len" = some none)
    (b_list : PySem.W.nsIn K mainGlobals "list" = some none)
    (b_max : PySem.W.nsIn K mainGlobals "max" = some none)
    (b_min : PySem.W.nsIn K mainGlobals "min" = some none)
    (b_range : PySem.W.nsIn K mainGlobals "range" = some none)
    (b_set : PySem.W.nsIn K mainGlobals "set" = some none)
    (b_sorted : PySem.W.nsIn K mainGlobals "sorted" = some none)
    (b_tuple : PySem.W.nsIn K mainGlobals "tuple" = some none)
    {t0 : Nat} (v_HIGH : PySem.W.nsIn K mainGlobals "HIGH" = some (some (.str "high" t0)))
    {t1 : Nat} (v_LOW : PySem.W.nsIn K mainGlobals "LOW" = some (some (.str "low" t1)))
    {t2 : Nat} (v_MOST_CARD : PySem.W.nsIn K mainGlobals "MOST_CARD" = some (some (.int 999999999 t2)))
    {t3 : Nat} (v_MOST_CARDS : PySem.W.nsIn K mainGlobals "MOST_CARDS" = some (some (.int 24 t3)))
    {t4 : Nat} (v_NEVER : PySem.W.nsIn K mainGlobals "NEVER" = some (some (.str "never" t4)))
    {t5 : Nat} (v_OPEN : PySem.W.nsIn K mainGlobals "OPEN" = some (some (.str "open" t5)))
    : ∃ fd : FuncData, Binds K fd ["_law_script"] [] ∧ ∀ base : Heap, K.In base → base.Ns mainGlobals mg → FnG l.prog w K mg base 8 fa fd ["_law_script"] (lfSp K 1 [] S_law) := by
  have T : Bl mg := ⟨PySem.W.mg_none_of X G b_all, PySem.W.mg_none_of X G b_bool, PySem.W.mg_none_of X G b_enumerate, PySem.W.mg_none_of X G b_int, PySem.W.mg_none_of X G b_isinstance, PySem.W.mg_none_of X G b_len, PySem.W.mg_none_of X G b_list, PySem.W.mg_none_of X G b_max, PySem.W.mg_none_of X G b_min, PySem.W.mg_none_of X G b_range, PySem.W.mg_none_of X G b_set, PySem.W.mg_none_of X G b_sorted, PySem.W.mg_none_of X G b_tuple, ⟨_, PySem.W.mg_of X G v_HIGH⟩, ⟨_, PySem.W.mg_of X G v_LOW⟩, ⟨_, PySem.W.mg_of X G v_MOST_CARD⟩, ⟨_, PySem.W.mg_of X G v_MOST_CARDS⟩, ⟨_, PySem.W.mg_of X G v_NEVER⟩, ⟨_, PySem.W.mg_of X G v_OPEN⟩⟩
  have F0 := fun_mk (st := s_is_card) l0 c0 k0
  have E0 : Fd K mg "is_card" s_is_card ["thing"] f0 _ := ⟨F0, PySem.W.mg_of X G a0, F0.binds fun _ _ _ _ _ _ us hl => match us, hl with | [_], _ => rfl⟩
  have F1 := fun_mk (st := s_is_row) l1 c1 k1
  have E1 : Fd K mg "is_row" s_is_row ["thing"] f1 _ := ⟨F1, PySem.W.mg_of X G a1, F1.binds fun _ _ _ _ _ _ us hl => match us, hl with | [_], _ => rfl⟩
  have F2 := fun_mk (st := s_need_row) l2 c2 k2
  have E2 : Fd K mg "need_row" s_need_row ["thing"] f2 _ := ⟨F2, PySem.W.mg_of X G a2, F2.binds fun _ _ _ _ _ _ us hl => match us, hl with | [_], _ => rfl⟩
  have F3 := fun_mk (st := s_wrong_in) l3 c3 k3
  have E3 : Fd K mg "wrong_in" s_wrong_in ["row"] f3 _ := ⟨F3, PySem.W.mg_of X G a3, F3.binds fun _ _ _ _ _ _ us hl => match us, hl with | [_], _ => rfl⟩
  have F4 := fun_mk (st := s_wrong_pairs) l4 c4 k4
  have E4 : Fd K mg "wrong_pairs" s_wrong_pairs ["row"] f4 _ := ⟨F4, PySem.W.mg_of X G a4, F4.binds fun _ _ _ _ _ _ us hl => match us, hl with | [_], _ => rfl⟩
  have F5 := fun_mk (st := s_crossing_threes) l5 c5 k5
  have E5 : Fd K mg "crossing_threes" s_crossing_threes ["row"] f5 _ := ⟨F5, PySem.W.mg_of X G a5, F5.binds fun _ _ _ _ _ _ us hl => match us, hl with | [_], _ => rfl⟩
  have F6 := fun_mk (st := s_is_three) l6 c6 k6
  have E6 : Fd K mg "is_three" s_is_three ["row", "thing"] f6 _ := ⟨F6, PySem.W.mg_of X G a6, F6.binds fun _ _ _ _ _ _ us hl => match us, hl with | [_, _], _ => rfl⟩
  have F7 := fun_mk (st := s_need_three) l7 c7 k7
  have E7 : Fd K mg "need_three" s_need_three ["row", "thing"] f7 _ := ⟨F7, PySem.W.mg_of X G a7, F7.binds fun _ _ _ _ _ _ us hl => match us, hl with | [_, _], _ => rfl⟩
  have F8 := fun_mk (st := s_may_change) l8 c8 k8
  have E8 : Fd K mg "may_change" s_may_change ["row", "thing"] f8 _ := ⟨F8, PySem.W.mg_of X G a8, F8.binds fun _ _ _ _ _ _ us hl => match us, hl with | [_, _], _ => rfl⟩
  have F9 := fun_mk (st := s_led_by) l9 c9 k9
  have E9 : Fd K mg "led_by" s_led_by ["row", "thing"] f9 _ := ⟨F9, PySem.W.mg_of X G a9, F9.binds fun _ _ _ _ _ _ us hl => match us, hl with | [_, _], _ => rfl⟩
  have F10 := fun_mk (st := s_is_history) l10 c10 k10
  have E10 : Fd K mg "is_history" s_is_history ["row", "thing"] f10 _ := ⟨F10, PySem.W.mg_of X G a10, F10.binds fun _ _ _ _ _ _ us hl => match us, hl with | [_, _], _ => rfl⟩
  have F11 := fun_mk (st := s_need_history) l11 c11 k11
  have E11 : Fd K mg "need_history" s_need_history ["row", "history"] f11 _ := ⟨F11, PySem.W.mg_of X G a11, F11.binds fun _ _ _ _ _ _ us hl => match us, hl with | [_, _], _ => rfl⟩
  have F12 := fun_mk (st := s_row_behind) l12 c12 k12
  have E12 : Fd K mg "row_behind" s_row_behind ["row", "history"] f12 _ := ⟨F12, PySem.W.mg_of X G a12, F12.binds fun _ _ _ _ _ _ us hl => match us, hl with | [_, _], _ => rfl⟩
  have F13 := fun_mk (st := s_way_of) l13 c13 k13
  have E13 : Fd K mg "way_of" s_way_of ["wrong", "history", "three"] f13 _ := ⟨F13, PySem.W.mg_of X G a13, F13.binds fun _ _ _ _ _ _ us hl => match us, hl with | [_, _, _], _ => rfl⟩
  have F14 := fun_mk (st := s_way_by) l14 c14 k14
  have E14 : Fd K mg "way_by" s_way_by ["row", "history", "three"] f14 _ := ⟨F14, PySem.W.mg_of X G a14, F14.binds fun _ _ _ _ _ _ us hl => match us, hl with | [_, _, _], _ => rfl⟩
  have F15 := fun_mk (st := s_books_in) l15 c15 k15
  have E15 : Fd K mg "books_in" s_books_in ["row", "history"] f15 _ := ⟨F15, PySem.W.mg_of X G a15, F15.binds fun _ _ _ _ _ _ us hl => match us, hl with | [_, _], _ => rfl⟩
  have F16 := fun_mk (st := s_books_by) l16 c16 k16
  have E16 : Fd K mg "books_by" s_books_by ["row", "history"] f16 _ := ⟨F16, PySem.W.mg_of X G a16, F16.binds fun _ _ _ _ _ _ us hl => match us, hl with | [_, _], _ => rfl⟩
  have F17 := fun_mk (st := s_law_pot) l17 c17 k17
  have E17 : Fd K mg "_law_pot" s_law_pot ["_law_script", "_law_k"] f17 _ := ⟨F17, PySem.W.mg_of X G a17, F17.binds fun _ _ _ _ _ _ us hl => match us, hl with | [_, _], _ => rfl⟩
  have F18 := fun_mk (st := s_law_dip) l18 c18 k18
  have E18 : Fd K mg "_law_dip" s_law_dip ["_law_pot_here", "_law_many"] f18 _ := ⟨F18, PySem.W.mg_of X G a18, F18.binds fun _ _ _ _ _ _ us hl => match us, hl with | [_, _], _ => rfl⟩
  have F19 := fun_mk (st := s_law_cards) l19 c19 k19
  have E19 : Fd K mg "_law_cards" s_law_cards ["_law_pot_here", "_law_many"] f19 _ := ⟨F19, PySem.W.mg_of X G a19, F19.binds fun _ _ _ _ _ _ us hl => match us, hl with | [_, _], _ => rfl⟩
  have F20 := fun_mk (st := s_law_row) l20 c20 k20
  have E20 : Fd K mg "_law_row" s_law_row ["_law_pot_here", "_law_most"] f20 _ := ⟨F20, PySem.W.mg_of X G a20, F20.binds fun _ _ _ _ _ _ us hl => match us, hl with | [_, _], _ => rfl⟩
  have F21 := fun_mk (st := s_law_behind) l21 c21 k21
  have E21 : Fd K mg "_law_behind" s_law_behind ["_law_row_here", "_law_history_here"] f21 _ := ⟨F21, PySem.W.mg_of X G a21, F21.binds fun _ _ _ _ _ _ us hl => match us, hl with | [_, _], _ => rfl⟩
  have F22 := fun_mk (st := s_law_next) l22 c22 k22
  have E22 : Fd K mg "_law_next" s_law_next ["_law_row_here"] f22 _ := ⟨F22, PySem.W.mg_of X G a22, F22.binds fun _ _ _ _ _ _ us hl => match us, hl with | [_], _ => rfl⟩
  have F23 := fun_mk (st := s_law_history) l23 c23 k23
  have E23 : Fd K mg "_law_history" s_law_history ["_law_pot_here", "_law_row_here", "_law_many"] f23 _ := ⟨F23, PySem.W.mg_of X G a23, F23.binds fun _ _ _ _ _ _ us hl => match us, hl with | [_, _, _], _ => rfl⟩
  have F24 := fun_mk (st := s_law_threes) l24 c24 k24
  have E24 : Fd K mg "_law_threes" s_law_threes ["_law_row_here"] f24 _ := ⟨F24, PySem.W.mg_of X G a24, F24.binds fun _ _ _ _ _ _ us hl => match us, hl with | [_], _ => rfl⟩
  have F25 := fun_mk (st := s_law_ended) l25 c25 k25
  have E25 : Fd K mg "_law_ended" s_law_ended ["_law_here", "_law_is_high"] f25 _ := ⟨F25, PySem.W.mg_of X G a25, F25.binds fun _ _ _ _ _ _ us hl => match us, hl with | [_, _], _ => rfl⟩
  have F26 := fun_mk (st := s_law_parts_right) l26 c26 k26
  have E26 : Fd K mg "_law_parts_right" s_law_parts_right ["_law_row_here", "_law_first", "_law_rest"] f26 _ := ⟨F26, PySem.W.mg_of X G a26, F26.binds fun _ _ _ _ _ _ us hl => match us, hl with | [_, _, _], _ => rfl⟩
  have F27 := fun_mk (st := s_law_ways_right) l27 c27 k27
  have E27 : Fd K mg "_law_ways_right" s_law_ways_right ["_law_row_here", "_law_first", "_law_rest", "_law_wished"] f27 _ := ⟨F27, PySem.W.mg_of X G a27, F27.binds fun _ _ _ _ _ _ us hl => match us, hl with | [_, _, _, _], _ => rfl⟩
  have F28 := fun_mk (st := s_law) l28 c28 k28
  have E28 : Fd K mg "law" s_law ["_law_script"] f28 _ := ⟨F28, PySem.W.mg_of X G a28, F28.binds fun _ _ _ _ _ _ us hl => match us, hl with | [_], _ => rfl⟩
  cases hfa.symm.trans E28.g
  refine ⟨_, E28.b, fun base _ _ => ?_⟩
  have D0 := E0.df (ok_is_card E0 T   : FnG l.prog w K mg base _ _ _ _ _)
  have D1 := E1.df (ok_is_row E1 T D0  : FnG l.prog w K mg base _ _ _ _ _)
  have D2 := E2.df (ok_need_row E2 T D1  : FnG l.prog w K mg base _ _ _ _ _)
  have D3 := E3.df (ok_wrong_in E3 T   : FnG l.prog w K mg base _ _ _ _ _)
  have D4 := E4.df (ok_wrong_pairs E4 T D2 D3  : FnG l.prog w K mg base _ _ _ _ _)
  have D5 := E5.df (ok_crossing_threes E5 T D2  : FnG l.prog w K mg base _ _ _ _ _)
  have D6 := E6.df (ok_is_three E6 T D0  : FnG l.prog w K mg base _ _ _ _ _)
  have D7 := E7.df (ok_need_three E7 T D6  : FnG l.prog w K mg base _ _ _ _ _)
  have D8 := E8.df (ok_may_change E8 T D0  : FnG l.prog w K mg base _ _ _ _ _)
  have D9 := E9.df (ok_led_by E9 T D8  : FnG l.prog w K mg base _ _ _ _ _)
  have D10 := E10.df (ok_is_history E10 T D2 D9  : FnG l.prog w K mg base _ _ _ _ _)
  have D11 := E11.df (ok_need_history E11 T D10  : FnG l.prog w K mg base _ _ _ _ _)
  have D12 := E12.df (ok_row_behind E12 T D9 D11  : FnG l.prog w K mg base _ _ _ _ _)
  have D13 := E13.df (ok_way_of E13 T   : FnG l.prog w K mg base _ _ _ _ _)
  have D14 := E14.df (ok_way_by E14 T D3 D7 D11 D13  : FnG l.prog w K mg base _ _ _ _ _)
  have D15 := E15.df (ok_books_in E15 T   : FnG l.prog w K mg base _ _ _ _ _)
  have D16 := E16.df (ok_books_by E16 T D11 D15  : FnG l.prog w K mg base _ _ _ _ _)
  have D17 := E17.df (ok_law_pot E17 T   : FnG l.prog w K mg base _ _ _ _ _)
  have D18 := E18.df (ok_law_dip E18 T   : FnG l.prog w K mg base _ _ _ _ _)
  have D19 := E19.df (ok_law_cards E19 T D18  : FnG l.prog w K mg base _ _ _ _ _)
  have D20 := E20.df (ok_law_row E20 T D18 D19  : FnG l.prog w K mg base _ _ _ _ _)
  have D21 := E21.df (ok_law_behind E21 T   : FnG l.prog w K mg base _ _ _ _ _)
  have D22 := E22.df (ok_law_next E22 T   : FnG l.prog w K mg base _ _ _ _ _)
  have D23 := E23.df (ok_law_history E23 T D18 D21 D22  : FnG l.prog w K mg base _ _ _ _ _)
  have D24 := E24.df (ok_law_threes E24 T   : FnG l.prog w K mg base _ _ _ _ _)
  have D25 := E25.df (ok_law_ended E25 T D21 D22  : FnG l.prog w K mg base _ _ _ _ _)
  have D26 := E26.df (ok_law_parts_right E26 T D4 D10 D12 D16  : FnG l.prog w K mg base _ _ _ _ _)
  have D27 := E27.df (ok_law_ways_right E27 T D5 D12 D14 D24  : FnG l.prog w K mg base _ _ _ _ _)
  exact ok_law E28 T D17 D18 D20 D21 D23 D25 D26 D27 
end LW

open PySem PySem.W PyProof.Rows
open_top head for PySem.Challenge.rw_threecrossings_k12_whole_histories_in_pa
theorem PySem.Challenge.cw_threecrossings_k12_whole_histories_in_pa_holds : PySem.Challenge.rw_threecrossings_k12_whole_histories_in_pa.Holds := by
  refine head ?_
  k_fill
  refine TX.walkG (l := PySem.Challenge.rw_threecrossings_k12_whole_histories_in_pa) (n := 63) (k := 8) (x := "_law_script") (S := LW.S_law) rfl (by decide) rfl (TX.roomA.mono (by decide)) LW.mS_law (fun w h Y => PySem.W.kIn_of Y) ?F LW.all_true
  case F =>
    intro w mg fa h KX G hmg
    refine' LW.all_of KX G hmg ?a0 ?l0 ?c0 ?k0 ?a1 ?l1 ?c1 ?k1 ?a2 ?l2 ?c2 ?k2 ?a3 ?l3 ?c3 ?k3 ?a4 ?l4 ?c4 ?k4 ?a5 ?l5 ?c5 ?k5 ?a6 ?l6 ?c6 ?k6 ?a7 ?l7 ?c7 ?k7 ?a8 ?l8 ?c8 ?k8 ?a9 ?l9 ?c9 ?k9 ?a10 ?l10 ?c10 ?k10 ?a11 ?l11 ?c11 ?k11 ?a12 ?l12 ?c12 ?k12 ?a13 ?l13 ?c13 ?k13 ?a14 ?l14 ?c14 ?k14 ?a15 ?l15 ?c15 ?k15 ?a16 ?l16 ?c16 ?k16 ?a17 ?l17 ?c17 ?k17 ?a18 ?l18 ?c18 ?k18 ?a19 ?l19 ?c19 ?k19 ?a20 ?l20 ?c20 ?k20 ?a21 ?l21 ?c21 ?k21 ?a22 ?l22 ?c22 ?k22 ?a23 ?l23 ?c23 ?k23 ?a24 ?l24 ?c24 ?k24 ?a25 ?l25 ?c25 ?k25 ?a26 ?l26 ?c26 ?k26 ?a27 ?l27 ?c27 ?k27 ?a28 ?l28 ?c28 ?k28 ?b_all ?b_bool ?b_enumerate ?b_int ?b_isinstance ?b_len ?b_list ?b_max ?b_min ?b_range ?b_set ?b_sorted ?b_tuple ?v_HIGH ?v_LOW ?v_MOST_CARD ?v_MOST_CARDS ?v_NEVER ?v_OPEN
    (case a0 => k_is)
    (case l0 => k_is)
    (case c0 => k_is)
    (case k0 => k_is)
    (case a1 => k_is)
    (case l1 => k_is)
    (case c1 => k_is)
    (case k1 => k_is)
    (case a2 => k_is)
    (case l2 => k_is)
    (case c2 => k_is)
    (case k2 => k_is)
    (case a3 => k_is)
    (case l3 => k_is)
    (case c3 => k_is)
    (case k3 => k_is)
    (case a4 => k_is)
    (case l4 => k_is)
    (case c4 => k_is)
    (case k4 => k_is)
    (case a5 => k_is)
    (case l5 => k_is)
    (case c5 => k_is)
    (case k5 => k_is)
    (case a6 => k_is)
    (case l6 => k_is)
    (case c6 => k_is)
    (case k6 => k_is)
    (case a7 => k_is)
    (case l7 => k_is)
    (case c7 => k_is)
    (case k7 => k_is)
    (case a8 => k_is)
    (case l8 => k_is)
    (case c8 => k_is)
    (case k8 => k_is)
    (case a9 => k_is)
    (case l9 => k_is)
    (case c9 => k_is)
    (case k9 => k_is)
    (case a10 => k_is)
    (case l10 => k_is)
    (case c10 => k_is)
    (case k10 => k_is)
    (case a11 => k_is)
    (case l11 => k_is)
    (case c11 => k_is)
    (case k11 => k_is)
    (case a12 => k_is)
    (case l12 => k_is)
    (case c12 => k_is)
    (case k12 => k_is)
    (case a13 => k_is)
    (case l13 => k_is)
    (case c13 => k_is)
    (case k13 => k_is)
    (case a14 => k_is)
    (case l14 => k_is)
    (case c14 => k_is)
    (case k14 => k_is)
    (case a15 => k_is)
    (case l15 => k_is)
    (case c15 => k_is)
    (case k15 => k_is)
    (case a16 => k_is)
    (case l16 => k_is)
    (case c16 => k_is)
    (case k16 => k_is)
    (case a17 => k_is)
    (case l17 => k_is)
    (case c17 => k_is)
    (case k17 => k_is)
    (case a18 => k_is)
    (case l18 => k_is)
    (case c18 => k_is)
    (case k18 => k_is)
    (case a19 => k_is)
    (case l19 => k_is)
    (case c19 => k_is)
    (case k19 => k_is)
    (case a20 => k_is)
    (case l20 => k_is)
    (case c20 => k_is)
    (case k20 => k_is)
    (case a21 => k_is)
    (case l21 => k_is)
    (case c21 => k_is)
    (case k21 => k_is)
    (case a22 => k_is)
    (case l22 => k_is)
    (case c22 => k_is)
    (case k22 => k_is)
    (case a23 => k_is)
    (case l23 => k_is)
    (case c23 => k_is)
    (case k23 => k_is)
    (case a24 => k_is)
    (case l24 => k_is)
    (case c24 => k_is)
    (case k24 => k_is)
    (case a25 => k_is)
    (case l25 => k_is)
    (case c25 => k_is)
    (case k25 => k_is)
    (case a26 => k_is)
    (case l26 => k_is)
    (case c26 => k_is)
    (case k26 => k_is)
    (case a27 => k_is)
    (case l27 => k_is)
    (case c27 => k_is)
    (case k27 => k_is)
    (case a28 => k_is)
    (case l28 => k_is)
    (case c28 => k_is)
    (case k28 => k_is)
    (case b_all => k_is)
    (case b_bool => k_is)
    (case b_enumerate => k_is)
    (case b_int => k_is)
    (case b_isinstance => k_is)
    (case b_len => k_is)
    (case b_list => k_is)
    (case b_max => k_is)
    (case b_min => k_is)
    (case b_range => k_is)
    (case b_set => k_is)
    (case b_sorted => k_is)
    (case b_tuple => k_is)
    (case v_HIGH => k_is)
    (case v_LOW => k_is)
    (case v_MOST_CARD => k_is)
    (case v_MOST_CARDS => k_is)
    (case v_NEVER => k_is)
    (case v_OPEN => k_is)

