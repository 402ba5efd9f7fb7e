import PyProof.Rows.All
import Wide.All
import OpenK.AllK
import Wide.FinOn
import HandS.ForMost
import HandS.ForExc
import HandS.CallSlots
import HandS.Wide
import HandS.IsInst
import KE.SortData
import HandS.More
import HandS.Deep
import HandS.Style
import HandS.Zip
import KE.DataAny
import HandS.ForDict
import HandS.Small
import HandS.Conv
import HandS.DictComp
import PyProof.P3In
import HandS.TupLe
import HandS.TupAny
import HandS.TryOnly
import HandS.Iter
import HandS.DictEq
import KE.KEqDict
import HandS.Finally
import HandS.DictTup
import KE.KDictSum
import HandS.ExcValue
import HandS.Comp
import HandS.Defaults
import HandS.Text
import HandS.Steps
import HandS.Codes
import KE.KItemsList
import KE.KDictPairs
import HandS.ListItems
import KE.KDictZip
import KE.KDictCopyH
import KE.KDictDisplayH
import PySem.Challenge.RW_threecrossings_k36_histories_of_tellings
set_option Elab.async false
set_option linter.all false
set_option maxRecDepth 100000
set_option maxHeartbeats 4000000
/-! Values as trees over the hand layer: T, what a tree is in a heap (Tr), the state of a def's frame (Rel). -/
namespace TX
open PySem PySem.Spec L2

/-- who owns an address: nobody (shared, never changed), somebody further out, or the tree at root r, at path p -/
inductive Lb where
  | free
  | foreign
  | at (r : Nat) (p : List Nat)
  deriving DecidableEq
abbrev Own := Addr → Lb
def msk (O : Own) (H : Hp) : Hp := fun b => if O b = .free then H b else none
theorem msk_of {O : Own} {H : Hp} {b : Addr} (h : O b = .free) : msk O H b = H b := by unfold msk; rw [if_pos h]
theorem msk_some {O : Own} {H : Hp} {b : Addr} {o : HO} (h : msk O H b = some o) : O b = .free ∧ H b = some o := by
  unfold msk at h
  split at h
  · exact ⟨by assumption, h⟩
  · cases h

/-- a value of the program as a tree: d data that is shared; l, m, o, s a list, a dict, an object, a set of one's own; raw anything that never changes; lk a dict of data, locked; a a place in a tree -/
inductive T where
  | d (x : PyData)
  | l (xs : List T)
  | m (tk : Bool) (ks : List PyData) (xs : List T)
  | o (C : Addr) (ns : List Str) (xs : List T)
  | s (S : Int → Bool) (n : Nat)
  | raw (v : V)
  | fz (ns : List Int)
  | lk (tk : Bool) (ks xs : List PyData)
  | a (r : Nat) (p : List Nat)

def keyD : Key → PyData
  | .inl i => .int i
  | .inr x => .str x

/-! ### data in a heap -/
mutual
inductive Rp (K : PySem.W.Frag) (H : Hp) : V → PyData → Prop
  | non : Rp K H .non .none
  | bl (b : Bool) : Rp K H (.bl b) (.bool b)
  | int (i : Int) : Rp K H (.int i) (.int i)
  | str (x : Str) : Rp K H (.str x) (.str x)
  | lst {a : Addr} {xs : List V} {ds : List PyData} : H a = some (.lst xs) → RpAll K H xs ds → Rp K H (.ref a) (.list ds)
  | tup {a : Addr} {xs : List V} {ds : List PyData} : H a = some (.tup xs) → RpAll K H xs ds → Rp K H (.ref a) (.tuple ds)
  | dk {a : Addr} {kvs : List (Key × V)} {ps : List (PyData × PyData)} : Rd H a (.dK kvs) → ps.map (·.1) = kvs.map (fun q => keyD q.1) → RpAll K H (kvs.map (·.2)) (ps.map (·.2)) → Rp K H (.ref a) (.dict ps)
  | dt {a : Addr} {kvs : List (List Key × V)} {ps : List (PyData × PyData)} : Rd H a (.dT kvs) → ps.map (·.1) = kvs.map (fun q => PyData.tuple (q.1.map keyD)) → RpAll K H (kvs.map (·.2)) (ps.map (·.2)) → Rp K H (.ref a) (.dict ps)
inductive RpAll (K : PySem.W.Frag) (H : Hp) : List V → List PyData → Prop
  | nil : RpAll K H [] []
  | cons {v : V} {vs : List V} {d : PyData} {ds : List PyData} : Rp K H v d → RpAll K H vs ds → RpAll K H (v :: vs) (d :: ds)
end
section
variable {K : PySem.W.Frag} {H H' : Hp}
theorem rd_mono (k : ∀ b o, H b = some o → H' b = some o) {a : Addr} {u : HO} (h : Rd H a u) : Rd H' a u := by
  rcases h with h | ⟨o, h⟩
  · exact .inl (k _ _ h)
  · exact .inr ⟨o, k _ _ h⟩
theorem sql_mono (k : ∀ b o, H b = some o → H' b = some o) {a : Addr} {xs : List V} (h : SqL K H a xs) : SqL K H' a xs := by
  rcases h with h | h
  · exact .inl (rd_mono k h)
  · exact .inr h
mutual
theorem Rp.mono (k : ∀ b o, H b = some o → H' b = some o) : ∀ (d : PyData) (v : V), Rp K H v d → Rp K H' v d
  | .none, _, h => by cases h; exact .non
  | .bool b, _, h => by cases h; exact .bl b
  | .int b, _, h => by cases h; exact .int b
  | .str b, _, h => by cases h; exact .str b
  | .list ds, _, h => by
    cases h with
    | lst h1 h2 => exact .lst (k _ _ h1) (RpAll.mono k ds _ h2)
  | .tuple ds, _, h => by
    cases h with
    | tup h1 h2 => exact .tup (k _ _ h1) (RpAll.mono k ds _ h2)
  | .dict ps, _, h => by
    cases h with
    | dk h1 h2 h3 => exact .dk (rd_mono k h1) h2 (RpAll.monoKv k ps _ h3)
    | dt h1 h2 h3 => exact .dt (rd_mono k h1) h2 (RpAll.monoKv k ps _ h3)
theorem RpAll.mono (k : ∀ b o, H b = some o → H' b = some o) : ∀ (ds : List PyData) (vs : List V), RpAll K H vs ds → RpAll K H' vs ds
  | [], _, h => by cases h; exact .nil
  | d :: ds, _, h => by
    cases h with
    | cons h1 h2 => exact .cons (Rp.mono k d _ h1) (RpAll.mono k ds _ h2)
theorem RpAll.monoKv (k : ∀ b o, H b = some o → H' b = some o) : ∀ (ps : List (PyData × PyData)) (vs : List V), RpAll K H vs (ps.map (·.2)) → RpAll K H' vs (ps.map (·.2))
  | [], _, h => by cases h; exact .nil
  | (a, b) :: ps, _, h => by
    cases h with
    | cons h1 h2 => exact .cons (Rp.mono k b _ h1) (RpAll.monoKv k ps _ h2)
end
theorem RpAll.length : ∀ {vs : List V} {ds : List PyData}, RpAll K H vs ds → vs.length = ds.length
  | _, _, .nil => rfl
  | _, _, .cons _ t => congrArg (· + 1) (RpAll.length t)
theorem RpAll.get : ∀ {vs : List V} {ds : List PyData} {i : Nat} {d : PyData}, RpAll K H vs ds → ds[i]? = some d → ∃ v, vs[i]? = some v ∧ Rp K H v d
  | _, _, _, _, .nil, e => by simp at e
  | _, _, 0, _, .cons r _, e => by simp at e; subst e; exact ⟨_, rfl, r⟩
  | _, _, i + 1, _, .cons _ t, e => by
    obtain ⟨v, h1, h2⟩ := RpAll.get (i := i) t (by simpa using e)
    exact ⟨v, by simpa using h1, h2⟩
theorem RpAll.append : ∀ {vs ws : List V} {ds es : List PyData}, RpAll K H vs ds → RpAll K H ws es → RpAll K H (vs ++ ws) (ds ++ es)
  | _, _, _, _, .nil, s => s
  | _, _, _, _, .cons r t, s => .cons r (RpAll.append t s)
theorem RpAll.take : ∀ {vs : List V} {ds : List PyData} (n : Nat), RpAll K H vs ds → RpAll K H (vs.take n) (ds.take n)
  | _, _, 0, _ => .nil
  | _, _, _ + 1, .nil => .nil
  | _, _, n + 1, .cons r t => .cons r (RpAll.take n t)
theorem RpAll.drop : ∀ {vs : List V} {ds : List PyData} (n : Nat), RpAll K H vs ds → RpAll K H (vs.drop n) (ds.drop n)
  | _, _, 0, r => r
  | _, _, _ + 1, .nil => .nil
  | _, _, n + 1, .cons _ t => RpAll.drop n t
theorem RpAll.reverse : ∀ {vs : List V} {ds : List PyData}, RpAll K H vs ds → RpAll K H vs.reverse ds.reverse
  | _, _, .nil => .nil
  | _, _, .cons r t => by
    rw [List.reverse_cons, List.reverse_cons]
    exact (RpAll.reverse t).append (.cons r .nil)
theorem RpAll.eraseIdx : ∀ {vs : List V} {ds : List PyData} (i : Nat), RpAll K H vs ds → RpAll K H (vs.eraseIdx i) (ds.eraseIdx i)
  | _, _, _, .nil => .nil
  | _, _, 0, .cons _ t => t
  | _, _, i + 1, .cons r t => .cons r (RpAll.eraseIdx i t)
theorem RpAll.set {x : V} {d : PyData} (r : Rp K H x d) : ∀ {vs : List V} {ds : List PyData} (i : Nat), RpAll K H vs ds → RpAll K H (vs.set i x) (ds.set i d)
  | _, _, _, .nil => .nil
  | _, _, 0, .cons _ t => .cons r t
  | _, _, i + 1, .cons q t => .cons q (RpAll.set r i t)
end

/-! data without lists and dicts in it -/
mutual
def imm : PyData → Bool
  | .list _ => false
  | .dict _ => false
  | .tuple xs => immAll xs
  | _ => true
def immAll : List PyData → Bool
  | [] => true
  | x :: xs => imm x && immAll xs
end
/-- what owned addresses hold -/
def ownable : HO → Prop
  | .lst _ => True
  | .dK _ => True
  | .dT _ => True
  | .set _ _ => True
  | .ins _ _ _ => True
  | _ => False
mutual
theorem Rp.imm {K : PySem.W.Frag} {H : Hp} {O : Own} (k : ∀ b, O b ≠ .free → ∃ o, H b = some o ∧ ownable o) : ∀ (d : PyData) (v : V), imm d = true → Rp K H v d → Rp K (msk O H) v d
  | .none, _, _, h => by cases h; exact .non
  | .bool b, _, _, h => by cases h; exact .bl b
  | .int b, _, _, h => by cases h; exact .int b
  | .str b, _, _, h => by cases h; exact .str b
  | .list ds, _, e, h => by simp [TX.imm] at e
  | .tuple ds, _, e, h => by
    cases h with
    | @tup a xs _ h1 h2 =>
      refine .tup ?_ (RpAll.imm k ds _ (by simpa [TX.imm] using e) h2)
      by_cases z : O a = .free
      · rw [msk_of z]; exact h1
      · obtain ⟨o', e', w⟩ := k a z
        rw [h1] at e'; cases e'
        exact absurd w (fun q => q)
  | .dict ps, _, e, h => by simp [TX.imm] at e
theorem RpAll.imm {K : PySem.W.Frag} {H : Hp} {O : Own} (k : ∀ b, O b ≠ .free → ∃ o, H b = some o ∧ ownable o) : ∀ (ds : List PyData) (vs : List V), immAll ds = true → RpAll K H vs ds → RpAll K (msk O H) vs ds
  | [], _, _, h => by cases h; exact .nil
  | d :: ds, _, e, h => by
    cases h with
    | cons h1 h2 =>
      simp [immAll] at e
      exact .cons (Rp.imm k d _ e.1 h1) (RpAll.imm k ds _ e.2 h2)
end

/-! ### trees in a heap -/
mutual
inductive Tr (K : PySem.W.Frag) (H : Hp) (O : Own) : Nat → List Nat → V → T → Prop
  | d {r p v x} : Rp K (msk O H) v x → Tr K H O r p v (.d x)
  | l {r p a vs ts} : O a = .at r p → H a = some (.lst vs) → TrAll K H O r p 0 vs ts → Tr K H O r p (.ref a) (.l ts)
  | mk {r p a kvs ks ts} : O a = .at r p → H a = some (.dK kvs) → ks = kvs.map (fun q => keyD q.1) → TrAll K H O r p 0 (kvs.map (·.2)) ts → Tr K H O r p (.ref a) (.m false ks ts)
  | mt {r p a kvs ks ts} : O a = .at r p → H a = some (.dT kvs) → ks = kvs.map (fun q => PyData.tuple (q.1.map keyD)) → TrAll K H O r p 0 (kvs.map (·.2)) ts → Tr K H O r p (.ref a) (.m true ks ts)
  | o {r p a C dx fs ns ts} : O a = .at r p → H a = some (.ins C dx fs) → ns = fs.map (·.1) → TrAll K H O r p 0 (fs.map (·.2)) ts → Tr K H O r p (.ref a) (.o C ns ts)
  | s {r p a S n} : O a = .at r p → H a = some (.set S n) → Tr K H O r p (.ref a) (.s S n)
  | raw {r p v} : Tr K H O r p v (.raw v)
  | fz {r p a ns} : SqL K (msk O H) a (ns.map V.int) → Tr K H O r p (.ref a) (.fz ns)
  | lk {r p a od kvs ks xs} : O a = .free → H a = some (.frz od (.dK kvs)) → ks = kvs.map (fun q => keyD q.1) → RpAll K (msk O H) (kvs.map (·.2)) xs → Tr K H O r p (.ref a) (.lk false ks xs)
  | lt {r p a od kvs ks xs} : O a = .free → H a = some (.frz od (.dT kvs)) → ks = kvs.map (fun q => PyData.tuple (q.1.map keyD)) → RpAll K (msk O H) (kvs.map (·.2)) xs → Tr K H O r p (.ref a) (.lk true ks xs)
inductive TrAll (K : PySem.W.Frag) (H : Hp) (O : Own) : Nat → List Nat → Nat → List V → List T → Prop
  | nil {r p k} : TrAll K H O r p k [] []
  | cons {r p k v vs t ts} : Tr K H O r (p ++ [k]) v t → TrAll K H O r p (k + 1) vs ts → TrAll K H O r p k (v :: vs) (t :: ts)
end

/-! what a tree's being there leans on: free objects, and the objects at labels of its own root that begin with its path; moved to another root and path -/
mutual
theorem Tr.move {K : PySem.W.Frag} {H H' : Hp} {O O' : Own} {r r' : Nat} {p0 p1 : List Nat} (hf : ∀ b o, H b = some o → O b = .free → H' b = some o ∧ O' b = .free)
    (hl : ∀ b o q, H b = some o → O b = .at r (p0 ++ q) → H' b = some o ∧ O' b = .at r' (p1 ++ q)) : ∀ (t : T) (q : List Nat) (v : V), Tr K H O r (p0 ++ q) v t → Tr K H' O' r' (p1 ++ q) v t
  | .d x, q, v, h => by
    cases h with
    | d h => exact .d (Rp.mono (fun b o e => by obtain ⟨e1, e2⟩ := msk_some e; obtain ⟨z1, z2⟩ := hf b o e2 e1; rw [msk_of z2]; exact z1) _ _ h)
  | .l ts, q, v, h => by
    cases h with
    | l h1 h2 h3 => obtain ⟨z1, z2⟩ := hl _ _ q h2 h1; exact .l z2 z1 (TrAll.move hf hl ts q 0 _ h3)
  | .m tk ks ts, q, v, h => by
    cases h with
    | mk h1 h2 h3 h4 => obtain ⟨z1, z2⟩ := hl _ _ q h2 h1; exact .mk z2 z1 h3 (TrAll.move hf hl ts q 0 _ h4)
    | mt h1 h2 h3 h4 => obtain ⟨z1, z2⟩ := hl _ _ q h2 h1; exact .mt z2 z1 h3 (TrAll.move hf hl ts q 0 _ h4)
  | .o C ns ts, q, v, h => by
    cases h with
    | o h1 h2 h3 h4 => obtain ⟨z1, z2⟩ := hl _ _ q h2 h1; exact .o z2 z1 h3 (TrAll.move hf hl ts q 0 _ h4)
  | .s S n, q, v, h => by
    cases h with
    | s h1 h2 => obtain ⟨z1, z2⟩ := hl _ _ q h2 h1; exact .s z2 z1
  | .raw v', q, v, h => by cases h; exact .raw
  | .fz ns, q, v, h => by
    cases h with
    | fz h => exact .fz (sql_mono (fun b o e => by obtain ⟨e1, e2⟩ := msk_some e; obtain ⟨z1, z2⟩ := hf b o e2 e1; rw [msk_of z2]; exact z1) h)
  | .lk tk ks xs, q, v, h => by
    have m : ∀ b o, msk O H b = some o → msk O' H' b = some o := fun b o e => by obtain ⟨e1, e2⟩ := msk_some e; obtain ⟨z1, z2⟩ := hf b o e2 e1; rw [msk_of z2]; exact z1
    cases h with
    | lk h1 h2 h3 h4 => obtain ⟨z1, z2⟩ := hf _ _ h2 h1; exact .lk z2 z1 h3 (RpAll.mono m _ _ h4)
    | lt h1 h2 h3 h4 => obtain ⟨z1, z2⟩ := hf _ _ h2 h1; exact .lt z2 z1 h3 (RpAll.mono m _ _ h4)
  | .a _ _, q, v, h => by cases h
theorem TrAll.move {K : PySem.W.Frag} {H H' : Hp} {O O' : Own} {r r' : Nat} {p0 p1 : List Nat} (hf : ∀ b o, H b = some o → O b = .free → H' b = some o ∧ O' b = .free)
    (hl : ∀ b o q, H b = some o → O b = .at r (p0 ++ q) → H' b = some o ∧ O' b = .at r' (p1 ++ q)) : ∀ (ts : List T) (q : List Nat) (k : Nat) (vs : List V), TrAll K H O r (p0 ++ q) k vs ts → TrAll K H' O' r' (p1 ++ q) k vs ts
  | [], q, k, vs, h => by cases h; exact .nil
  | t :: ts, q, k, vs, h => by
    cases h with
    | cons h1 h2 =>
      refine .cons ?_ (TrAll.move hf hl ts q (k + 1) _ h2)
      have := Tr.move hf hl t (q ++ [k]) _ (by rw [← List.append_assoc]; exact h1)
      rw [← List.append_assoc] at this
      exact this
end
theorem TrAll.length {K : PySem.W.Frag} {H : Hp} {O : Own} {r : Nat} {p : List Nat} : ∀ {vs : List V} {ts : List T} {k : Nat}, TrAll K H O r p k vs ts → vs.length = ts.length
  | _, _, _, .nil => rfl
  | _, _, _, .cons _ t => congrArg (· + 1) (TrAll.length t)
theorem TrAll.get {K : PySem.W.Frag} {H : Hp} {O : Own} {r : Nat} {p : List Nat} : ∀ {vs : List V} {ts : List T} {k i : Nat} {t : T}, TrAll K H O r p k vs ts → ts[i]? = some t → ∃ v, vs[i]? = some v ∧ Tr K H O r (p ++ [k + i]) v t
  | _, _, _, _, _, .nil, e => by simp at e
  | _, _, k, 0, _, .cons h _, e => by simp at e; subst e; exact ⟨_, rfl, h⟩
  | _, _, k, i + 1, _, .cons _ h, e => by
    obtain ⟨v, e1, e2⟩ := TrAll.get (i := i) h (by simpa using e)
    exact ⟨v, by simpa using e1, by rw [show k + (i + 1) = k + 1 + i by omega]; exact e2⟩
theorem TrAll.append {K : PySem.W.Frag} {H : Hp} {O : Own} {r : Nat} {p : List Nat} : ∀ {vs ws : List V} {ts us : List T} {k : Nat}, TrAll K H O r p k vs ts → TrAll K H O r p (k + ts.length) ws us → TrAll K H O r p k (vs ++ ws) (ts ++ us)
  | _, _, _, _, _, .nil, s => by simpa using s
  | _, _, _, _, k, .cons h t, s => .cons h (TrAll.append t (by simp only [List.length_cons] at s; rw [Nat.add_assoc, Nat.add_comm 1]; exact s))

theorem TrAll.of_get {K : PySem.W.Frag} {H : Hp} {O : Own} {r : Nat} {p : List Nat} : ∀ {vs : List V} {ts : List T} {k : Nat}, vs.length = ts.length →
    (∀ i v t, vs[i]? = some v → ts[i]? = some t → Tr K H O r (p ++ [k + i]) v t) → TrAll K H O r p k vs ts
  | [], [], _, _, _ => .nil
  | [], _ :: _, _, e, _ => by simp at e
  | _ :: _, [], _, e, _ => by simp at e
  | v :: vs, t :: ts, k, e, h => .cons (h 0 v t rfl rfl) (TrAll.of_get (by simpa using e) fun i v' t' e1 e2 => by
      have := h (i + 1) v' t' (by simpa using e1) (by simpa using e2)
      rwa [show k + (i + 1) = k + 1 + i by omega] at this)
theorem TrAll.data {K : PySem.W.Frag} {H : Hp} {O : Own} {r : Nat} {p : List Nat} : ∀ {vs : List V} {ds : List PyData} {k : Nat}, TrAll K H O r p k vs (ds.map T.d) → RpAll K (msk O H) vs ds
  | _, [], _, h => by cases h; exact .nil
  | _, d :: ds, _, h => by
    cases h with
    | cons h1 h2 => cases h1 with | d h1 => exact .cons h1 (TrAll.data h2)
theorem TrAll.ofData {K : PySem.W.Frag} {H : Hp} {O : Own} {r : Nat} {p : List Nat} : ∀ {vs : List V} {ds : List PyData} {k : Nat}, RpAll K (msk O H) vs ds → TrAll K H O r p k vs (ds.map T.d)
  | _, [], _, h => by cases h; exact .nil
  | _, d :: ds, _, h => by
    cases h with
    | cons h1 h2 => exact .cons (.d h1) (TrAll.ofData h2)

/-! ### places in a tree -/
def kid : T → Nat → Option T
  | .l ts, k => ts[k]?
  | .m _ _ ts, k => ts[k]?
  | .o _ _ ts, k => ts[k]?
  | _, _ => none
def setKid : T → Nat → T → T
  | .l ts, k, u => .l (ts.set k u)
  | .m tk ks ts, k, u => .m tk ks (ts.set k u)
  | .o C ns ts, k, u => .o C ns (ts.set k u)
  | t, _, _ => t
def subT : T → List Nat → Option T
  | t, [] => some t
  | t, k :: q => match kid t k with
    | some u => subT u q
    | none => none
def putT : T → T → List Nat → T
  | _, u, [] => u
  | t, u, k :: q => match kid t k with
    | some c => setKid t k (putT c u q)
    | none => t
def isNode : T → Bool
  | .l _ => true
  | .m _ _ _ => true
  | .o _ _ _ => true
  | .s _ _ => true
  | _ => false
theorem subT_append : ∀ {t : T} {q q' : List Nat} {u : T}, subT t q = some u → subT t (q ++ q') = subT u q'
  | t, [], q', u, h => by cases h; rfl
  | t, k :: q, q', u, h => by
    simp only [subT, List.cons_append] at h ⊢
    cases e : kid t k with
    | none => rw [e] at h; cases h
    | some c => rw [e] at h; exact subT_append h
theorem set_self {α : Type} : ∀ {l : List α} {k : Nat} {x : α}, l[k]? = some x → ∀ y, (l.set k y)[k]? = some y
  | [], _, _, h, _ => by simp at h
  | _ :: _, 0, _, _, _ => rfl
  | _ :: l, k + 1, x, h, y => by simpa using set_self (l := l) (by simpa using h) y
theorem kid_set {t : T} {k : Nat} {c : T} (h : kid t k = some c) (u : T) (j : Nat) : kid (setKid t k u) j = if j = k then some u else kid t j := by
  have gen : ∀ (ts : List T), ts[k]? = some c → (ts.set k u)[j]? = if j = k then some u else ts[j]? := fun ts h => by
    by_cases e : j = k
    · subst e; rw [if_pos rfl]; exact set_self h u
    · rw [if_neg e, List.getElem?_set_ne (fun z => e z.symm)]
  cases t with
  | l ts => exact gen ts h
  | m tk ks ts => exact gen ts h
  | o C ns ts => exact gen ts h
  | _ => cases h
theorem subT_put : ∀ {q : List Nat} {t c u : T}, subT t q = some c → subT (putT t u q) q = some u
  | [], t, c, u, h => rfl
  | k :: q, t, c, u, h => by
    simp only [subT] at h
    cases e : kid t k with
    | none => rw [e] at h; cases h
    | some z =>
      rw [e] at h
      simp only [putT, e]
      simp only [subT]
      rw [kid_set e, if_pos rfl]
      exact subT_put h
/-- at a place that does not lie under q the tree is a node where it was -/
theorem setKid_node {t : T} {k : Nat} {u : T} : isNode (setKid t k u) = isNode t := by cases t <;> rfl
theorem subT_put_ne : ∀ {q : List Nat} {t c u : T} {q' : List Nat} {z : T}, subT t q = some c → ¬ q <+: q' → subT t q' = some z → isNode z = true → ∃ z', subT (putT t u q) q' = some z' ∧ isNode z' = true
  | [], _, _, _, q', _, _, h, _, _ => absurd (List.nil_prefix) h
  | k :: q, t, c, u, [], z, h, _, e, n => by
    simp only [subT, Option.some.injEq] at e
    subst e
    simp only [subT] at h
    cases e : kid t k with
    | none => rw [e] at h; cases h
    | some w =>
      simp only [putT, e]
      exact ⟨_, rfl, by rw [setKid_node]; exact n⟩
  | k :: q, t, c, u, j :: q', z, h, np, e, n => by
    simp only [subT] at h
    cases e1 : kid t k with
    | none => rw [e1] at h; cases h
    | some w =>
      rw [e1] at h
      simp only [putT, e1]
      simp only [subT] at e ⊢
      rw [kid_set e1]
      by_cases hj : j = k
      · subst hj
        rw [if_pos rfl]
        rw [e1] at e
        exact subT_put_ne h (fun z => np (List.prefix_cons_inj _ |>.mpr z)) e n
      · rw [if_neg hj]
        exact ⟨z, e, n⟩
theorem Tr.sub {K : PySem.W.Frag} {H : Hp} {O : Own} {r : Nat} : ∀ {q : List Nat} {t u : T} {p : List Nat} {v : V}, Tr K H O r p v t → subT t q = some u → ∃ w, Tr K H O r (p ++ q) w u
  | [], t, u, p, v, h, e => by cases e; exact ⟨v, by rw [List.append_nil]; exact h⟩
  | k :: q, t, u, p, v, h, e => by
    simp only [subT] at e
    have all : ∀ {vs : List V} {ts : List T} {c : T}, TrAll K H O r p 0 vs ts → ts[k]? = some c → subT c q = some u → ∃ w, Tr K H O r (p ++ k :: q) w u := fun {vs ts c} ha hk hs => by
      obtain ⟨w, _, hw⟩ := ha.get hk
      obtain ⟨w', hw'⟩ := hw.sub hs
      refine ⟨w', ?_⟩
      rw [Nat.zero_add] at hw'
      simpa [List.append_assoc] using hw'
    cases e1 : kid t k with
    | none => rw [e1] at e; cases e
    | some c =>
      rw [e1] at e
      cases h with
      | l _ _ h3 => exact all h3 e1 e
      | mk _ _ _ h3 => exact all h3 e1 e
      | mt _ _ _ h3 => exact all h3 e1 e
      | o _ _ _ h3 => exact all h3 e1 e
      | d _ => cases e1
      | s _ _ => cases e1
      | raw => cases e1
      | fz _ => cases e1
      | lk _ _ _ _ => cases e1
      | lt _ _ _ _ => cases e1
/-- one place of a tree is changed -/
theorem Tr.upd {K : PySem.W.Frag} {H H' : Hp} {O O' : Own} {r : Nat} {u' : T} (hf : ∀ b o, H b = some o → O b = .free → H' b = some o ∧ O' b = .free) : ∀ {q : List Nat} {t u : T} {p : List Nat} {v : V},
    (∀ b o p', H b = some o → O b = .at r p' → ¬ (p ++ q) <+: p' → H' b = some o ∧ O' b = .at r p') → subT t q = some u → (∀ w, Tr K H O r (p ++ q) w u → Tr K H' O' r (p ++ q) w u') → Tr K H O r p v t → Tr K H' O' r p v (putT t u' q)
  | [], t, u, p, v, _, e, hw, h => by
    cases e
    have := hw v (by rw [List.append_nil]; exact h)
    rw [List.append_nil] at this
    exact this
  | k :: q, t, u, p, v, hk, e, hw, h => by
    simp only [subT] at e
    have all : ∀ {vs : List V} {ts : List T} {c : T}, TrAll K H O r p 0 vs ts → ts[k]? = some c → subT c q = some u → TrAll K H' O' r p 0 vs (ts.set k (putT c u' q)) := fun {vs ts c} ha hc hs => by
      refine TrAll.of_get (by rw [List.length_set]; exact ha.length) fun i v' t' e1 e2 => ?_
      by_cases hi : i = k
      · subst hi
        rw [set_self hc] at e2
        cases e2
        obtain ⟨w, e3, hw'⟩ := ha.get hc
        rw [e1] at e3; cases e3
        refine Tr.upd hf (p := p ++ [0 + i]) (fun b o p' h1 h2 h3 => hk b o p' h1 h2 fun z => h3 ?_) hs (fun w hh => ?_) hw'
        · rw [List.append_assoc, Nat.zero_add]; exact z
        · have := hw w (by rw [Nat.zero_add, List.append_assoc] at hh; exact hh)
          rw [Nat.zero_add, List.append_assoc]
          exact this
      · rw [List.getElem?_set_ne (fun z => hi z.symm)] at e2
        obtain ⟨w, e3, hw'⟩ := ha.get e2
        rw [e1] at e3; cases e3
        have := Tr.move (r' := r) (p0 := p ++ [0 + i]) (p1 := p ++ [0 + i]) hf (fun b o q' h1 h2 => hk b o _ h1 h2 fun z => ?_) t' [] _ (by rw [List.append_nil]; exact hw')
        · rw [List.append_nil] at this; exact this
        · rw [List.append_assoc, List.prefix_append_right_inj] at z
          obtain ⟨x, hx⟩ := z
          simp at hx
          exact hi hx.1.symm
    have top : ∀ b o, H b = some o → O b = .at r p → H' b = some o ∧ O' b = .at r p := fun b o h1 h2 => hk b o p h1 h2 fun z => by
      have := z.length_le
      simp at this
      omega
    cases e1 : kid t k with
    | none => rw [e1] at e; cases e
    | some c =>
      rw [e1] at e
      simp only [putT, e1]
      cases h with
      | l h1 h2 h3 => obtain ⟨z1, z2⟩ := top _ _ h2 h1; exact .l z2 z1 (all h3 e1 e)
      | mk h1 h2 h3 h4 => obtain ⟨z1, z2⟩ := top _ _ h2 h1; exact .mk z2 z1 h3 (all h4 e1 e)
      | mt h1 h2 h3 h4 => obtain ⟨z1, z2⟩ := top _ _ h2 h1; exact .mt z2 z1 h3 (all h4 e1 e)
      | o h1 h2 h3 h4 => obtain ⟨z1, z2⟩ := top _ _ h2 h1; exact .o z2 z1 h3 (all h4 e1 e)
      | d _ => cases e1
      | s _ _ => cases e1
      | raw => cases e1
      | fz _ => cases e1
      | lk _ _ _ _ => cases e1
      | lt _ _ _ _ => cases e1

/-! ### a tree as data -/
mutual
def erase : T → Option PyData
  | .d x => some x
  | .l ts => (eraseAll ts).map .list
  | .m _ ks ts => (eraseAll ts).map fun ds => .dict (ks.zip ds)
  | .lk _ ks xs => some (.dict (ks.zip xs))
  | _ => none
def eraseAll : List T → Option (List PyData)
  | [] => some []
  | t :: ts => match erase t, eraseAll ts with
    | some x, some xs => some (x :: xs)
    | _, _ => none
end
theorem eraseAll_d : ∀ ds : List PyData, eraseAll (ds.map T.d) = some ds
  | [] => rfl
  | d :: ds => by simp [eraseAll, erase, eraseAll_d ds]
def vis (r : Nat) (O : Own) (H : Hp) : Hp := fun b => match O b with
  | .free => H b
  | .foreign => none
  | .at r' _ => if r' = r then H b else none
theorem vis_le {r : Nat} {O : Own} {H : Hp} : ∀ b o, vis r O H b = some o → H b = some o := fun b o h => by
  unfold vis at h
  split at h
  · exact h
  · cases h
  · split at h
    · exact h
    · cases h
theorem vis_at {r : Nat} {O : Own} {H : Hp} {b : Addr} {p : List Nat} (h : O b = .at r p) : vis r O H b = H b := by
  unfold vis; rw [h]; simp
theorem vis_free {r : Nat} {O : Own} {H : Hp} {b : Addr} (h : O b = .free) : vis r O H b = H b := by
  unfold vis; rw [h]
theorem zip_fst {α β : Type} : ∀ {l : List α} {r : List β}, l.length = r.length → (l.zip r).map (·.1) = l
  | [], [], _ => rfl
  | _ :: _, _ :: _, h => by simp only [List.zip_cons_cons, List.map_cons]; rw [zip_fst (by simpa using h)]
  | [], _ :: _, h => by simp at h
  | _ :: _, [], h => by simp at h
theorem zip_snd {α β : Type} : ∀ {l : List α} {r : List β}, l.length = r.length → (l.zip r).map (·.2) = r
  | [], [], _ => rfl
  | _ :: _, _ :: _, h => by simp only [List.zip_cons_cons, List.map_cons]; rw [zip_snd (by simpa using h)]
  | [], _ :: _, h => by simp at h
  | _ :: _, [], h => by simp at h
mutual
theorem Tr.view {K : PySem.W.Frag} {H : Hp} {O : Own} {r : Nat} : ∀ (t : T) (p : List Nat) (v : V) (x : PyData), erase t = some x → Tr K H O r p v t → Rp K (vis r O H) v x
  | .d y, p, v, x, e, h => by
    cases h with
    | d h => simp only [erase, Option.some.injEq] at e; subst e; exact Rp.mono (fun b o z => by obtain ⟨z1, z2⟩ := msk_some z; rw [vis_free z1]; exact z2) _ _ h
  | .l ts, p, v, x, e, h => by
    simp only [erase, Option.map_eq_some_iff] at e
    obtain ⟨ds, e1, rfl⟩ := e
    cases h with
    | l h1 h2 h3 => exact .lst (by rw [vis_at h1]; exact h2) (TrAll.view ts p 0 _ ds e1 h3)
  | .m tk ks ts, p, v, x, e, h => by
    simp only [erase, Option.map_eq_some_iff] at e
    obtain ⟨ds, e1, rfl⟩ := e
    cases h with
    | mk h1 h2 h3 h4 =>
      have r := TrAll.view ts p 0 _ ds e1 h4
      have el : ks.length = ds.length := by rw [h3, ← r.length]; simp
      exact .dk (.inl (by rw [vis_at h1]; exact h2)) (by rw [zip_fst el]; exact h3) (by rw [zip_snd el]; exact r)
    | mt h1 h2 h3 h4 =>
      have r := TrAll.view ts p 0 _ ds e1 h4
      have el : ks.length = ds.length := by rw [h3, ← r.length]; simp
      exact .dt (.inl (by rw [vis_at h1]; exact h2)) (by rw [zip_fst el]; exact h3) (by rw [zip_snd el]; exact r)
  | .o _ _ _, p, v, x, e, h => by simp [erase] at e
  | .s _ _, p, v, x, e, h => by simp [erase] at e
  | .raw _, p, v, x, e, h => by simp [erase] at e
  | .fz _, p, v, x, e, h => by simp [erase] at e
  | .lk tk ks xs, p, v, x, e, h => by
    simp only [erase, Option.some.injEq] at e
    subst e
    have m : ∀ b o, msk O H b = some o → vis r O H b = some o := fun b o z => by obtain ⟨z1, z2⟩ := msk_some z; rw [vis_free z1]; exact z2
    cases h with
    | lk h1 h2 h3 h4 =>
      have el : ks.length = xs.length := by rw [h3, ← h4.length]; simp
      exact .dk (.inr ⟨_, by rw [vis_free h1]; exact h2⟩) (by rw [zip_fst el]; exact h3) (by rw [zip_snd el]; exact RpAll.mono m _ _ h4)
    | lt h1 h2 h3 h4 =>
      have el : ks.length = xs.length := by rw [h3, ← h4.length]; simp
      exact .dt (.inr ⟨_, by rw [vis_free h1]; exact h2⟩) (by rw [zip_fst el]; exact h3) (by rw [zip_snd el]; exact RpAll.mono m _ _ h4)
  | .a _ _, p, v, x, e, h => by simp [erase] at e
theorem TrAll.view {K : PySem.W.Frag} {H : Hp} {O : Own} {r : Nat} : ∀ (ts : List T) (p : List Nat) (k : Nat) (vs : List V) (xs : List PyData), eraseAll ts = some xs → TrAll K H O r p k vs ts → RpAll K (vis r O H) vs xs
  | [], p, k, vs, xs, e, h => by cases h; simp [eraseAll] at e; subst e; exact .nil
  | t :: ts, p, k, vs, xs, e, h => by
    cases h with
    | cons h1 h2 =>
      simp only [eraseAll] at e
      cases e1 : erase t with
      | none => rw [e1] at e; cases e
      | some y =>
        cases e2 : eraseAll ts with
        | none => rw [e1, e2] at e; cases e
        | some ys =>
          rw [e1, e2] at e
          simp only [Option.some.injEq] at e
          subst e
          exact .cons (Tr.view t _ _ y e1 h1) (TrAll.view ts p (k + 1) _ ys e2 h2)
end
end TX

/-! The state of a def's frame as trees (Rel), how it is carried, and the judgements LE, LA, LT. -/
namespace TX
open PySem PySem.Spec L2

/-- a def's entry: its heap, its owners, how many names, which parameters are handed in to be changed -/
structure Ctx where
  H0 : Hp
  O0 : Own
  N : Nat
  io : List Nat
abbrev Rho := List (Option T)

/-- the table of modules is none of what the def makes -/
def isLD : HO → Bool
  | .lst _ => true
  | .dK _ => true
  | .dT _ => true
  | .frz _ (.dK _) => true
  | .frz _ (.dT _) => true
  | _ => false
def Sm (_ : PySem.W.Frag) (_ : Hp) (_ : Own) : Prop := True
structure Rel (K : PySem.W.Frag) (C : Ctx) (n : Nat) (σ : St) (H : Hp) (O : Own) (ρ : Rho) : Prop where
  fr : ∀ b o, C.H0 b = some o → (C.O0 b = .free ∨ C.O0 b = .foreign) → H b = some o ∧ O b = C.O0 b
  nt : ∀ b, O b ≠ .free → ∃ o, H b = some o ∧ ownable o
  lt : ∀ b r p, O b = .at r p → r < n
  inj : ∀ a b r p, O a = .at r p → O b = .at r p → a = b
  val : ∀ b r p, O b = .at r p → r < C.N → ∃ t z, ρ[r]? = some (some t) ∧ subT t p = some z ∧ isNode z = true
  ln : σ.length = C.N
  lr : ρ.length = C.N
  sl : ∀ (i : Nat) (t : T), ρ[i]? = some (some t) → ∃ v, σ[i]? = some (some v) ∧ Tr K H O i [] v t
  hN : C.N ≤ n
  fo : ∀ b, O b = .foreign → ∃ o, C.H0 b = some o ∧ C.O0 b = .foreign
  pz : ∀ b j p, C.O0 b = .at j p → j < C.N ∧ O b = .at j p
  sm : Sm K C.H0 C.O0 ∧ ∀ b j p, C.O0 b = .at j p → j ∈ C.io

def Fre (H : Hp) (O : Own) (H' : Hp) (O' : Own) : Prop := ∀ b o, H b = some o → O b = .free → H' b = some o ∧ O' b = .free
/-- what an expression leaves: what is shared, the places of the frame's trees, the values on the way (roots N up to n) -/
structure Frm (N n : Nat) (H : Hp) (O : Own) (H' : Hp) (O' : Own) : Prop where
  fre : Fre H O H' O'
  pl : ∀ b r p, O b = .at r p → r < N → O' b = .at r p
  tm : ∀ b o r p, H b = some o → O b = .at r p → N ≤ r → r < n → H' b = some o ∧ O' b = .at r p
  nw : ∀ b r p, O' b = .at r p → N ≤ r → r < n → O b = .at r p
section
variable {N n m : Nat} {H H' H2 : Hp} {O O' O2 : Own}
theorem Fre.refl : Fre H O H O := fun _ _ h e => ⟨h, e⟩
theorem Fre.trans (a : Fre H O H' O') (b : Fre H' O' H2 O2) : Fre H O H2 O2 := fun x o h e => let ⟨h1, e1⟩ := a x o h e; b x o h1 e1
theorem Frm.refl : Frm N n H O H O := ⟨Fre.refl, fun _ _ _ h _ => h, fun _ _ _ _ h e _ _ => ⟨h, e⟩, fun _ _ _ h _ _ => h⟩
theorem Frm.trans (a : Frm N n H O H' O') (b : Frm N m H' O' H2 O2) (h : n ≤ m) : Frm N n H O H2 O2 :=
  ⟨a.fre.trans b.fre, fun x r p e l => b.pl x r p (a.pl x r p e l) l,
    fun x o r p e1 e2 l1 l2 => let ⟨z1, z2⟩ := a.tm x o r p e1 e2 l1 l2; b.tm x o r p z1 z2 l1 (Nat.lt_of_lt_of_le l2 h),
    fun x r p e l1 l2 => a.nw x r p (b.nw x r p e l1 (Nat.lt_of_lt_of_le l2 h)) l1 l2⟩
theorem Frm.le (a : Frm N m H O H' O') (h : n ≤ m) : Frm N n H O H' O' :=
  ⟨a.fre, a.pl, fun x o r p e1 e2 l1 l2 => a.tm x o r p e1 e2 l1 (Nat.lt_of_lt_of_le l2 h), fun x r p e l1 l2 => a.nw x r p e l1 (Nat.lt_of_lt_of_le l2 h)⟩
end

/-- a value on the way, at root n -/
def Val (K : PySem.W.Frag) (H : Hp) (O : Own) (n : Nat) (v : V) : T → Prop
  | .a r p => (∃ a, v = .ref a ∧ O a = .at r p ∧ r < n) ∧ ∀ b q, O b ≠ .at n q
  | t => Tr K H O n [] v t ∧ ∀ b p, O b = .at n p → ∃ z, subT t p = some z ∧ isNode z = true
def cut (n : Nat) (O : Own) : Own := fun b => match O b with
  | .at r p => if r < n then .at r p else .free
  | z => z
theorem cut_at {n : Nat} {O : Own} {b : Addr} {r : Nat} {p : List Nat} : cut n O b = .at r p ↔ O b = .at r p ∧ r < n := by
  unfold cut
  cases e : O b with
  | free => simp
  | foreign => simp
  | «at» r' p' =>
    simp only
    by_cases h : r' < n
    · rw [if_pos h]
      simp only [Lb.at.injEq]
      refine ⟨fun ⟨h1, h2⟩ => ⟨⟨h1, h2⟩, h1 ▸ h⟩, fun ⟨h1, _⟩ => h1⟩
    · rw [if_neg h]
      simp only [Lb.at.injEq, reduceCtorEq, false_iff]
      rintro ⟨⟨rfl, _⟩, h'⟩
      exact h h'
theorem cut_free {n : Nat} {O : Own} {b : Addr} (h : O b = .free) : cut n O b = .free := by unfold cut; rw [h]
theorem cut_foreign {n : Nat} {O : Own} {b : Addr} : cut n O b = .foreign ↔ O b = .foreign := by
  unfold cut
  cases e : O b with
  | free => simp
  | foreign => simp
  | «at» r' p' =>
    simp only
    by_cases h : r' < n
    · simp [h]
    · simp [h]
def dropR (i : Nat) (O : Own) : Own := fun b => match O b with
  | .at r p => if r = i then .free else .at r p
  | z => z
theorem dropR_at {i : Nat} {O : Own} {b : Addr} {r : Nat} {p : List Nat} : dropR i O b = .at r p ↔ O b = .at r p ∧ r ≠ i := by
  unfold dropR
  cases e : O b with
  | free => simp
  | foreign => simp
  | «at» r' p' =>
    simp only
    by_cases h : r' = i
    · rw [if_pos h]
      simp only [Lb.at.injEq, reduceCtorEq, false_iff]
      rintro ⟨⟨rfl, _⟩, h'⟩
      exact h' h
    · rw [if_neg h]
      simp only [Lb.at.injEq]
      refine ⟨fun ⟨h1, h2⟩ => ⟨⟨h1, h2⟩, h1 ▸ h⟩, fun ⟨h1, _⟩ => h1⟩
theorem dropR_free {i : Nat} {O : Own} {b : Addr} (h : O b = .free) : dropR i O b = .free := by unfold dropR; rw [h]
theorem dropR_foreign {i : Nat} {O : Own} {b : Addr} : dropR i O b = .foreign ↔ O b = .foreign := by
  unfold dropR
  cases e : O b with
  | free => simp
  | foreign => simp
  | «at» r' p' =>
    simp only
    by_cases h : r' = i
    · simp [h]
    · simp [h]
/-- root j becomes root i -/
def mvR (j i : Nat) (O : Own) : Own := fun b => match O b with
  | .at r p => if r = j then .at i p else .at r p
  | z => z
theorem mvR_at {i j : Nat} {O : Own} {b : Addr} {r : Nat} {p : List Nat} (h : mvR j i O b = .at r p) : (r = i ∧ O b = .at j p) ∨ (r ≠ j ∧ O b = .at r p) := by
  unfold mvR at h
  cases e : O b with
  | free => rw [e] at h; cases h
  | foreign => rw [e] at h; cases h
  | «at» r' p' =>
    rw [e] at h
    simp only at h
    by_cases hh : r' = j
    · rw [if_pos hh] at h; cases h; exact .inl ⟨rfl, by rw [hh]⟩
    · rw [if_neg hh] at h; cases h; exact .inr ⟨hh, rfl⟩
theorem mvR_root {i j : Nat} {O : Own} {b : Addr} {p : List Nat} (h : O b = .at j p) : mvR j i O b = .at i p := by unfold mvR; rw [h]; simp
theorem mvR_ne {i j : Nat} {O : Own} {b : Addr} {r : Nat} {p : List Nat} (h : O b = .at r p) (n : r ≠ j) : mvR j i O b = .at r p := by unfold mvR; rw [h]; simp [n]
theorem mvR_free {i j : Nat} {O : Own} {b : Addr} : mvR j i O b = .free ↔ O b = .free := by
  unfold mvR
  cases e : O b with
  | free => simp
  | foreign => simp
  | «at» r' p' =>
    simp only
    by_cases h : r' = j <;> simp [h]
theorem mvR_foreign {i j : Nat} {O : Own} {b : Addr} : mvR j i O b = .foreign ↔ O b = .foreign := by
  unfold mvR
  cases e : O b with
  | free => simp
  | foreign => simp
  | «at» r' p' =>
    simp only
    by_cases h : r' = j <;> simp [h]

section
variable {K : PySem.W.Frag} {C : Ctx} {n m : Nat} {σ : St} {H H' : Hp} {O O' : Own} {ρ : Rho}
theorem Rel.up (R : Rel K C n σ H O ρ) (h : n ≤ m) : Rel K C m σ H O ρ :=
  ⟨R.fr, R.nt, fun b r p e => Nat.lt_of_lt_of_le (R.lt b r p e) h, R.inj, R.val, R.ln, R.lr, R.sl, Nat.le_trans R.hN h, R.fo, R.pz, R.sm⟩
theorem Rel.smH (_ : Rel K C n σ H O ρ) : Sm K H O := trivial
theorem Rel.slt (R : Rel K C n σ H O ρ) {i : Nat} {t : Option T} (h : ρ[i]? = some t) : i < C.N := by
  have := (List.getElem?_eq_some_iff.mp h).1
  rw [R.lr] at this
  exact this
theorem Rel.fresh (R : Rel K C n σ H O ρ) {b : Addr} (h : H b = none) : O b = .free := by
  by_cases e : O b = .free
  · exact e
  · obtain ⟨o, z, _⟩ := R.nt b e
    rw [h] at z; cases z
theorem Rel.tracked (R : Rel K C n σ H O ρ) {b : Addr} {r : Nat} {p : List Nat} (h : O b = .at r p) : ∃ o, H b = some o ∧ ownable o := R.nt b (by rw [h]; intro z; cases z)
/-- values on the way from root n on are let go -/
theorem Rel.cut (R : Rel K C m σ H O ρ) (h1 : C.N ≤ n) : Rel K C n σ H (cut n O) ρ where
  fr b o e1 e2 := by
    obtain ⟨z1, z2⟩ := R.fr b o e1 e2
    refine ⟨z1, ?_⟩
    rcases e2 with e2 | e2
    · rw [e2] at z2 ⊢; exact cut_free z2
    · rw [e2] at z2 ⊢; exact cut_foreign.mpr z2
  nt b h := R.nt b fun z => h (cut_free z)
  lt b r p h := (cut_at.mp h).2
  inj a b r p e1 e2 := R.inj a b r p (cut_at.mp e1).1 (cut_at.mp e2).1
  val b r p e l := R.val b r p (cut_at.mp e).1 l
  ln := R.ln
  lr := R.lr
  sl i t e := by
    obtain ⟨v, h2, h3⟩ := R.sl i t e
    refine ⟨v, h2, ?_⟩
    have := Tr.move (H' := H) (O' := TX.cut n O) (r' := i) (p0 := []) (p1 := []) (fun b o e1 e2 => ⟨e1, cut_free e2⟩) (fun b o q e1 e2 => ⟨e1, cut_at.mpr ⟨e2, Nat.lt_of_lt_of_le (R.slt e) h1⟩⟩) t [] v h3
    exact this
  hN := h1
  fo b h := R.fo b (cut_foreign.mp h)
  pz b j p h := let ⟨z1, z2⟩ := R.pz b j p h; ⟨z1, cut_at.mpr ⟨z2, Nat.lt_of_lt_of_le z1 h1⟩⟩
  sm := R.sm
theorem frm_cut (N n : Nat) (H : Hp) (O : Own) (h : N ≤ n) : Frm N n H O H (cut n O) :=
  ⟨fun _ _ e1 e2 => ⟨e1, cut_free e2⟩, fun _ _ _ e l => cut_at.mpr ⟨e, Nat.lt_of_lt_of_le l h⟩, fun _ _ _ _ e1 e2 _ l => ⟨e1, cut_at.mpr ⟨e2, l⟩⟩, fun _ _ _ e _ _ => (cut_at.mp e).1⟩
/-- data that is scalar -/
inductive Sc : V → PyData → Prop
  | non : Sc .non .none
  | bl (b : Bool) : Sc (.bl b) (.bool b)
  | int (i : Int) : Sc (.int i) (.int i)
  | str (x : Str) : Sc (.str x) (.str x)
theorem Sc.rp {v : V} {x : PyData} (h : Sc v x) : Rp K H v x := by cases h <;> constructor
/-- a value of data at root n: no places there -/
theorem Rel.val_d (R : Rel K C n σ H O ρ) {v : V} {x : PyData} (h : Rp K (msk O H) v x) : Val K H O n v (.d x) := ⟨.d h, fun b p e => absurd (R.lt b n p e) (Nat.lt_irrefl _)⟩
theorem Rel.val_raw (R : Rel K C n σ H O ρ) {v : V} : Val K H O n v (.raw v) := ⟨.raw, fun b p e => absurd (R.lt b n p e) (Nat.lt_irrefl _)⟩
theorem Rel.val_fz (R : Rel K C n σ H O ρ) {a : Addr} {ns : List Int} (h : SqL K (msk O H) a (ns.map V.int)) : Val K H O n (.ref a) (.fz ns) := ⟨.fz h, fun b p e => absurd (R.lt b n p e) (Nat.lt_irrefl _)⟩
theorem Rel.val_lk (R : Rel K C n σ H O ρ) {a : Addr} {od : Obj} {kvs : List (Key × V)} {ks xs : List PyData} (h1 : O a = .free) (h2 : H a = some (.frz od (.dK kvs))) (h3 : ks = kvs.map fun q => keyD q.1) (h4 : RpAll K (msk O H) (kvs.map (·.2)) xs) : Val K H O n (.ref a) (.lk false ks xs) := ⟨.lk h1 h2 h3 h4, fun b p e => absurd (R.lt b n p e) (Nat.lt_irrefl _)⟩
theorem Rel.val_lt (R : Rel K C n σ H O ρ) {a : Addr} {od : Obj} {kvs : List (List Key × V)} {ks xs : List PyData} (h1 : O a = .free) (h2 : H a = some (.frz od (.dT kvs))) (h3 : ks = kvs.map fun q => PyData.tuple (q.1.map keyD)) (h4 : RpAll K (msk O H) (kvs.map (·.2)) xs) : Val K H O n (.ref a) (.lk true ks xs) := ⟨.lt h1 h2 h3 h4, fun b p e => absurd (R.lt b n p e) (Nat.lt_irrefl _)⟩
/-- carried over what comes behind -/
theorem Val.carry {v : V} {t : T} (h : Val K H O n v t) (hn : C.N ≤ n) (lt : ∀ b r p, O b = .at r p → r < n + 1) (nt : ∀ b, O b ≠ .free → ∃ o, H b = some o ∧ ownable o) (F : Frm C.N (n + 1) H O H' O') : Val K H' O' n v t := by
  have gen : ∀ t : T, (Tr K H O n [] v t ∧ ∀ b p, O b = .at n p → ∃ z, subT t p = some z ∧ isNode z = true) → (Tr K H' O' n [] v t ∧ ∀ b p, O' b = .at n p → ∃ z, subT t p = some z ∧ isNode z = true) := fun t h =>
    ⟨Tr.move (r' := n) (p0 := []) (p1 := []) F.fre (fun b o q e1 e2 => F.tm b o n q e1 e2 hn (Nat.lt_succ_self n)) t [] v h.1, fun b p e => h.2 b p (F.nw b n p e hn (Nat.lt_succ_self n))⟩
  cases t with
  | a r p =>
    obtain ⟨⟨a, e1, e2, l⟩, h2⟩ := h
    refine ⟨⟨a, e1, ?_, l⟩, fun b q e => h2 b q (F.nw b n q e hn (Nat.lt_succ_self n))⟩
    by_cases hr : r < C.N
    · exact F.pl a r p e2 hr
    · obtain ⟨o, ho, _⟩ := nt a (by rw [e2]; intro z; cases z)
      exact (F.tm a o r p ho e2 (by omega) (by omega)).2
  | _ => exact gen _ h
/-- a scalar is handed on -/
theorem Rel.fin_sc {N0 : Nat} (R : Rel K C m σ H O ρ) (hn : C.N ≤ n) {v : V} {x : PyData} (s : Sc v x) : Rel K C (n + 1) σ H (TX.cut n O) ρ ∧ Val K H (TX.cut n O) n v (.d x) :=
  ⟨(R.cut hn).up (Nat.le_succ _), (R.cut hn).val_d s.rp⟩

/-- what a slot holds, as a value -/
def nmv (i : Nat) (t : T) : T := if isNode t then .a i [] else t
theorem tr_root {r : Nat} {v : V} {t : T} {p : List Nat} (h : Tr K H O r p v t) (n : isNode t = true) : ∃ a, v = .ref a ∧ O a = .at r p := by
  cases h with
  | d _ => cases n
  | lk _ _ _ _ => cases n
  | lt _ _ _ _ => cases n
  | raw => cases n
  | fz _ => cases n
  | l h1 _ _ => exact ⟨_, rfl, h1⟩
  | mk h1 _ _ _ => exact ⟨_, rfl, h1⟩
  | mt h1 _ _ _ => exact ⟨_, rfl, h1⟩
  | o h1 _ _ _ => exact ⟨_, rfl, h1⟩
  | s h1 _ => exact ⟨_, rfl, h1⟩
theorem Rel.val_name (R : Rel K C n σ H O ρ) {i : Nat} {t : T} {v : V} (e : ρ[i]? = some (some t)) (h : Tr K H O i [] v t) : Val K H O n v (nmv i t) := by
  have none : ∀ b q, O b ≠ .at n q := fun b q e => absurd (R.lt b n q e) (Nat.lt_irrefl _)
  unfold nmv
  by_cases hn : isNode t = true
  · rw [if_pos hn]
    obtain ⟨a, e1, e2⟩ := tr_root h hn
    exact ⟨⟨a, e1, e2, Nat.lt_of_lt_of_le (R.slt e) R.hN⟩, none⟩
  · rw [if_neg hn]
    cases h with
    | d h => exact R.val_d h
    | raw => exact R.val_raw
    | fz h => exact R.val_fz h
    | lk h1 h2 h3 h4 => exact R.val_lk h1 h2 h3 h4
    | lt h1 h2 h3 h4 => exact R.val_lt h1 h2 h3 h4
    | l _ _ _ => exact absurd rfl hn
    | mk _ _ _ _ => exact absurd rfl hn
    | mt _ _ _ _ => exact absurd rfl hn
    | o _ _ _ _ => exact absurd rfl hn
    | s _ _ => exact absurd rfl hn

/-! ### what a value shows -/
def getT (ρ : Rho) (r : Nat) (p : List Nat) : Option T := match ρ[r]? with
  | some (some t) => subT t p
  | _ => none
/-- as data, read now -/
def vw (ρ : Rho) : T → Option PyData
  | .a r p => match getT ρ r p with
    | some t => erase t
    | none => none
  | t => erase t
theorem getT_some {r : Nat} {p : List Nat} {u : T} (h : getT ρ r p = some u) : ∃ t, ρ[r]? = some (some t) ∧ subT t p = some u := by
  unfold getT at h
  split at h
  · exact ⟨_, by assumption, h⟩
  · cases h
theorem Rel.at (R : Rel K C n σ H O ρ) {r : Nat} {p : List Nat} {u : T} (h : getT ρ r p = some u) : ∃ w, Tr K H O r p w u := by
  obtain ⟨t, e1, e2⟩ := getT_some h
  obtain ⟨v, _, ht⟩ := R.sl r t e1
  have := ht.sub e2
  simpa using this
theorem Rel.alias (R : Rel K C n σ H O ρ) {r : Nat} {p : List Nat} {u : T} {a : Addr} (h : getT ρ r p = some u) (hn : isNode u = true) (ha : O a = .at r p) : Tr K H O r p (.ref a) u := by
  obtain ⟨w, hw⟩ := R.at h
  obtain ⟨b, rfl, hb⟩ := tr_root hw hn
  rw [R.inj a b r p ha hb]
  exact hw
/-- a place's own node: where the place is owned, the tree there is a node -/
theorem Rel.place (R : Rel K C n σ H O ρ) {r : Nat} {p : List Nat} {a : Addr} (ha : O a = .at r p) (hr : r < C.N) : ∃ u, getT ρ r p = some u ∧ isNode u = true ∧ Tr K H O r p (.ref a) u := by
  obtain ⟨t, z, e1, e2, e3⟩ := R.val a r p ha hr
  have g : getT ρ r p = some z := by unfold getT; rw [e1]; exact e2
  exact ⟨z, g, e3, R.alias g e3 ha⟩
/-- read as data, from the heap as it stands -/
theorem Rel.view (R : Rel K C n σ H O ρ) {k : Nat} {v : V} {t : T} {x : PyData} (h : Val K H O k v t) (e : vw ρ t = some x) : ∃ r, Rp K (vis r O H) v x := by
  cases t with
  | a r p =>
    obtain ⟨⟨a, rfl, e2, l⟩, _⟩ := h
    cases g : getT ρ r p with
    | none => simp [vw, g] at e
    | some u =>
      obtain ⟨t, e3, _⟩ := getT_some g
      obtain ⟨u', g', hn, ht⟩ := R.place e2 (R.slt e3)
      rw [g] at g'; cases g'
      simp only [vw, g] at e
      exact ⟨r, Tr.view u p _ x e ht⟩
  | _ => exact ⟨k, Tr.view _ [] _ x e h.1⟩
theorem Rel.viewH (R : Rel K C n σ H O ρ) {k : Nat} {v : V} {t : T} {x : PyData} (h : Val K H O k v t) (e : vw ρ t = some x) : Rp K H v x :=
  let ⟨_, z⟩ := R.view h e; Rp.mono vis_le _ _ z

/-! ### lists read item by item -/
def allD : List T → Option (List PyData)
  | [] => some []
  | .d x :: ts => (allD ts).map (x :: ·)
  | _ :: _ => none
theorem allD_map : ∀ ds : List PyData, allD (ds.map T.d) = some ds
  | [] => rfl
  | d :: ds => by simp [allD, allD_map ds]
theorem allD_eq : ∀ {ts : List T} {ds : List PyData}, allD ts = some ds → ts = ds.map T.d
  | [], ds, h => by simp [allD] at h; subst h; rfl
  | t :: ts, ds, h => by
    cases t with
    | d x =>
      simp only [allD, Option.map_eq_some_iff] at h
      obtain ⟨es, h1, rfl⟩ := h
      rw [allD_eq h1]; rfl
    | _ => simp [allD] at h
def flatL : T → Option (List PyData)
  | .d (.list xs) => some xs
  | .l ts => allD ts
  | _ => none
def lsq (ρ : Rho) : T → Option (List PyData)
  | .a r p => match getT ρ r p with
    | some t => flatL t
    | none => none
  | t => flatL t
theorem flat_tr {r : Nat} {p : List Nat} {v : V} {t : T} {xs : List PyData} (h : Tr K H O r p v t) (e : flatL t = some xs) : ∃ a vs, v = .ref a ∧ H a = some (.lst vs) ∧ RpAll K (msk O H) vs xs := by
  cases h with
  | d h =>
    cases h with
    | lst h1 h2 =>
      simp only [flatL, Option.some.injEq] at e
      subst e
      exact ⟨_, _, rfl, (msk_some h1).2, h2⟩
    | _ => simp [flatL] at e
  | l h1 h2 h3 =>
    simp only [flatL] at e
    rw [allD_eq e] at h3
    exact ⟨_, _, rfl, h2, TrAll.data h3⟩
  | _ => simp [flatL] at e
theorem Rel.lsqV (R : Rel K C n σ H O ρ) {k : Nat} {v : V} {t : T} {xs : List PyData} (h : Val K H O k v t) (e : lsq ρ t = some xs) : ∃ a vs, v = .ref a ∧ H a = some (.lst vs) ∧ RpAll K (msk O H) vs xs := by
  cases t with
  | a r p =>
    obtain ⟨⟨a, rfl, e2, l⟩, _⟩ := h
    cases g : getT ρ r p with
    | none => simp [lsq, g] at e
    | some u =>
      obtain ⟨t, e3, _⟩ := getT_some g
      obtain ⟨u', g', hn, ht⟩ := R.place e2 (R.slt e3)
      rw [g] at g'; cases g'
      simp only [lsq, g] at e
      exact flat_tr ht e
  | _ => exact flat_tr h.1 e
def tsq : T → Option (List PyData)
  | .d (.tuple xs) => some xs
  | _ => none
theorem Rel.tsqV (R : Rel K C n σ H O ρ) {k : Nat} {v : V} {t : T} {xs : List PyData} (h : Val K H O k v t) (e : tsq t = some xs) : ∃ a vs, v = .ref a ∧ H a = some (.tup vs) ∧ RpAll K (msk O H) vs xs := by
  cases t with
  | d y =>
    cases y with
    | tuple ys =>
      simp only [tsq, Option.some.injEq] at e
      subst e
      have h := h.1
      cases h with
      | d h => cases h with | tup h1 h2 => exact ⟨_, _, rfl, (msk_some h1).2, h2⟩
    | _ => simp [tsq] at e
  | _ => simp [tsq] at e

/-! ### new objects -/
def lay (n : Nat) (p : Addr) (O : Own) : Own := fun b => if b = p then .at n [] else O b
theorem lay_same {n : Nat} {p : Addr} : lay n p O p = .at n [] := by unfold lay; rw [if_pos rfl]
theorem lay_ne {n : Nat} {p b : Addr} (h : b ≠ p) : lay n p O b = O b := by unfold lay; rw [if_neg h]
/-- a new object at root n, without children of its own -/
theorem Rel.alloc (R : Rel K C n σ H O ρ) {p : Addr} {o : HO} (hp : H p = none) (ho : ownable o) : Rel K C (n + 1) σ (upd H p o) (lay n p O) ρ ∧ Frm C.N n H O (upd H p o) (lay n p O) ∧ (∀ b q, lay n p O b = .at n q → b = p ∧ q = []) := by
  have of := R.fresh hp
  have keep : ∀ b u, H b = some u → upd H p o b = some u ∧ lay n p O b = O b := fun b u e => ⟨by rw [upd_ne (ne_of_none e hp)]; exact e, lay_ne (ne_of_none e hp)⟩
  have lb : ∀ b r q, O b = .at r q → lay n p O b = .at r q := fun b r q e => by
    obtain ⟨u, hu, _⟩ := R.tracked e
    rw [(keep b u hu).2]; exact e
  have bl : ∀ b r q, lay n p O b = .at r q → (b = p ∧ r = n ∧ q = []) ∨ (b ≠ p ∧ O b = .at r q) := fun b r q e => by
    by_cases h : b = p
    · subst h; rw [lay_same] at e; cases e; exact .inl ⟨rfl, rfl, rfl⟩
    · rw [lay_ne h] at e; exact .inr ⟨h, e⟩
  refine ⟨⟨fun b u e1 e2 => ?_, fun b h => ?_, fun b r q e => ?_, fun a b r q e1 e2 => ?_, fun b r q e l => ?_, R.ln, R.lr, fun i t e => ?_, Nat.le_succ_of_le R.hN, fun b e => ?_, fun b j q e => ?_, R.sm⟩, ⟨fun b u e1 e2 => ?_, fun b r q e _ => lb b r q e, fun b u r q e1 e2 _ _ => ?_, fun b r q e _ l => ?_⟩, fun b q e => ?_⟩
  · obtain ⟨z1, z2⟩ := R.fr b u e1 e2
    obtain ⟨k1, k2⟩ := keep b u z1
    exact ⟨k1, k2.trans z2⟩
  · by_cases hb : b = p
    · subst hb; exact ⟨o, upd_same, ho⟩
    · rw [lay_ne hb] at h
      obtain ⟨u, e, w⟩ := R.nt b h
      exact ⟨u, (keep b u e).1, w⟩
  · rcases bl b r q e with ⟨_, h, _⟩ | ⟨_, h⟩
    · omega
    · exact Nat.lt_succ_of_lt (R.lt b r q h)
  · rcases bl a r q e1 with ⟨h1, h2, _⟩ | ⟨_, h⟩ <;> rcases bl b r q e2 with ⟨h1', h2', _⟩ | ⟨_, h'⟩
    · rw [h1, h1']
    · exact absurd (R.lt b r q h') (by omega)
    · exact absurd (R.lt a r q h) (by omega)
    · exact R.inj a b r q h h'
  · rcases bl b r q e with ⟨_, h, _⟩ | ⟨_, h⟩
    · have := R.hN; omega
    · exact R.val b r q h l
  · obtain ⟨v, h2, h3⟩ := R.sl i t e
    exact ⟨v, h2, Tr.move (r' := i) (p0 := []) (p1 := []) (fun b u e1 e2 => ⟨(keep b u e1).1, (keep b u e1).2.trans e2⟩) (fun b u q e1 e2 => ⟨(keep b u e1).1, lb b i q e2⟩) t [] v h3⟩
  · by_cases hb : b = p
    · subst hb; rw [lay_same] at e; cases e
    · rw [lay_ne hb] at e; exact R.fo b e
  · obtain ⟨z1, z2⟩ := R.pz b j q e
    exact ⟨z1, lb b j q z2⟩
  · exact ⟨(keep b u e1).1, (keep b u e1).2.trans e2⟩
  · exact ⟨(keep b u e1).1, lb b r q e2⟩
  · rcases bl b r q e with ⟨_, h, _⟩ | ⟨_, h⟩
    · omega
    · exact h
  · rcases bl b n q e with ⟨h1, _, h3⟩ | ⟨_, h⟩
    · exact ⟨h1, h3⟩
    · exact absurd (R.lt b n q h) (Nat.lt_irrefl _)
/-- a new list of data -/
theorem Rel.newL (R : Rel K C m σ H O ρ) (hn : C.N ≤ n) {p : Addr} {ws : List V} {zs : List PyData} (hp : H p = none) (hz : RpAll K (msk O H) ws zs) :
    ∃ O', Rel K C (n + 1) σ (upd H p (.lst ws)) O' ρ ∧ Frm C.N n H O (upd H p (.lst ws)) O' ∧ Val K (upd H p (.lst ws)) O' n (.ref p) (.l (zs.map T.d)) := by
  obtain ⟨R1, F1, u1⟩ := (R.cut hn).alloc (o := .lst ws) hp trivial
  refine ⟨_, R1, (frm_cut C.N n H O hn).trans F1 (Nat.le_refl _), .l lay_same upd_same (TrAll.ofData (RpAll.mono (fun b o e => ?_) _ _ hz)), fun b q e => ?_⟩
  · obtain ⟨z1, z2⟩ := msk_some e
    rw [msk_of (by rw [lay_ne (ne_of_none z2 hp)]; exact cut_free z1), upd_ne (ne_of_none z2 hp)]
    exact z2
  · obtain ⟨rfl, rfl⟩ := u1 b q e
    exact ⟨_, rfl, rfl⟩
/-- a new tuple -/
theorem Rel.newT (R : Rel K C m σ H O ρ) (hn : C.N ≤ n) {p : Addr} {ws : List V} {zs : List PyData} (hp : H p = none) (hz : RpAll K (msk O H) ws zs) :
    ∃ O', Rel K C (n + 1) σ (upd H p (.tup ws)) O' ρ ∧ Frm C.N n H O (upd H p (.tup ws)) O' ∧ Val K (upd H p (.tup ws)) O' n (.ref p) (.d (.tuple zs)) := by
  have R0 := R.cut (n := n) hn
  have of := R0.fresh hp
  have keep : ∀ b u, H b = some u → upd H p (.tup ws) b = some u := fun b u e => by rw [upd_ne (ne_of_none e hp)]; exact e
  have R1 : Rel K C n σ (upd H p (.tup ws)) (TX.cut n O) ρ := ⟨fun b u e1 e2 => ⟨keep _ _ (R0.fr b u e1 e2).1, (R0.fr b u e1 e2).2⟩, fun b h => let ⟨u, e, w⟩ := R0.nt b h; ⟨u, keep b u e, w⟩, R0.lt, R0.inj, R0.val, R0.ln, R0.lr,
    fun i t e => let ⟨v, h2, h3⟩ := R0.sl i t e; ⟨v, h2, Tr.move (r' := i) (p0 := []) (p1 := []) (fun b u e1 e2 => ⟨keep b u e1, e2⟩) (fun b u q e1 e2 => ⟨keep b u e1, e2⟩) t [] v h3⟩, R0.hN, R0.fo, R0.pz, R0.sm⟩
  refine ⟨_, R1.up (Nat.le_succ _), (frm_cut C.N n H O hn).trans ⟨fun b u e1 e2 => ⟨keep b u e1, e2⟩, fun _ _ _ e _ => e, fun b u r q e1 e2 _ _ => ⟨keep b u e1, e2⟩, fun _ _ _ e _ _ => e⟩ (Nat.le_refl _), R1.val_d (.tup (by rw [msk_of of]; exact upd_same) (RpAll.mono (fun b o e => ?_) _ _ hz))⟩
  obtain ⟨z1, z2⟩ := msk_some e
  rw [msk_of (cut_free z1)]
  exact keep b o z2

/-! ### a place is changed -/
def putAt (ρ : Rho) (r : Nat) (p : List Nat) (u : T) : Rho := match ρ[r]? with
  | some (some t) => ρ.set r (some (putT t u p))
  | _ => ρ
theorem Rel.upd (R : Rel K C m σ H O ρ) (hN : C.N ≤ n) {r : Nat} {p : List Nat} {u u' : T} (hg : getT ρ r p = some u)
    (hf : Fre H O H' O') (hfo : ∀ b o, H b = some o → O b = .foreign → H' b = some o ∧ O' b = .foreign)
    (hk : ∀ b o r' p', H b = some o → O b = .at r' p' → r' < C.N → ¬ (r' = r ∧ p <+: p') → H' b = some o ∧ O' b = .at r' p')
    (hpl : ∀ b r' p', O b = .at r' p' → r' < C.N → O' b = .at r' p') (hw : ∀ w, Tr K H O r p w u → Tr K H' O' r p w u')
    (hnt : ∀ b, O' b ≠ .free → ∃ o, H' b = some o ∧ ownable o) (hlt : ∀ b r p, O' b = .at r p → r < n) (hinj : ∀ a b r p, O' a = .at r p → O' b = .at r p → a = b)
    (hval : ∀ b q, O' b = .at r (p ++ q) → ∃ z, subT u' q = some z ∧ isNode z = true)
    (hold : ∀ b r' p', O' b = .at r' p' → r' < C.N → (r' = r ∧ p <+: p') ∨ O b = .at r' p') (hfb : ∀ b, O' b = .foreign → O b = .foreign) : Rel K C n σ H' O' (putAt ρ r p u') := by
  obtain ⟨t, e1, e2⟩ := getT_some hg
  have hr := R.slt e1
  have eput : putAt ρ r p u' = ρ.set r (some (putT t u' p)) := by unfold putAt; rw [e1]
  rw [eput]
  have hrl : r < ρ.length := by rw [R.lr]; exact hr
  refine ⟨fun b o z1 z2 => ?_, hnt, hlt, hinj, fun b r' p' e l => ?_, R.ln, by rw [List.length_set]; exact R.lr, fun i t' e => ?_, hN, fun b e => R.fo b (hfb b e), fun b j q e => ?_, R.sm⟩
  · obtain ⟨h1, h2⟩ := R.fr b o z1 z2
    rcases z2 with z2 | z2
    · rw [z2] at h2; rw [z2]; exact hf b o h1 h2
    · rw [z2] at h2; rw [z2]; exact hfo b o h1 h2
  · rcases hold b r' p' e l with ⟨rfl, x, rfl⟩ | e'
    · obtain ⟨z, h1, h2⟩ := hval b x e
      refine ⟨_, z, List.getElem?_set_self hrl, ?_, h2⟩
      rw [subT_append (subT_put e2)]
      exact h1
    · obtain ⟨t', z, h1, h2, h3⟩ := R.val b r' p' e' l
      by_cases hh : r' = r
      · subst hh
        rw [e1] at h1; cases h1
        by_cases hp : p <+: p'
        · obtain ⟨x, rfl⟩ := hp
          obtain ⟨z, g1, g2⟩ := hval b x e
          exact ⟨_, z, List.getElem?_set_self hrl, by rw [subT_append (subT_put e2)]; exact g1, g2⟩
        · obtain ⟨z', g1, g2⟩ := subT_put_ne (u := u') e2 hp h2 h3
          exact ⟨_, z', List.getElem?_set_self hrl, g1, g2⟩
      · exact ⟨t', z, by rw [List.getElem?_set_ne (fun q => hh q.symm)]; exact h1, h2, h3⟩
  · by_cases hi : i = r
    · subst hi
      rw [List.getElem?_set_self hrl] at e
      cases e
      obtain ⟨v, h2, h3⟩ := R.sl i t e1
      refine ⟨v, h2, Tr.upd hf (p := []) (fun b o p' z1 z2 z3 => hk b o i p' z1 z2 hr fun q => z3 (by simpa using q.2)) e2 (fun w h => ?_) h3⟩
      rw [List.nil_append] at h ⊢
      exact hw w h
    · rw [List.getElem?_set_ne (fun q => hi q.symm)] at e
      obtain ⟨v, h2, h3⟩ := R.sl i t' e
      exact ⟨v, h2, Tr.move (r' := i) (p0 := []) (p1 := []) hf (fun b o q z1 z2 => hk b o i q z1 z2 (R.slt e) fun z => hi z.1) t' [] v h3⟩
  · obtain ⟨z1, z2⟩ := R.pz b j q e
    exact ⟨z1, hpl b j q z2 z1⟩
end
end TX

/-! The judgements over trees (LE, LA, LT, LW) and the rules of expressions. -/
namespace TX
open PySem PySem.Spec L2

abbrev ExK := Addr → Rho → Prop
abbrev TwE := Rho → (T → Rho → Prop) → ExK → Prop
abbrev TwA := Rho → (List T → Rho → Prop) → ExK → Prop
abbrev TwT := Rho → (Bool → Rho → Prop) → ExK → Prop

theorem _root_.L2.PE.imp {X : Cx} {e : Expr} {t t' : TE} (h : PE X e t) (k : ∀ σ H Q, t' σ H Q → t σ H Q) : PE X e t' := ⟨fun pins s σ H Q I q => h.run pins s σ H Q I (k _ _ _ q)⟩
theorem _root_.L2.PT.imp {X : Cx} {e : Expr} {t t' : TT} (h : PT X e t) (k : ∀ σ H Q, t' σ H Q → t σ H Q) : PT X e t' := ⟨fun pins s σ H Q I q => h.run pins s σ H Q I (k _ _ _ q)⟩
theorem _root_.L2.PW.imp {X : Cx} {e : Expr} {t t' : TT} (h : PW X e t) (k : ∀ σ H Q, t' σ H Q → t σ H Q) : PW X e t' := ⟨fun wh pins s σ H Q I q => h.run wh pins s σ H Q I (k _ _ _ q)⟩
theorem _root_.L2.PA.imp {X : Cx} {e : List Expr} {t t' : TA} (h : PA X e t) (k : ∀ σ H Q, t' σ H Q → t σ H Q) : PA X e t' := ⟨fun pos pins s σ H Q I q => h.run pos pins s σ H Q I (k _ _ _ q)⟩
theorem _root_.L2.PS.imp {X : Cx} {e : Stmt} {t t' : TS} (h : PS X e t) (k : ∀ D σ H, t' D σ H → t D σ H) : PS X e t' := ⟨fun pins s σ H Q I q => h.run pins s σ H Q I (k _ _ _ q)⟩
theorem _root_.L2.PSs.imp {X : Cx} {e : List Stmt} {t t' : TS} (h : PSs X e t) (k : ∀ D σ H, t' D σ H → t D σ H) : PSs X e t' := ⟨fun pins s σ H Q I q => h.run pins s σ H Q I (k _ _ _ q)⟩

/-- an exception leaves: what is wanted at the trees, of what is wanted at the heap -/
def exK (K : PySem.W.Frag) (C : Ctx) (W : WX) (H : Hp) (O : Own) : ExK := fun c ρ' => ∀ σ' H' O', Rel K C C.N σ' H' O' ρ' → Fre H O H' O' → W (.ref c) none σ' H'
theorem exK.on {K : PySem.W.Frag} {C : Ctx} {W : WX} {H H1 : Hp} {O O1 : Own} (f : Fre H O H1 O1) (c : Addr) (ρ' : Rho) (h : exK K C W H O c ρ') : exK K C W H1 O1 c ρ' := fun σ' H' O' R F => h σ' H' O' R (f.trans F)
inductive ValAll (K : PySem.W.Frag) (H : Hp) (O : Own) : Nat → List V → List T → Prop
  | nil {n} : ValAll K H O n [] []
  | cons {n v vs t ts} : Val K H O n v t → ValAll K H O (n + 1) vs ts → ValAll K H O n (v :: vs) (t :: ts)
def lfE (K : PySem.W.Frag) (C : Ctx) (W : WX) (n : Nat) (tw : TwE) : TE := fun σ H Q => ∃ O ρ, Rel K C n σ H O ρ ∧
  tw ρ (fun t ρ' => ∀ v H' O', Rel K C (n + 1) σ H' O' ρ' → Frm C.N n H O H' O' → Val K H' O' n v t → Q v H') (exK K C W H O)
def lfA (K : PySem.W.Frag) (C : Ctx) (W : WX) (n : Nat) (tw : TwA) : TA := fun σ H Q => ∃ O ρ, Rel K C n σ H O ρ ∧
  tw ρ (fun ts ρ' => ∀ vs H' O', Rel K C (n + ts.length) σ H' O' ρ' → Frm C.N n H O H' O' → ValAll K H' O' n vs ts → Q vs H') (exK K C W H O)
def lfT (K : PySem.W.Frag) (C : Ctx) (W : WX) (n : Nat) (tw : TwT) : TT := fun σ H Q => ∃ O ρ, Rel K C n σ H O ρ ∧
  tw ρ (fun b ρ' => ∀ H' O', Rel K C n σ H' O' ρ' → Frm C.N n H O H' O' → Q b H') (exK K C W H O)
def MonE {α : Type} (tw : Rho → (α → Rho → Prop) → ExK → Prop) : Prop := ∀ ρ (Q Q' : α → Rho → Prop) (E E' : ExK), (∀ t ρ', Q t ρ' → Q' t ρ') → (∀ c ρ', E c ρ' → E' c ρ') → tw ρ Q E → tw ρ Q' E'
structure LE (X : Cx) (e : Expr) (tw : TwE) : Prop where
  mono : MonE tw
  run : ∀ (C : Ctx) (W : WX) (n : Nat), C.N = X.N.length → C.N ≤ n → Takes X W → PE X e (lfE X.K C W n tw)
structure LA (X : Cx) (es : List Expr) (tw : TwA) : Prop where
  mono : MonE tw
  len : ∀ ρ Q E, tw ρ Q E → tw ρ (fun ts ρ' => ts.length = es.length ∧ Q ts ρ') E
  run : ∀ (C : Ctx) (W : WX) (n : Nat), C.N = X.N.length → C.N ≤ n → Takes X W → PA X es (lfA X.K C W n tw)
structure LT (X : Cx) (e : Expr) (tw : TwT) : Prop where
  mono : MonE tw
  run : ∀ (C : Ctx) (W : WX) (n : Nat), C.N = X.N.length → C.N ≤ n → Takes X W → PT X e (lfT X.K C W n tw)
structure LW (X : Cx) (e : Expr) (tw : TwT) : Prop where
  mono : MonE tw
  run : ∀ (C : Ctx) (W : WX) (n : Nat), C.N = X.N.length → C.N ≤ n → Takes X W → PW X e (lfT X.K C W n tw)
theorem LW.lt {X : Cx} {e : Expr} {tw : TwT} (h : LW X e tw) : LT X e tw := ⟨h.mono, fun C W n a b c => (h.run C W n a b c).pt⟩

section
variable {X : Cx} {pos : Pos} {a b c : Expr} {ta tb tc : TwE}

/-! ### names, constants -/
def wVar (i : Nat) : TwE := fun ρ Q _ => ∃ t, ρ[i]? = some (some t) ∧ Q (nmv i t) ρ
def wC (t : T) : TwE := fun ρ Q _ => Q t ρ
theorem lv (i : Nat) {x : Str} {pos : Pos} (hN : X.N[i]? = some x := by rfl) (hv : Vis X.env.scope x := by first | exact Or.inl rfl | exact Or.inr (Or.inl rfl) | exact Or.inr (Or.inr rfl)) (hd : (x == ("__debug__" : Str)) = false := by decide)
    (hcd : (x == ("__classdict__" : Str)) = false := by decide) : LE X (.Name x pos) (wVar i) := by
  refine ⟨fun ρ Q Q' E E' h _ ⟨t, e, q⟩ => ⟨t, e, h _ _ q⟩, fun C W n hC hn tk => (pe_var (i := i) hN hv hd hcd).imp fun σ H Q ⟨O, ρ, R, t, e, q⟩ => ?_⟩
  obtain ⟨v, h1, h2⟩ := R.sl i t e
  exact ⟨v, h1, q v H O (R.up (Nat.le_succ _)) .refl (R.val_name e h2)⟩
theorem le_sc {e : Expr} {v : V} {x : PyData} (s : Sc v x) (h : PE X e (tC v)) : LE X e (wC (.d x)) :=
  ⟨fun ρ Q Q' E E' h _ q => h _ _ q, fun C W n hC hn tk => h.imp fun σ H Q ⟨O, ρ, R, q⟩ => q v H O (R.up (Nat.le_succ _)) .refl (R.val_d s.rp)⟩
theorem le_raw {e : Expr} {v : V} (h : PE X e (tC v)) : LE X e (wC (.raw v)) :=
  ⟨fun ρ Q Q' E E' h _ q => h _ _ q, fun C W n hC hn tk => h.imp fun σ H Q ⟨O, ρ, R, q⟩ => q v H O (R.up (Nat.le_succ _)) .refl R.val_raw⟩
theorem le_int {i j pos} : LE X (.Constant (.int i) j pos) (wC (.d (.int i))) := le_sc (.int i) pe_int
theorem le_bl {i j pos} : LE X (.Constant (.bool i) j pos) (wC (.d (.bool i))) := le_sc (.bl i) pe_bl
theorem le_non {j pos} : LE X (.Constant .none j pos) (wC (.d .none)) := le_sc .non pe_non
theorem le_str {i j pos} : LE X (.Constant (.str i) j pos) (wC (.d (.str i))) := le_sc (.str i) pe_str

/-! ### two places, a scalar out -/
def OpD (K : PySem.W.Frag) (r : R2) (f : PyData → PyData → PyData → Prop) : Prop := ∀ H v u x y z (Q : VK), Rp K H v x → Rp K H u y → f x y z → (∀ w, Sc w z → Q w H) → r v u H Q
def w2 (ta tb : TwE) (k : T → T → Rho → (T → Rho → Prop) → Prop) : TwE := fun ρ Q E => ta ρ (fun t ρ1 => tb ρ1 (fun u ρ2 => k t u ρ2 Q) E) E
def wOp (f : PyData → PyData → PyData → Prop) (ta tb : TwE) : TwE := w2 ta tb fun t u ρ Q => ∃ x y z, vw ρ t = some x ∧ vw ρ u = some y ∧ f x y z ∧ Q (.d z) ρ
theorem w2_mono {k : T → T → Rho → (T → Rho → Prop) → Prop} (ha : MonE ta) (hb : MonE tb) (hk : ∀ t u ρ Q Q', (∀ t ρ', Q t ρ' → Q' t ρ') → k t u ρ Q → k t u ρ Q') : MonE (w2 ta tb k) := fun ρ Q Q' E E' h he q =>
  ha ρ _ _ E E' (fun t ρ1 q1 => hb ρ1 _ _ E E' (fun u ρ2 q2 => hk _ _ _ _ _ h q2) he q1) he q
theorem wOp_mono {f : PyData → PyData → PyData → Prop} (ha : MonE ta) (hb : MonE tb) : MonE (wOp f ta tb) := w2_mono ha hb fun t u ρ Q Q' h ⟨x, y, z, h1, h2, h3, q⟩ => ⟨x, y, z, h1, h2, h3, h _ _ q⟩
/-- the second value behind the first -/
theorem two {K : PySem.W.Frag} {C : Ctx} {W : WX} {n : Nat} {σ : St} {H : Hp} {Q : VK} {r : R2} {k : T → T → Rho → (T → Rho → Prop) → Prop} (ha : MonE ta) (hb : MonE tb) (hn : C.N ≤ n)
    (h : lfE K C W n (w2 ta tb k) σ H Q)
    (fin : ∀ O ρ2 t u v w H2 O2, Rel K C (n + 2) σ H2 O2 ρ2 → Frm C.N n H O H2 O2 → Val K H2 O2 n v t → Val K H2 O2 (n + 1) w u →
      k t u ρ2 (fun t ρ' => ∀ v H' O', Rel K C (n + 1) σ H' O' ρ' → Frm C.N n H O H' O' → Val K H' O' n v t → Q v H') → r v w H2 Q) :
    tOp r (lfE K C W n ta) (lfE K C W (n + 1) tb) σ H Q := by
  obtain ⟨O, ρ, R, h⟩ := h
  refine ⟨O, ρ, R, ha ρ _ _ _ _ (fun t ρ1 q1 => ?_) (fun _ _ z => z) h⟩
  intro v H1 O1 R1 F1 V1
  refine ⟨O1, ρ1, R1, hb ρ1 _ _ _ _ (fun u ρ2 q2 => ?_) (fun c ρ' z => exK.on F1.fre c ρ' z) q1⟩
  intro w H2 O2 R2 F2 V2
  exact fin O ρ2 t u v w H2 O2 R2 (F1.trans F2 (Nat.le_succ n)) (V1.carry hn R1.lt R1.nt F2) V2 q2
theorem le_op {op : Operator} {r : R2} {f : PyData → PyData → PyData → Prop} (ho : OpR X (binaryOp op) r) (hd : OpD X.K r f) (ha : LE X a ta) (hb : LE X b tb) : LE X (.BinOp a op b pos) (wOp f ta tb) := by
  refine ⟨w2_mono ha.mono hb.mono fun t u ρ Q Q' h ⟨x, y, z, h1, h2, h3, q⟩ => ⟨x, y, z, h1, h2, h3, h _ _ q⟩, fun C W n hC hn tk => (pe_op ho (ha.run C W n hC hn tk) (hb.run C W (n + 1) hC (by omega) tk)).imp fun σ H Q h => ?_⟩
  refine two ha.mono hb.mono hn h fun O ρ2 t u v w H2 O2 R2 F V1 V2 ⟨x, y, z, h1, h2, h3, q⟩ => ?_
  refine hd H2 v w x y z Q (R2.viewH V1 h1) (R2.viewH V2 h2) h3 fun w' s => ?_
  obtain ⟨R3, V3⟩ := R2.fin_sc (N0 := 0) hn s
  exact q w' H2 _ R3 (F.trans (frm_cut C.N n H2 O2 hn) (Nat.le_refl _)) V3
theorem le_cmp {op : CmpOp} {r : R2} {f : PyData → PyData → PyData → Prop} (ho : OpR X (compareOp op) r) (hd : OpD X.K r f) (ha : LE X a ta) (hb : LE X b tb) (hm : behindInMarks op b = false) : LE X (.Compare a [op] [b] pos) (wOp f ta tb) := by
  refine ⟨w2_mono ha.mono hb.mono fun t u ρ Q Q' h ⟨x, y, z, h1, h2, h3, q⟩ => ⟨x, y, z, h1, h2, h3, h _ _ q⟩, fun C W n hC hn tk => (pe_cmpR ho (ha.run C W n hC hn tk) (hb.run C W (n + 1) hC (by omega) tk) hm).imp fun σ H Q h => ?_⟩
  refine two ha.mono hb.mono hn h fun O ρ2 t u v w H2 O2 R2 F V1 V2 ⟨x, y, z, h1, h2, h3, q⟩ => ?_
  refine hd H2 v w x y z Q (R2.viewH V1 h1) (R2.viewH V2 h2) h3 fun w' s => ?_
  obtain ⟨R3, V3⟩ := R2.fin_sc (N0 := 0) hn s
  exact q w' H2 _ R3 (F.trans (frm_cut C.N n H2 O2 hn) (Nat.le_refl _)) V3

/-! ### tests -/
/-- a value that is True or False, as a test -/
def wT (ta : TwE) : TwT := fun ρ Q E => ta ρ (fun t ρ1 => ∃ b, t = .d (.bool b) ∧ Q b ρ1) E
theorem val_bool {K : PySem.W.Frag} {H : Hp} {O : Own} {n : Nat} {v : V} {b : Bool} (h : Val K H O n v (.d (.bool b))) : v = .bl b := by
  have h := h.1
  cases h with | d h => cases h; rfl
theorem lt_val {e : Expr} (h : LE X e ta) (he : ∀ whole, isTrue e X.env whole = (do let v ← whole; standAt e.pos; holding [v] (truthy v)) := by intro _; rfl) : LT X e (wT ta) := by
  refine ⟨fun ρ Q Q' E E' k ke q => h.mono ρ _ _ E E' (fun t ρ1 ⟨b, e, q⟩ => ⟨b, e, k _ _ q⟩) ke q, fun C W n hC hn tk => (pt_val (h.run C W n hC hn tk) he).imp fun σ H Q ⟨O, ρ, R, q⟩ => ?_⟩
  refine ⟨O, ρ, R, h.mono ρ _ _ _ _ (fun t ρ1 ⟨b, e, q⟩ => ?_) (fun _ _ z => z) q⟩
  subst e
  intro v H1 O1 R1 F1 V1
  exact ⟨b, val_bool V1, q H1 _ (R1.cut hn) (F1.trans (frm_cut C.N n H1 O1 hn) (Nat.le_refl _))⟩
theorem lt_cmp {op : CmpOp} {r : R2} {f : PyData → PyData → PyData → Prop} (ho : OpR X (compareOp op) r) (hd : OpD X.K r f) (ha : LE X a ta) (hb : LE X b tb) (hm : behindInMarks op b = false) : LT X (.Compare a [op] [b] pos) (wT (wOp f ta tb)) := by
  refine ⟨fun ρ Q Q' E E' k ke q => wOp_mono ha.mono hb.mono ρ _ _ E E' (fun t ρ1 ⟨b, e, q⟩ => ⟨b, e, k _ _ q⟩) ke q,
    fun C W n hC hn tk => (pt_cmpR ho (ha.run C W n hC hn tk) (hb.run C W (n + 1) hC (by omega) tk) hm).imp fun σ H Q ⟨O, ρ, R, h⟩ => ?_⟩
  refine two (ta := ta) (tb := tb) (k := fun t u ρ2 Q' => ∃ x y b, vw ρ2 t = some x ∧ vw ρ2 u = some y ∧ f x y (.bool b) ∧ Q' (.d (.bool b)) ρ2) (Q := fun x H' => ∃ k, x = V.bl k ∧ Q k H') ha.mono hb.mono hn
    ⟨O, ρ, R, ha.mono ρ _ _ _ _ (fun t ρ1 q1 => hb.mono ρ1 _ _ _ _ (fun u ρ2 ⟨x, y, z, h1, h2, h3, b, e, q⟩ => ?_) (fun _ _ z => z) q1) (fun _ _ z => z) h⟩ fun O ρ2 t u v w H2 O2 R2 F V1 V2 ⟨x, y, b, h1, h2, h3, q⟩ => ?_
  · refine hd H2 v w x y (.bool b) _ (R2.viewH V1 h1) (R2.viewH V2 h2) h3 fun w' s => ?_
    obtain ⟨R3, V3⟩ := R2.fin_sc (N0 := 0) hn s
    exact q w' H2 _ R3 (F.trans (frm_cut C.N n H2 O2 hn) (Nat.le_refl _)) V3
  · cases e
    refine ⟨x, y, b, h1, h2, h3, fun v H' O' R' F' V' => ⟨b, val_bool V', q H' _ (R'.cut hn) (F'.trans (frm_cut C.N n H' O' hn) (Nat.le_refl _))⟩⟩
def wAnd (t u : TwT) : TwT := fun ρ Q E => t ρ (fun b ρ1 => if b = true then u ρ1 Q E else Q false ρ1) E
def wOr (t u : TwT) : TwT := fun ρ Q E => t ρ (fun b ρ1 => if b = true then Q true ρ1 else u ρ1 Q E) E
def wNot (t : TwT) : TwT := fun ρ Q E => t ρ (fun b ρ1 => Q (!b) ρ1) E
variable {tA tB : TwT} {rest : List Expr}
theorem wOr_mono (ha : MonE tA) (hb : MonE tB) : MonE (wOr tA tB) := fun ρ Q Q' E E' h he q => ha ρ _ _ E E' (fun b ρ1 q => by
  cases b with
  | false => exact hb ρ1 Q Q' E E' h he q
  | true => exact h _ _ q) he q
theorem wNot_mono (ha : MonE tA) : MonE (wNot tA) := fun ρ Q Q' E E' h he q => ha ρ _ _ E E' (fun b ρ1 q => h _ _ q) he q
theorem lw_or1 (ha : LT X a tA) : LW X (.BoolOp .Or [a] pos) tA := ⟨ha.mono, fun C W n hC hn tk => pw_or1 (ha.run C W n hC hn tk)⟩
theorem lw_or (ha : LT X a tA) (hb : LW X (.BoolOp .Or (b :: rest) pos) tB) : LW X (.BoolOp .Or (a :: b :: rest) pos) (wOr tA tB) := by
  refine ⟨wOr_mono ha.mono hb.mono, fun C W n hC hn tk => (pw_or (ha.run C W n hC hn tk) (hb.run C W n hC hn tk)).imp fun σ H Q ⟨O, ρ, R, q⟩ => ?_⟩
  refine ⟨O, ρ, R, ha.mono ρ _ _ _ _ (fun b ρ1 q1 => ?_) (fun _ _ z => z) q⟩
  intro H1 O1 R1 F1
  cases b with
  | false => exact ⟨O1, ρ1, R1, hb.mono ρ1 _ _ _ _ (fun b ρ2 q2 H2 O2 R2 F2 => q2 H2 O2 R2 (F1.trans F2 (Nat.le_refl _))) (fun c ρ' z => exK.on F1.fre c ρ' z) q1⟩
  | true => exact q1 H1 O1 R1 F1
theorem lt_not (ha : LT X a tA) : LT X (.UnaryOp .Not a pos) (wNot tA) := ⟨wNot_mono ha.mono, fun C W n hC hn tk => (pt_not (ha.run C W n hC hn tk)).imp fun σ H Q ⟨O, ρ, R, q⟩ => ⟨O, ρ, R, q⟩⟩

/-! ### and, or, not as values; a if t else b -/
def wAndV (ta tb : TwE) : TwE := fun ρ Q E => ta ρ (fun t ρ1 => ∃ c, t = .d (.bool c) ∧ if c = true then tb ρ1 Q E else Q (.d (.bool false)) ρ1) E
def wOrV (ta tb : TwE) : TwE := fun ρ Q E => ta ρ (fun t ρ1 => ∃ c, t = .d (.bool c) ∧ if c = true then Q (.d (.bool true)) ρ1 else tb ρ1 Q E) E
def wNotV (ta : TwE) : TwE := fun ρ Q E => ta ρ (fun t ρ1 => ∃ c, t = .d (.bool c) ∧ Q (.d (.bool (!c))) ρ1) E
theorem le_one {op} (h : LE X a ta) : LE X (.BoolOp op [a] pos) ta := ⟨h.mono, fun C W n hC hn tk => pe_one (h.run C W n hC hn tk)⟩
/-- behind a value that is let go, another one at the same root -/
theorem again {K : PySem.W.Frag} {C : Ctx} {W : WX} {n : Nat} {σ : St} {H H1 : Hp} {O O1 : Own} {ρ1 : Rho} {Q : VK} (hn : C.N ≤ n) (R1 : Rel K C (n + 1) σ H1 O1 ρ1) (F1 : Frm C.N n H O H1 O1) (hb : MonE tb)
    (q : tb ρ1 (fun t ρ' => ∀ v H' O', Rel K C (n + 1) σ H' O' ρ' → Frm C.N n H O H' O' → Val K H' O' n v t → Q v H') (exK K C W H O)) : lfE K C W n tb σ H1 Q := by
  have F : Frm C.N n H O H1 (cut n O1) := F1.trans (frm_cut C.N n H1 O1 hn) (Nat.le_refl _)
  exact ⟨cut n O1, ρ1, R1.cut hn, hb ρ1 _ _ _ _ (fun t ρ2 q2 v H2 O2 R2 F2 V2 => q2 v H2 O2 R2 (F.trans F2 (Nat.le_refl _)) V2) (fun c ρ' z => exK.on F.fre c ρ' z) q⟩
theorem le_and (ha : LE X a ta) (hb : LE X (.BoolOp .And (b :: rest) pos) tb) : LE X (.BoolOp .And (a :: b :: rest) pos) (wAndV ta tb) := by
  refine ⟨fun ρ Q Q' E E' k ke q => ha.mono ρ _ _ E E' (fun t ρ1 ⟨c, e, q⟩ => ⟨c, e, ?_⟩) ke q, fun C W n hC hn tk => (pe_and (ha.run C W n hC hn tk) (hb.run C W n hC hn tk)).imp fun σ H Q ⟨O, ρ, R, q⟩ => ?_⟩
  · refine ⟨O, ρ, R, ha.mono ρ _ _ _ _ (fun t ρ1 ⟨c, e, q⟩ => ?_) (fun _ _ z => z) q⟩
    subst e
    intro v H1 O1 R1 F1 V1
    refine ⟨c, val_bool V1, ?_⟩
    cases c with
    | true => exact again hn R1 F1 hb.mono q
    | false => exact q _ H1 _ ((R1.cut hn).up (Nat.le_succ _)) (F1.trans (frm_cut C.N n H1 O1 hn) (Nat.le_refl _)) ((R1.cut hn).val_d (.bl _))
  · cases c with
    | true => exact hb.mono ρ1 Q Q' E E' k ke q
    | false => exact k _ _ q
theorem le_not (ha : LE X a ta) : LE X (.UnaryOp .Not a pos) (wNotV ta) := by
  refine ⟨fun ρ Q Q' E E' k ke q => ha.mono ρ _ _ E E' (fun t ρ1 ⟨c, e, q⟩ => ⟨c, e, k _ _ q⟩) ke q, fun C W n hC hn tk => (pe_not (ha.run C W n hC hn tk)).imp fun σ H Q ⟨O, ρ, R, q⟩ => ?_⟩
  refine ⟨O, ρ, R, ha.mono ρ _ _ _ _ (fun t ρ1 ⟨c, e, q⟩ => ?_) (fun _ _ z => z) q⟩
  subst e
  intro v H1 O1 R1 F1 V1
  exact ⟨c, val_bool V1, q _ H1 _ ((R1.cut hn).up (Nat.le_succ _)) (F1.trans (frm_cut C.N n H1 O1 hn) (Nat.le_refl _)) ((R1.cut hn).val_d (.bl _))⟩
def wIf (t : TwT) (ta tb : TwE) : TwE := fun ρ Q E => t ρ (fun b ρ1 => if b = true then ta ρ1 Q E else tb ρ1 Q E) E
theorem le_if (hc : LT X c tA) (ha : LE X a ta) (hb : LE X b tb) : LE X (.IfExp c a b pos) (wIf tA ta tb) := by
  refine ⟨fun ρ Q Q' E E' k ke q => hc.mono ρ _ _ E E' (fun b ρ1 q => ?_) ke q, fun C W n hC hn tk => (pe_ifExp (hc.run C W n hC hn tk) (ha.run C W n hC hn tk) (hb.run C W n hC hn tk)).imp fun σ H Q ⟨O, ρ, R, q⟩ => ?_⟩
  · cases b with
    | true => exact ha.mono ρ1 Q Q' E E' k ke q
    | false => exact hb.mono ρ1 Q Q' E E' k ke q
  · refine ⟨O, ρ, R, hc.mono ρ _ _ _ _ (fun b ρ1 q => ?_) (fun _ _ z => z) q⟩
    intro H1 O1 R1 F1
    cases b with
    | true => exact ⟨O1, ρ1, R1, ha.mono ρ1 _ _ _ _ (fun t ρ2 q2 v H2 O2 R2 F2 V2 => q2 v H2 O2 R2 (F1.trans F2 (Nat.le_refl _)) V2) (fun c ρ' z => exK.on F1.fre c ρ' z) q⟩
    | false => exact ⟨O1, ρ1, R1, hb.mono ρ1 _ _ _ _ (fun t ρ2 q2 v H2 O2 R2 F2 V2 => q2 v H2 O2 R2 (F1.trans F2 (Nat.le_refl _)) V2) (fun c ρ' z => exK.on F1.fre c ρ' z) q⟩

/-! ### arguments -/
variable {es : List Expr} {tas : TwA} {e : Expr}
def wNil : TwA := fun ρ Q _ => Q [] ρ
def wCons (ta : TwE) (tr : TwA) : TwA := fun ρ Q E => ta ρ (fun t ρ1 => tr ρ1 (fun ts ρ2 => Q (t :: ts) ρ2) E) E
theorem la_nil : LA X [] wNil := ⟨fun ρ Q Q' E E' h _ q => h _ _ q, fun ρ Q E q => ⟨rfl, q⟩, fun C W n hC hn tk => pa_nil.imp fun σ H Q ⟨O, ρ, R, q⟩ => q [] H O R .refl .nil⟩
theorem wCons_mono {tas : TwA} (ha : MonE ta) (hr : MonE tas) : MonE (wCons ta tas) := fun ρ Q Q' E E' h he q => ha ρ _ _ E E' (fun t ρ1 q1 => hr ρ1 _ _ E E' (fun ts ρ2 q2 => h _ _ q2) he q1) he q
theorem la_cons (ha : LE X e ta) (hr : LA X es tas) (hs : starEach (e :: es) X.env = (false, eval e X.env) :: starEach es X.env := by rfl) : LA X (e :: es) (wCons ta tas) := by
  refine ⟨wCons_mono ha.mono hr.mono, fun ρ Q E q => ha.mono ρ _ _ E E (fun t ρ1 q1 => hr.mono ρ1 _ _ E E (fun ts ρ2 z => ⟨by rw [List.length_cons, List.length_cons, z.1], z.2⟩) (fun _ _ z => z) (hr.len ρ1 _ E q1)) (fun _ _ z => z) q, fun C W n hC hn tk => (pa_cons (ha.run C W n hC hn tk) (hr.run C W (n + 1) hC (by omega) tk) hs).imp fun σ H Q ⟨O, ρ, R, q⟩ => ?_⟩
  refine ⟨O, ρ, R, ha.mono ρ _ _ _ _ (fun t ρ1 q1 => ?_) (fun _ _ z => z) q⟩
  intro v H1 O1 R1 F1 V1
  refine ⟨O1, ρ1, R1, hr.mono ρ1 _ _ _ _ (fun ts ρ2 q2 => ?_) (fun c ρ' z => exK.on F1.fre c ρ' z) q1⟩
  intro vs H2 O2 R2 F2 V2
  refine q2 (v :: vs) H2 O2 (by rw [List.length_cons, show n + (ts.length + 1) = n + 1 + ts.length by omega]; exact R2) (F1.trans F2 (Nat.le_succ n)) (.cons (V1.carry hn R1.lt R1.nt F2) V2)
end
end TX

/-! What the operators and the built-ins do to data. -/
namespace TX
open PySem PySem.Spec L2

/-! ### data in the machine's heap -/
def LD (H : Hp) (as : List Addr) : Prop := ∀ x ∈ as, ∃ o, H x = some o ∧ isLD o = true
theorem LD.nil {H : Hp} : LD H [] := fun x h => absurd h (by simp)
theorem LD.app {H : Hp} {as bs : List Addr} (a : LD H as) (b : LD H bs) : LD H (as ++ bs) := fun x h => (List.mem_append.mp h).elim (a x) (b x)
section
variable {X : Cx} {pins : List (Addr × Obj)} {σ : St} {H : Hp} {s : Shared}
theorem key_reads {h : Heap} {k : Key} {u : Value} (e : RelV (kV k) u) : Reads h u (keyD k) [] := by
  cases k with
  | inl i => obtain ⟨t, rfl⟩ := e; exact .int i t
  | inr x => obtain ⟨t, rfl⟩ := e; exact .str x t
theorem keyIs_reads {h : Heap} {k : Key} {u : Value} (e : keyIs k u = true) : Reads h u (keyD k) [] := by
  rcases keyIs_shape e with ⟨i, t, rfl, rfl⟩ | ⟨x, t, rfl, rfl⟩
  · exact .int i t
  · exact .str x t
theorem keys_reads {h : Heap} : ∀ {ks : List Key} {us : List Value}, Vals (ks.map kV) us → ReadsAll h us (ks.map keyD) []
  | [], _, r => by cases r; exact .nil
  | k :: ks, _, r => by
    cases r with
    | cons r1 r2 => exact ReadsAll.cons (as := []) (bs := []) (key_reads r1) (keys_reads r2)
theorem pairs_keys {P : Program} {w : World} {h : Heap} : ∀ {es : List DictEntry} {vs : List (Key × Value)} {kvs : List (Key × V)}, Pairs (mixKind P w) es vs → KV kvs vs → ReadsAll h (es.map (·.key)) (kvs.map fun q => keyD q.1) []
  | [], _, _, a, b => by cases a; cases b; exact .nil
  | e :: es, _, _, a, b => by
    cases a with
    | cons a1 a2 a3 =>
      cases b with
      | cons b1 b2 => exact ReadsAll.cons (as := []) (bs := []) (by dsimp only; rw [b1.1]; exact keyIs_reads a1) (pairs_keys a3 b2)
theorem pairs_vals {P : Program} {w : World} : ∀ {es : List DictEntry} {vs : List (Key × Value)} {kvs : List (Key × V)}, Pairs (mixKind P w) es vs → KV kvs vs → Vals (kvs.map (·.2)) (es.map (·.val))
  | [], _, _, a, b => by cases a; cases b; exact .nil
  | e :: es, _, _, a, b => by
    cases a with
    | cons a1 a2 a3 =>
      cases b with
      | cons b1 b2 => exact .cons (by dsimp only; rw [a2]; exact b1.2) (pairs_vals a3 b2)
theorem tups_keys (I : Inv X pins σ H s) {P : Program} {w : World} : ∀ {xs : List (List Key × Addr × Value)} {kvs : List (List Key × V)},
    Paired (fun (p : List Key × V) (q : List Key × Addr × Value) => p.1 = q.1 ∧ H q.2.1 = some (.tup (p.1.map kV)) ∧ RelV p.2 q.2.2) kvs xs →
      ReadsAll s.heap ((xs.map (entryOfKey (tupleKind (mixKind P w)))).map (·.key)) (kvs.map fun q => PyData.tuple (q.1.map keyD)) [] ∧ Vals (kvs.map (·.2)) ((xs.map (entryOfKey (tupleKind (mixKind P w)))).map (·.val))
  | [], _, a => by cases a; exact ⟨.nil, .nil⟩
  | x :: xs, _, a => by
    cases a with
    | cons a1 a2 =>
      obtain ⟨r1, r2⟩ := tups_keys I a2
      obtain ⟨e1, e2, e3⟩ := a1
      obtain ⟨_, its, rv, o, ho, hc, n, hd⟩ := I.hok _ _ e2
      exact ⟨ReadsAll.cons (as := []) (bs := []) (Reads.tuple ho hc hd (keys_reads rv)) r1, .cons e3 r2⟩
mutual
theorem Rp.reads (I : Inv X pins σ H s) : ∀ (d : PyData) (v : V) (u : Value), Rp X.K H v d → RelV v u → ∃ as, Reads s.heap u d as ∧ LD H as
  | .none, _, _, h, r => by cases h; cases r; exact ⟨_, Reads.none, .nil⟩
  | .bool b, _, _, h, r => by cases h; cases r; exact ⟨_, Reads.bool b, .nil⟩
  | .int i, _, _, h, r => by cases h; obtain ⟨t, rfl⟩ := r; exact ⟨_, Reads.int i t, .nil⟩
  | .str x, _, _, h, r => by cases h; obtain ⟨t, rfl⟩ := r; exact ⟨_, Reads.str x t, .nil⟩
  | .list ds, _, _, h, r => by
    cases h with
    | lst hs ha =>
      cases r
      obtain ⟨_, its, n, rv, e⟩ := I.hok _ _ hs
      obtain ⟨as, h1, h2⟩ := RpAll.reads I ds _ its ha rv
      exact ⟨_, Reads.list e rfl rfl h1, fun x hx => (List.mem_cons.mp hx).elim (fun z => ⟨_, z ▸ hs, rfl⟩) (h2 x)⟩
  | .tuple ds, _, _, h, r => by
    cases h with
    | tup hs ha =>
      cases r
      obtain ⟨_, its, rv, o, ho, hc, n, hd⟩ := I.hok _ _ hs
      obtain ⟨as, h1, h2⟩ := RpAll.reads I ds _ its ha rv
      exact ⟨_, Reads.tuple ho hc hd h1, h2⟩
  | .dict ps, _, _, h, r => by
    cases h with
    | dk hs hk ha =>
      cases r
      obtain ⟨z, hz, vs, kv, o, es, ep, ho, ex, hd, ko, pr, nd⟩ := hs.ok I.hok
      obtain ⟨as, h1, h2⟩ := RpAll.readsKv I ps _ _ ha (pairs_vals pr kv)
      refine ⟨_, Reads.dict ho ex.1 hd (by rw [hk]; exact pairs_keys pr kv) h1, ?_⟩
      refine fun x hx => (List.mem_cons.mp (show x ∈ _ :: as from by simpa using hx)).elim (fun z => ?_) (h2 x)
      subst z
      rcases hs with hs | ⟨o, hs⟩
      · exact ⟨_, hs, rfl⟩
      · exact ⟨_, hs, rfl⟩
    | dt hs hk ha =>
      cases r
      obtain ⟨z, hz, xs, pr, o, es, ep, ho, ex, hd, he, nd⟩ := hs.ok I.hok
      obtain ⟨k1, k2⟩ := tups_keys (P := X.prog) (w := X.w) I pr
      rw [← he] at k1 k2
      obtain ⟨as, h1, h2⟩ := RpAll.readsKv I ps _ _ ha k2
      refine ⟨_, Reads.dict ho ex.1 hd (by rw [hk]; exact k1) h1, ?_⟩
      refine fun x hx => (List.mem_cons.mp (show x ∈ _ :: as from by simpa using hx)).elim (fun z => ?_) (h2 x)
      subst z
      rcases hs with hs | ⟨o, hs⟩
      · exact ⟨_, hs, rfl⟩
      · exact ⟨_, hs, rfl⟩
theorem RpAll.reads (I : Inv X pins σ H s) : ∀ (ds : List PyData) (vs : List V) (us : List Value), RpAll X.K H vs ds → Vals vs us → ∃ as, ReadsAll s.heap us ds as ∧ LD H as
  | [], _, _, h, r => by cases h; cases r; exact ⟨_, .nil, .nil⟩
  | d :: ds, _, _, h, r => by
    cases h with
    | cons h1 h2 =>
      cases r with
      | cons r1 r2 =>
        obtain ⟨as, q1, l1⟩ := Rp.reads I d _ _ h1 r1
        obtain ⟨bs, q2, l2⟩ := RpAll.reads I ds _ _ h2 r2
        exact ⟨_, .cons q1 q2, l1.app l2⟩
theorem RpAll.readsKv (I : Inv X pins σ H s) : ∀ (ps : List (PyData × PyData)) (vs : List V) (us : List Value), RpAll X.K H vs (ps.map (·.2)) → Vals vs us → ∃ as, ReadsAll s.heap us (ps.map (·.2)) as ∧ LD H as
  | [], _, _, h, r => by cases h; cases r; exact ⟨_, .nil, .nil⟩
  | (k, d) :: ds, _, _, h, r => by
    cases h with
    | cons h1 h2 =>
      cases r with
      | cons r1 r2 =>
        obtain ⟨as, q1, l1⟩ := Rp.reads I d _ _ h1 r1
        obtain ⟨bs, q2, l2⟩ := RpAll.readsKv I ds _ _ h2 r2
        exact ⟨_, .cons q1 q2, l1.app l2⟩
end
end

/-! ### operators -/
section
variable {X : Cx}
def fI (g : Int → Int → Int) : PyData → PyData → PyData → Prop := fun x y z => ∃ i j, x = .int i ∧ y = .int j ∧ z = .int (g i j)
def fIc (C : Int → Int → Prop) (g : Int → Int → Int) : PyData → PyData → PyData → Prop := fun x y z => ∃ i j, x = .int i ∧ y = .int j ∧ C i j ∧ z = .int (g i j)
def fB (g : Int → Int → Bool) : PyData → PyData → PyData → Prop := fun x y z => ∃ i j, x = .int i ∧ y = .int j ∧ z = .bool (g i j)
theorem rp_int {K : PySem.W.Frag} {H : Hp} {v : V} {i : Int} (h : Rp K H v (.int i)) : v = .int i := by cases h; rfl
theorem rp_str {K : PySem.W.Frag} {H : Hp} {v : V} {i : Str} (h : Rp K H v (.str i)) : v = .str i := by cases h; rfl
theorem rp_bool {K : PySem.W.Frag} {H : Hp} {v : V} {i : Bool} (h : Rp K H v (.bool i)) : v = .bl i := by cases h; rfl
theorem rp_none {K : PySem.W.Frag} {H : Hp} {v : V} (h : Rp K H v .none) : v = .non := by cases h; rfl
theorem od_I {K : PySem.W.Frag} (g : Int → Int → Int) : OpD K (rI0 fun i j => .int (g i j)) (fI g) := by
  rintro H v u x y z Q h1 h2 ⟨i, j, rfl, rfl, rfl⟩ q
  rw [rp_int h1, rp_int h2]
  exact ⟨i, j, rfl, rfl, q _ (.int _)⟩
theorem od_Ic {K : PySem.W.Frag} (C : Int → Int → Prop) (g : Int → Int → Int) : OpD K (rI C fun i j => .int (g i j)) (fIc C g) := by
  rintro H v u x y z Q h1 h2 ⟨i, j, rfl, rfl, c, rfl⟩ q
  rw [rp_int h1, rp_int h2]
  exact ⟨i, j, rfl, rfl, c, q _ (.int _)⟩
theorem od_B {K : PySem.W.Frag} (g : Int → Int → Bool) : OpD K (rI0 fun i j => .bl (g i j)) (fB g) := by
  rintro H v u x y z Q h1 h2 ⟨i, j, rfl, rfl, rfl⟩ q
  rw [rp_int h1, rp_int h2]
  exact ⟨i, j, rfl, rfl, q _ (.bl _)⟩
/-- a power whose size is bounded -/
def CPowW (i j : Int) : Prop := 0 ≤ j ∧ (Builtin.Int.intBits i : Int) * j ≤ 2 ^ 27
theorem op_powW : OpR X (binaryOp .Pow) (rI CPowW fun i j => .int (i ^ j.toNat)) := opI fun _ _ _ _ _ _ _ hc q => PyProof.Rows.pow_int hc.1 hc.2 q
variable {a b : Expr} {ta tb : TwE} {pos : Pos}
theorem le_add (ha : LE X a ta) (hb : LE X b tb) : LE X (.BinOp a .Add b pos) (wOp (fI (· + ·)) ta tb) := le_op op_add (od_I _) ha hb
theorem le_sub (ha : LE X a ta) (hb : LE X b tb) : LE X (.BinOp a .Sub b pos) (wOp (fI (· - ·)) ta tb) := le_op op_sub (od_I _) ha hb
theorem le_mul (ha : LE X a ta) (hb : LE X b tb) : LE X (.BinOp a .Mult b pos) (wOp (fIc CMulW (· * ·)) ta tb) := le_op op_mulW (od_Ic _ _) ha hb
theorem le_mod (ha : LE X a ta) (hb : LE X b tb) : LE X (.BinOp a .Mod b pos) (wOp (fIc (fun _ j => 0 < j) (· % ·)) ta tb) := le_op op_mod (od_Ic _ _) ha hb
theorem le_fdiv (ha : LE X a ta) (hb : LE X b tb) : LE X (.BinOp a .FloorDiv b pos) (wOp (fIc CDivW (· / ·)) ta tb) := le_op op_fdivW (od_Ic _ _) ha hb
theorem le_pow (ha : LE X a ta) (hb : LE X b tb) : LE X (.BinOp a .Pow b pos) (wOp (fIc CPowW (fun i j => i ^ j.toNat)) ta tb) := le_op op_powW (od_Ic _ _) ha hb
/-- == of data: none, truths, ints, texts, lists, tuples -/
def fEq : PyData → PyData → PyData → Prop := fun x y z => (SeqAt.shaped x = true ∧ SeqAt.shaped y = true ∧ z = .bool (PyData.eqv x y)) ∨ ∃ a b, x = .str a ∧ y = .str b ∧ z = .bool ((a == b))
def fNe : PyData → PyData → PyData → Prop := fun x y z => (SeqAt.shaped x = true ∧ SeqAt.shaped y = true ∧ z = .bool (!PyData.eqv x y)) ∨ ∃ a b, x = .str a ∧ y = .str b ∧ z = .bool (!(a == b))
def rEqX (K : PySem.W.Frag) : R2 := fun x y H Q => ∃ d e, Rp K H x d ∧ Rp K H y e ∧ SeqAt.shaped d = true ∧ SeqAt.shaped e = true ∧ Q (.bl (PyData.eqv d e)) H
def rTEq : R2 := fun x y H Q => ∃ a b, x = .str a ∧ y = .str b ∧ Q (.bl ((a == b))) H
def rNeX (K : PySem.W.Frag) : R2 := fun x y H Q => ∃ d e, Rp K H x d ∧ Rp K H y e ∧ SeqAt.shaped d = true ∧ SeqAt.shaped e = true ∧ Q (.bl (!PyData.eqv d e)) H
def rTNe : R2 := fun x y H Q => ∃ a b, x = .str a ∧ y = .str b ∧ Q (.bl (!(a == b))) H
theorem op_eqT : OpR X (compareOp .Eq) rTEq := by
  rintro pins s σ H x y v u Q I rx ry ⟨a, b, rfl, rfl, q⟩
  exact op_eq pins s σ H _ _ v u Q I rx ry ⟨rfl, by rw [dec_str]; exact q⟩
theorem op_eqX (hu : X.A.units + 64 < cLine) : OpR X (compareOp .Eq) (fun x y H Q => rEqX X.K x y H Q ∨ rTEq x y H Q) := by
  refine OpR.or ?_ op_eqT
  rintro pins s σ H x y v u Q I rx ry ⟨d, e, hd, he, sd, se, q⟩
  obtain ⟨as, r1, _⟩ := Rp.reads I d x v hd rx
  obtain ⟨bs, r2, _⟩ := Rp.reads I e y u he ry
  exact SeqAt.compareEq_shaped r1 r2 sd se hu ⟨.bl _, H, I, rfl, q⟩
theorem op_neT : OpR X (compareOp .NotEq) rTNe := by
  rintro pins s σ H x y v u Q I rx ry ⟨a, b, rfl, rfl, q⟩
  exact op_ne pins s σ H _ _ v u Q I rx ry ⟨rfl, by rw [dec_str]; exact q⟩
theorem op_neX (hu : X.A.units + 64 < cLine) : OpR X (compareOp .NotEq) (fun x y H Q => rNeX X.K x y H Q ∨ rTNe x y H Q) := by
  refine OpR.or ?_ op_neT
  rintro pins s σ H x y v u Q I rx ry ⟨d, e, hd, he, sd, se, q⟩
  obtain ⟨as, r1, _⟩ := Rp.reads I d x v hd rx
  obtain ⟨bs, r2, _⟩ := Rp.reads I e y u he ry
  exact SeqAt.compareNe_shaped r1 r2 sd se hu ⟨.bl _, H, I, rfl, q⟩
theorem od_Eq {K : PySem.W.Frag} : OpD K (fun x y H Q => rEqX K x y H Q ∨ rTEq x y H Q) fEq := by
  rintro H v u x y z Q h1 h2 (⟨s1, s2, rfl⟩ | ⟨a, b, rfl, rfl, rfl⟩) q
  · exact .inl ⟨x, y, h1, h2, s1, s2, q _ (.bl _)⟩
  · rw [rp_str h1, rp_str h2]; exact .inr ⟨a, b, rfl, rfl, q _ (.bl _)⟩
theorem od_Ne {K : PySem.W.Frag} : OpD K (fun x y H Q => rNeX K x y H Q ∨ rTNe x y H Q) fNe := by
  rintro H v u x y z Q h1 h2 (⟨s1, s2, rfl⟩ | ⟨a, b, rfl, rfl, rfl⟩) q
  · exact .inl ⟨x, y, h1, h2, s1, s2, q _ (.bl _)⟩
  · rw [rp_str h1, rp_str h2]; exact .inr ⟨a, b, rfl, rfl, q _ (.bl _)⟩
/-- x in a list | a tuple of data -/
def fIn (neg : Bool) : PyData → PyData → PyData → Prop := fun x y z => ∃ ds, y = .list ds ∧ SeqAt.shaped x = true ∧ SeqAt.shaped y = true ∧ z = .bool (neg != (ds.any fun w => PyData.eqv w x))
def rInX (K : PySem.W.Frag) (neg : Bool) : R2 := fun x y H Q => ∃ d ds, Rp K H x d ∧ Rp K H y (.list ds) ∧ SeqAt.shaped d = true ∧ SeqAt.shaped (.list ds) = true ∧ Q (.bl (neg != (ds.any fun z => PyData.eqv z d))) H
theorem op_inX (hu : X.A.units + 65 < cLine) : OpR X (compareOp .In) (rInX X.K false) := by
  rintro pins s σ H x y v u Q I rx ry ⟨d, ds, hd, he, sd, se, q⟩
  obtain ⟨as, r1, _⟩ := Rp.reads I d x v hd rx
  obtain ⟨bs, r2, _⟩ := Rp.reads I (.list ds) y u he ry
  exact SeqAt.in_list_reads r2 r1 (SeqAt.canLay_of_shaped se) (SeqAt.canLay_of_shaped sd) (PyProof.Rows.room_in_shaped sd hu) ⟨.bl _, H, I, rfl, by simpa using q⟩
theorem op_notinX (hu : X.A.units + 65 < cLine) : OpR X (compareOp .NotIn) (rInX X.K true) := by
  rintro pins s σ H x y v u Q I rx ry ⟨d, ds, hd, he, sd, se, q⟩
  obtain ⟨as, r1, _⟩ := Rp.reads I d x v hd rx
  obtain ⟨bs, r2, _⟩ := Rp.reads I (.list ds) y u he ry
  exact SeqAt.notIn_list_reads r2 r1 (SeqAt.canLay_of_shaped se) (SeqAt.canLay_of_shaped sd) (PyProof.Rows.room_in_shaped sd hu) ⟨.bl _, H, I, rfl, by simpa using q⟩
theorem od_In {K : PySem.W.Frag} {neg : Bool} : OpD K (rInX K neg) (fIn neg) := by rintro H v u x y z Q h1 h2 ⟨ds, rfl, s1, s2, rfl⟩ q; exact ⟨x, ds, h1, h2, s1, s2, q _ (.bl _)⟩
/-- is None -/
def fIsN (neg : Bool) : PyData → PyData → PyData → Prop := fun x y z => y = .none ∧ z = .bool (neg != (match x with | .none => true | _ => false))
theorem rp_isnone {K : PySem.W.Frag} {H : Hp} {v : V} {x : PyData} (h : Rp K H v x) : decide (v = .non) = (match x with | .none => true | _ => false) := by cases h <;> rfl
theorem od_notN {K : PySem.W.Frag} : OpD K (fun x y H Q => y = .non ∧ Q (.bl (!decide (x = .non))) H) (fIsN true) := by
  rintro H v u x y z Q h1 h2 ⟨rfl, rfl⟩ q
  refine ⟨rp_none h2, q _ ?_⟩
  rw [rp_isnone h1]
  cases x <;> exact .bl _
theorem od_lt {K : PySem.W.Frag} : OpD K (rI0 fun i j => .bl (decide (i < j))) (fB fun i j => decide (i < j)) := od_B _
theorem od_le {K : PySem.W.Frag} : OpD K (rI0 fun i j => .bl (decide (i ≤ j))) (fB fun i j => decide (i ≤ j)) := od_B _
theorem od_gt {K : PySem.W.Frag} : OpD K (rI0 fun i j => .bl (decide (j < i))) (fB fun i j => decide (j < i)) := od_B _
end
end TX

/-! Calls of built-ins and of their methods; items, slices, displays. -/
namespace TX
open PySem PySem.Spec L2

section
variable {X : Cx} {pos : Pos} {a b c e : Expr} {es : List Expr} {ta tb tc : TwE} {tas : TwA}
/-- the end of an expression at root n, from (H0, O0) on -/
def Fin (K : PySem.W.Frag) (C : Ctx) (n : Nat) (σ : St) (H0 : Hp) (O0 : Own) (Q : VK) : T → Rho → Prop := fun t ρ' => ∀ v H' O', Rel K C (n + 1) σ H' O' ρ' → Frm C.N n H0 O0 H' O' → Val K H' O' n v t → Q v H'
theorem Fin.sc {K : PySem.W.Frag} {C : Ctx} {n m : Nat} {σ : St} {H0 H : Hp} {O0 O : Own} {Q : VK} {ρ : Rho} {x : PyData} (hn : C.N ≤ n) (R : Rel K C m σ H O ρ) (F : Frm C.N n H0 O0 H O) (q : Fin K C n σ H0 O0 Q (.d x) ρ) {v : V} (s : Sc v x) : Q v H := by
  obtain ⟨R3, V3⟩ := R.fin_sc (N0 := 0) hn s
  exact q v H _ R3 (F.trans (frm_cut C.N n H O hn) (Nat.le_refl _)) V3
theorem Fin.dat {K : PySem.W.Frag} {C : Ctx} {n m : Nat} {σ : St} {H0 H : Hp} {O0 O : Own} {Q : VK} {ρ : Rho} {x : PyData} (hn : C.N ≤ n) (R : Rel K C m σ H O ρ) (F : Frm C.N n H0 O0 H O) (q : Fin K C n σ H0 O0 Q (.d x) ρ) {v : V} (s : Rp K (msk O H) v x) : Q v H := by
  have R3 := R.cut (n := n) hn
  refine q v H _ (R3.up (Nat.le_succ _)) (F.trans (frm_cut C.N n H O hn) (Nat.le_refl _)) (R3.val_d (Rp.mono (fun b o e => ?_) _ _ s))
  obtain ⟨e1, e2⟩ := msk_some e
  rw [msk_of (cut_free e1)]; exact e2
theorem Fin.newL {K : PySem.W.Frag} {C : Ctx} {n m : Nat} {σ : St} {H0 H : Hp} {O0 O : Own} {Q : VK} {ρ : Rho} {ws : List V} {zs : List PyData} (hn : C.N ≤ n) (R : Rel K C m σ H O ρ) (F : Frm C.N n H0 O0 H O)
    (q : Fin K C n σ H0 O0 Q (.l (zs.map T.d)) ρ) (hz : RpAll K (msk O H) ws zs) (p : Addr) (hp : H p = none) : Q (.ref p) (upd H p (.lst ws)) := by
  obtain ⟨O', R', F', V'⟩ := R.newL hn hp hz
  exact q _ _ O' R' (F.trans F' (Nat.le_refl _)) V'
theorem Fin.newT {K : PySem.W.Frag} {C : Ctx} {n m : Nat} {σ : St} {H0 H : Hp} {O0 O : Own} {Q : VK} {ρ : Rho} {ws : List V} {zs : List PyData} (hn : C.N ≤ n) (R : Rel K C m σ H O ρ) (F : Frm C.N n H0 O0 H O)
    (q : Fin K C n σ H0 O0 Q (.d (.tuple zs)) ρ) (hz : RpAll K (msk O H) ws zs) (p : Addr) (hp : H p = none) : Q (.ref p) (upd H p (.tup ws)) := by
  obtain ⟨O', R', F', V'⟩ := R.newT hn hp hz
  exact q _ _ O' R' (F.trans F' (Nat.le_refl _)) V'

/-! ### a call's values, then what it does -/
abbrev KT := List T → Rho → (T → Rho → Prop) → Prop
def MonK (k : KT) : Prop := ∀ ts ρ (Q Q' : T → Rho → Prop), (∀ t ρ', Q t ρ' → Q' t ρ') → k ts ρ Q → k ts ρ Q'
def wFn (k : KT) (tas : TwA) : TwE := fun ρ Q E => tas ρ (fun ts ρ1 => k ts ρ1 Q) E
def FnK (K : PySem.W.Frag) (r : List V → Hp → VK → Prop) (k : KT) : Prop := ∀ (C : Ctx) (n m : Nat) (σ : St) (H0 H : Hp) (O0 O : Own) (ρ : Rho) (ts : List T) (vs : List V) (Q : VK), C.N ≤ n → n + ts.length ≤ m → Rel K C m σ H O ρ → Frm C.N n H0 O0 H O →
  ValAll K H O n vs ts → k ts ρ (Fin K C n σ H0 O0 Q) → r vs H Q
theorem wFn_mono {k : KT} (hk : MonK k) (ha : MonE tas) : MonE (wFn k tas) := fun ρ Q Q' E E' h he q => ha ρ _ _ E E' (fun ts ρ1 q1 => hk _ _ _ _ h q1) he q
theorem le_fn {e' : Expr} {r : List V → Hp → VK → Prop} {k : KT} (hp : ∀ t : TA, PA X es t → PE X e' (tCB r t)) (hk : MonK k) (hf : FnK X.K r k) (ha : LA X es tas) : LE X e' (wFn k tas) := by
  refine ⟨wFn_mono hk ha.mono, fun C W n hC hn tk => (hp _ (ha.run C W n hC hn tk)).imp fun σ H Q ⟨O, ρ, R, q⟩ => ?_⟩
  refine ⟨O, ρ, R, ha.mono ρ _ _ _ _ (fun ts ρ1 q1 => ?_) (fun _ _ z => z) q⟩
  intro vs H1 O1 R1 F1 V1
  exact hf C n _ σ H H1 O O1 ρ1 ts vs Q hn (Nat.le_refl _) R1 F1 V1 q1
theorem ValAll.one {K : PySem.W.Frag} {H : Hp} {O : Own} {n : Nat} {vs : List V} {t : T} (h : ValAll K H O n vs [t]) : ∃ v, vs = [v] ∧ Val K H O n v t := by
  cases h with | cons h1 h2 => cases h2; exact ⟨_, rfl, h1⟩
theorem ValAll.two {K : PySem.W.Frag} {H : Hp} {O : Own} {n : Nat} {vs : List V} {t u : T} (h : ValAll K H O n vs [t, u]) : ∃ v w, vs = [v, w] ∧ Val K H O n v t ∧ Val K H O (n + 1) w u := by
  cases h with | cons h1 h2 => cases h2 with | cons h2 h3 => cases h3; exact ⟨_, _, rfl, h1, h2⟩
/-- one value in, a scalar out -/
def k1 (f : PyData → PyData → Prop) : KT := fun ts ρ Q => ∃ t x z, ts = [t] ∧ vw ρ t = some x ∧ f x z ∧ Q (.d z) ρ
theorem k1_mono {f : PyData → PyData → Prop} : MonK (k1 f) := fun ts ρ Q Q' h ⟨t, x, z, e, e1, e2, q⟩ => ⟨t, x, z, e, e1, e2, h _ _ q⟩
theorem fnk1 {K : PySem.W.Frag} {r : List V → Hp → VK → Prop} {f : PyData → PyData → Prop} (h : ∀ H O v x z Q, Sm K H O → Rp K H v x → f x z → (∀ w, Sc w z → Q w H) → r [v] H Q) : FnK K r (k1 f) := by
  rintro C n m σ H0 H O0 O ρ ts vs Q hn hm R F V ⟨t, x, z, rfl, e1, e2, q⟩
  obtain ⟨v, rfl, V1⟩ := V.one
  exact h H O v x z Q R.smH (R.viewH V1 e1) e2 fun w s => q.sc hn R F s
def k2 (f : PyData → PyData → PyData → Prop) : KT := fun ts ρ Q => ∃ t u x y z, ts = [t, u] ∧ vw ρ t = some x ∧ vw ρ u = some y ∧ f x y z ∧ Q (.d z) ρ
theorem k2_mono {f : PyData → PyData → PyData → Prop} : MonK (k2 f) := fun ts ρ Q Q' h ⟨t, u, x, y, z, e, e1, e2, e3, q⟩ => ⟨t, u, x, y, z, e, e1, e2, e3, h _ _ q⟩
theorem fnk2 {K : PySem.W.Frag} {r : List V → Hp → VK → Prop} {f : PyData → PyData → PyData → Prop} (h : ∀ H v u x y z Q, Rp K H v x → Rp K H u y → f x y z → (∀ w, Sc w z → Q w H) → r [v, u] H Q) : FnK K r (k2 f) := by
  rintro C n m σ H0 H O0 O ρ ts vs Q hn hm R F V ⟨t, u, x, y, z, rfl, e1, e2, e3, q⟩
  obtain ⟨v, w, rfl, V1, V2⟩ := V.two
  exact h H v w x y z Q (R.viewH V1 e1) (R.viewH V2 e2) e3 fun w s => q.sc hn R F s

/-! ### len, max, min, abs, int, str -/
def fMax : PyData → PyData → PyData → Prop := fun x y z => ∃ i j, x = .int i ∧ y = .int j ∧ z = .int (max i j)
def fMin : PyData → PyData → PyData → Prop := fun x y z => ∃ i j, x = .int i ∧ y = .int j ∧ z = .int (min i j)
theorem fn_max : FnK X.K (fun xs H Q => ∃ i j, xs = [.int i, .int j] ∧ Q (.int (if j > i then j else i)) H) (k2 fMax) := fnk2 fun H v u x y z Q r1 r2 ⟨i, j, e1, e2, e3⟩ q => by
  subst e1; subst e2; subst e3
  rw [rp_int r1, rp_int r2]
  refine ⟨i, j, rfl, ?_⟩
  rw [show (if j > i then j else i) = max i j by split <;> omega]
  exact q _ (.int _)
theorem fn_min : FnK X.K (fun xs H Q => ∃ i j, xs = [.int i, .int j] ∧ Q (.int (if j < i then j else i)) H) (k2 fMin) := fnk2 fun H v u x y z Q r1 r2 ⟨i, j, e1, e2, e3⟩ q => by
  subst e1; subst e2; subst e3
  rw [rp_int r1, rp_int r2]
  refine ⟨i, j, rfl, ?_⟩
  rw [show (if j < i then j else i) = min i j by split <;> omega]
  exact q _ (.int _)
def fAbs : PyData → PyData → Prop := fun x z => ∃ i, x = .int i ∧ z = .int (if i < 0 then -i else i)
theorem fn_abs {K : PySem.W.Frag} : FnK K (fun xs H Q => ∃ i, xs = [.int i] ∧ Q (.int (if i < 0 then -i else i)) H) (k1 fAbs) := fnk1 fun H O v x z Q _ r ⟨i, e1, e2⟩ q => by
  subst e1; subst e2
  rw [rp_int r]
  exact ⟨i, rfl, q _ (.int _)⟩
def fInt : PyData → PyData → Prop := fun x z => (∃ i, x = .int i ∧ z = .int i) ∨ ∃ k, x = .bool k ∧ z = .int (if k then 1 else 0)
theorem fn_int {K : PySem.W.Frag} : FnK K (fun xs H Q => (∃ i, xs = [.int i] ∧ Q (.int i) H) ∨ ∃ k, xs = [.bl k] ∧ Q (.int (if k then 1 else 0)) H) (k1 fInt) := fnk1 fun H O v x z Q _ r f q => by
  rcases f with ⟨i, rfl, rfl⟩ | ⟨k, rfl, rfl⟩
  · rw [rp_int r]; exact .inl ⟨i, rfl, q _ (.int _)⟩
  · rw [rp_bool r]; exact .inr ⟨k, rfl, q _ (.int _)⟩
variable {x : Str} {p : Pos}
theorem le_max (hc : X.calm = true) (hg : Gl X "max") (hm : X.mg "max" = none) (ha : LA X [a, b] tas) (he : starEach [a, b] X.env = (false, eval a X.env) :: starEach [b] X.env := by rfl) (hpl : (backTo pos (starEach [b] X.env)).any (·.1) = false := by rfl) : LE X (.Call (.Name "max" p) [a, b] [] pos) (wFn (k2 fMax) tas) := le_fn (fun t h => pe_callB (call_max2 hc) hg hm (by decide +kernel) h (he := he) (hpl := hpl)) k2_mono fn_max ha
theorem le_min (hc : X.calm = true) (hg : Gl X "min") (hm : X.mg "min" = none) (ha : LA X [a, b] tas) (he : starEach [a, b] X.env = (false, eval a X.env) :: starEach [b] X.env := by rfl) (hpl : (backTo pos (starEach [b] X.env)).any (·.1) = false := by rfl) : LE X (.Call (.Name "min" p) [a, b] [] pos) (wFn (k2 fMin) tas) := le_fn (fun t h => pe_callB (call_min2 hc) hg hm (by decide +kernel) h (he := he) (hpl := hpl)) k2_mono fn_min ha
theorem le_abs (hg : Gl X "abs") (hm : X.mg "abs" = none) (ha : LA X [e] tas) (he : starEach [e] X.env = (false, eval e X.env) :: starEach [] X.env := by rfl) (hpl : (backTo pos (starEach [] X.env)).any (·.1) = false := by rfl) : LE X (.Call (.Name "abs" p) [e] [] pos) (wFn (k1 fAbs) tas) := le_fn (fun t h => pe_callB call_abs hg hm (by decide +kernel) h (he := he) (hpl := hpl)) k1_mono fn_abs ha
theorem le_toInt (hg : Gl X "int") (hm : X.mg "int" = none) (ha : LA X [e] tas) (he : starEach [e] X.env = (false, eval e X.env) :: starEach [] X.env := by rfl) (hpl : (backTo pos (starEach [] X.env)).any (·.1) = false := by rfl) : LE X (.Call (.Name "int" p) [e] [] pos) (wFn (k1 fInt) tas) := le_fn (fun t h => pe_callTy call_int1 hg hm (by decide +kernel) h (he := he) (hpl := hpl)) k1_mono fn_int ha
/-! ### repr -/
/-- no dict among these is the table of loaded modules -/
def NoSys (h : Heap) (as : List Addr) : Prop := ∀ b ∈ as, ∀ ob, h.get? b = some ob → ob.cls = .type "dict" → (b == sysModules) = false
section
variable {P : Program} {w : World} {g : Heap}
mutual
theorem rkOf : ∀ {u : Value} {x : PyData} {as : List Addr}, Reads g u x as → x.showable = true → NoSys g as → x.shown.length ≤ sizeLine → ∃ cs, ReadAtMost g x.depth cs ∧ ReprK P w cs g x.depth u x.shown
  | _, _, _, .none, _, _, _ => ⟨[], (fun _ m => nomatch m), by rw [PyData.shown]; exact ReprK.of_is .none _ _ _⟩
  | _, _, _, .bool c, _, _, _ => ⟨[], (fun _ m => nomatch m), by rw [PyData.shown]; exact ReprK.of_is (.bool c) _ _ _⟩
  | _, _, _, .int c k, sh, _, _ => ⟨[], (fun _ m => nomatch m), by rw [PyData.shown]; exact ReprK.of_is (.int k (by rw [PyData.showable] at sh; exact of_decide_eq_true sh)) _ _ _⟩
  | _, _, _, .str c k, _, _, z => ⟨[], (fun _ m => nomatch m), by rw [PyData.shown] at z ⊢; exact ReprK.of_is (.str c k z) _ _ _⟩
  | _, _, _, .list (a := p) (vs := us) (xs := ds) e1 e2 e3 e4, sh, ns, z => by
    rw [PyData.shown] at z
    rw [PyData.showable] at sh
    have rd := Reads.list e1 e2 e3 e4
    obtain ⟨cs, c1, c2⟩ := rkAll e4 sh (fun b hb => ns b (.tail _ hb)) fun t m => Nat.le_trans (listText_mem_le m) z
    refine ⟨p :: cs, .cons rd (by simp only [PyData.depth]; omega) c1, ?_⟩
    have np : p ∉ cs := not_mem_of_deeper rd (by simp only [PyData.depth]; omega) c1
    rw [PyData.depth, PyData.shown]
    rcases us with ⟨_ | ⟨y, ys⟩⟩
    · cases (show ReadsAll g [] ds _ from e4)
      rw [PyData.shownAll, listText_nil]
      exact .listEmpty e1 e2 e3
    · exact .list e1 e2 e3 np (by simpa using c2.length_eq) fun i y m => c2.item i y (by simpa using m)
  | _, _, _, .tuple (a := p) (xs := ds) e1 e2 e3 e4, sh, ns, z => by
    rw [PyData.shown] at z
    rw [PyData.showable] at sh
    have rd := Reads.tuple e1 e2 e3 e4
    obtain ⟨cs, c1, c2⟩ := rkAll e4 sh ns fun t m => Nat.le_trans (tupleText_mem_le m) z
    have np : p ∉ cs := not_mem_of_deeper rd (by simp only [PyData.depth]; omega) c1
    rw [PyData.depth, PyData.shown]
    exact ⟨p :: cs, .cons rd (by simp only [PyData.depth]; omega) c1, .tuple e1 e2 e3 np c2⟩
  | _, _, _, .dict (a := p) (es := en) (kvs := ps) e1 e2 e3 e4 e5, sh, ns, z => by
    rw [PyData.shown] at z
    rw [PyData.showable] at sh
    have rd := Reads.dict e1 e2 e3 e4 e5
    obtain ⟨s1, s2⟩ := PyData.showableKv_split ps sh
    obtain ⟨b1, c1, k1⟩ := rkAll e4 s1 (fun b hb => ns b (.tail _ (List.mem_append_left _ hb))) fun t m => (PyData.shownKv_key_le ps t m).elim fun q hq => Nat.le_trans hq.2 (Nat.le_trans (dictText_mem_le hq.1) z)
    obtain ⟨b2, c2, k2⟩ := rkAll e5 s2 (fun b hb => ns b (.tail _ (List.mem_append_right _ hb))) fun t m => (PyData.shownKv_val_le ps t m).elim fun q hq => Nat.le_trans hq.2 (Nat.le_trans (dictText_mem_le hq.1) z)
    have c3 : ReadAtMost g (PyData.depthKv ps) (b1 ++ b2) := ReadAtMost.append (c1.mono (PyData.depthAll_keys_le ps)) (c2.mono (PyData.depthAll_vals_le ps))
    have np : p ∉ b1 ++ b2 := not_mem_of_deeper rd (by simp only [PyData.depth]; omega) c3
    refine ⟨p :: (b1 ++ b2), .cons rd (by simp only [PyData.depth]; omega) c3, ?_⟩
    rw [PyData.depth, PyData.shown, PyData.shownKv_eq]
    exact .dict e1 e2 e3 (ns p (.head _) _ e1 e2) np (.of_two en.toList _ _ (k1.more_le (fun _ => List.mem_append_left _) (PyData.depthAll_keys_le ps)) (k2.more_le (fun _ => List.mem_append_right _) (PyData.depthAll_vals_le ps)))
theorem rkAll : ∀ {us : List Value} {ds : List PyData} {as : List Addr}, ReadsAll g us ds as → PyData.showableAll ds = true → NoSys g as → (∀ t ∈ PyData.shownAll ds, t.length ≤ sizeLine) → ∃ cs, ReadAtMost g (PyData.depthAll ds) cs ∧ ReprAllK P w cs g (PyData.depthAll ds) us (PyData.shownAll ds)
  | _, _, _, .nil, _, _, _ => ⟨[], (fun _ m => nomatch m), by rw [PyData.shownAll]; exact .nil⟩
  | _, _, _, .cons (d := x) (ds := ds) r1 r2, sh, ns, z => by
    rw [PyData.showableAll, Bool.and_eq_true] at sh
    rw [PyData.shownAll] at z
    obtain ⟨b1, c1, k1⟩ := rkOf r1 sh.1 (fun b hb => ns b (List.mem_append_left _ hb)) (z _ (.head _))
    obtain ⟨b2, c2, k2⟩ := rkAll r2 sh.2 (fun b hb => ns b (List.mem_append_right _ hb)) fun t m => z t (.tail _ m)
    rw [PyData.depthAll, PyData.shownAll]
    exact ⟨b1 ++ b2, ReadAtMost.append (c1.mono (Nat.le_max_left ..)) (c2.mono (Nat.le_max_right ..)), .cons ((k1.more fun _ => List.mem_append_left _).level_le (Nat.le_max_left ..)) (k2.more_le (fun _ => List.mem_append_right _) (Nat.le_max_right ..))⟩
end
end
theorem repr_any {P : Program} {w : World} {A : Around} {E : Value → Shared → Prop} {s : Shared} {Q : Value → Shared → Prop} {a : Addr} {x : PyData} {as : List Addr} (r : Reads s.heap (.ref a) x as) (sh : x.showable = true) (ns : NoSys s.heap as) (hg : A.guards = some []) (hu : A.units + (x.depth + 1) < cLine) (sz : x.shown.length ≤ sizeLine)
    (hQ : ∀ h' u tk, (∀ b o, s.heap.get? b = some o → h'.get? b = some o) → Q (.str x.shown u) { s with heap := h', toks := tk }) : wpAny (model P w) A (call (.builtin "repr") [.ref a]) Q E s := by
  have go : ∃ T idr, ShowsBy P w s.heap a x T idr := by
    cases r with
    | list e1 e2 e3 e4 =>
      rename_i o us n ds bs
      rw [PyData.shown] at sz
      rw [PyData.showable] at sh
      obtain ⟨cs, c1, c2⟩ := rkAll (P := P) (w := w) e4 sh (fun b hb => ns b (.tail _ hb)) fun t m => Nat.le_trans (listText_mem_le m) sz
      have np : a ∉ cs := not_mem_of_deeper (.list e1 e2 e3 e4) (by simp only [PyData.depth]; omega) c1
      refine ⟨"list", "list.__repr__", F.slot_list_repr.toG, F.slot_list_str, F.slot_list_format, fun s' k => ⟨o, k _ _ e1, e2⟩, fun B E' s' Q' hg' hu' k q => ?_⟩
      rw [PyData.depth] at hu'
      rw [PyData.shown] at q
      rcases us with ⟨_ | ⟨y, ys⟩⟩
      · cases (show ReadsAll s.heap [] ds _ from e4)
        rw [PyData.shownAll, listText_nil] at q
        exact call_list_repr_empty ⟨o, k _ _ e1, e2⟩ (k _ _ e1) e3 (q s'.heap _ _ fun _ _ e => e)
      · exact call_list_reprK e1 e2 e3 np (by simpa using c2.length_eq) (fun i y m => c2.item i y (by simpa using m)) hg' (fun b _ => Clear.nil b) hu' k q sz
    | tuple e1 e2 e3 e4 =>
      rename_i o us n ds
      rw [PyData.shown] at sz
      rw [PyData.showable] at sh
      obtain ⟨cs, c1, c2⟩ := rkAll (P := P) (w := w) e4 sh ns fun t m => Nat.le_trans (tupleText_mem_le m) sz
      have np : a ∉ cs := not_mem_of_deeper (.tuple e1 e2 e3 e4) (by simp only [PyData.depth]; omega) c1
      refine ⟨"tuple", "tuple.__repr__", F.slot_tuple_repr, F.slot_tuple_str, F.slot_tuple_format, fun s' k => ⟨o, k _ _ e1, e2⟩, fun B E' s' Q' hg' hu' k q => ?_⟩
      rw [PyData.depth] at hu'
      rw [PyData.shown] at q
      exact call_tuple_reprK e1 e2 e3 np c2 hg' (fun b _ => Clear.nil b) hu' k q sz
    | dict e1 e2 e3 e4 e5 =>
      rename_i o en n ps as₁ bs₁
      rw [PyData.shown] at sz
      rw [PyData.showable] at sh
      obtain ⟨s1, s2⟩ := PyData.showableKv_split ps sh
      obtain ⟨b1, c1, k1⟩ := rkAll (P := P) (w := w) e4 s1 (fun b hb => ns b (.tail _ (List.mem_append_left _ hb))) fun t m => (PyData.shownKv_key_le ps t m).elim fun q hq => Nat.le_trans hq.2 (Nat.le_trans (dictText_mem_le hq.1) sz)
      obtain ⟨b2, c2, k2⟩ := rkAll (P := P) (w := w) e5 s2 (fun b hb => ns b (.tail _ (List.mem_append_right _ hb))) fun t m => (PyData.shownKv_val_le ps t m).elim fun q hq => Nat.le_trans hq.2 (Nat.le_trans (dictText_mem_le hq.1) sz)
      have c3 : ReadAtMost s.heap (PyData.depthKv ps) (b1 ++ b2) := ReadAtMost.append (c1.mono (PyData.depthAll_keys_le ps)) (c2.mono (PyData.depthAll_vals_le ps))
      have np : a ∉ b1 ++ b2 := not_mem_of_deeper (.dict e1 e2 e3 e4 e5) (by simp only [PyData.depth]; omega) c3
      have nsa := ns a (.head _) _ e1 e2
      refine ⟨"dict", "dict.__repr__", F.slot_dict_repr, F.slot_dict_str, F.slot_dict_format, fun s' k => ⟨o, k _ _ e1, e2⟩, fun B E' s' Q' hg' hu' k q => ?_⟩
      rw [PyData.depth] at hu'
      rw [PyData.shown, PyData.shownKv_eq] at q
      exact call_dict_reprK e1 e2 e3 nsa np (.of_two en.toList _ _ (k1.more_le (fun _ => List.mem_append_left _) (PyData.depthAll_keys_le ps)) (k2.more_le (fun _ => List.mem_append_right _) (PyData.depthAll_vals_le ps))) hg' (fun b _ => Clear.nil b) hu' k q (by rw [← PyData.shownKv_eq]; exact sz)
  obtain ⟨T, idr, S⟩ := go
  exact call_repr_slot (by omega) (S.typeIs s fun _ _ e => e) S.slotRepr (S.call A.in1 E s _ hg (by show A.units + 1 + x.depth < cLine; omega) (fun _ _ e => e) fun h' u tk hk => ⟨_, _, rfl, hQ h' u tk hk⟩)
theorem noSys_of {X : Cx} {pins : List (Addr × Obj)} {σ : L2.St} {H : Hp} {s : Shared} (I : Inv X pins σ H s) {as : List Addr} (l : LD H as) : NoSys s.heap as := fun b hb ob e1 e2 => by
  obtain ⟨o, h1, h2⟩ := l b hb
  have ok := I.hok _ _ h1
  cases o with
  | lst xs =>
    obtain ⟨_, its, n, rv, e⟩ := ok
    rw [e] at e1
    cases e1
    exact absurd (Value.type.inj e2) (by decide)
  | dK kvs => exact (Rd.ok (.inl h1) I.hok).2.1
  | dT kvs => exact (Rd.ok (.inl h1) I.hok).2.1
  | frz ob' u =>
    cases u with
    | dK kvs => exact (Rd.ok (.inr ⟨_, h1⟩) I.hok).2.1
    | dT kvs => exact (Rd.ok (.inr ⟨_, h1⟩) I.hok).2.1
    | _ => cases h2
  | _ => cases h2
def rRepr (K : PySem.W.Frag) : List V → Hp → VK → Prop := fun vs H Q => ∃ v x O, vs = [v] ∧ Sm K H O ∧ Rp K H v x ∧ x.showable = true ∧ x.shown.length ≤ sizeLine ∧ x.depth ≤ 60 ∧ Q (.str x.shown) H
theorem cr_repr (hg : X.A.guards = some []) (hu : X.A.units + 64 < cLine) : CallR X (.builtin "repr") (rRepr X.K) := by
  rintro pins s σ H vs us Q I r ⟨v, x, O, rfl, sm, rp, sh, sz, dp, q⟩
  obtain ⟨u, rfl, ru⟩ := vals1 r
  have fin : ∀ h' u tk, (∀ b o, s.heap.get? b = some o → h'.get? b = some o) → EP X pins σ Q (.str x.shown u) { s with heap := h', toks := tk } := fun h' u tk hk => ⟨.str _, H, I.kept (t' := tk) hk, ⟨_, rfl⟩, q⟩
  have sc : ∀ {k : Nat}, EP X pins σ Q (.str x.shown k) { s with toks := k + 1 } := fun {k} => fin s.heap k (k + 1) fun _ _ e => e
  obtain ⟨as, r1, l⟩ := Rp.reads I _ _ _ rp ru
  have ns := noSys_of I l
  cases rp with
  | non => cases ru; exact PySem.P.repr_of_none sc
  | bl b => cases ru; exact PySem.P.repr_of_bool sc
  | int i =>
    obtain ⟨t, rfl⟩ := ru
    exact PySem.P.repr_of_int (by simpa [PyData.showable] using sh) sc
  | str z =>
    obtain ⟨t, rfl⟩ := ru
    exact PySem.P.repr_of_str sc sz
  | lst h1 h2 =>
    cases ru
    exact repr_any r1 sh ns hg (by omega) sz fin
  | tup h1 h2 =>
    cases ru
    exact repr_any r1 sh ns hg (by omega) sz fin
  | dk h1 h2 h3 =>
    cases ru
    exact repr_any r1 sh ns hg (by omega) sz fin
  | dt h1 h2 h3 =>
    cases ru
    exact repr_any r1 sh ns hg (by omega) sz fin
def fRepr : PyData → PyData → Prop := fun x z => x.showable = true ∧ x.shown.length ≤ sizeLine ∧ x.depth ≤ 60 ∧ z = .str x.shown
theorem le_repr (hG : X.A.guards = some []) (hu : X.A.units + 64 < cLine) (hg : Gl X "repr") (hm : X.mg "repr" = none) (ha : LA X [e] tas) (he : starEach [e] X.env = (false, eval e X.env) :: starEach [] X.env := by rfl) (hpl : (backTo pos (starEach [] X.env)).any (·.1) = false := by rfl) : LE X (.Call (.Name "repr" p) [e] [] pos) (wFn (k1 fRepr) tas) :=
  le_fn (fun t h => pe_callB (cr_repr hG hu) hg hm (by decide +kernel) h (he := he) (hpl := hpl)) k1_mono (fnk1 fun H O v x z Q sm r ⟨h1, h3, h4, e⟩ q => ⟨v, x, O, rfl, sm, r, h1, h3, h4, q _ (e ▸ .str _)⟩) ha

/-! ### isinstance of a built-in class -/
def tyD : PyData → String
  | .none => "NoneType"
  | .bool _ => "bool"
  | .int _ => "int"
  | .str _ => "str"
  | .list _ => "list"
  | .tuple _ => "tuple"
  | .dict _ => "dict"
theorem kit_rp {pins : List (Addr × Obj)} {σ : St} {H : Hp} {s : Shared} {v : V} {u : Value} {x : PyData} (I : Inv X pins σ H s) (rv : RelV v u) (h : Rp X.K H v x) : ∃ P : Heap → Prop, PySem.W.KitX X.K u (.type (tyD x)) P ∧ P s.heap ∧ u ≠ .builtin "__main__.__loader__#opaque" := by
  cases h with
  | non => cases rv; exact ⟨_, PySem.W.kitx_none, True.intro, fun z => nomatch z⟩
  | bl b => cases rv; exact ⟨_, PySem.W.kitx_bool, True.intro, fun z => nomatch z⟩
  | int i => obtain ⟨t, rfl⟩ := rv; exact ⟨_, PySem.W.kitx_int, True.intro, fun z => nomatch z⟩
  | str i => obtain ⟨t, rfl⟩ := rv; exact ⟨_, PySem.W.kitx_str, True.intro, fun z => nomatch z⟩
  | lst h1 _ => cases rv; obtain ⟨_, its, n, _, e⟩ := I.hok _ _ h1; exact ⟨_, PySem.W.kitx_list, ⟨_, e, rfl⟩, fun z => nomatch z⟩
  | tup h1 _ => cases rv; obtain ⟨_, its, _, o, e, c, _⟩ := I.hok _ _ h1; exact ⟨_, PySem.W.kitx_tuple, ⟨_, e, c⟩, fun z => nomatch z⟩
  | dk h1 _ _ => cases rv; obtain ⟨_, _, _, _, o, _, _, e, ex, _⟩ := h1.ok I.hok; exact ⟨_, PySem.W.kitx_dict, ⟨o, e, ex.1⟩, fun z => nomatch z⟩
  | dt h1 _ _ => cases rv; obtain ⟨_, _, _, _, o, _, _, e, ex, _⟩ := h1.ok I.hok; exact ⟨_, PySem.W.kitx_dict, ⟨o, e, ex.1⟩, fun z => nomatch z⟩
def rIsB (K : PySem.W.Frag) : List V → Hp → VK → Prop := fun vs H Q => ∃ v x n b, vs = [v, .ty n] ∧ Rp K H v x ∧ kitB (tyD x) n = some b ∧ Q (.bl b) H
theorem cr_isB : CallR X (.builtin "isinstance") (rIsB X.K) := by
  rintro pins s σ H vs us Q I r ⟨v, x, n, b, rfl, h, e, q⟩
  obtain ⟨u1, u2, rfl, r1, r2⟩ := vals2 r
  cases r2
  obtain ⟨P, Z, p, hx⟩ := kit_rp I r1 h
  exact PySem.W.kia_one Z I.kIn p (kit_ty e) hx fun tk => ⟨.bl b, H, I.tok tk, rfl, q⟩
def kIs : KT := fun ts ρ Q => ∃ t x n b, ts = [t, .raw (.ty n)] ∧ vw ρ t = some x ∧ kitB (tyD x) n = some b ∧ Q (.d (.bool b)) ρ
theorem kIs_mono : MonK kIs := fun ts ρ Q Q' h ⟨t, x, n, b, e, e1, e2, q⟩ => ⟨t, x, n, b, e, e1, e2, h _ _ q⟩
theorem val_raw {K : PySem.W.Frag} {H : Hp} {O : Own} {n : Nat} {v v' : V} (h : Val K H O n v (.raw v')) : v = v' := by
  have h := h.1
  cases h; rfl
theorem fn_isB {K : PySem.W.Frag} : FnK K (rIsB K) kIs := by
  rintro C n m σ H0 H O0 O ρ ts vs Q hn hm R F V ⟨t, x, c, b, rfl, e1, e2, q⟩
  obtain ⟨v, w, rfl, V1, V2⟩ := V.two
  rw [val_raw V2]
  exact ⟨v, x, c, b, rfl, R.viewH V1 e1, e2, q.sc hn R F (.bl _)⟩
theorem le_isB (hg : Gl X "isinstance") (hm : X.mg "isinstance" = none) (ha : LA X [a, b] tas) (he : starEach [a, b] X.env = (false, eval a X.env) :: starEach [b] X.env := by rfl) (hpl : (backTo pos (starEach [b] X.env)).any (·.1) = false := by rfl) :
    LE X (.Call (.Name "isinstance" p) [a, b] [] pos) (wFn kIs tas) := le_fn (fun t h => pe_callB cr_isB hg hm (by decide +kernel) h (he := he) (hpl := hpl)) kIs_mono fn_isB ha
/-- a built-in class as a value -/
theorem le_ty {n : String} {pos : Pos} (hg : Gl X x) (hm : X.mg x = none) (hv : bootBuiltins x = some (.type n)) (hn : x ≠ "__name__" := by decide) (hd : (x == ("__debug__" : Str)) = false := by decide) : LE X (.Name x pos) (wC (.raw (.ty n))) :=
  le_raw (pe_bltn hg hm hv rfl hn hd)

/-! ### lists out: list(..), sorted(..), +, slices -/
def kList : KT := fun ts ρ Q => ∃ t xs, ts = [t] ∧ (lsq ρ t = some xs ∨ tsq t = some xs) ∧ Q (.l (xs.map T.d)) ρ
theorem kList_mono : MonK kList := fun ts ρ Q Q' h ⟨t, xs, e, e1, q⟩ => ⟨t, xs, e, e1, h _ _ q⟩
theorem fn_list {K : PySem.W.Frag} : FnK K (fun xs H Q => ∃ p ys, xs = [.ref p] ∧ (SqL K H p ys ∨ SqT K H p ys) ∧ ∀ l, H l = none → Q (.ref l) (upd H l (.lst ys))) kList := by
  rintro C n m σ H0 H O0 O ρ ts vs Q hn hm R F V ⟨t, xs, rfl, e1, q⟩
  obtain ⟨v, rfl, V1⟩ := V.one
  rcases e1 with e1 | e1
  · obtain ⟨a, ys, rfl, h1, h2⟩ := R.lsqV V1 e1
    exact ⟨a, ys, rfl, .inl (.of h1), fun l hl => q.newL hn R F h2 l hl⟩
  · obtain ⟨a, ys, rfl, h1, h2⟩ := R.tsqV V1 e1
    exact ⟨a, ys, rfl, .inr (.of h1), fun l hl => q.newL hn R F h2 l hl⟩
theorem le_list (hg : Gl X "list") (hm : X.mg "list" = none) (ha : LA X [e] tas) (he : starEach [e] X.env = (false, eval e X.env) :: starEach [] X.env := by rfl) (hpl : (backTo pos (starEach [] X.env)).any (·.1) = false := by rfl) :
    LE X (.Call (.Name "list" p) [e] [] pos) (wFn kList tas) := le_fn (fun t h => pe_callTy call_list_of hg hm (by decide +kernel) h (he := he) (hpl := hpl)) kList_mono fn_list ha
def kTup : KT := fun ts ρ Q => ∃ t xs, ts = [t] ∧ (lsq ρ t = some xs ∨ tsq t = some xs) ∧ Q (.d (.tuple xs)) ρ
theorem kTup_mono : MonK kTup := fun ts ρ Q Q' h ⟨t, xs, e, e1, q⟩ => ⟨t, xs, e, e1, h _ _ q⟩
theorem tsq_eq {t : T} {xs : List PyData} (h : tsq t = some xs) : t = .d (.tuple xs) := by
  cases t with
  | d y => cases y with
    | tuple ys => simp only [tsq, Option.some.injEq] at h; rw [h]
    | _ => simp [tsq] at h
  | _ => simp [tsq] at h
theorem val_d {K : PySem.W.Frag} {H : Hp} {O : Own} {n : Nat} {v : V} {x : PyData} (h : Val K H O n v (.d x)) : Rp K (msk O H) v x := by
  have h := h.1
  cases h with | d h => exact h
theorem fn_tup {K : PySem.W.Frag} : FnK K (fun xs H Q => ∃ p ys, xs = [.ref p] ∧ ((SqL K H p ys ∧ ∀ l, H l = none → Q (.ref l) (upd H l (.tup ys))) ∨ (SqT K H p ys ∧ Q (.ref p) H))) kTup := by
  rintro C n m σ H0 H O0 O ρ ts vs Q hn hm R F V ⟨t, xs, rfl, e1, q⟩
  obtain ⟨v, rfl, V1⟩ := V.one
  rcases e1 with e1 | e1
  · obtain ⟨a, ys, rfl, h1, h2⟩ := R.lsqV V1 e1
    exact ⟨a, ys, rfl, .inl ⟨.of h1, fun l hl => q.newT hn R F h2 l hl⟩⟩
  · obtain ⟨a, ys, rfl, h1, h2⟩ := R.tsqV V1 e1
    have := tsq_eq e1
    subst this
    exact ⟨a, ys, rfl, .inr ⟨.of h1, q.dat hn R F (val_d V1)⟩⟩
theorem le_tuple (hg : Gl X "tuple") (hm : X.mg "tuple" = none) (ha : LA X [e] tas) (he : starEach [e] X.env = (false, eval e X.env) :: starEach [] X.env := by rfl) (hpl : (backTo pos (starEach [] X.env)).any (·.1) = false := by rfl) :
    LE X (.Call (.Name "tuple" p) [e] [] pos) (wFn kTup tas) := le_fn (fun t h => pe_callTy call_tuple_of hg hm (by decide +kernel) h (he := he) (hpl := hpl)) kTup_mono fn_tup ha

/-- sorted(xs), of alike data -/
abbrev le0 : PyData → PyData → Bool := PySem.W.dataLe false fun d => d
def rSort (K : PySem.W.Frag) : List V → Hp → VK → Prop := fun vs H Q => ∃ a ws ds, vs = [.ref a] ∧ H a = some (.lst ws) ∧ RpAll K H ws ds ∧ PySem.W.AllAlike ds ∧ PySem.W.Sortable ds ∧ (∀ d ∈ ds, d.depth ≤ 60) ∧
  ∀ ys p, (∀ M : Hp, (∀ b o, M b = some o → H b = some o) → RpAll K M ws ds → RpAll K M ys (ds.mergeSort le0)) → H p = none → Q (.ref p) (upd H p (.lst ys))
theorem each_pair {R : Value → V → Prop} : ∀ {us : List Value} {ws : List V} {ds : List PyData}, Paired (fun v u => RelV v u) ws us → ws.length = ds.length → PySem.W.EachIs (fun u (b : PyData × V) => RelV b.2 u) us (ds.zip ws)
  | [], [], [], _, _ => .nil
  | u :: us, w :: ws, d :: ds, .cons r t, e => .cons r (each_pair (R := R) t (by simpa using e))
theorem each_out : ∀ {us : List Value} {bs : List (PyData × V)}, PySem.W.EachIs (fun u (b : PyData × V) => RelV b.2 u) us bs → Vals (bs.map (·.2)) us
  | _, _, .nil => .nil
  | _, _, .cons r t => .cons r (each_out t)
theorem rp_pairs {K : PySem.W.Frag} {M : Hp} {bs : List (PyData × V)} : ∀ {l : List (PyData × V)}, (∀ b ∈ l, Rp K M b.2 b.1) → RpAll K M (l.map (·.2)) (l.map (·.1))
  | [], _ => .nil
  | b :: l, h => .cons (h b List.mem_cons_self) (rp_pairs (bs := bs) fun c hc => h c (List.mem_cons_of_mem _ hc))
theorem rp_mem {K : PySem.W.Frag} {M : Hp} : ∀ {ws : List V} {ds : List PyData}, RpAll K M ws ds → ∀ b ∈ ds.zip ws, Rp K M b.2 b.1
  | _, _, .nil, b, h => by simp at h
  | _, _, .cons r t, b, h => by
    simp only [List.zip_cons_cons, List.mem_cons] at h
    rcases h with rfl | h
    · exact r
    · exact rp_mem t b h
theorem cr_sorted (hu : X.A.units + 64 < cLine) : CallR X (.builtin "sorted") (rSort X.K) := by
  rintro pins s σ H vs us Q I r ⟨a, ws, ds, rfl, ha, hd, al, so, dp, q⟩
  rw [Vals.ref1 r]
  obtain ⟨hz, its, n, rv, e⟩ := I.hok a _ ha
  have hlen := hd.length
  have el : ws.length = its.length := rv.length
  have zf : (ds.zip ws).map (·.1) = ds := zip_fst hlen.symm
  obtain ⟨as, ra, _⟩ := RpAll.reads I ds ws its hd rv
  have er : PySem.W.EachIs (fun v (b : PyData × V) => ∃ as, Reads s.heap v b.1 as) its (ds.zip ws) := PySem.W.readsAll_each (fun b : PyData × V => b.1) (by rw [zf]; exact ra)
  have lb : (ds.zip ws).length = ws.length := by rw [List.length_zip]; omega
  refine PySem.W.sorted_data (bs := ds.zip ws) (enc := fun b => b.1) (R := fun u b => RelV b.2 u) (l := a) (vs := its) ⟨_, e, rfl, n, rfl⟩ (each_pair (R := fun _ _ => True) rv hlen) er (by rw [zf]; exact al) (by rw [zf]; exact so) (by rw [lb]; exact hz) (fun b hb => ?_) fun out ol oe => ?_
  · have : b.1 ∈ ds := by rw [← zf]; exact List.mem_map.mpr ⟨b, hb, rfl⟩
    have := dp _ this
    omega
  · obtain ⟨ep, he'⟩ := PyProof.Rows.sortedAll_at s.heap its out.toArray
    have vo := each_out oe
    have ms : ((ds.zip ws).mergeSort (PySem.W.dataLe false fun b => b.1)).map (·.1) = ds.mergeSort le0 := by
      have := PySem.W.sort_maps (r := PySem.W.dataLe false fun b : PyData × V => b.1) (s := le0) (l := ds.zip ws) (fun b : PyData × V => b.1) (fun _ _ _ _ => rfl)
      rw [zf] at this
      exact this
    have hl2 : (((ds.zip ws).mergeSort (PySem.W.dataLe false fun b => b.1)).map (·.2)).length ≤ sizeLine := by
      rw [List.length_map, List.length_mergeSort, lb]; exact hz
    refine ⟨.ref _, upd H (s.heap.objs.size + 1) (.lst (((ds.zip ws).mergeSort (PySem.W.dataLe false fun b => b.1)).map (·.2))), I.laid (t' := s.toks) (fun _ _ => PyProof.Rows.sortedAll_old) (Nat.le_succ _) ⟨hl2, out, ep, vo, he'⟩, rfl, ?_⟩
    refine q _ _ (fun M hM hR => ?_) (I.hok.fresh (Nat.le_succ _))
    rw [← ms]
    exact rp_pairs (bs := []) fun b hb => rp_mem hR b (List.mem_mergeSort.mp hb)
def kSort : KT := fun ts ρ Q => ∃ t ds, ts = [t] ∧ lsq ρ t = some ds ∧ PySem.W.AllAlike ds ∧ PySem.W.Sortable ds ∧ (∀ d ∈ ds, d.depth ≤ 60) ∧ Q (.l ((ds.mergeSort le0).map T.d)) ρ
theorem kSort_mono : MonK kSort := fun ts ρ Q Q' h ⟨t, ds, e, e1, e2, e3, e4, q⟩ => ⟨t, ds, e, e1, e2, e3, e4, h _ _ q⟩
theorem msk_le {O : Own} {H : Hp} : ∀ b o, msk O H b = some o → H b = some o := fun b o h => (msk_some h).2
theorem fn_sorted {K : PySem.W.Frag} : FnK K (rSort K) kSort := by
  rintro C n m σ H0 H O0 O ρ ts vs Q hn hm R F V ⟨t, ds, rfl, e1, e2, e3, e4, q⟩
  obtain ⟨v, rfl, V1⟩ := V.one
  obtain ⟨a, ws, rfl, h1, h2⟩ := R.lsqV V1 e1
  exact ⟨a, ws, ds, rfl, h1, RpAll.mono msk_le _ _ h2, e2, e3, e4, fun ys p hy hp => q.newL hn R F (hy _ msk_le h2) p hp⟩
theorem le_sorted (hu : X.A.units + 64 < cLine) (hg : Gl X "sorted") (hm : X.mg "sorted" = none) (ha : LA X [e] tas) (he : starEach [e] X.env = (false, eval e X.env) :: starEach [] X.env := by rfl) (hpl : (backTo pos (starEach [] X.env)).any (·.1) = false := by rfl) :
    LE X (.Call (.Name "sorted" p) [e] [] pos) (wFn kSort tas) := le_fn (fun t h => pe_callB (cr_sorted hu) hg hm (by decide +kernel) h (he := he) (hpl := hpl)) kSort_mono fn_sorted ha
end
end TX

/-! Items, slices, displays, methods of lists of one's own. -/
namespace TX
open PySem PySem.Spec L2

/-! ### values on the way, as data -/
theorem Val.asD {K : PySem.W.Frag} {H : Hp} {O : Own} {n k : Nat} {v : V} {t : T} {x : PyData} (hk : n ≤ k) (h : Val K H O k v t) (e : erase t = some x) : Rp K (msk (cut n O) H) v x := by
  have go : Rp K (vis k O H) v x := by
    cases t with
    | a _ _ => simp [erase] at e
    | _ => exact Tr.view _ [] _ x e h.1
  refine Rp.mono (fun b o z => ?_) _ _ go
  unfold vis at z
  split at z
  · rename_i e1; rw [msk_of (cut_free e1)]; exact z
  · cases z
  · rename_i r' p' e1
    split at z
    · rename_i e2
      rw [msk_of (by unfold cut; rw [e1]; simp only; rw [if_neg (by omega)])]
      exact z
    · cases z
theorem ValAll.asD {K : PySem.W.Frag} {H : Hp} {O : Own} {n : Nat} : ∀ {ts : List T} {k : Nat} {vs : List V} {ds : List PyData}, n ≤ k → ValAll K H O k vs ts → eraseAll ts = some ds → RpAll K (msk (cut n O) H) vs ds
  | [], k, _, _, _, h, e => by cases h; simp [eraseAll] at e; subst e; exact .nil
  | t :: ts, k, _, ds, hk, h, e => by
    cases h with
    | cons h1 h2 =>
      simp only [eraseAll] at e
      cases e1 : erase t with
      | none => rw [e1] at e; cases e
      | some y =>
        cases e2 : eraseAll ts with
        | none => rw [e1, e2] at e; cases e
        | some ys =>
          rw [e1, e2] at e
          simp only [Option.some.injEq] at e
          subst e
          exact .cons (h1.asD hk e1) (ValAll.asD (Nat.le_succ_of_le hk) h2 e2)
theorem ValAll.length {K : PySem.W.Frag} {H : Hp} {O : Own} : ∀ {n : Nat} {vs : List V} {ts : List T}, ValAll K H O n vs ts → vs.length = ts.length
  | _, _, _, .nil => rfl
  | _, _, _, .cons _ t => congrArg (· + 1) (ValAll.length t)

section
variable {X : Cx} {pos : Pos} {a b c e : Expr} {es : List Expr} {ta tb tc : TwE} {tas : TwA}

/-! ### displays -/
def wLst (tas : TwA) : TwE := wFn (fun ts ρ Q => ∃ ds, eraseAll ts = some ds ∧ Q (.l (ds.map T.d)) ρ) tas
def wTup (tas : TwA) : TwE := wFn (fun ts ρ Q => ∃ ds, eraseAll ts = some ds ∧ Q (.d (.tuple ds)) ρ) tas
theorem le_lst (ha : LA X es tas) (hl : es.length ≤ 1000 := by decide) : LE X (.List es pos) (wLst tas) := by
  refine ⟨wFn_mono (fun ts ρ Q Q' h ⟨ds, e, q⟩ => ⟨ds, e, h _ _ q⟩) ha.mono, fun C W n hC hn tk => (pe_lst (pos := pos) (ha.run C W n hC hn tk)).imp fun σ H Q ⟨O, ρ, R, q⟩ => ?_⟩
  refine ⟨O, ρ, R, ha.mono ρ _ _ _ _ (fun ts ρ1 ⟨hlen, ds, e, q⟩ => ?_) (fun _ _ z => z) (ha.len ρ _ _ q)⟩
  intro vs H1 O1 R1 F1 V1
  refine ⟨by rw [V1.length, hlen]; exact Nat.le_of_lt (small1000 hl), fun p hp => ?_⟩
  exact Fin.newL hn (R1.cut (n := n) hn) (F1.trans (frm_cut C.N n H1 O1 hn) (Nat.le_refl _)) (ρ := ρ1) q (V1.asD (Nat.le_refl _) e) p hp
theorem le_tup {ld} (ha : LA X es tas) (hl : es.length ≤ 1000 := by decide) : LE X (.Tuple es ld pos) (wTup tas) := by
  refine ⟨wFn_mono (fun ts ρ Q Q' h ⟨ds, e, q⟩ => ⟨ds, e, h _ _ q⟩) ha.mono, fun C W n hC hn tk => (pe_tup (pos := pos) (ha.run C W n hC hn tk)).imp fun σ H Q ⟨O, ρ, R, q⟩ => ?_⟩
  refine ⟨O, ρ, R, ha.mono ρ _ _ _ _ (fun ts ρ1 ⟨hlen, ds, e, q⟩ => ?_) (fun _ _ z => z) (ha.len ρ _ _ q)⟩
  intro vs H1 O1 R1 F1 V1
  refine ⟨by rw [V1.length, hlen]; exact Nat.le_of_lt (small1000 hl), fun p hp => ?_⟩
  exact Fin.newT hn (R1.cut (n := n) hn) (F1.trans (frm_cut C.N n H1 O1 hn) (Nat.le_refl _)) (ρ := ρ1) q (V1.asD (Nat.le_refl _) e) p hp

/-! ### items -/
/-- t[i] is u -/
def IxT (ρ : Rho) : T → Int → T → Prop
  | .d (.list xs), i, u => ∃ x, atI xs i = some x ∧ u = .d x
  | .d (.tuple xs), i, u => ∃ x, atI xs i = some x ∧ u = .d x
  | .d (.str z), i, u => z.length ≤ sizeLine ∧ ∃ c, atI z.cps.toList i = some c ∧ u = .d (.str ⟨#[c]⟩)
  | .fz ns, i, u => ∃ n, atI ns i = some n ∧ u = .d (.int n)
  | .l ts, i, u => ∃ x, atI ts i = some (.d x) ∧ u = .d x
  | .a r p, i, u => ∃ ts j c, getT ρ r p = some (.l ts) ∧ ixN ts.length i = some j ∧ ts[j]? = some c ∧ u = (if isNode c then .a r (p ++ [j]) else c)
  | _, _, _ => False
def wIx (ta tb : TwE) : TwE := w2 ta tb fun t u ρ Q => ∃ i z, u = .d (.int i) ∧ IxT ρ t i z ∧ Q z ρ
theorem atI_len {α β : Type} {xs : List α} {ys : List β} (h : xs.length = ys.length) {i : Int} {x : α} (e : atI xs i = some x) : ∃ j, ixN ys.length i = some j ∧ xs[j]? = some x := by
  unfold atI at e
  rw [h] at e
  cases q : ixN ys.length i with
  | none => rw [q] at e; cases e
  | some j => rw [q] at e; exact ⟨j, rfl, e⟩
theorem atI_of {α : Type} {xs : List α} {i : Int} {j : Nat} {x : α} (h : ixN xs.length i = some j) (e : xs[j]? = some x) : atI xs i = some x := by
  unfold atI; rw [h]; exact e
theorem ix_any : IxR X (rIx X.K) := ix_seq
theorem le_ix (ha : LE X a ta) (hb : LE X b tb) (hs : PlainIx b := by exact fun _ _ => rfl) : LE X (.Subscript a b pos) (wIx ta tb) := by
  refine ⟨w2_mono ha.mono hb.mono fun t u ρ Q Q' h ⟨i, z, e1, e2, q⟩ => ⟨i, z, e1, e2, h _ _ q⟩, fun C W n hC hn tk => (pe_ix (pos := pos) ix_any (ha.run C W n hC hn tk) (hb.run C W (n + 1) hC (by omega) tk) hs).imp fun σ H Q h => ?_⟩
  refine two ha.mono hb.mono hn h fun O ρ2 t u v w H2 O2 R2 F V1 V2 ⟨i, z, e1, e2, q⟩ => ?_
  subst e1
  have hw : w = .int i := rp_int (val_d V2)
  subst hw
  cases t with
  | d x =>
    have rp := val_d V1
    cases x with
    | list xs =>
      obtain ⟨y, e3, rfl⟩ := e2
      cases rp with
      | lst h1 h2 =>
        obtain ⟨j, e4, e5⟩ := atI_len h2.length.symm e3
        obtain ⟨v', e6, e7⟩ := h2.get e5
        exact .inl ⟨_, _, i, v', rfl, rfl, .of (msk_some h1).2, atI_of e4 e6, Fin.dat hn R2 F q e7⟩
    | tuple xs =>
      obtain ⟨y, e3, rfl⟩ := e2
      cases rp with
      | tup h1 h2 =>
        obtain ⟨j, e4, e5⟩ := atI_len h2.length.symm e3
        obtain ⟨v', e6, e7⟩ := h2.get e5
        exact .inr (.inl ⟨_, _, i, v', rfl, rfl, .of (msk_some h1).2, atI_of e4 e6, Fin.dat hn R2 F q e7⟩)
    | str s =>
      obtain ⟨hz, c, e3, rfl⟩ := e2
      cases rp
      exact .inr (.inr ⟨s, i, c, rfl, rfl, hz, e3, Fin.sc hn R2 F q (.str _)⟩)
    | _ => exact e2.elim
  | fz ns =>
    obtain ⟨k, e3, rfl⟩ := e2
    have h := V1.1
    cases h with
    | fz h =>
      obtain ⟨j, e4, e5⟩ := atI_len (ys := ns.map V.int) (by simp) e3
      exact .inl ⟨_, _, i, .int k, rfl, rfl, sql_mono msk_le h, atI_of e4 (by rw [List.getElem?_map, e5]; rfl), Fin.sc hn R2 F q (.int _)⟩
  | l ts =>
    obtain ⟨y, e3, rfl⟩ := e2
    have h := V1.1
    cases h with
    | l h1 h2 h3 =>
      obtain ⟨j, e4, e5⟩ := atI_len h3.length.symm e3
      obtain ⟨v', e6, e7⟩ := h3.get e5
      cases e7 with
      | d e7 => exact .inl ⟨_, _, i, v', rfl, rfl, .of h2, atI_of e4 e6, Fin.dat hn R2 F q e7⟩
  | a r p =>
    obtain ⟨ts, j, c, e3, e4, e5, rfl⟩ := e2
    obtain ⟨⟨ad, rfl, ha2, hr⟩, hno⟩ := V1
    have tr := R2.alias e3 rfl ha2
    cases tr with
    | l h1 h2 h3 =>
      obtain ⟨v', e6, e7⟩ := h3.get e5
      refine .inl ⟨_, _, i, v', rfl, rfl, .of h2, atI_of (by rw [h3.length]; exact e4) e6, ?_⟩
      by_cases hc : isNode c = true
      · rw [if_pos hc] at q
        obtain ⟨a', rfl, ha'⟩ := tr_root e7 hc
        rw [Nat.zero_add] at ha'
        have hrN : r < C.N := let ⟨_, e8, _⟩ := getT_some e3; R2.slt e8
        exact q _ H2 _ ((R2.cut hn).up (Nat.le_succ _)) (F.trans (frm_cut C.N n H2 O2 hn) (Nat.le_refl _)) ⟨⟨a', rfl, cut_at.mpr ⟨ha', Nat.lt_of_lt_of_le hrN hn⟩, Nat.lt_of_lt_of_le hrN hn⟩, fun b q z => Nat.lt_irrefl _ (cut_at.mp z).2⟩
      · rw [if_neg hc] at q
        cases e7 with
        | d e7 => exact Fin.dat hn R2 F q e7
        | raw => exact q _ H2 _ ((R2.cut hn).up (Nat.le_succ _)) (F.trans (frm_cut C.N n H2 O2 hn) (Nat.le_refl _)) (R2.cut hn).val_raw
        | fz h => exact q _ H2 _ ((R2.cut hn).up (Nat.le_succ _)) (F.trans (frm_cut C.N n H2 O2 hn) (Nat.le_refl _)) ((R2.cut hn).val_fz (sql_mono (fun b o z => by obtain ⟨z1, z2⟩ := msk_some z; rw [msk_of (cut_free z1)]; exact z2) h))
        | lk h1 h2 h3 h4 => exact q _ H2 _ ((R2.cut hn).up (Nat.le_succ _)) (F.trans (frm_cut C.N n H2 O2 hn) (Nat.le_refl _)) ((R2.cut hn).val_lk (cut_free h1) h2 h3 (RpAll.mono (fun b o z => by obtain ⟨z1, z2⟩ := msk_some z; rw [msk_of (cut_free z1)]; exact z2) _ _ h4))
        | lt h1 h2 h3 h4 => exact q _ H2 _ ((R2.cut hn).up (Nat.le_succ _)) (F.trans (frm_cut C.N n H2 O2 hn) (Nat.le_refl _)) ((R2.cut hn).val_lt (cut_free h1) h2 h3 (RpAll.mono (fun b o z => by obtain ⟨z1, z2⟩ := msk_some z; rw [msk_of (cut_free z1)]; exact z2) _ _ h4))
        | l _ _ _ => exact absurd rfl hc
        | mk _ _ _ _ => exact absurd rfl hc
        | mt _ _ _ _ => exact absurd rfl hc
        | o _ _ _ _ => exact absurd rfl hc
        | s _ _ => exact absurd rfl hc
  | _ => exact e2.elim

/-! ### list + list, list * int, slices -/
def wCat (ta tb : TwE) : TwE := w2 ta tb fun t u ρ Q => ∃ xs ys, lsq ρ t = some xs ∧ lsq ρ u = some ys ∧ xs.length + ys.length ≤ sizeLine ∧ Q (.l ((xs ++ ys).map T.d)) ρ
theorem le_cat (ha : LE X a ta) (hb : LE X b tb) : LE X (.BinOp a .Add b pos) (wCat ta tb) := by
  refine ⟨w2_mono ha.mono hb.mono fun t u ρ Q Q' h ⟨x, y, e1, e2, e3, q⟩ => ⟨x, y, e1, e2, e3, h _ _ q⟩, fun C W n hC hn tk => (pe_op op_cat (ha.run C W n hC hn tk) (hb.run C W (n + 1) hC (by omega) tk)).imp fun σ H Q h => ?_⟩
  refine two ha.mono hb.mono hn h fun O ρ2 t u v w H2 O2 R2 F V1 V2 ⟨xs, ys, e1, e2, e3, q⟩ => ?_
  obtain ⟨a1, w1, rfl, h1, h2⟩ := R2.lsqV V1 e1
  obtain ⟨a2, w2, rfl, h3, h4⟩ := R2.lsqV V2 e2
  exact ⟨_, _, _, _, rfl, rfl, h1, h3, by rw [h2.length, h4.length]; exact e3, fun p hp => Fin.newL hn R2 F q (h2.append h4) p hp⟩
def wRep (ta tb : TwE) : TwE := w2 ta tb fun t u ρ Q => ∃ xs k, lsq ρ t = some xs ∧ u = .d (.int k) ∧ -(2 ^ 63) ≤ k ∧ k < 2 ^ 63 ∧ xs.length * k.toNat ≤ sizeLine ∧ Q (.l ((List.replicate k.toNat xs).flatten.map T.d)) ρ
/-! ### parts of a slice -/
abbrev TwO := Rho → (Option Int → Rho → Prop) → ExK → Prop
def lfO (K : PySem.W.Frag) (C : Ctx) (W : WX) (n : Nat) (tw : TwO) : TO := fun σ H Q => ∃ O ρ, Rel K C n σ H O ρ ∧ tw ρ (fun o ρ' => ∀ H' O', Rel K C n σ H' O' ρ' → Frm C.N n H O H' O' → Q o H') (exK K C W H O)
structure LO (X : Cx) (e : Option Expr) (tw : TwO) : Prop where
  mono : MonE tw
  run : ∀ (C : Ctx) (W : WX) (n : Nat), C.N = X.N.length → C.N ≤ n → Takes X W → PO X e (lfO X.K C W n tw)
theorem _root_.L2.PO.imp {e : Option Expr} {t t' : TO} (h : PO X e t) (k : ∀ σ H Q, t' σ H Q → t σ H Q) : PO X e t' := ⟨fun pins s σ H Q I q => h.run pins s σ H Q I (k _ _ _ q)⟩
def wNoPart : TwO := fun ρ Q _ => Q none ρ
def wPart (ta : TwE) : TwO := fun ρ Q E => ta ρ (fun t ρ1 => ∃ i, t = .d (.int i) ∧ Q (some i) ρ1) E
theorem lo_none : LO X none wNoPart := ⟨fun ρ Q Q' E E' h _ q => h _ _ q, fun C W n hC hn tk => po_none.imp fun σ H Q ⟨O, ρ, R, q⟩ => q H O R .refl⟩
theorem lo_some (ha : LE X a ta) : LO X (some a) (wPart ta) := by
  refine ⟨fun ρ Q Q' E E' h he q => ha.mono ρ _ _ E E' (fun t ρ1 ⟨i, e, q⟩ => ⟨i, e, h _ _ q⟩) he q, fun C W n hC hn tk => (po_some (ha.run C W n hC hn tk)).imp fun σ H Q ⟨O, ρ, R, q⟩ => ?_⟩
  refine ⟨O, ρ, R, ha.mono ρ _ _ _ _ (fun t ρ1 ⟨i, e, q⟩ => ?_) (fun _ _ z => z) q⟩
  subst e
  intro v H1 O1 R1 F1 V1
  exact ⟨i, rp_int (val_d V1), q H1 _ (R1.cut hn) (F1.trans (frm_cut C.N n H1 O1 hn) (Nat.le_refl _))⟩
def cutD {α : Type} (xs : List α) (lo hi : Option Int) : List α := (xs.drop (HT.sIx xs.length 0 lo)).take (HT.sIx xs.length xs.length hi - HT.sIx xs.length 0 lo)
def wSl (ta : TwE) (tl th : TwO) : TwE := fun ρ Q E => ta ρ (fun t ρ1 => tl ρ1 (fun lo ρ2 => th ρ2 (fun hi ρ3 => ∃ xs, lsq ρ3 t = some xs ∧ Q (.l ((cutD xs lo hi).map T.d)) ρ3) E) E) E
variable {tl th : TwO} {lo hi : Option Expr}
theorem le_sl {p2 : Pos} (ha : LE X a ta) (hl : LO X lo tl) (hh : LO X hi th) : LE X (.Subscript a (.Slice lo hi none p2) pos) (wSl ta tl th) := by
  refine ⟨fun ρ Q Q' E E' h he q => ha.mono ρ _ _ E E' (fun t ρ1 q1 => hl.mono ρ1 _ _ E E' (fun l ρ2 q2 => hh.mono ρ2 _ _ E E' (fun u ρ3 ⟨xs, e, q⟩ => ⟨xs, e, h _ _ q⟩) he q2) he q1) he q,
    fun C W n hC hn tk => (pe_slice sl_list (ha.run C W n hC hn tk) (hl.run C W (n + 1) hC (by omega) tk) (hh.run C W (n + 1) hC (by omega) tk)).imp fun σ H Q ⟨O, ρ, R, q⟩ => ?_⟩
  refine ⟨O, ρ, R, ha.mono ρ _ _ _ _ (fun t ρ1 q1 => ?_) (fun _ _ z => z) q⟩
  intro v H1 O1 R1 F1 V1
  refine ⟨O1, ρ1, R1, hl.mono ρ1 _ _ _ _ (fun l ρ2 q2 => ?_) (fun c ρ' z => exK.on F1.fre c ρ' z) q1⟩
  intro H2 O2 R2 F2
  have F12 := F1.trans F2 (Nat.le_succ n)
  refine ⟨O2, ρ2, R2, hh.mono ρ2 _ _ _ _ (fun u ρ3 ⟨xs, e, q3⟩ => ?_) (fun c ρ' z => exK.on F12.fre c ρ' z) q2⟩
  intro H3 O3 R3 F3
  have V3 : Val X.K H3 O3 n v t := (V1.carry hn R1.lt R1.nt F2).carry hn R2.lt R2.nt F3
  obtain ⟨ad, ws, rfl, h1, h2⟩ := R3.lsqV V3 e
  refine ⟨ad, ws, rfl, .of h1, fun p hp => ?_⟩
  refine Fin.newL hn R3 (F12.trans F3 (Nat.le_succ n)) q3 ?_ p hp
  unfold cutV cutD
  rw [h2.length]
  exact (h2.drop _).take _
/-- -n -/
def wNeg (ta : TwE) : TwE := fun ρ Q E => ta ρ (fun t ρ1 => ∃ i, t = .d (.int i) ∧ Q (.d (.int (-i))) ρ1) E
end
end TX

/-! Methods of lists of one's own; statements. -/
namespace TX
open PySem PySem.Spec L2

section
variable {K : PySem.W.Frag} {C : Ctx} {n m : Nat} {σ : St} {H H' : Hp} {O O' : Own} {ρ : Rho}
theorem sub_flat {ds : List PyData} : ∀ {q : List Nat} {z : T}, subT (.l (ds.map T.d)) q = some z → isNode z = true → q = []
  | [], _, _, _ => rfl
  | k :: q, z, h, hn => by
    simp only [subT, kid, List.getElem?_map] at h
    cases e : ds[k]? with
    | none => rw [e] at h; cases h
    | some x =>
      rw [e] at h
      cases q with
      | nil => cases h; cases hn
      | cons j q => simp [subT, kid] at h
theorem relUpdL (R : Rel K C m σ H O ρ) (hn : C.N ≤ n) {r : Nat} {p : List Nat} {a : Addr} {ds ds' : List PyData} {ws' : List V} (g : getT ρ r p = some (.l (ds.map T.d))) (ha : O a = .at r p) (hz : RpAll K (msk (cut n O) H) ws' ds') :
    Rel K C n σ (upd H a (.lst ws')) (cut n O) (putAt ρ r p (.l (ds'.map T.d))) ∧ Frm C.N n H O (upd H a (.lst ws')) (cut n O) := by
  have R0 := R.cut (n := n) hn
  have hr : r < C.N := let ⟨_, e, _⟩ := getT_some g; R.slt e
  have ha1 : cut n O a = .at r p := cut_at.mpr ⟨ha, Nat.lt_of_lt_of_le hr hn⟩
  have ne : ∀ {b : Addr}, cut n O b = .free → b ≠ a := fun {b} h e => by subst e; rw [ha1] at h; cases h
  have ne2 : ∀ {b : Addr}, cut n O b = .foreign → b ≠ a := fun {b} h e => by subst e; rw [ha1] at h; cases h
  refine ⟨R0.upd hn g (fun b o e1 e2 => ⟨by rw [upd_ne (ne e2)]; exact e1, e2⟩) (fun b o e1 e2 => ⟨by rw [upd_ne (ne2 e2)]; exact e1, e2⟩) (fun b o r' p' e1 e2 l h => ⟨?_, e2⟩) (fun b r' p' e _ => e) (fun w h => ?_)
    (fun b h => ?_) R0.lt R0.inj (fun b q e => ?_) (fun b r' p' e _ => .inr e) (fun b e => e), ⟨fun b o e1 e2 => ?_, fun b r' p' e l => cut_at.mpr ⟨e, Nat.lt_of_lt_of_le l hn⟩, fun b o r' p' e1 e2 l1 l2 => ?_, fun b r' p' e _ _ => (cut_at.mp e).1⟩⟩
  · rw [upd_ne (fun z => h (by subst z; rw [ha1] at e2; cases e2; exact ⟨rfl, List.prefix_refl _⟩))]; exact e1
  · obtain ⟨a', rfl, e⟩ := tr_root h rfl
    cases R0.inj a' a r p e ha1
    exact .l ha1 upd_same (TrAll.ofData (RpAll.mono (fun b o z => by obtain ⟨z1, z2⟩ := msk_some z; rw [msk_of z1, upd_ne (ne z1)]; exact z2) _ _ hz))
  · by_cases hb : b = a
    · subst hb; exact ⟨_, upd_same, trivial⟩
    · obtain ⟨o, e, w⟩ := R0.nt b h
      exact ⟨o, by rw [upd_ne hb]; exact e, w⟩
  · obtain ⟨t, z, e1, e2, e3⟩ := R0.val b r (p ++ q) e hr
    obtain ⟨t', e4, e5⟩ := getT_some g
    rw [e1] at e4; cases e4
    rw [subT_append e5] at e2
    have := sub_flat e2 e3
    subst this
    exact ⟨_, rfl, rfl⟩
  · have : b ≠ a := fun z => by subst z; rw [ha] at e2; cases e2
    exact ⟨by rw [upd_ne this]; exact e1, cut_free e2⟩
  · have : b ≠ a := fun z => by subst z; rw [ha] at e2; cases e2; omega
    exact ⟨by rw [upd_ne this]; exact e1, cut_at.mpr ⟨e2, l2⟩⟩
end

section
variable {X : Cx} {pos : Pos} {a b c e o : Expr} {es : List Expr} {ta tb tc : TwE} {tas : TwA}
/-! ### methods -/
abbrev KM := T → List T → Rho → (T → Rho → Prop) → Prop
def MonM (k : KM) : Prop := ∀ t ts ρ (Q Q' : T → Rho → Prop), (∀ t ρ', Q t ρ' → Q' t ρ') → k t ts ρ Q → k t ts ρ Q'
def wM (ty : Rho → T → Prop) (k : KM) (ta : TwE) (tas : TwA) : TwE := fun ρ Q E => ta ρ (fun t ρ1 => ty ρ1 t ∧ tas ρ1 (fun ts ρ2 => k t ts ρ2 Q) E) E
def MK (K : PySem.W.Frag) (r : V → List V → Hp → VK → Prop) (k : KM) : Prop := ∀ (C : Ctx) (n m : Nat) (σ : St) (H0 H : Hp) (O0 O : Own) (ρ : Rho) (t : T) (ts : List T) (v : V) (vs : List V) (Q : VK), C.N ≤ n → n + 1 + ts.length ≤ m → Rel K C m σ H O ρ →
  Frm C.N n H0 O0 H O → Val K H O n v t → ValAll K H O (n + 1) vs ts → k t ts ρ (Fin K C n σ H0 O0 Q) → r v vs H Q
def TyK (K : PySem.W.Frag) (ty : Rho → T → Prop) (S : String) : Prop := ∀ (C : Ctx) (n m : Nat) (σ : St) (H : Hp) (O : Own) (ρ : Rho) (t : T) (v : V), Rel K C m σ H O ρ → Val K H O n v t → ty ρ t → tyV K S v H
def isLst (ρ : Rho) : T → Prop
  | .d (.list _) => True
  | .l _ => True
  | .a r p => ∃ ts, getT ρ r p = some (.l ts)
  | _ => False
theorem ty_lst : TyK X.K isLst "list" := by
  intro C n m σ H O ρ t v R V h
  cases t with
  | d x =>
    cases x with
    | list xs => have := val_d V; cases this with | lst h1 _ => exact .inl ⟨rfl, _, .of (msk_some h1).2⟩
    | _ => exact h.elim
  | l ts => have := V.1; cases this with | l _ h2 _ => exact .inl ⟨rfl, _, .of h2⟩
  | a r p =>
    obtain ⟨ts, g⟩ := h
    obtain ⟨⟨ad, rfl, e, _⟩, _⟩ := V
    have tr := R.alias g rfl e
    cases tr with | l _ h2 _ => exact .inl ⟨rfl, _, .of h2⟩
  | _ => exact h.elim
theorem wM_mono {ty : Rho → T → Prop} {k : KM} (hk : MonM k) (ha : MonE ta) (hs : MonE tas) : MonE (wM ty k ta tas) := fun ρ Q Q' E E' h he q =>
  ha ρ _ _ E E' (fun t ρ1 ⟨h1, q1⟩ => ⟨h1, hs ρ1 _ _ E E' (fun ts ρ2 q2 => hk _ _ _ _ _ h q2) he q1⟩) he q
theorem le_bm {e' : Expr} {S : String} {ty : Rho → T → Prop} {r : V → List V → Hp → VK → Prop} {k : KM} (hp : ∀ to t, PE X o to → PA X es t → PE X e' (tBM X.K S r to t)) (hty : TyK X.K ty S) (hk : MonM k) (hf : MK X.K r k) (ho : LE X o ta) (ha : LA X es tas) : LE X e' (wM ty k ta tas) := by
  refine ⟨wM_mono hk ho.mono ha.mono, fun C W n hC hn tk => (hp _ _ (ho.run C W n hC hn tk) (ha.run C W (n + 1) hC (by omega) tk)).imp fun σ H Q ⟨O, ρ, R, q⟩ => ?_⟩
  refine ⟨O, ρ, R, ho.mono ρ _ _ _ _ (fun t ρ1 ⟨h1, q1⟩ => ?_) (fun _ _ z => z) q⟩
  intro v H1 O1 R1 F1 V1
  refine ⟨hty C n _ σ H1 O1 ρ1 t v R1 V1 h1, O1, ρ1, R1, ha.mono ρ1 _ _ _ _ (fun ts ρ2 q2 => ?_) (fun c ρ' z => exK.on F1.fre c ρ' z) q1⟩
  intro vs H2 O2 R2 F2 V2
  exact hf C n _ σ H H2 O O2 ρ2 t ts v vs Q hn (Nat.le_refl _) R2 (F1.trans F2 (Nat.le_succ n)) (V1.carry hn R1.lt R1.nt F2) V2 q2
theorem le_bm0 {e' : Expr} {S : String} {ty : Rho → T → Prop} {r : V → List V → Hp → VK → Prop} {k : KM} (hp : ∀ to, PE X o to → PE X e' (tBM0 X.K S r to)) (hty : TyK X.K ty S) (hk : MonM k) (hf : MK X.K r k) (ho : LE X o ta) : LE X e' (wM ty k ta wNil) := by
  refine ⟨wM_mono hk ho.mono (la_nil (X := X)).mono, fun C W n hC hn tk => (hp _ (ho.run C W n hC hn tk)).imp fun σ H Q ⟨O, ρ, R, q⟩ => ?_⟩
  refine ⟨O, ρ, R, ho.mono ρ _ _ _ _ (fun t ρ1 ⟨h1, q1⟩ => ?_) (fun _ _ z => z) q⟩
  intro v H1 O1 R1 F1 V1
  exact ⟨hty C n _ σ H1 O1 ρ1 t v R1 V1 h1, hf C n _ σ H H1 O O1 ρ1 t [] v [] Q hn (Nat.le_refl _) R1 F1 V1 .nil q1⟩
/-- behind a change of a flat list: a scalar is handed on -/
theorem Fin.updL {K : PySem.W.Frag} {C : Ctx} {n m : Nat} {σ : St} {H0 H : Hp} {O0 O : Own} {Q : VK} {ρ : Rho} {r : Nat} {p : List Nat} {ad : Addr} {ds ds' : List PyData} {ws' : List V} {x : PyData} {v : V} (hn : C.N ≤ n) (R : Rel K C m σ H O ρ) (F : Frm C.N n H0 O0 H O)
    (g : getT ρ r p = some (.l (ds.map T.d))) (ha : O ad = .at r p) (hz : RpAll K (msk (cut n O) H) ws' ds') (q : Fin K C n σ H0 O0 Q (.d x) (putAt ρ r p (.l (ds'.map T.d)))) (s : Rp K (msk (cut n O) H) v x) : Q v (upd H ad (.lst ws')) := by
  obtain ⟨R', F'⟩ := relUpdL R hn g ha hz
  have hr : r < C.N := let ⟨_, e, _⟩ := getT_some g; R.slt e
  refine q v _ _ (R'.up (Nat.le_succ _)) (F.trans F' (Nat.le_refl _)) (R'.val_d (Rp.mono (fun b o z => ?_) _ _ s))
  obtain ⟨z1, z2⟩ := msk_some z
  have : b ≠ ad := fun e => by subst e; rw [cut_at.mpr ⟨ha, Nat.lt_of_lt_of_le hr hn⟩] at z1; cases z1
  rw [msk_of z1, upd_ne this]
  exact z2
theorem flat_of {K : PySem.W.Frag} {C : Ctx} {n m : Nat} {σ : St} {H : Hp} {O : Own} {ρ : Rho} {r : Nat} {p : List Nat} {v : V} {ds : List PyData} (R : Rel K C m σ H O ρ) (V1 : Val K H O n v (.a r p)) (g : getT ρ r p = some (.l (ds.map T.d))) (hn : C.N ≤ n) :
    ∃ ad ws, v = .ref ad ∧ O ad = .at r p ∧ H ad = some (.lst ws) ∧ RpAll K (msk (cut n O) H) ws ds := by
  obtain ⟨⟨ad, rfl, e, _⟩, _⟩ := V1
  have tr := R.alias g rfl e
  cases tr with
  | l _ h2 h3 =>
    refine ⟨ad, _, rfl, e, h2, RpAll.mono (fun b o z => ?_) _ _ (TrAll.data h3)⟩
    obtain ⟨z1, z2⟩ := msk_some z
    rw [msk_of (cut_free z1)]; exact z2
def kApp : KM := fun t ts ρ Q => ∃ r p, ∃ ds : List PyData, ∃ t2 y, t = .a r p ∧ ts = [t2] ∧ getT ρ r p = some (.l (ds.map T.d)) ∧ erase t2 = some y ∧ ds.length < sizeLine ∧ Q (.d .none) (putAt ρ r p (.l ((ds ++ [y]).map T.d)))
theorem mk_app : MK X.K rAppend kApp := by
  rintro C n m σ H0 H O0 O ρ t ts v vs Q hn hm R F V1 V2 ⟨r, p, ds, t2, y, rfl, rfl, g, e, l, q⟩
  obtain ⟨ad, ws, rfl, ha, h1, h2⟩ := flat_of R V1 g hn
  obtain ⟨w, rfl, V3⟩ := V2.one
  exact ⟨ad, ws, w, rfl, rfl, h1, by rw [h2.length]; exact l, Fin.updL hn R F g ha (h2.append (.cons (V3.asD (Nat.le_succ _) e) .nil)) q .non⟩
def kExt : KM := fun t ts ρ Q => ∃ r p, ∃ ds : List PyData, ∃ t2 ys, t = .a r p ∧ ts = [t2] ∧ getT ρ r p = some (.l (ds.map T.d)) ∧ lsq ρ t2 = some ys ∧ ds.length + ys.length ≤ sizeLine ∧ Q (.d .none) (putAt ρ r p (.l ((ds ++ ys).map T.d)))
theorem mk_ext : MK X.K rExtend kExt := by
  rintro C n m σ H0 H O0 O ρ t ts v vs Q hn hm R F V1 V2 ⟨r, p, ds, t2, y, rfl, rfl, g, e, l, q⟩
  obtain ⟨ad, ws, rfl, ha, h1, h2⟩ := flat_of R V1 g hn
  obtain ⟨w, rfl, V3⟩ := V2.one
  obtain ⟨b, zs, rfl, h3, h4⟩ := R.lsqV V3 e
  refine ⟨ad, b, ws, zs, rfl, rfl, h1, h3, by rw [h2.length, h4.length]; exact l, Fin.updL hn R F g ha (h2.append (RpAll.mono (fun b o z => ?_) _ _ h4)) q .non⟩
  obtain ⟨z1, z2⟩ := msk_some z
  rw [msk_of (cut_free z1)]; exact z2
def kPopAt : KM := fun t ts ρ Q => ∃ r p, ∃ ds : List PyData, ∃ i k y, t = .a r p ∧ ts = [.d (.int i)] ∧ getT ρ r p = some (.l (ds.map T.d)) ∧ -(2 ^ 63) ≤ i ∧ i < 2 ^ 63 ∧ seqIndex? i ds.length = some k ∧ ds[k]? = some y ∧ Q (.d y) (putAt ρ r p (.l ((ds.eraseIdx k).map T.d)))
theorem mk_popAt : MK X.K rPopAt kPopAt := by
  rintro C n m σ H0 H O0 O ρ t ts v vs Q hn hm R F V1 V2 ⟨r, p, ds, i, k, y, rfl, rfl, g, e1, e2, e3, e, q⟩
  obtain ⟨ad, ws, rfl, ha, h1, h2⟩ := flat_of R V1 g hn
  obtain ⟨w, rfl, V3⟩ := V2.one
  rw [rp_int (val_d V3)]
  obtain ⟨w', h3, h4⟩ := h2.get e
  exact ⟨ad, ws, i, k, w', rfl, rfl, h1, e1, e2, by rw [h2.length]; exact e3, h3, Fin.updL hn R F g ha (h2.eraseIdx k) q h4⟩
def kRev : KM := fun t ts ρ Q => ∃ r p, ∃ ds : List PyData, t = .a r p ∧ ts = [] ∧ getT ρ r p = some (.l (ds.map T.d)) ∧ Q (.d .none) (putAt ρ r p (.l (ds.reverse.map T.d)))
theorem mk_rev : MK X.K rReverse kRev := by
  rintro C n m σ H0 H O0 O ρ t ts v vs Q hn hm R F V1 V2 ⟨r, p, ds, rfl, rfl, g, q⟩
  obtain ⟨ad, ws, rfl, ha, h1, h2⟩ := flat_of R V1 g hn
  cases V2
  exact ⟨ad, ws, rfl, rfl, h1, Fin.updL hn R F g ha h2.reverse q .non⟩
def kIns : KM := fun t ts ρ Q => ∃ r p, ∃ ds : List PyData, ∃ i t2 y, t = .a r p ∧ ts = [.d (.int i), t2] ∧ getT ρ r p = some (.l (ds.map T.d)) ∧ erase t2 = some y ∧ ds.length < sizeLine ∧ 0 ≤ i ∧ i < 2 ^ 63 ∧ Q (.d .none) (putAt ρ r p (.l ((ds.take i.toNat ++ [y] ++ ds.drop i.toNat).map T.d)))
/-- xs.index(x): the first place -/
def kIdx : KM := fun t ts ρ Q => ∃ t2, ∃ ds : List PyData, ∃ y j z, ts = [t2] ∧ vw ρ t = some (.list ds) ∧ vw ρ t2 = some y ∧ SeqAt.shaped (.list ds) = true ∧ SeqAt.shaped y = true ∧ ds[j]? = some z ∧ PyData.eqv z y = true ∧ (∀ (m : Nat) (z' : PyData), m < j → ds[m]? = some z' → PyData.eqv z' y = false) ∧ Q (.d (.int (j : Nat))) ρ
mutual
theorem Rp.dp {K : PySem.W.Frag} {H : Hp} : ∀ (d : PyData) (v : V), d.canLay0 = true → Rp K H v d → Dp K H v d
  | .none, _, _, h => by cases h; exact .non
  | .bool b, _, _, h => by cases h; exact .bl b
  | .int i, _, _, h => by cases h; exact .int i
  | .str x, _, _, h => by cases h; exact .str x
  | .list ds, _, e, h => by cases h with | lst h1 h2 => exact .lst (.of h1) (RpAll.dp ds _ (by simpa [PyData.canLay0] using e) h2)
  | .tuple ds, _, e, h => by cases h with | tup h1 h2 => exact .tup (.of h1) (RpAll.dp ds _ (by simpa [PyData.canLay0] using e) h2)
  | .dict _, _, e, h => by simp [PyData.canLay0] at e
theorem RpAll.dp {K : PySem.W.Frag} {H : Hp} : ∀ (ds : List PyData) (vs : List V), PyData.canLayAll0 ds = true → RpAll K H vs ds → DpAll K H vs ds
  | [], _, _, h => by cases h; exact .nil
  | d :: ds, _, e, h => by
    cases h with
    | cons h1 h2 =>
      simp [PyData.canLayAll0] at e
      exact .cons (Rp.dp d _ e.1 h1) (RpAll.dp ds _ e.2 h2)
end
theorem mk_idx : MK X.K (rIndexD X.K) kIdx := by
  rintro C n m σ H0 H O0 O ρ t ts v vs Q hn hm R F V1 V2 ⟨t2, ds, y, j, z, rfl, e1, e2, s1, s2, e3, e4, e5, q⟩
  obtain ⟨w, rfl, V3⟩ := V2.one
  have r1 := R.viewH V1 e1
  have r2 := R.viewH V3 e2
  obtain ⟨ad, rfl⟩ : ∃ ad, v = .ref ad := by cases r1; exact ⟨_, rfl⟩
  exact ⟨ad, w, y, ds, j, z, rfl, rfl, Rp.dp _ _ (SeqAt.canLay_of_shaped s1) r1, Rp.dp _ _ (SeqAt.canLay_of_shaped s2) r2, s1, s2, e3, e4, e5, Fin.sc hn R F q (.int _)⟩
variable {apos : Pos}
theorem mon_app : MonM kApp := fun t ts ρ Q Q' h ⟨a, b, c, d, e, h1, h2, h3, h4, h5, q⟩ => ⟨a, b, c, d, e, h1, h2, h3, h4, h5, h _ _ q⟩
theorem mon_ext : MonM kExt := fun t ts ρ Q Q' h ⟨a, b, c, d, e, h1, h2, h3, h4, h5, q⟩ => ⟨a, b, c, d, e, h1, h2, h3, h4, h5, h _ _ q⟩
theorem mon_popAt : MonM kPopAt := fun t ts ρ Q Q' h ⟨a, b, c, d, e, f, h1, h2, h3, h4, h5, h6, h7, q⟩ => ⟨a, b, c, d, e, f, h1, h2, h3, h4, h5, h6, h7, h _ _ q⟩
theorem mon_rev : MonM kRev := fun t ts ρ Q Q' h ⟨a, b, c, h1, h2, h3, q⟩ => ⟨a, b, c, h1, h2, h3, h _ _ q⟩
theorem mon_idx : MonM kIdx := fun t ts ρ Q Q' h ⟨a, b, c, d, e, h1, h2, h3, h4, h5, h6, h7, h8, q⟩ => ⟨a, b, c, d, e, h1, h2, h3, h4, h5, h6, h7, h8, h _ _ q⟩
end
end TX

/-! Statements, targets, loops over trees. -/
namespace TX
open PySem PySem.Spec L2

structure EndsT where
  nx : Rho → Prop
  rt : T → Rho → Prop
  bk : Rho → Prop := fun _ => False
  ct : Rho → Prop := fun _ => False
  ex : ExK := fun _ _ => False
abbrev TwS := EndsT → Rho → Prop
structure LeD (D D' : EndsT) : Prop where
  nx : ∀ ρ, D.nx ρ → D'.nx ρ
  rt : ∀ t ρ, D.rt t ρ → D'.rt t ρ
  bk : ∀ ρ, D.bk ρ → D'.bk ρ
  ct : ∀ ρ, D.ct ρ → D'.ct ρ
  ex : ∀ c ρ, D.ex c ρ → D'.ex c ρ
def nxK (K : PySem.W.Frag) (C : Ctx) (H : Hp) (O : Own) (q : St → Hp → Prop) : Rho → Prop := fun ρ' => ∀ σ' H' O', Rel K C C.N σ' H' O' ρ' → Fre H O H' O' → q σ' H'
def rtK (K : PySem.W.Frag) (C : Ctx) (H : Hp) (O : Own) (q : VK) : T → Rho → Prop := fun t ρ' => ∀ v σ' H' O', Rel K C (C.N + 1) σ' H' O' ρ' → Fre H O H' O' → Val K H' O' C.N v t → q v H'
def enK (K : PySem.W.Frag) (C : Ctx) (W : WX) (H : Hp) (O : Own) (D : Ends) : EndsT := ⟨nxK K C H O D.nx, rtK K C H O D.rt, nxK K C H O D.bk, nxK K C H O D.ct, exK K C W H O⟩
def lfS (K : PySem.W.Frag) (C : Ctx) (W : WX) (tw : TwS) : TS := fun D σ H => ∃ O ρ, Rel K C C.N σ H O ρ ∧ tw (enK K C W H O D) ρ
def MonS (tw : TwS) : Prop := ∀ D D' ρ, LeD D D' → tw D ρ → tw D' ρ
structure LS (X : Cx) (io : List Nat) (st : Stmt) (tw : TwS) : Prop where
  mono : MonS tw
  run : ∀ (C : Ctx) (W : WX), C.N = X.N.length → C.io = io → Takes X W → PassesOwn (model X.prog X.w) X.A X.env X.xe → PS X st (lfS X.K C W tw)
structure LSs (X : Cx) (io : List Nat) (st : List Stmt) (tw : TwS) : Prop where
  mono : MonS tw
  run : ∀ (C : Ctx) (W : WX), C.N = X.N.length → C.io = io → Takes X W → PassesOwn (model X.prog X.w) X.A X.env X.xe → PSs X st (lfS X.K C W tw)
section
variable {K : PySem.W.Frag} {C : Ctx} {W : WX} {H H1 : Hp} {O O1 : Own}
theorem nxK.on (f : Fre H O H1 O1) {q : St → Hp → Prop} (ρ : Rho) (h : nxK K C H O q ρ) : nxK K C H1 O1 q ρ := fun σ' H' O' R F => h σ' H' O' R (f.trans F)
theorem rtK.on (f : Fre H O H1 O1) {q : VK} (t : T) (ρ : Rho) (h : rtK K C H O q t ρ) : rtK K C H1 O1 q t ρ := fun v σ' H' O' R F V => h v σ' H' O' R (f.trans F) V
theorem enK.on (f : Fre H O H1 O1) (D : Ends) : LeD (enK K C W H O D) (enK K C W H1 O1 D) := ⟨fun ρ => nxK.on f ρ, fun t ρ => rtK.on f t ρ, fun ρ => nxK.on f ρ, fun ρ => nxK.on f ρ, fun c ρ => exK.on f c ρ⟩
theorem fre_cut (n : Nat) : Fre H O H (cut n O) := fun _ _ e1 e2 => ⟨e1, cut_free e2⟩
end

section
variable {X : Cx} {io : List Nat} {st : Stmt} {rest : List Stmt} {t u : TwS} {a b c e o i' : Expr} {es : List Expr} {ta tb tc : TwE} {tas : TwA} {tt : TwT} {pos : Pos}
/-! ### blocks -/
def wNext : TwS := fun D ρ => D.nx ρ
def wSeq (t u : TwS) : TwS := fun D ρ => t { D with nx := u D } ρ
theorem lss_nil : LSs X io [] wNext := ⟨fun D D' ρ l q => l.nx _ q, fun C W hC hio tk hp => pss_nil.imp fun D σ H ⟨O, ρ, R, q⟩ => q σ H O R .refl⟩
theorem wSeq_mono (ht : MonS t) (hu : MonS u) : MonS (wSeq t u) := fun D D' ρ l q => ht { D with nx := u D } { D' with nx := u D' } ρ ⟨fun ρ q => hu _ _ _ l q, l.rt, l.bk, l.ct, l.ex⟩ q
theorem lss_cons (h1 : LS X io st t) (h2 : LSs X io rest u) : LSs X io (st :: rest) (wSeq t u) := by
  refine ⟨wSeq_mono h1.mono h2.mono, fun C W hC hio tk hp => (pss_cons (h1.run C W hC hio tk hp) (h2.run C W hC hio tk hp)).imp fun D σ H ⟨O, ρ, R, q⟩ => ?_⟩
  refine ⟨O, ρ, R, h1.mono { enK X.K C W H O D with nx := u (enK X.K C W H O D) } _ ρ ⟨fun ρ1 q1 => ?_, fun _ _ z => z, fun _ z => z, fun _ z => z, fun _ _ z => z⟩ q⟩
  intro σ1 H1 O1 R1 F1
  exact ⟨O1, ρ1, R1, h2.mono _ _ ρ1 (enK.on F1 D) q1⟩
theorem lss_one (h1 : LS X io st t) : LSs X io [st] t := ⟨h1.mono, fun C W hC hio tk hp => pss_one (h1.run C W hC hio tk hp)⟩
def wNever : TwS := fun _ _ => False
theorem ls_never : LS X io st wNever := ⟨fun _ _ _ _ q => q.elim, fun C W hC hio tk hp => ps_never.imp fun D σ H ⟨O, ρ, R, q⟩ => q.elim⟩
/-- an expression whose value is dropped -/
def wDrop (ta : TwE) : TwS := fun D ρ => ta ρ (fun _ ρ1 => D.nx ρ1) D.ex
theorem ls_expr (he : LE X e ta) (hs : swapsWith e none pos.line X.env = pure false := by rfl) : LS X io (.Expr e pos) (wDrop ta) := by
  refine ⟨fun D D' ρ l q => he.mono ρ _ _ _ _ (fun _ ρ1 q => l.nx _ q) l.ex q, fun C W hC hio tk hp => (ps_expr (he.run C W C.N hC (Nat.le_refl _) tk) hs).imp fun D σ H ⟨O, ρ, R, q⟩ => ?_⟩
  refine ⟨O, ρ, R, he.mono ρ _ _ _ _ (fun t ρ1 q => ?_) (fun _ _ z => z) q⟩
  intro v H1 O1 R1 F1 V1
  exact q σ H1 _ (R1.cut (Nat.le_refl _)) (F1.fre.trans (fre_cut _))
/-- return e: the value a tree (no place) -/
def wRet (ta : TwE) : TwS := fun D ρ => ta ρ (fun t ρ1 => D.rt t ρ1) D.ex
theorem ls_ret (he : LE X e ta) : LS X io (.Return (some e) pos) (wRet ta) := by
  refine ⟨fun D D' ρ l q => he.mono ρ _ _ _ _ (fun t ρ1 q => l.rt _ _ q) l.ex q, fun C W hC hio tk hp => (ps_ret (he.run C W C.N hC (Nat.le_refl _) tk)).imp fun D σ H ⟨O, ρ, R, q⟩ => ?_⟩
  refine ⟨O, ρ, R, he.mono ρ _ _ _ _ (fun t ρ1 q => ?_) (fun _ _ z => z) q⟩
  intro v H1 O1 R1 F1 V1
  exact q v σ H1 O1 R1 F1.fre V1
def wIfS (tt : TwT) (t u : TwS) : TwS := fun D ρ => tt ρ (fun b ρ1 => if b = true then t D ρ1 else u D ρ1) D.ex
theorem ls_if {sa sb : List Stmt} (hc : LT X c tt) (ha : LSs X io sa t) (hb : LSs X io sb u) : LS X io (.If c sa sb pos) (wIfS tt t u) := by
  refine ⟨fun D D' ρ l q => hc.mono ρ _ _ _ _ (fun b ρ1 q => ?_) l.ex q, fun C W hC hio tk hp => (ps_if (hc.run C W C.N hC (Nat.le_refl _) tk) (ha.run C W hC hio tk hp) (hb.run C W hC hio tk hp)).imp fun D σ H ⟨O, ρ, R, q⟩ => ?_⟩
  · cases b with
    | true => exact ha.mono _ _ _ l q
    | false => exact hb.mono _ _ _ l q
  · refine ⟨O, ρ, R, hc.mono ρ _ _ _ _ (fun b ρ1 q => ?_) (fun _ _ z => z) q⟩
    intro H1 O1 R1 F1
    cases b with
    | true => exact ⟨O1, ρ1, R1, ha.mono _ _ _ (enK.on F1.fre D) q⟩
    | false => exact ⟨O1, ρ1, R1, hb.mono _ _ _ (enK.on F1.fre D) q⟩
end

/-! ### a slot is stored -/
section
variable {K : PySem.W.Frag} {C : Ctx} {n m : Nat} {σ : St} {H H' : Hp} {O O' : Own} {ρ : Rho}
theorem set_get {α : Type} {l : List α} {i j : Nat} {x : α} (hi : i < l.length) : (l.set i x)[j]? = if j = i then some x else l[j]? := by
  by_cases e : j = i
  · subst e; rw [if_pos rfl]; exact List.getElem?_set_self hi
  · rw [if_neg e]; exact List.getElem?_set_ne (fun z => e z.symm)
/-- slot i takes a value without places of its own -/
theorem relStore (R : Rel K C n σ H O ρ) {i : Nat} (hi : i < C.N) (hio : ∀ b p, C.O0 b ≠ .at i p) {v : V} {t : T} (h : Tr K H (dropR i O) i [] v t) (hn : isNode t = false) : Rel K C n (σ.set i (some v)) H (dropR i O) (ρ.set i (some t)) := by
  have hl : i < σ.length := by rw [R.ln]; exact hi
  have hl' : i < ρ.length := by rw [R.lr]; exact hi
  refine ⟨fun b o e1 e2 => ?_, fun b z => R.nt b fun q => z (dropR_free q), fun b r p e => R.lt b r p (dropR_at.mp e).1, fun a b r p e1 e2 => R.inj a b r p (dropR_at.mp e1).1 (dropR_at.mp e2).1, fun b r p e l => ?_, by rw [List.length_set]; exact R.ln, by rw [List.length_set]; exact R.lr,
    fun j u e => ?_, R.hN, fun b e => R.fo b (dropR_foreign.mp e), fun b j p e => ?_, R.sm⟩
  · obtain ⟨z1, z2⟩ := R.fr b o e1 e2
    refine ⟨z1, ?_⟩
    rcases e2 with e2 | e2
    · rw [e2] at z2 ⊢; exact dropR_free z2
    · rw [e2] at z2 ⊢; exact dropR_foreign.mpr z2
  · obtain ⟨e1, e2⟩ := dropR_at.mp e
    obtain ⟨t', z, h1, h2, h3⟩ := R.val b r p e1 l
    exact ⟨t', z, by rw [set_get hl', if_neg e2]; exact h1, h2, h3⟩
  · rw [set_get hl'] at e
    by_cases hj : j = i
    · subst hj
      rw [if_pos rfl] at e
      cases e
      exact ⟨v, by rw [set_get hl, if_pos rfl], h⟩
    · rw [if_neg hj] at e
      obtain ⟨w, h2, h3⟩ := R.sl j u e
      exact ⟨w, by rw [set_get hl, if_neg hj]; exact h2, Tr.move (r' := j) (p0 := []) (p1 := []) (fun b o e1 e2 => ⟨e1, dropR_free e2⟩) (fun b o q e1 e2 => ⟨e1, dropR_at.mpr ⟨e2, hj⟩⟩) u [] w h3⟩
  · obtain ⟨z1, z2⟩ := R.pz b j p e
    exact ⟨z1, dropR_at.mpr ⟨z2, fun z => hio b p (z ▸ e)⟩⟩
theorem fre_drop (i : Nat) : Fre H O H (dropR i O) := fun _ _ e1 e2 => ⟨e1, dropR_free e2⟩
theorem no_io (R : Rel K C n σ H O ρ) {i : Nat} (hio : i ∉ C.io) : ∀ b p, C.O0 b ≠ .at i p := fun b p e => hio (R.sm.2 b i p e)
def noNdB (ρ : Rho) (i : Nat) : Bool := match ρ[i]? with
  | some (some t) => !isNode t
  | _ => true
theorem no_nd (R : Rel K C n σ H O ρ) {i : Nat} (h : noNdB ρ i = true) : ∀ b p, C.O0 b ≠ .at i p := fun b p e => by
  obtain ⟨h1, h2⟩ := R.pz b i p e
  obtain ⟨t, z, e1, e2, e3⟩ := R.val b i p h2 h1
  unfold noNdB at h
  rw [e1] at h
  cases t with
  | d x => cases p <;> simp [subT, kid] at e2; subst e2; cases e3
  | raw x => cases p <;> simp [subT, kid] at e2; subst e2; cases e3
  | fz x => cases p <;> simp [subT, kid] at e2; subst e2; cases e3
  | lk x y z => cases p <;> simp [subT, kid] at e2; subst e2; cases e3
  | a x y => cases p <;> simp [subT, kid] at e2; subst e2; cases e3
  | _ => simp [isNode] at h
theorem relStoreD (R : Rel K C n σ H O ρ) {i : Nat} (hi : i < C.N) (hio : ∀ b p, C.O0 b ≠ .at i p) {v : V} {x : PyData} (h : Rp K (msk O H) v x) : Rel K C n (σ.set i (some v)) H (dropR i O) (ρ.set i (some (.d x))) :=
  relStore R hi hio (.d (Rp.mono (fun b o e => by obtain ⟨e1, e2⟩ := msk_some e; rw [msk_of (dropR_free e1)]; exact e2) _ _ h)) rfl
/-- slot i takes a tree on the way -/
theorem relStoreT (R : Rel K C (C.N + 1) σ H O ρ) {i : Nat} (hi : i < C.N) (hio : i ∉ C.io) {v : V} {t : T} (V1 : Val K H O C.N v t) (ha : ∀ r p, t ≠ .a r p) :
    ∃ O', Rel K C C.N (σ.set i (some v)) H O' (ρ.set i (some t)) ∧ Fre H O H O' := by
  have hl : i < σ.length := by rw [R.ln]; exact hi
  have hl' : i < ρ.length := by rw [R.lr]; exact hi
  have tr : Tr K H O C.N [] v t ∧ ∀ b p, O b = .at C.N p → ∃ z, subT t p = some z ∧ isNode z = true := by
    cases t with
    | a r p => exact absurd rfl (ha r p)
    | _ => exact V1
  obtain ⟨V2, V3⟩ := tr
  have hne : C.N ≠ i := Nat.ne_of_gt hi
  -- the labels behind
  have up : ∀ {b : Addr} {r : Nat} {p : List Nat}, O b = .at r p → r ≠ i → r ≠ C.N → mvR C.N i (dropR i O) b = .at r p := fun {b r p} e1 e2 e3 => mvR_ne (dropR_at.mpr ⟨e1, e2⟩) e3
  have upN : ∀ {b : Addr} {p : List Nat}, O b = .at C.N p → mvR C.N i (dropR i O) b = .at i p := fun {b p} e => mvR_root (dropR_at.mpr ⟨e, hne⟩)
  have dn : ∀ {b : Addr} {r : Nat} {p : List Nat}, mvR C.N i (dropR i O) b = .at r p → (r = i ∧ O b = .at C.N p) ∨ (r ≠ i ∧ r ≠ C.N ∧ O b = .at r p) := fun {b r p} e => by
    rcases mvR_at e with ⟨h1, h2⟩ | ⟨h1, h2⟩
    · exact .inl ⟨h1, (dropR_at.mp h2).1⟩
    · exact .inr ⟨(dropR_at.mp h2).2, h1, (dropR_at.mp h2).1⟩
  have fr : ∀ {b : Addr}, O b = .free → mvR C.N i (dropR i O) b = .free := fun {b} e => mvR_free.mpr (dropR_free e)
  have ff : ∀ {b : Addr}, O b = .foreign ↔ mvR C.N i (dropR i O) b = .foreign := fun {b} => by rw [mvR_foreign, dropR_foreign]
  refine ⟨mvR C.N i (dropR i O), ⟨fun b o e1 e2 => ?_, fun b z => R.nt b fun q => z (fr q), fun b r p e => ?_, fun a b r p e1 e2 => ?_, fun b r p e l => ?_, by rw [List.length_set]; exact R.ln, by rw [List.length_set]; exact R.lr,
    fun j u e => ?_, Nat.le_refl _, fun b e => R.fo b (ff.mpr e), fun b j p e => ?_, R.sm⟩, fun b o e1 e2 => ⟨e1, fr e2⟩⟩
  · obtain ⟨z1, z2⟩ := R.fr b o e1 e2
    refine ⟨z1, ?_⟩
    rcases e2 with e2 | e2
    · rw [e2] at z2 ⊢; exact fr z2
    · rw [e2] at z2 ⊢; exact ff.mp z2
  · rcases dn e with ⟨rfl, _⟩ | ⟨_, h2, h3⟩
    · exact hi
    · have := R.lt b r p h3; omega
  · rcases dn e1 with ⟨h1, h2⟩ | ⟨h1, _, h2⟩ <;> rcases dn e2 with ⟨h3, h4⟩ | ⟨h3, _, h4⟩
    · exact R.inj a b _ _ h2 h4
    · exact absurd h1 h3
    · exact absurd h3 h1
    · exact R.inj a b _ _ h2 h4
  · rcases dn e with ⟨rfl, h2⟩ | ⟨h1, _, h2⟩
    · obtain ⟨z, z1, z2⟩ := V3 b p h2
      exact ⟨t, z, by rw [set_get hl', if_pos rfl], z1, z2⟩
    · obtain ⟨t', z, g1, g2, g3⟩ := R.val b r p h2 l
      exact ⟨t', z, by rw [set_get hl', if_neg h1]; exact g1, g2, g3⟩
  · rw [set_get hl'] at e
    by_cases hj : j = i
    · subst hj
      rw [if_pos rfl] at e
      cases e
      exact ⟨v, by rw [set_get hl, if_pos rfl], Tr.move (r' := j) (p0 := []) (p1 := []) (fun b o e1 e2 => ⟨e1, fr e2⟩) (fun b o q e1 e2 => ⟨e1, upN e2⟩) t [] v V2⟩
    · rw [if_neg hj] at e
      obtain ⟨w, h2, h3⟩ := R.sl j u e
      have : j < C.N := by have := (List.getElem?_eq_some_iff.mp e).1; rw [R.lr] at this; exact this
      exact ⟨w, by rw [set_get hl, if_neg hj]; exact h2, Tr.move (r' := j) (p0 := []) (p1 := []) (fun b o e1 e2 => ⟨e1, fr e2⟩) (fun b o q e1 e2 => ⟨e1, up e2 hj (Nat.ne_of_lt this)⟩) u [] w h3⟩
  · obtain ⟨z1, z2⟩ := R.pz b j p e
    exact ⟨z1, up z2 (fun z => hio (z ▸ R.sm.2 b j p e)) (Nat.ne_of_lt z1)⟩
end

section
variable {X : Cx} {io : List Nat} {st : Stmt} {rest : List Stmt} {t u : TwS} {a b c e o i' : Expr} {es : List Expr} {ta tb tc : TwE} {tas : TwA} {tt : TwT} {pos pos' : Pos}
theorem nlt {X : Cx} {C : Ctx} {i : Nat} {x : Str} (hC : C.N = X.N.length) (hi : X.N[i]? = some x) : i < C.N := by rw [hC]; exact (List.getElem?_eq_some_iff.mp hi).1
/-- x = e: a tree of its own | data -/
def wSet (i : Nat) (ta : TwE) : TwS := fun D ρ => ta ρ (fun t ρ1 => (∀ r p, t ≠ .a r p) ∧ D.nx (ρ1.set i (some t))) D.ex
theorem ls_set {i : Nat} {x : Str} (hN : X.N.Nodup) (hi : X.N[i]? = some x) (hx : Loc X.env.scope x) (he : LE X e ta) (hio : i ∉ io := by decide) (hs : swapsWith e (some (.Name x pos')) pos.line X.env = pure false := by rfl) (hf : X.fn x = true ∨ X.env.scope.names.lookup x = some .local := by first | exact .inl rfl | exact .inr rfl | assumption) :
    LS X io (.Assign [.Name x pos'] e pos) (wSet i ta) := by
  refine ⟨fun D D' ρ l q => he.mono ρ _ _ _ _ (fun t ρ1 ⟨h, q⟩ => ⟨h, l.nx _ q⟩) l.ex q, fun C W hC hio' tk hp => (ps_set hN hi hx (he.run C W C.N hC (Nat.le_refl _) tk) hs hf).imp fun D σ H ⟨O, ρ, R, q⟩ => ?_⟩
  refine ⟨O, ρ, R, he.mono ρ _ _ _ _ (fun t ρ1 ⟨ha, q⟩ => ?_) (fun _ _ z => z) q⟩
  intro v H1 O1 R1 F1 V1
  obtain ⟨O', R', F'⟩ := relStoreT R1 (nlt hC hi) (by rw [hio']; exact hio) V1 ha
  exact q _ H1 O' R' (F1.fre.trans F')
/-- return of a name that holds a tree of its own: the tree itself -/
def wRetV (i : Nat) : TwS := fun D ρ => ∃ t, ρ[i]? = some (some t) ∧ D.rt t (ρ.set i none)
theorem relTake {K : PySem.W.Frag} {C : Ctx} {σ : St} {H : Hp} {O : Own} {ρ : Rho} (R : Rel K C C.N σ H O ρ) {i : Nat} (hio : i ∉ C.io) {t : T} {v : V} (e : ρ[i]? = some (some t)) (hv : σ[i]? = some (some v)) (tr : Tr K H O i [] v t) :
    ∃ O', Rel K C (C.N + 1) σ H O' (ρ.set i none) ∧ Fre H O H O' ∧ Val K H O' C.N v t := by
  have hi : i < C.N := R.slt e
  have hl' : i < ρ.length := by rw [R.lr]; exact hi
  have hne : i ≠ C.N := Nat.ne_of_lt hi
  have up : ∀ {b : Addr} {r : Nat} {p : List Nat}, O b = .at r p → r ≠ i → mvR i C.N O b = .at r p := fun e1 e2 => mvR_ne e1 e2
  have upN : ∀ {b : Addr} {p : List Nat}, O b = .at i p → mvR i C.N O b = .at C.N p := fun e => mvR_root e
  have dn : ∀ {b : Addr} {r : Nat} {p : List Nat}, mvR i C.N O b = .at r p → (r = C.N ∧ O b = .at i p) ∨ (r ≠ i ∧ r < C.N ∧ O b = .at r p) := fun {b r p} e => by
    rcases mvR_at e with ⟨h1, h2⟩ | ⟨h1, h2⟩
    · exact .inl ⟨h1, h2⟩
    · exact .inr ⟨h1, R.lt b r p h2, h2⟩
  have fr : ∀ {b : Addr}, O b = .free → mvR i C.N O b = .free := fun {b} e => mvR_free.mpr e
  have noA : ∀ r p, t ≠ .a r p := fun r p z => by subst z; cases tr
  refine ⟨mvR i C.N O, ⟨fun b o e1 e2 => ?_, fun b z => R.nt b fun q => z (fr q), fun b r p e => ?_, fun a b r p e1 e2 => ?_, fun b r p e l => ?_, R.ln, by rw [List.length_set]; exact R.lr,
    fun j u e => ?_, Nat.le_succ _, fun b e => R.fo b (mvR_foreign.mp e), fun b j p e => ?_, R.sm⟩, fun b o e1 e2 => ⟨e1, fr e2⟩, ?_⟩
  · obtain ⟨z1, z2⟩ := R.fr b o e1 e2
    refine ⟨z1, ?_⟩
    rcases e2 with e2 | e2
    · rw [e2] at z2 ⊢; exact fr z2
    · rw [e2] at z2 ⊢; exact mvR_foreign.mpr z2
  · rcases dn e with ⟨h1, _⟩ | ⟨_, h2, _⟩ <;> omega
  · rcases dn e1 with ⟨h1, h2⟩ | ⟨h1, h5, h2⟩ <;> rcases dn e2 with ⟨h3, h4⟩ | ⟨h3, h6, h4⟩
    · exact R.inj a b _ _ h2 h4
    · omega
    · omega
    · exact R.inj a b _ _ h2 h4
  · rcases dn e with ⟨h1, h2⟩ | ⟨h1, _, h2⟩
    · omega
    · obtain ⟨t', z, g1, g2, g3⟩ := R.val b r p h2 l
      exact ⟨t', z, by rw [set_get hl', if_neg h1]; exact g1, g2, g3⟩
  · rw [set_get hl'] at e
    by_cases hj : j = i
    · rw [if_pos hj] at e; cases e
    · rw [if_neg hj] at e
      obtain ⟨w, h2, h3⟩ := R.sl j u e
      exact ⟨w, h2, Tr.move (r' := j) (p0 := []) (p1 := []) (fun b o e1 e2 => ⟨e1, fr e2⟩) (fun b o q e1 e2 => ⟨e1, up e2 hj⟩) u [] w h3⟩
  · obtain ⟨z1, z2⟩ := R.pz b j p e
    exact ⟨z1, up z2 (fun z => hio (z ▸ R.sm.2 b j p e))⟩
  · have : Tr K H (mvR i C.N O) C.N [] v t ∧ ∀ b p, mvR i C.N O b = .at C.N p → ∃ z, subT t p = some z ∧ isNode z = true := by
      refine ⟨Tr.move (r' := C.N) (p0 := []) (p1 := []) (fun b o e1 e2 => ⟨e1, fr e2⟩) (fun b o q e1 e2 => ⟨e1, upN e2⟩) t [] v tr, fun b p e' => ?_⟩
      rcases dn e' with ⟨_, h2⟩ | ⟨_, h2, _⟩
      · obtain ⟨t', z, g1, g2, g3⟩ := R.val b i p h2 hi
        rw [e] at g1; cases g1
        exact ⟨z, g2, g3⟩
      · omega
    cases t with
    | a r p => exact absurd rfl (noA r p)
    | _ => exact this
theorem ls_retV {i : Nat} {x : Str} (hi : X.N[i]? = some x) (hv : Vis X.env.scope x) (hio : i ∉ io := by decide) (hd : (x == ("__debug__" : Str)) = false := by decide) (hcd : (x == ("__classdict__" : Str)) = false := by decide) : LS X io (.Return (some (.Name x pos')) pos) (wRetV i) := by
  refine ⟨fun D D' ρ l ⟨t, e, q⟩ => ⟨t, e, l.rt _ _ q⟩, fun C W hC hio' tk hp => (ps_ret (pe_var (i := i) hi hv hd hcd)).imp fun D σ H ⟨O, ρ, R, t, e, q⟩ => ?_⟩
  obtain ⟨v, h1, h2⟩ := R.sl i t e
  obtain ⟨O', R', F', V'⟩ := relTake R (by rw [hio']; exact hio) e h1 h2
  exact ⟨v, h1, q v σ H O' R' F' V'⟩
/-- from here on what a slot holds is shared (nothing happens in the program) -/
def wFrz (i : Nat) (t : TwS) : TwS := fun D ρ => ∃ u x, ρ[i]? = some (some u) ∧ erase u = some x ∧ t D (ρ.set i (some (.d x)))
theorem relFrz {K : PySem.W.Frag} {C : Ctx} {σ : St} {H : Hp} {O : Own} {ρ : Rho} (R : Rel K C C.N σ H O ρ) {i : Nat} (hio : i ∉ C.io) {t : T} {x : PyData} (e : ρ[i]? = some (some t)) (he : erase t = some x) :
    Rel K C C.N σ H (dropR i O) (ρ.set i (some (.d x))) := by
  obtain ⟨v, h1, h2⟩ := R.sl i t e
  have hi : i < C.N := R.slt e
  have rp : Rp K (msk (dropR i O) H) v x := Rp.mono (fun b o z => by
    unfold vis at z
    split at z
    · rename_i e1; rw [msk_of (dropR_free e1)]; exact z
    · cases z
    · rename_i r' p' e1
      split at z
      · rename_i e2
        rw [msk_of (by unfold dropR; rw [e1]; simp only; rw [if_pos e2])]; exact z
      · cases z) _ _ (Tr.view t [] v x he h2)
  have := relStore R hi (no_io R hio) (v := v) (t := .d x) (.d rp) rfl
  have es : σ.set i (some v) = σ := by
    refine List.ext_getElem? fun j => ?_
    rw [set_get (by rw [R.ln]; exact hi)]
    split
    · rename_i hj; subst hj; exact h1.symm
    · rfl
  rw [es] at this
  exact this
theorem ls_frz (i : Nat) (h : LS X io st t) (hio : i ∉ io := by decide) : LS X io st (wFrz i t) := by
  refine ⟨fun D D' ρ l ⟨u, x, e1, e2, q⟩ => ⟨u, x, e1, e2, h.mono _ _ _ l q⟩, fun C W hC hio' tk hp => (h.run C W hC hio' tk hp).imp fun D σ H ⟨O, ρ, R, u, x, e1, e2, q⟩ => ?_⟩
  exact ⟨dropR i O, _, relFrz R (by rw [hio']; exact hio) e1 e2, h.mono _ _ _ (enK.on (fre_drop i) D) q⟩

/-! ### targets that take data -/
abbrev TwG := PyData → Rho → (Rho → Prop) → ExK → Prop
/-- behind a target: what is shared, the values on the way, the places but those at the slots ss -/
structure FrmS (ss : List Nat) (N n : Nat) (H : Hp) (O : Own) (H' : Hp) (O' : Own) : Prop where
  fre : Fre H O H' O'
  pl : ∀ b r p, O b = .at r p → r < N → r ∉ ss → O' b = .at r p
  tm : ∀ b o r p, H b = some o → O b = .at r p → N ≤ r → r < n → H' b = some o ∧ O' b = .at r p
  nw : ∀ b r p, O' b = .at r p → N ≤ r → r < n → O b = .at r p
def MonG (tw : TwG) : Prop := ∀ x ρ (Q Q' : Rho → Prop) (E E' : ExK), (∀ ρ', Q ρ' → Q' ρ') → (∀ c ρ', E c ρ' → E' c ρ') → tw x ρ Q E → tw x ρ Q' E'
def lfG (K : PySem.W.Frag) (C : Ctx) (W : WX) (ss : List Nat) (n : Nat) (tw : TwG) : TG := fun v σ H Q => ∃ O ρ x, Rel K C n σ H O ρ ∧ Rp K (msk O H) v x ∧
  tw x ρ (fun ρ' => ∀ σ' H' O', Rel K C n σ' H' O' ρ' → FrmS ss C.N n H O H' O' → wipe σ' ss = wipe σ ss → Q σ' H') (exK K C W H O)
structure LG (X : Cx) (ss : List Nat) (tg : Expr) (tw : TwG) : Prop where
  mono : MonG tw
  run : ∀ (C : Ctx) (W : WX) (n : Nat), C.N = X.N.length → C.N ≤ n → Takes X W → PG X tg (lfG X.K C W ss n tw)
theorem _root_.L2.PG.imp {tg : Expr} {t t' : TG} (h : PG X tg t) (k : ∀ v σ H Q, t' v σ H Q → t v σ H Q) : PG X tg t' := ⟨fun pins s σ H v u Q I r q => h.run pins s σ H v u Q I r (k _ _ _ _ q)⟩
theorem wipe_set {σ : St} {i : Nat} {x : Option V} : ∀ {ss : List Nat}, i ∈ ss → wipe (σ.set i x) ss = wipe σ ss
  | [], h => by simp at h
  | s :: ss, h => by
    unfold wipe
    by_cases e : i ∈ ss
    · rw [wipe_set e]
    · have : i = s := by rcases List.mem_cons.mp h with h | h; exact h; exact absurd h e
      subst this
      refine List.ext_getElem? fun j => ?_
      by_cases hj : j = i
      · subst hj
        simp [List.getElem?_set, wipe_length]
      · rw [List.getElem?_set_ne (fun z => hj z.symm), List.getElem?_set_ne (fun z => hj z.symm)]
        by_cases h2 : j ∈ ss
        · have a1 : ∀ τ : St, (wipe τ ss)[j]? = if j < τ.length then some none else none := fun τ => by
            clear hj h e
            induction ss with
            | nil => simp at h2
            | cons s' ss ih =>
              unfold wipe
              by_cases q : j = s'
              · subst q
                rw [List.getElem?_set, if_pos rfl, wipe_length]
              · rw [List.getElem?_set_ne (fun z => q z.symm)]
                exact ih (by rcases List.mem_cons.mp h2 with h | h; exact absurd h q; exact h)
          rw [a1, a1, List.length_set]
        · rw [wipe_out h2, wipe_out h2, List.getElem?_set_ne (fun z => hj z.symm)]
def wNm (i : Nat) : TwG := fun x ρ Q _ => noNdB ρ i = true ∧ Q (ρ.set i (some (.d x)))
theorem lg_name {i : Nat} {x : Str} (hN : X.N.Nodup) (hi : X.N[i]? = some x) (hx : Loc X.env.scope x) (hf : X.fn x = true ∨ X.env.scope.names.lookup x = some .local := by first | exact .inl rfl | exact .inr rfl | assumption) : LG X [i] (.Name x pos) (wNm i) := by
  refine ⟨fun x ρ Q Q' E E' h _ ⟨z, q⟩ => ⟨z, h _ q⟩, fun C W n hC hn tk => (pg_name hN hi hx hf).imp fun v σ H Q ⟨O, ρ, x, R, rp, nd, q⟩ => ?_⟩
  refine q _ H (dropR i O) (relStoreD R (nlt hC hi) (no_nd R nd) rp) ⟨fre_drop i, fun b r p e l z => dropR_at.mpr ⟨e, fun q => z (by simp [q])⟩, fun b o r p e1 e2 l _ => ⟨e1, dropR_at.mpr ⟨e2, fun z => ?_⟩⟩, fun b r p e _ _ => (dropR_at.mp e).1⟩ (wipe_set (by simp))
  have := nlt hC hi
  omega
abbrev TwGs := List PyData → Rho → (Rho → Prop) → ExK → Prop
def lfGs (K : PySem.W.Frag) (C : Ctx) (W : WX) (ss : List Nat) (n : Nat) (tw : TwGs) : TGs := fun vs σ H Q => ∃ O ρ xs, Rel K C n σ H O ρ ∧ RpAll K (msk O H) vs xs ∧
  tw xs ρ (fun ρ' => ∀ σ' H' O', Rel K C n σ' H' O' ρ' → FrmS ss C.N n H O H' O' → wipe σ' ss = wipe σ ss → Q σ' H') (exK K C W H O)
structure LGs (X : Cx) (ss : List Nat) (tg : List Expr) (tw : TwGs) : Prop where
  mono : ∀ x ρ (Q Q' : Rho → Prop) (E E' : ExK), (∀ ρ', Q ρ' → Q' ρ') → (∀ c ρ', E c ρ' → E' c ρ') → tw x ρ Q E → tw x ρ Q' E'
  run : ∀ (C : Ctx) (W : WX) (n : Nat), C.N = X.N.length → C.N ≤ n → Takes X W → PGs X tg (lfGs X.K C W ss n tw)
theorem _root_.L2.PGs.imp {tg : List Expr} {t t' : TGs} (h : PGs X tg t) (k : ∀ v σ H Q, t' v σ H Q → t v σ H Q) : PGs X tg t' := ⟨fun pins s σ H v u Q I r q => h.run pins s σ H v u Q I r (k _ _ _ _ q)⟩
def wGsNil : TwGs := fun xs ρ Q _ => xs = [] ∧ Q ρ
def wGsCons (t : TwG) (u : TwGs) : TwGs := fun xs ρ Q E => ∃ x r, xs = x :: r ∧ t x ρ (fun ρ1 => u r ρ1 Q E) E
theorem FrmS.refl {ss : List Nat} {N n : Nat} {H : Hp} {O : Own} : FrmS ss N n H O H O := ⟨Fre.refl, fun _ _ _ h _ _ => h, fun _ _ _ _ h e _ _ => ⟨h, e⟩, fun _ _ _ h _ _ => h⟩
theorem FrmS.trans {ss : List Nat} {N n : Nat} {H H1 H2 : Hp} {O O1 O2 : Own} (a : FrmS ss N n H O H1 O1) (b : FrmS ss N n H1 O1 H2 O2) : FrmS ss N n H O H2 O2 :=
  ⟨a.fre.trans b.fre, fun x r p e l z => b.pl x r p (a.pl x r p e l z) l z, fun x o r p e1 e2 l1 l2 => let ⟨z1, z2⟩ := a.tm x o r p e1 e2 l1 l2; b.tm x o r p z1 z2 l1 l2, fun x r p e l1 l2 => a.nw x r p (b.nw x r p e l1 l2) l1 l2⟩
theorem FrmS.wid {ss ss' : List Nat} {N n : Nat} {H H1 : Hp} {O O1 : Own} (a : FrmS ss N n H O H1 O1) (h : ∀ i ∈ ss, i ∈ ss') : FrmS ss' N n H O H1 O1 := ⟨a.fre, fun x r p e l z => a.pl x r p e l fun q => z (h _ q), a.tm, a.nw⟩
theorem wipe_wid {σ τ : St} {ss ss' : List Nat} (h : wipe σ ss = wipe τ ss) (hs : ∀ i ∈ ss, i ∈ ss') (hl : σ.length = τ.length) : wipe σ ss' = wipe τ ss' := by
  have get : ∀ (ss : List Nat) (τ : St) (j : Nat), (wipe τ ss)[j]? = if j ∈ ss then (if j < τ.length then some none else none) else τ[j]? := by
    intro ss
    induction ss with
    | nil => intro τ j; simp [wipe]
    | cons s ss ih =>
      intro τ j
      unfold wipe
      by_cases q : j = s
      · subst q
        rw [List.getElem?_set, if_pos rfl, wipe_length]
        simp
      · rw [List.getElem?_set_ne (fun z => q z.symm), ih]
        simp [q]
  refine List.ext_getElem? fun j => ?_
  rw [get, get]
  by_cases hj : j ∈ ss'
  · rw [if_pos hj, if_pos hj, hl]
  · rw [if_neg hj, if_neg hj]
    have := congrArg (·[j]?) h
    simp only [get] at this
    rw [if_neg (fun z => hj (hs _ z)), if_neg (fun z => hj (hs _ z))] at this
    exact this
theorem RpAll.fre {K : PySem.W.Frag} {H H' : Hp} {O O' : Own} (f : Fre H O H' O') {vs : List V} {xs : List PyData} (h : RpAll K (msk O H) vs xs) : RpAll K (msk O' H') vs xs :=
  RpAll.mono (fun b o e => by obtain ⟨e1, e2⟩ := msk_some e; obtain ⟨z1, z2⟩ := f b o e2 e1; rw [msk_of z2]; exact z1) _ _ h
theorem Rp.fre {K : PySem.W.Frag} {H H' : Hp} {O O' : Own} (f : Fre H O H' O') {v : V} {x : PyData} (h : Rp K (msk O H) v x) : Rp K (msk O' H') v x :=
  Rp.mono (fun b o e => by obtain ⟨e1, e2⟩ := msk_some e; obtain ⟨z1, z2⟩ := f b o e2 e1; rw [msk_of z2]; exact z1) _ _ h
theorem lgs_nil : LGs X [] [] wGsNil := ⟨fun x ρ Q Q' E E' h _ ⟨e, q⟩ => ⟨e, h _ q⟩, fun C W n hC hn tk => pgs_nil.imp fun vs σ H Q ⟨O, ρ, xs, R, rp, e, q⟩ => by
  subst e
  cases rp
  exact ⟨rfl, q σ H O R .refl rfl⟩⟩
variable {tg : TwG} {tgs : TwGs} {s1 s2 : List Nat}
theorem lgs_cons (h1 : LG X s1 e tg) (h2 : LGs X s2 es tgs) (hs : (assignEach (e :: es) X.env).map (·.2) = assign e X.env :: (assignEach es X.env).map (·.2) := by rfl) : LGs X (s1 ++ s2) (e :: es) (wGsCons tg tgs) := by
  refine ⟨fun x ρ Q Q' E E' h he ⟨y, r, e, q⟩ => ⟨y, r, e, h1.mono _ _ _ _ _ _ (fun ρ1 q1 => h2.mono _ _ _ _ _ _ h he q1) he q⟩, fun C W n hC hn tk => (pgs_cons (h1.run C W n hC hn tk) (h2.run C W n hC hn tk) hs).imp fun vs σ H Q ⟨O, ρ, xs, R, rp, x, r, e, q⟩ => ?_⟩
  subst e
  cases rp with
  | cons rp1 rp2 =>
    refine ⟨_, _, rfl, O, ρ, x, R, rp1, h1.mono _ _ _ _ _ _ (fun ρ1 q1 => ?_) (fun _ _ z => z) q⟩
    intro σ1 H1 O1 R1 F1 w1
    refine ⟨O1, ρ1, r, R1, RpAll.fre F1.fre rp2, h2.mono _ _ _ _ _ _ (fun ρ2 q2 => ?_) (fun c ρ' z => exK.on F1.fre c ρ' z) q1⟩
    intro σ2 H2 O2 R2 F2 w2
    have l1 : σ1.length = σ.length := R1.ln.trans R.ln.symm
    have l2 : σ2.length = σ1.length := R2.ln.trans R1.ln.symm
    exact q2 σ2 H2 O2 R2 ((F1.wid fun i h => List.mem_append_left _ h).trans (F2.wid fun i h => List.mem_append_right _ h)) ((wipe_wid w2 (fun i h => List.mem_append_right _ h) l2).trans (wipe_wid w1 (fun i h => List.mem_append_left _ h) l1))
def wGTup (k : Nat) (t : TwGs) : TwG := fun x ρ Q E => ∃ xs, x = .tuple xs ∧ xs.length = k ∧ t xs ρ Q E
theorem lg_tup {kk n : Nat} (hc : X.calm = true) (h : LGs X s1 es tgs) (hn : (assignEach es X.env).length = n := by rfl) (hst : (assignEach es X.env).findIdx? (·.1) = none := by rfl) : LG X s1 (.Tuple es kk pos) (wGTup n tgs) := by
  refine ⟨fun x ρ Q Q' E E' k he ⟨xs, e, e2, q⟩ => ⟨xs, e, e2, h.mono _ _ _ _ _ _ k he q⟩, fun C W m hC hm tk => (pg_tup hc (h.run C W m hC hm tk) hn hst).imp fun v σ H Q ⟨O, ρ, x, R, rp, xs, e1, e2, q⟩ => ?_⟩
  subst e1
  cases rp with
  | tup h1 h2 => exact ⟨_, _, rfl, .of (msk_some h1).2, by rw [h2.length]; exact e2, O, ρ, xs, R, h2, q⟩
/-- target = e, e data -/
def wAsg (ta : TwE) (tg : TwG) : TwS := fun D ρ => ta ρ (fun t ρ1 => ∃ x, erase t = some x ∧ tg x ρ1 D.nx D.ex) D.ex
theorem ls_asg (he : LE X e ta) (hg : LG X s1 a tg) (hs : swapsWithSole [a] e pos.line X.env = pure false := by rfl) (hw : swappedStores [a] e X.env = pure none := by rfl) (h1 : (assignEach [a] X.env).map (·.2) = [assign a X.env] := by rfl) : LS X io (.Assign [a] e pos) (wAsg ta tg) := by
  refine ⟨fun D D' ρ l q => he.mono ρ _ _ _ _ (fun t ρ1 ⟨x, h, q⟩ => ⟨x, h, hg.mono _ _ _ _ _ _ l.nx l.ex q⟩) l.ex q, fun C W hC hio tk hp => (ps_asg (he.run C W C.N hC (Nat.le_refl _) tk) (hg.run C W C.N hC (Nat.le_refl _) tk) hs hw h1).imp fun D σ H ⟨O, ρ, R, q⟩ => ?_⟩
  refine ⟨O, ρ, R, he.mono ρ _ _ _ _ (fun t ρ1 ⟨x, ex, q⟩ => ?_) (fun _ _ z => z) q⟩
  intro v H1 O1 R1 F1 V1
  have F := F1.fre.trans (fre_cut (H := H1) (O := O1) C.N)
  refine ⟨_, ρ1, x, R1.cut (Nat.le_refl _), V1.asD (Nat.le_refl _) ex, hg.mono _ _ _ _ _ _ (fun ρ2 q2 => ?_) (fun c ρ' z => exK.on F c ρ' z) q⟩
  intro σ2 H2 O2 R2 F2 _
  exact q2 σ2 H2 O2 R2 (F.trans F2.fre)
end
end TX

/-! Loops and comprehensions over trees. -/
namespace TX
open PySem PySem.Spec L2

theorem nt_free {H : Hp} {O : Own} (nt : ∀ b, O b ≠ .free → ∃ o, H b = some o ∧ ownable o) (b : Addr) (h : H b = none) : O b = .free := by
  by_cases e : O b = .free
  · exact e
  · obtain ⟨o, z, _⟩ := nt b e
    rw [h] at z; cases z
/-- J gives the items xs, from (H, O) on, as long as what is shared stands -/
structure Yl (K : PySem.W.Frag) (J : It) (xs : List PyData) (H : Hp) (O : Own) : Prop where
  stop : ∀ H' O', Fre H O H' O' → J.stop xs.length H'
  go : ∀ (i : Nat) x H' O', Fre H O H' O' → xs[i]? = some x → J.go i H'
  yld : ∀ (i : Nat) x v H' O' H'', Fre H O H' O' → xs[i]? = some x → J.yld i H' v H'' → (∀ b, O' b ≠ .free → ∃ o, H' b = some o ∧ ownable o) →
    (H'' = H' ∨ (∃ p ws, H' p = none ∧ H'' = upd H' p (.tup ws)) ∨ ∀ b o, H' b = some o → H'' b = some o) ∧ Rp K (msk O' H'') v x
abbrev TwI := Rho → (List PyData → Rho → Prop) → ExK → Prop
def lfI (K : PySem.W.Frag) (C : Ctx) (W : WX) (n : Nat) (tw : TwI) : TI := fun σ H R => ∃ O ρ, Rel K C n σ H O ρ ∧
  tw ρ (fun xs ρ' => ∀ J H' O', Rel K C n σ H' O' ρ' → Frm C.N n H O H' O' → Yl K J xs H' O' → R J H') (exK K C W H O)
structure LI (X : Cx) (tg iter : Expr) (tw : TwI) : Prop where
  mono : MonE tw
  run : ∀ (C : Ctx) (W : WX) (n : Nat), C.N = X.N.length → C.N ≤ n → Takes X W → PI X tg iter (lfI X.K C W n tw)
theorem _root_.L2.PI.imp {X : Cx} {tg iter : Expr} {t t' : TI} (h : PI X tg iter t) (k : ∀ σ H Q, t' σ H Q → t σ H Q) : PI X tg iter t' := ⟨fun pins s σ H R I q => h.run pins s σ H R I (k _ _ _ q)⟩

/-! ### what is walked -/
section
variable {K : PySem.W.Frag} {H : Hp} {O : Own}
theorem yl_tup {a : Addr} {ws : List V} {xs : List PyData} (h : H a = some (.tup ws)) (hf : O a = .free) (hr : RpAll K (msk O H) ws xs) : Yl K (Itt K a) xs H O where
  stop H' O' f := ⟨ws, .of (f a _ h hf).1, Nat.le_of_eq hr.length⟩
  go i x H' O' f e := by
    obtain ⟨v, h1, _⟩ := hr.get e
    exact ⟨ws, v, .of (f a _ h hf).1, h1⟩
  yld i x v H' O' H'' f e y _ := by
    obtain ⟨rfl, y⟩ := y
    obtain ⟨w, h1, h2⟩ := hr.get e
    have := y ws (.of (f a _ h hf).1)
    rw [h1] at this; cases this
    exact ⟨.inl rfl, h2.fre f⟩
theorem yl_range {lo : Int} {n : Nat} : Yl K (Itr lo n) ((List.range n).map fun i => PyData.int (lo + (i : Nat))) H O where
  stop H' O' f := by simp [Itr]
  go i x H' O' f e := by
    have := (List.getElem?_eq_some_iff.mp e).1
    simpa [Itr] using this
  yld i x v H' O' H'' f e y _ := by
    obtain ⟨rfl, rfl⟩ := y
    rw [List.getElem?_map] at e
    have hi : i < n := by
      by_cases h : i < n
      · exact h
      · rw [List.getElem?_eq_none (by simpa using Nat.le_of_not_lt h)] at e; cases e
    rw [List.getElem?_range hi] at e
    cases e
    exact ⟨.inl rfl, .int _⟩
def enumD (xs : List PyData) : List PyData := xs.zipIdx.map fun p => PyData.tuple [.int (p.2 : Nat), p.1]
theorem enumD_get {xs : List PyData} {i : Nat} {x : PyData} (e : (enumD xs)[i]? = some x) : ∃ y, xs[i]? = some y ∧ x = .tuple [.int (i : Nat), y] := by
  unfold enumD at e
  rw [List.getElem?_map, List.getElem?_zipIdx] at e
  cases h : xs[i]? with
  | none => rw [h] at e; cases e
  | some y => rw [h] at e; simp at e; exact ⟨y, rfl, e.symm⟩
theorem yl_enum {a : Addr} {ws : List V} {xs : List PyData} (h : H a = some (.lst ws)) (hf : O a = .free) (hr : RpAll K (msk O H) ws xs) (hk : K.lookup a = none) : Yl K (Ite K a) (enumD xs) H O where
  stop H' O' f := ⟨ws, .of (f a _ h hf).1, by rw [hr.length]; simp [enumD]⟩
  go i x H' O' f e := by
    obtain ⟨y, e1, _⟩ := enumD_get e
    obtain ⟨v, h1, _⟩ := hr.get e1
    exact ⟨ws, v, .of (f a _ h hf).1, h1⟩
  yld i x v H' O' H'' f e y fr := by
    obtain ⟨T, w, rfl, hn, rfl, y⟩ := y
    obtain ⟨z, e1, rfl⟩ := enumD_get e
    obtain ⟨w', h1, h2⟩ := hr.get e1
    have := y ws (.of (f a _ h hf).1)
    rw [h1] at this; cases this
    refine ⟨.inr (.inl ⟨T, _, hn, rfl⟩), .tup (by rw [msk_of (nt_free fr _ hn)]; exact upd_same) (.cons (.int _) (.cons (Rp.mono (fun b o q => ?_) _ _ (h2.fre f)) .nil))⟩
    obtain ⟨q1, q2⟩ := msk_some q
    rw [msk_of q1, upd_ne (ne_of_none q2 hn)]
    exact q2
def zipD (xs ys : List PyData) : List PyData := (xs.zip ys).map fun p => PyData.tuple [p.1, p.2]
end

section
variable {X : Cx} {tg : Expr} {a b e : Expr} {ta tb : TwE} {tas : TwA} {p pos tpos : Pos} {elts : List Expr} {kk : Nat}
/-- a value on the way that is no place, walked as a list of data: let go, it is shared -/
theorem seq_free {K : PySem.W.Frag} {C : Ctx} {n k m : Nat} {σ : St} {H : Hp} {O : Own} {ρ : Rho} {v : V} {t : T} {xs : List PyData} (R : Rel K C m σ H O ρ) (hk : n ≤ k) (V1 : Val K H O k v t) (e : flatL t = some xs) :
    ∃ ad ws, v = .ref ad ∧ H ad = some (.lst ws) ∧ cut n O ad = .free ∧ RpAll K (msk (cut n O) H) ws xs := by
  have up : ∀ b o, msk O H b = some o → msk (cut n O) H b = some o := fun b o z => by obtain ⟨z1, z2⟩ := msk_some z; rw [msk_of (cut_free z1)]; exact z2
  cases t with
  | d x =>
    cases x with
    | list ys =>
      simp only [flatL, Option.some.injEq] at e
      subst e
      have := val_d V1
      cases this with
      | lst h1 h2 => exact ⟨_, _, rfl, (msk_some h1).2, cut_free (msk_some h1).1, RpAll.mono up _ _ h2⟩
    | _ => simp [flatL] at e
  | l ts =>
    simp only [flatL] at e
    have := V1.1
    cases this with
    | l h1 h2 h3 =>
      rw [allD_eq e] at h3
      refine ⟨_, _, rfl, h2, ?_, RpAll.mono up _ _ (TrAll.data h3)⟩
      unfold cut; rw [h1]; simp only; rw [if_neg (by omega)]
  | _ => simp [flatL] at e
def wILst (ta : TwE) : TwI := fun ρ Q E => ta ρ (fun t ρ1 => ∃ xs, flatL t = some xs ∧ Q xs ρ1) E
theorem li_list (ha : LE X e ta) : LI X tg e (wILst ta) := by
  refine ⟨fun ρ Q Q' E E' h he q => ha.mono ρ _ _ E E' (fun t ρ1 ⟨xs, e, q⟩ => ⟨xs, e, h _ _ q⟩) he q, fun C W n hC hn tk => ⟨fun pins s σ H R I ⟨O, ρ, Rl, q⟩ => ?_⟩⟩
  refine thn ((pi_list (tg := tg) (PE.imp (t' := fun σ H Q => lfE X.K C W n ta σ H Q) (ha.run C W n hC hn tk) fun _ _ _ z => z)).run pins s σ H R I ⟨O, ρ, Rl, ha.mono ρ _ _ _ _ (fun t ρ1 ⟨xs, e, q⟩ => ?_) (fun _ _ z => z) q⟩) fun _ _ z => z
  intro v H1 O1 R1 F1 V1
  obtain ⟨ad, ws, rfl, h1, h2, h3⟩ := seq_free R1 (Nat.le_refl n) V1 e
  refine ⟨ad, rfl, ⟨ws, .of h1⟩, q _ H1 _ (R1.cut hn) (F1.trans (frm_cut C.N n H1 O1 hn) (Nat.le_refl _)) ⟨fun H' O' f => ⟨ws, .of (f ad _ h1 h2).1, Nat.le_of_eq h3.length⟩, fun i x H' O' f e => ?_, fun i x v H' O' H'' f e y fr => ?_⟩⟩
  · obtain ⟨v, g1, _⟩ := h3.get e
    exact ⟨ws, v, .of (f ad _ h1 h2).1, g1⟩
  · obtain ⟨rfl, y⟩ := y
    obtain ⟨w, g1, g2⟩ := h3.get e
    have := y ws (.of (f ad _ h1 h2).1)
    rw [g1] at this; cases this
    exact ⟨.inl rfl, g2.fre f⟩
def wITup (ta : TwE) : TwI := fun ρ Q E => ta ρ (fun t ρ1 => ∃ xs, t = .d (.tuple xs) ∧ Q xs ρ1) E
theorem li_tup (ha : LE X e ta) : LI X tg e (wITup ta) := by
  refine ⟨fun ρ Q Q' E E' h he q => ha.mono ρ _ _ E E' (fun t ρ1 ⟨xs, e, q⟩ => ⟨xs, e, h _ _ q⟩) he q, fun C W n hC hn tk => (pi_tup (tg := tg) (ha.run C W n hC hn tk)).imp fun σ H R ⟨O, ρ, Rl, q⟩ => ?_⟩
  refine ⟨O, ρ, Rl, ha.mono ρ _ _ _ _ (fun t ρ1 ⟨xs, e, q⟩ => ?_) (fun _ _ z => z) q⟩
  intro v H1 O1 R1 F1 V1
  subst e
  have := val_d V1
  cases this with
  | tup h1 h2 =>
    obtain ⟨z1, z2⟩ := msk_some h1
    refine ⟨_, rfl, ⟨_, .of z2⟩, q _ H1 _ (R1.cut hn) (F1.trans (frm_cut C.N n H1 O1 hn) (Nat.le_refl _)) (yl_tup z2 (cut_free z1) (RpAll.mono (fun b o z => ?_) _ _ h2))⟩
    obtain ⟨z1, z2⟩ := msk_some z
    rw [msk_of (cut_free z1)]; exact z2
def rangeD (lo : Int) (n : Nat) : List PyData := (List.range n).map fun i => PyData.int (lo + (i : Nat))
def wIR1 (tas : TwA) : TwI := fun ρ Q E => tas ρ (fun ts ρ1 => ∃ j : Int, ts = [.d (.int j)] ∧ -(2 ^ 62) ≤ j ∧ j < 2 ^ 62 ∧ Q (rangeD 0 j.toNat) ρ1) E
theorem li_range1 (hg : Gl X "range") (hm : X.mg "range" = none) (ha : LA X [a] tas) (hs : starEach [a] X.env = [(false, eval a X.env)] := by rfl) : LI X tg (.Call (.Name "range" p) [a] [] pos) (wIR1 tas) := by
  refine ⟨fun ρ Q Q' E E' h he q => ha.mono ρ _ _ E E' (fun t ρ1 ⟨j, e, e1, e2, q⟩ => ⟨j, e, e1, e2, h _ _ q⟩) he q, fun C W n hC hn tk => (pi_range1 (tg := tg) hg hm (ha.run C W n hC hn tk) hs).imp fun σ H R ⟨O, ρ, Rl, q⟩ => ?_⟩
  refine ⟨O, ρ, Rl, ha.mono ρ _ _ _ _ (fun ts ρ1 ⟨j, e, e1, e2, q⟩ => ?_) (fun _ _ z => z) q⟩
  intro vs H1 O1 R1 F1 V1
  subst e
  obtain ⟨v, rfl, V2⟩ := V1.one
  exact ⟨j, by rw [rp_int (val_d V2)], e1, e2, q _ H1 _ (R1.cut hn) (F1.trans (frm_cut C.N n H1 O1 hn) (Nat.le_refl _)) yl_range⟩
def wIR2 (tas : TwA) : TwI := fun ρ Q E => tas ρ (fun ts ρ1 => ∃ i j : Int, ts = [.d (.int i), .d (.int j)] ∧ (-(2 ^ 62) ≤ i ∧ i < 2 ^ 62 ∧ -(2 ^ 62) ≤ j ∧ j < 2 ^ 62) ∧ Q (rangeD i (j - i).toNat) ρ1) E
theorem li_range2 (hg : Gl X "range") (hm : X.mg "range" = none) (ha : LA X [a, b] tas) (hs : starEach [a, b] X.env = [(false, eval a X.env), (false, eval b X.env)] := by rfl) (hs2 : starEach [b] X.env = [(false, eval b X.env)] := by rfl) : LI X tg (.Call (.Name "range" p) [a, b] [] pos) (wIR2 tas) := by
  refine ⟨fun ρ Q Q' E E' h he q => ha.mono ρ _ _ E E' (fun t ρ1 ⟨i, j, e, e1, q⟩ => ⟨i, j, e, e1, h _ _ q⟩) he q, fun C W n hC hn tk => (pi_range2 (tg := tg) hg hm (ha.run C W n hC hn tk) hs hs2).imp fun σ H R ⟨O, ρ, Rl, q⟩ => ?_⟩
  refine ⟨O, ρ, Rl, ha.mono ρ _ _ _ _ (fun ts ρ1 ⟨i, j, e, e1, q⟩ => ?_) (fun _ _ z => z) q⟩
  intro vs H1 O1 R1 F1 V1
  subst e
  obtain ⟨v, w, rfl, V2, V3⟩ := V1.two
  exact ⟨i, j, by rw [rp_int (val_d V2), rp_int (val_d V3)], e1, q _ H1 _ (R1.cut hn) (F1.trans (frm_cut C.N n H1 O1 hn) (Nat.le_refl _)) yl_range⟩
def wIEn (tas : TwA) : TwI := fun ρ Q E => tas ρ (fun ts ρ1 => ∃ t xs, ts = [t] ∧ flatL t = some xs ∧ Q (enumD xs) ρ1) E
theorem li_enum (hg : Gl X "enumerate") (hm : X.mg "enumerate" = none) (ha : LA X [e] tas) (hs : starEach [e] X.env = [(false, eval e X.env)] := by rfl) : LI X (.Tuple elts kk tpos) (.Call (.Name "enumerate" p) [e] [] pos) (wIEn tas) := by
  refine ⟨fun ρ Q Q' E E' h he q => ha.mono ρ _ _ E E' (fun t ρ1 ⟨j, x, e, e1, q⟩ => ⟨j, x, e, e1, h _ _ q⟩) he q, fun C W n hC hn tk => (pi_enum hg hm (ha.run C W n hC hn tk) hs).imp fun σ H R ⟨O, ρ, Rl, q⟩ => ?_⟩
  refine ⟨O, ρ, Rl, ha.mono ρ _ _ _ _ (fun ts ρ1 ⟨t, xs, e, e1, q⟩ => ?_) (fun _ _ z => z) q⟩
  intro vs H1 O1 R1 F1 V1
  subst e
  obtain ⟨v, rfl, V2⟩ := V1.one
  obtain ⟨ad, ws, rfl, h1, h2, h3⟩ := seq_free R1 (Nat.le_refl n) V2 e1
  by_cases hk : X.K.lookup ad = none
  · exact ⟨ad, ws, rfl, .of h1, q _ H1 _ (R1.cut hn) (F1.trans (frm_cut C.N n H1 O1 hn) (Nat.le_refl _)) (yl_enum h1 h2 h3 hk)⟩
  · refine ⟨ad, ws, rfl, .of h1, q _ H1 _ (R1.cut hn) (F1.trans (frm_cut C.N n H1 O1 hn) (Nat.le_refl _)) ⟨fun H' O' f => ⟨ws, .of (f ad _ h1 h2).1, by rw [h3.length]; simp [enumD]⟩, fun i x H' O' f e => ?_, fun i x v H' O' H'' f e y fr => ?_⟩⟩
    · obtain ⟨y, e1, _⟩ := enumD_get e
      obtain ⟨v, g1, _⟩ := h3.get e1
      exact ⟨ws, v, .of (f ad _ h1 h2).1, g1⟩
    · obtain ⟨T, w, rfl, hn', rfl, y⟩ := y
      obtain ⟨z, e1, rfl⟩ := enumD_get e
      obtain ⟨w', g1, g2⟩ := h3.get e1
      have := y ws (.of (f ad _ h1 h2).1)
      rw [g1] at this; cases this
      refine ⟨.inr (.inl ⟨T, _, hn', rfl⟩), .tup (by rw [msk_of (nt_free fr _ hn')]; exact upd_same) (.cons (.int _) (.cons (Rp.mono (fun b o q => ?_) _ _ (g2.fre f)) .nil))⟩
      obtain ⟨q1, q2⟩ := msk_some q
      rw [msk_of q1, upd_ne (ne_of_none q2 hn')]
      exact q2
def wIZip (tas : TwA) : TwI := fun ρ Q E => tas ρ (fun ts ρ1 => ∃ t u xs ys, ts = [t, u] ∧ flatL t = some xs ∧ flatL u = some ys ∧ Q (zipD xs ys) ρ1) E
end

/-! ### for, while -/
section
variable {X : Cx} {io ss : List Nat} {tg iter c : Expr} {body : List Stmt} {wi : TwI} {g : TwG} {tb : TwS} {tt : TwT} {pos : Pos}
def wFor (wi : TwI) (g : TwG) (tb : TwS) : TwS := fun D ρ => wi ρ (fun xs ρ1 => ∃ P : Nat → Rho → Prop, P 0 ρ1 ∧
  (∀ i x ρ2, xs[i]? = some x → P i ρ2 → g x ρ2 (fun ρ3 => tb { D with nx := P (i + 1), ct := P (i + 1), bk := D.nx } ρ3) D.ex) ∧ ∀ ρ2, P xs.length ρ2 → D.nx ρ2) D.ex
/-- behind a yielded item -/
theorem rel_yield {K : PySem.W.Frag} {C : Ctx} {n : Nat} {σ : St} {H H' : Hp} {O : Own} {ρ : Rho} (R : Rel K C n σ H O ρ) (h : H' = H ∨ (∃ p ws, H p = none ∧ H' = upd H p (.tup ws)) ∨ ∀ b o, H b = some o → H' b = some o) : Rel K C n σ H' O ρ ∧ ∀ b o, H b = some o → H' b = some o := by
  rcases h with rfl | h
  · exact ⟨R, fun _ _ e => e⟩
  · have keep : ∀ b u, H b = some u → H' b = some u := fun b u e => by
      rcases h with ⟨p, ws, hp, rfl⟩ | h
      · rw [upd_ne (ne_of_none e hp)]; exact e
      · exact h b u e
    exact ⟨⟨fun b u e1 e2 => ⟨keep _ _ (R.fr b u e1 e2).1, (R.fr b u e1 e2).2⟩, fun b h => let ⟨u, e, w⟩ := R.nt b h; ⟨u, keep b u e, w⟩, R.lt, R.inj, R.val, R.ln, R.lr,
      fun i t e => let ⟨v, h2, h3⟩ := R.sl i t e; ⟨v, h2, Tr.move (r' := i) (p0 := []) (p1 := []) (fun b u e1 e2 => ⟨keep b u e1, e2⟩) (fun b u q e1 e2 => ⟨keep b u e1, e2⟩) t [] v h3⟩, R.hN, R.fo, R.pz, R.sm⟩, keep⟩
theorem ls_for (hc : X.calm = true) (hi : LI X tg iter wi) (hg : LG X ss tg g) (hb : LSs X io body tb) (hs : ∀ x, foldedSetIterable iter X.env x = pure x := by intro _; rfl) : LS X io (.For tg iter body [] pos) (wFor wi g tb) := by
  refine ⟨fun D D' ρ l q => hi.mono ρ _ _ _ _ (fun xs ρ1 ⟨P, p0, ps, pd⟩ => ⟨P, p0, fun i x ρ2 e h => hg.mono _ _ _ _ _ _ (fun ρ3 q => hb.mono { D with nx := P (i + 1), ct := P (i + 1), bk := D.nx } _ _ ⟨fun _ z => z, l.rt, l.nx, fun _ z => z, l.ex⟩ q) l.ex (ps i x ρ2 e h), fun ρ2 h => l.nx _ (pd ρ2 h)⟩) l.ex q,
    fun C W hC hio tk hp => (ps_for hp hc (hi.run C W C.N hC (Nat.le_refl _) tk) (hg.run C W C.N hC (Nat.le_refl _) tk) (hb.run C W hC hio tk hp) hs).imp fun D σ H ⟨O, ρ, R, q⟩ => ?_⟩
  refine ⟨O, ρ, R, hi.mono ρ _ _ _ _ (fun xs ρ1 ⟨P, p0, ps, pd⟩ => ?_) (fun _ _ z => z) q⟩
  intro J H1 O1 R1 F1 Y
  refine ⟨fun i m σ2 H2 => m = xs.length - i ∧ i ≤ xs.length ∧ ∃ O2 ρ2, Rel X.K C C.N σ2 H2 O2 ρ2 ∧ Fre H1 O1 H2 O2 ∧ P i ρ2, ⟨_, rfl, Nat.zero_le _, O1, ρ1, R1, .refl, p0⟩, ?_⟩
  rintro i m σ2 H2 ⟨rfl, hi, O2, ρ2, R2, F2, p⟩
  by_cases hlt : i < xs.length
  · have ex : xs[i]? = some xs[i] := List.getElem?_eq_getElem hlt
    refine .inr ⟨Y.go i _ H2 O2 F2 ex, fun σ3 H3 => ∃ O3 ρ3, Rel X.K C C.N σ3 H3 O3 ρ3 ∧ Fre H1 O1 H3 O3 ∧ P (i + 1) ρ3, fun σ3 H3 ⟨O3, ρ3, R3, F3, p3⟩ => ⟨xs.length - (i + 1), by omega, rfl, hlt, O3, ρ3, R3, F3, p3⟩, fun v H3 y => ?_⟩
    obtain ⟨hu, rp⟩ := Y.yld i _ v H2 O2 H3 F2 ex y R2.nt
    obtain ⟨R3, kp⟩ := rel_yield R2 hu
    have F3 : Fre H2 O2 H3 O2 := fun b o e1 e2 => ⟨kp b o e1, e2⟩
    have F03 : Fre H O H3 O2 := (F1.fre.trans F2).trans F3
    refine ⟨O2, ρ2, xs[i], R3, rp, hg.mono _ _ _ _ _ _ (fun ρ4 q4 => ?_) (fun c ρ' z => exK.on F03 c ρ' z) (ps i _ ρ2 ex p)⟩
    intro σ4 H4 O4 R4 F4 _
    have F04 : Fre H O H4 O4 := F03.trans F4.fre
    have F14 : Fre H1 O1 H4 O4 := (F2.trans F3).trans F4.fre
    refine ⟨O4, ρ4, R4, hb.mono _ _ _ ⟨fun ρ5 p5 => ?_, fun t ρ5 z => rtK.on F04 t ρ5 z, fun ρ5 z => nxK.on F04 ρ5 z, fun ρ5 p5 => ?_, fun c ρ5 z => exK.on F04 c ρ5 z⟩ q4⟩
    · exact fun σ5 H5 O5 R5 F5 => ⟨O5, ρ5, R5, F14.trans F5, p5⟩
    · exact fun σ5 H5 O5 R5 F5 => ⟨O5, ρ5, R5, F14.trans F5, p5⟩
  · have e : i = xs.length := by omega
    subst e
    exact .inl ⟨Y.stop H2 O2 F2, pd ρ2 p σ2 H2 O2 R2 (F1.fre.trans F2)⟩
end
end TX

/-! List comprehensions over trees. -/
namespace TX
open PySem PySem.Spec L2

def wipeR (ρ : Rho) : List Nat → Rho
  | [] => ρ
  | v :: vs => (wipeR ρ vs).set v none
def restR (ρ0 ρ : Rho) : List Nat → Rho
  | [] => ρ
  | v :: vs => (restR ρ0 ρ vs).set v ((ρ0[v]?).getD none)
theorem wipeR_length {ρ : Rho} : ∀ vs : List Nat, (wipeR ρ vs).length = ρ.length
  | [] => rfl
  | v :: vs => by unfold wipeR; rw [List.length_set, wipeR_length vs]
theorem restR_length {ρ0 ρ : Rho} : ∀ vs : List Nat, (restR ρ0 ρ vs).length = ρ.length
  | [] => rfl
  | v :: vs => by unfold restR; rw [List.length_set, restR_length vs]
theorem wipeR_get {ρ : Rho} {j : Nat} : ∀ vs : List Nat, (wipeR ρ vs)[j]? = if j ∈ vs then (if j < ρ.length then some none else none) else ρ[j]?
  | [] => by simp [wipeR]
  | v :: vs => by
    unfold wipeR
    by_cases q : j = v
    · subst q; simp [List.getElem?_set, wipeR_length]
    · rw [List.getElem?_set_ne (fun z => q z.symm), wipeR_get vs]; simp [q]
theorem restR_get {ρ0 ρ : Rho} {j : Nat} (hl : ρ0.length = ρ.length) : ∀ vs : List Nat, (restR ρ0 ρ vs)[j]? = if j ∈ vs then ρ0[j]? else ρ[j]?
  | [] => by simp [restR]
  | v :: vs => by
    unfold restR
    by_cases q : j = v
    · subst q
      simp only [List.getElem?_set, restR_length, List.mem_cons, true_or, if_true]
      by_cases h : j < ρ.length
      · rw [if_pos h]
        have h' : j < ρ0.length := by omega
        rw [List.getElem?_eq_getElem h']; rfl
      · rw [if_neg h, List.getElem?_eq_none (by omega)]
    · rw [List.getElem?_set_ne (fun z => q z.symm), restR_get hl vs]; simp [q]
theorem wipe_get {σ : St} {j : Nat} : ∀ vs : List Nat, (wipe σ vs)[j]? = if j ∈ vs then (if j < σ.length then some none else none) else σ[j]?
  | [] => by simp [wipe]
  | v :: vs => by
    unfold wipe
    by_cases q : j = v
    · subst q; simp [List.getElem?_set, wipe_length]
    · rw [List.getElem?_set_ne (fun z => q z.symm), wipe_get vs]; simp [q]
theorem wipe_twice (σ : St) (vs : List Nat) : wipe (wipe σ vs) vs = wipe σ vs := by
  refine List.ext_getElem? fun j => ?_
  rw [wipe_get, wipe_length, wipe_get]
  split <;> rfl
theorem rest_wipe {ρ : Rho} (vs : List Nat) : restR ρ (wipeR ρ vs) vs = ρ := by
  refine List.ext_getElem? fun j => ?_
  rw [restR_get (wipeR_length vs).symm, wipeR_get]
  split <;> simp_all
def noNd (ρ : Rho) (vs : List Nat) : Prop := ∀ j ∈ vs, ∀ t, ρ[j]? = some (some t) → isNode t = false
section
variable {K : PySem.W.Frag} {C : Ctx} {n m : Nat} {σ σ2 : St} {H H' : Hp} {O O' : Own} {ρ ρ2 : Rho}
theorem relWipe (R : Rel K C n σ H O ρ) {vs : List Nat} (hv : noNd ρ vs) (hs : wipe σ2 vs = wipe σ vs) : Rel K C n (wipe σ2 vs) H O (wipeR ρ vs) := by
  refine ⟨R.fr, R.nt, R.lt, R.inj, fun b r p e l => ?_, by rw [hs, wipe_length]; exact R.ln, by rw [wipeR_length]; exact R.lr, fun i t e => ?_, R.hN, R.fo, R.pz, R.sm⟩
  · obtain ⟨t, z, h1, h2, h3⟩ := R.val b r p e l
    by_cases hr : r ∈ vs
    · have := hv r hr t h1
      cases p with
      | nil => cases h2; rw [this] at h3; cases h3
      | cons k q => cases t <;> simp [subT, kid] at h2 <;> cases this
    · exact ⟨t, z, by rw [wipeR_get, if_neg hr]; exact h1, h2, h3⟩
  · rw [wipeR_get] at e
    by_cases hi : i ∈ vs
    · rw [if_pos hi] at e; split at e <;> cases e
    · rw [if_neg hi] at e
      obtain ⟨v, h1, h2⟩ := R.sl i t e
      exact ⟨v, by rw [hs, wipe_get, if_neg hi]; exact h1, h2⟩
/-- behind the block the frame's own names are as they were -/
theorem relBack (R0 : Rel K C n σ H O ρ) {vs : List Nat} (hv : noNd ρ vs) (R : Rel K C m (wipe σ vs) H' O' ρ2) (hw : ∀ j ∈ vs, ∀ t, ρ2[j]? ≠ some (some t)) (f : Fre H O H' O') : Rel K C m σ H' O' (restR ρ ρ2 vs) := by
  have hl : ρ.length = ρ2.length := R0.lr.trans R.lr.symm
  refine ⟨R.fr, R.nt, R.lt, R.inj, fun b r p e l => ?_, R0.ln, by rw [restR_length]; exact R.lr, fun i t e => ?_, R.hN, R.fo, R.pz, R.sm⟩
  · obtain ⟨t, z, h1, h2, h3⟩ := R.val b r p e l
    have hr : r ∉ vs := fun hr => hw r hr t h1
    exact ⟨t, z, by rw [restR_get hl, if_neg hr]; exact h1, h2, h3⟩
  · rw [restR_get hl] at e
    by_cases hi : i ∈ vs
    · rw [if_pos hi] at e
      obtain ⟨v, h1, h2⟩ := R0.sl i t e
      refine ⟨v, h1, ?_⟩
      have nd := hv i hi t e
      cases h2 with
      | d h => exact .d (h.fre f)
      | raw => exact .raw
      | fz h => exact .fz (sql_mono (fun b o z => by obtain ⟨z1, z2⟩ := msk_some z; obtain ⟨y1, y2⟩ := f b o z2 z1; rw [msk_of y2]; exact y1) h)
      | lk g1 h2 h3 h4 => exact .lk (f _ _ h2 g1).2 (f _ _ h2 g1).1 h3 (RpAll.mono (fun b o z => by obtain ⟨z1, z2⟩ := msk_some z; obtain ⟨y1, y2⟩ := f b o z2 z1; rw [msk_of y2]; exact y1) _ _ h4)
      | lt g1 h2 h3 h4 => exact .lt (f _ _ h2 g1).2 (f _ _ h2 g1).1 h3 (RpAll.mono (fun b o z => by obtain ⟨z1, z2⟩ := msk_some z; obtain ⟨y1, y2⟩ := f b o z2 z1; rw [msk_of y2]; exact y1) _ _ h4)
      | l _ _ _ => cases nd
      | mk _ _ _ _ => cases nd
      | mt _ _ _ _ => cases nd
      | o _ _ _ _ => cases nd
      | s _ _ => cases nd
    · rw [if_neg hi] at e
      obtain ⟨v, h1, h2⟩ := R.sl i t e
      rw [wipe_get, if_neg hi] at h1
      exact ⟨v, h1, h2⟩
end

abbrev exN : ExK := fun _ _ => False
def wLc (wi : TwI) (g : TwG) (tt : TwT) (te : TwE) (vs : List Nat) : TwE := fun ρ Q E => wi ρ (fun xs ρ1 => noNd ρ1 vs ∧ xs.length ≤ 1000000 ∧ ∃ P : Nat → List PyData → Rho → Prop, P 0 [] (wipeR ρ1 vs) ∧
  (∀ i x acc ρ2, xs[i]? = some x → P i acc ρ2 → g x ρ2 (fun ρ3 => tt ρ3 (fun b ρ4 => noNd ρ4 vs ∧ if b = true then te ρ4 (fun t ρ5 => noNd ρ5 vs ∧ ∃ y, erase t = some y ∧ P (i + 1) (acc ++ [y]) (wipeR ρ5 vs)) exN else P (i + 1) acc (wipeR ρ4 vs)) exN) exN) ∧
  (∀ acc ρ2, P xs.length acc ρ2 → Q (.l (acc.map T.d)) (restR ρ1 ρ2 vs))) E
theorem noneW {K : PySem.W.Frag} {C : Ctx} {H : Hp} {O : Own} : ∀ c ρ, exN c ρ → exK K C (fun _ _ _ _ => False) H O c ρ := fun _ _ z => z.elim
section
variable {X : Cx} {io : List Nat} {tg iter elt e : Expr} {ifs : List Expr} {wi : TwI} {g : TwG} {tt : TwT} {te : TwE} {pos : Pos} {scope : Scope} {own : List (Str × Nat)}
structure LTs (X : Cx) (ifs : List Expr) (tw : TwT) : Prop where
  mono : MonE tw
  run : ∀ (C : Ctx) (W : WX) (n : Nat), C.N = X.N.length → C.N ≤ n → Takes X W → PTs X ifs (lfT X.K C W n tw)
def wYes : TwT := fun ρ Q _ => Q true ρ
theorem lts_nil : LTs X [] wYes := ⟨fun ρ Q Q' E E' h _ q => h _ _ q, fun C W n hC hn tk => ⟨fun pins s σ H Q I ⟨O, ρ, R, q⟩ => pts_nil.run pins s σ H Q I (q H O R .refl)⟩⟩
theorem lts_one (h : LT X e tt) : LTs X [e] tt := ⟨h.mono, fun C W n hC hn tk => pts_one (h.run C W n hC hn tk)⟩
theorem wLc_mono {vs : List Nat} (hi : MonE wi) : MonE (wLc wi g tt te vs) := fun ρ Q Q' E E' h he q => hi ρ _ _ E E' (fun xs ρ1 ⟨h1, h2, P, p0, ps, pd⟩ => ⟨h1, h2, P, p0, ps, fun acc ρ2 z => h _ _ (pd acc ρ2 z)⟩) he q
/-- the state between two turns -/
theorem lc_run {K : PySem.W.Frag} {C : Ctx} {W : WX} {n : Nat} {vs : List Nat} {σ : St} {H : Hp} {Q : VK} (hi : MonE wi) (hg : MonG g) (ht : MonE tt) (he : MonE te) (hn : C.N ≤ n) (hv : ∀ j ∈ vs, j < C.N)
    (h : lfE K C W n (wLc wi g tt te vs) σ H Q) : tLc (lfI K C W n wi) (lfG K C (fun _ _ _ _ => False) vs (n + 1) g) (lfT K C (fun _ _ _ _ => False) (n + 1) tt) (lfE K C (fun _ _ _ _ => False) (n + 1) te) vs σ H Q := by
  obtain ⟨O, ρ, R, q⟩ := h
  refine ⟨O, ρ, R, hi ρ _ _ _ _ (fun xs ρ1 ⟨nn, sz, P, p0, ps, pd⟩ => ?_) (fun _ _ z => z) q⟩
  intro J H1 O1 R1 F1 Y D hD
  obtain ⟨RA, FA, UA⟩ := R1.alloc (o := .lst []) hD trivial
  have FA' : Frm C.N n H O (upd H1 D (.lst [])) (lay n D O1) := F1.trans FA (Nat.le_refl _)
  refine ⟨fun i m H2 => m = xs.length - i ∧ i ≤ xs.length ∧ ∃ O2 ρ2 acc ws, Rel K C (n + 1) (wipe σ vs) H2 O2 ρ2 ∧ Frm C.N n H1 O1 H2 O2 ∧ O2 D = .at n [] ∧ (∀ b q, O2 b = .at n q → b = D ∧ q = []) ∧ H2 D = some (.lst ws) ∧ RpAll K (msk O2 H2) ws acc ∧ acc.length ≤ i ∧ P i acc ρ2 ∧ ∀ j ∈ vs, ∀ t, ρ2[j]? ≠ some (some t),
    ⟨_, rfl, Nat.zero_le _, _, wipeR ρ1 vs, [], [], relWipe RA nn rfl, FA, lay_same, UA, upd_same, .nil, Nat.le_refl _, p0, fun j hj t => by rw [wipeR_get, if_pos hj]; split <;> simp⟩, ?_⟩
  rintro i m H2 ⟨rfl, hi', O2, ρ2, acc, ws, R2, F2, oD, uD, hH, ha, al, p, hw⟩
  by_cases hlt : i < xs.length
  · have ex : xs[i]? = some xs[i] := List.getElem?_eq_getElem hlt
    refine .inr ⟨Y.go i _ H2 O2 F2.fre ex, fun H6 => ∃ O6 ρ6 acc6 ws6, Rel K C (n + 1) (wipe σ vs) H6 O6 ρ6 ∧ Frm C.N n H1 O1 H6 O6 ∧ O6 D = .at n [] ∧ (∀ b q, O6 b = .at n q → b = D ∧ q = []) ∧ H6 D = some (.lst ws6) ∧ RpAll K (msk O6 H6) ws6 acc6 ∧ acc6.length ≤ i + 1 ∧ P (i + 1) acc6 ρ6 ∧ ∀ j ∈ vs, ∀ t, ρ6[j]? ≠ some (some t),
      fun H6 h6 => ⟨xs.length - (i + 1), by omega, rfl, hlt, h6⟩, fun v H3 y => ?_⟩
    obtain ⟨hu, rp⟩ := Y.yld i _ v H2 O2 H3 F2.fre ex y R2.nt
    obtain ⟨R3, kp⟩ := rel_yield R2 hu
    have F3 : Frm C.N (n + 1) H2 O2 H3 O2 := ⟨fun b o e1 e2 => ⟨kp b o e1, e2⟩, fun _ _ _ e _ => e, fun b o r p e1 e2 _ _ => ⟨kp b o e1, e2⟩, fun _ _ _ e _ _ => e⟩
    -- labels of the frame's own places are kept through the target: the block's own names hold none
    have nolab : ∀ {b r q}, O2 b = .at r q → r < C.N → r ∉ vs := fun {b r q} e l hr => by
      obtain ⟨t, z, h1, _⟩ := R2.val b r q e l
      exact hw r hr t h1
    refine ⟨O2, ρ2, xs[i], R3, rp, hg _ _ _ _ _ _ (fun ρ3 q3 => ?_) noneW (ps i _ acc ρ2 ex p)⟩
    intro σ4 H4 O4 R4 F4 w4
    have F24 : Frm C.N (n + 1) H2 O2 H4 O4 := ⟨F3.fre.trans F4.fre, fun b r q e l => F4.pl b r q e l (nolab e l), fun b o r q e1 e2 l1 l2 => F4.tm b o r q (kp b o e1) e2 l1 l2, fun b r q e l1 l2 => F4.nw b r q e l1 l2⟩
    have ww : wipe σ4 vs = wipe σ vs := w4.trans (wipe_twice σ vs)
    refine ⟨ww, O4, ρ3, R4, ht ρ3 _ _ _ _ (fun b ρ4 q4 => ?_) noneW q3⟩
    intro H5 O5 R5 F5
    have F25 := F24.trans F5 (Nat.le_refl _)
    obtain ⟨nn4, q4⟩ := q4
    -- D stands
    have dk : ∀ {H' O'}, Frm C.N (n + 1) H2 O2 H' O' → H' D = some (.lst ws) ∧ O' D = .at n [] := fun {H' O'} f => f.tm D _ n [] hH oD hn (Nat.lt_succ_self n)
    have du : ∀ {H' O'}, Frm C.N (n + 1) H2 O2 H' O' → ∀ b q, O' b = .at n q → b = D ∧ q = [] := fun {H' O'} f b q e => uD b q (f.nw b n q e hn (Nat.lt_succ_self n))
    cases b with
    | false =>
      have RW := relWipe (σ2 := σ4) R5 nn4 rfl
      rw [ww] at RW
      exact ⟨O5, wipeR ρ4 vs, acc, ws, RW, F2.trans (F25.le (Nat.le_succ n)) (Nat.le_refl _), (dk F25).2, du F25, (dk F25).1, ha.fre F25.fre, Nat.le_succ_of_le al, q4, fun j hj t => by rw [wipeR_get, if_pos hj]; split <;> simp⟩
    | true =>
      refine ⟨O5, ρ4, R5, he ρ4 _ _ _ _ (fun t ρ5 q5 => ?_) noneW q4⟩
      intro y H6 O6 R6 F6 V6
      obtain ⟨nn5, yd, ey, q5⟩ := q5
      have F26 := F25.trans F6 (Nat.le_refl _)
      obtain ⟨hD6, oD6⟩ := dk F26
      have al' : ws.length = acc.length := ha.length
      refine ⟨ws, hD6, by rw [al', sizeLine_eq]; omega, ?_⟩
      -- the list at D grows
      have R7 := R6.cut (n := n + 1) (Nat.le_succ_of_le hn)
      have oD7 : cut (n + 1) O6 D = .at n [] := cut_at.mpr ⟨oD6, Nat.lt_succ_self n⟩
      have ne : ∀ {b}, cut (n + 1) O6 b = .free → b ≠ D := fun {b} z e => by subst e; rw [oD7] at z; cases z
      have ne2 : ∀ {b}, cut (n + 1) O6 b = .foreign → b ≠ D := fun {b} z e => by subst e; rw [oD7] at z; cases z
      have keepR : Rel K C (n + 1) σ4 (upd H6 D (.lst (ws ++ [y]))) (cut (n + 1) O6) ρ5 := by
        refine ⟨fun b o e1 e2 => ?_, fun b z => ?_, R7.lt, R7.inj, R7.val, R7.ln, R7.lr, fun j u e => ?_, R7.hN, R7.fo, R7.pz, R7.sm⟩
        · obtain ⟨z1, z2⟩ := R7.fr b o e1 e2
          refine ⟨?_, z2⟩
          rcases e2 with e2 | e2
          · rw [upd_ne (ne (z2.trans e2))]; exact z1
          · rw [upd_ne (ne2 (z2.trans e2))]; exact z1
        · by_cases hb : b = D
          · subst hb; exact ⟨_, upd_same, trivial⟩
          · obtain ⟨o, e, w⟩ := R7.nt b z
            exact ⟨o, by rw [upd_ne hb]; exact e, w⟩
        · obtain ⟨v', h1, h2⟩ := R7.sl j u e
          have hjN : j < C.N := R7.slt e
          exact ⟨v', h1, Tr.move (r' := j) (p0 := []) (p1 := []) (fun b o e1 e2 => ⟨by rw [upd_ne (ne e2)]; exact e1, e2⟩) (fun b o q e1 e2 => ⟨by rw [upd_ne (fun z => by subst z; rw [oD7] at e2; cases e2; omega)]; exact e1, e2⟩) u [] v' h2⟩
      have RW := relWipe (σ2 := σ4) keepR nn5 rfl
      rw [ww] at RW
      have up : ∀ b o, msk (cut (n + 1) O6) H6 b = some o → msk (cut (n + 1) O6) (upd H6 D (.lst (ws ++ [y]))) b = some o := fun b o z => by
        obtain ⟨z1, z2⟩ := msk_some z
        rw [msk_of z1, upd_ne (ne z1)]; exact z2
      have F67 : Frm C.N n H6 O6 (upd H6 D (.lst (ws ++ [y]))) (cut (n + 1) O6) := ⟨fun b o e1 e2 => ⟨by rw [upd_ne (ne (cut_free e2))]; exact e1, cut_free e2⟩, fun b r q e l => cut_at.mpr ⟨e, by omega⟩, fun b o r q e1 e2 l1 l2 => ⟨by rw [upd_ne (fun z => by subst z; rw [oD6] at e2; cases e2; omega)]; exact e1, cut_at.mpr ⟨e2, by omega⟩⟩, fun b r q e _ _ => (cut_at.mp e).1⟩
      refine ⟨_, wipeR ρ5 vs, acc ++ [yd], ws ++ [y], RW, (F2.trans (F26.le (Nat.le_succ n)) (Nat.le_refl _)).trans F67 (Nat.le_refl _), oD7, fun b q e => du F26 b q (cut_at.mp e).1, upd_same, ?_, by rw [List.length_append]; simp; omega, q5, fun j hj t => by rw [wipeR_get, if_pos hj]; split <;> simp⟩
      refine RpAll.append (RpAll.mono up _ _ (ha.fre (F26.fre.trans (fre_cut _)))) (.cons (Rp.mono up _ _ (V6.asD (Nat.le_refl _) ey)) .nil)
  · have e : i = xs.length := by omega
    subst e
    refine .inl ⟨Y.stop H2 O2 F2.fre, pd acc ρ2 p (.ref D) H2 O2 (relBack R1 nn R2 hw F2.fre) (F1.trans F2 (Nat.le_refl _)) ⟨.l oD hH (TrAll.ofData ha), fun b q e => ?_⟩⟩
    obtain ⟨rfl, rfl⟩ := uD b q e
    exact ⟨_, rfl, rfl⟩
theorem le_lc (hc : X.calm = true) (hN : X.N.Nodup) (hi : LI X tg iter wi) (ok : BlkOk X.N X.env.scope scope own)
    (hg : ∀ (s : Shared) (H : Hp) (C : Addr) (cl : List (Str × Addr)) (fp : List Addr), LG (X.blk s H scope (compEnvC scope cl C X.env) fp) (own.map (·.2)) tg g)
    (ht : ∀ (s : Shared) (H : Hp) (C : Addr) (cl : List (Str × Addr)) (fp : List Addr), LTs (X.blk s H scope (compEnvC scope cl C X.env) fp) ifs tt)
    (he : ∀ (s : Shared) (H : Hp) (C : Addr) (cl : List (Str × Addr)) (fp : List Addr), LE (X.blk s H scope (compEnvC scope cl C X.env) fp) elt te) (hs : ∀ x, foldedSetIterable iter X.env x = pure x := by intro _; rfl) :
    LE X (.ListComp elt [⟨tg, iter, ifs, 0⟩] scope pos) (wLc wi g tt te (own.map (·.2))) := by
  refine ⟨wLc_mono hi.mono, fun C W n hC hn tk => ?_⟩
  refine ⟨fun pins s0 σ H Q I h => (pe_lc (pos := pos) (g := lfG X.K C (fun _ _ _ _ => False) (own.map (·.2)) (n + 1) g) (tt := lfT X.K C (fun _ _ _ _ => False) (n + 1) tt) (te := lfE X.K C (fun _ _ _ _ => False) (n + 1) te) hc hN (hi.run C W n hC hn tk) ok (fun s H c cl fp => (hg s H c cl fp).run C (fun _ _ _ _ => False) (n + 1) hC (Nat.le_succ_of_le hn) takes0) (fun s H c cl fp => (ht s H c cl fp).run C (fun _ _ _ _ => False) (n + 1) hC (Nat.le_succ_of_le hn) takes0)
    (fun s H c cl fp => (he s H c cl fp).run C (fun _ _ _ _ => False) (n + 1) hC (Nat.le_succ_of_le hn) takes0) hs).run pins s0 σ H Q I (lc_run hi.mono (hg s0 H 0 [] []).mono (ht s0 H 0 [] []).mono (he s0 H 0 [] []).mono hn (fun j hj => by
    obtain ⟨⟨x, j'⟩, h1, rfl⟩ := List.mem_map.mp hj
    rw [hC]
    exact (List.getElem?_eq_some_iff.mp (ok.ix _ h1)).1) h)⟩
theorem ls_setLc {i : Nat} {y : Str} {py spos : Pos} (hc : X.calm = true) (hN : X.N.Nodup) (hy : X.N[i]? = some y) (hyl : X.env.scope.names.lookup y = some .local) (hsw : swapsWith (.ListComp elt [⟨tg, iter, ifs, 0⟩] scope pos) (some (.Name y py)) spos.line X.env = pure true) (hi : LI X tg iter wi) (ok : BlkOk X.N X.env.scope scope own)
    (hg : ∀ (s : Shared) (H : Hp) (C : Addr) (cl : List (Str × Addr)) (fp : List Addr), LG (X.blk s H scope (compEnvC scope cl C X.env) fp) (own.map (·.2)) tg g)
    (ht : ∀ (s : Shared) (H : Hp) (C : Addr) (cl : List (Str × Addr)) (fp : List Addr), LTs (X.blk s H scope (compEnvC scope cl C X.env) fp) ifs tt)
    (he : ∀ (s : Shared) (H : Hp) (C : Addr) (cl : List (Str × Addr)) (fp : List Addr), LE (X.blk s H scope (compEnvC scope cl C X.env) fp) elt te) (hio : i ∉ io := by decide) (hs : ∀ x, foldedSetIterable iter X.env x = pure x := by intro _; rfl) :
    LS X io (.Assign [.Name y py] (.ListComp elt [⟨tg, iter, ifs, 0⟩] scope pos) spos) (wSet i (wLc wi g tt te (own.map (·.2)))) := by
  refine ⟨fun D D' ρ l q => wLc_mono hi.mono ρ _ _ _ _ (fun t ρ1 ⟨h, q⟩ => ⟨h, l.nx _ q⟩) l.ex q, fun C W hC hio' tk hp => ?_⟩
  have hn := Nat.le_refl C.N
  refine ⟨fun pins s0 σ H D I h => (ps_setLc (g := lfG X.K C (fun _ _ _ _ => False) (own.map (·.2)) (C.N + 1) g) (tt := lfT X.K C (fun _ _ _ _ => False) (C.N + 1) tt) (te := lfE X.K C (fun _ _ _ _ => False) (C.N + 1) te) hc hN hy hyl hsw (hi.run C W C.N hC hn tk) ok (fun s H c cl fp => (hg s H c cl fp).run C (fun _ _ _ _ => False) (C.N + 1) hC (Nat.le_succ_of_le hn) takes0) (fun s H c cl fp => (ht s H c cl fp).run C (fun _ _ _ _ => False) (C.N + 1) hC (Nat.le_succ_of_le hn) takes0)
    (fun s H c cl fp => (he s H c cl fp).run C (fun _ _ _ _ => False) (C.N + 1) hC (Nat.le_succ_of_le hn) takes0) hs).run pins s0 σ H D I ?_⟩
  obtain ⟨O, ρ, R, q⟩ := h
  refine lc_run (W := W) (Q := fun x H1 => gName i x σ H1 D.nx) hi.mono (hg s0 H 0 [] []).mono (ht s0 H 0 [] []).mono (he s0 H 0 [] []).mono hn (fun j hj => by
    obtain ⟨⟨x, j'⟩, h1, rfl⟩ := List.mem_map.mp hj
    rw [hC]
    exact (List.getElem?_eq_some_iff.mp (ok.ix _ h1)).1) ⟨O, ρ, R, wLc_mono hi.mono ρ _ _ _ _ (fun t ρ1 ⟨ha, q⟩ => ?_) (fun _ _ z => z) q⟩
  intro v H1 O1 R1 F1 V1
  obtain ⟨O', R', F'⟩ := relStoreT R1 (nlt hC hy) (by rw [hio']; exact hio) V1 ha
  exact q _ H1 O' R' (F1.fre.trans F')
end
end TX

/-! Defs and their calls, over trees, where no representation is under way (guards). -/
namespace TX
open PySem PySem.Spec L2 PyProof.Rows

/-! ### a def's promise, for callers in which no repr runs -/
structure FnG (P : Program) (w : World) (K : PySem.W.Frag) (mg : Str → Option Value) (base : Heap) (k : Nat) (f : Addr) (fd : FuncData) (ps : List Str) (sp : Sp) : Prop where
  len : ∀ vs H Q E, sp vs H Q E → vs.length = ps.length
  run : ∀ (B : Around) (out : List Env) (s : Shared) (H : Hp) (ar : Args) (us : List Value) (vs : List V) (Q : VK) (E : XK), Room k B → B.guards = some [] → Env0 P w K mg base B out s H → BindsTo s fd ar (ps.zip us) → Vals vs us → sp vs H Q E →
    codeAny (model P w) B (.call (.ref f) ar) (CR (L2.CX P w) out P w H s Q E) s
theorem FnG.up {P : Program} {w : World} {K : PySem.W.Frag} {mg : Str → Option Value} {base : Heap} {j k : Nat} {f : Addr} {fd : FuncData} {ps : List Str} {sp : Sp} (F : FnG P w K mg base j f fd ps sp) (h : j ≤ k) : FnG P w K mg base k f fd ps sp :=
  ⟨F.len, fun B out s H ar us vs Q E r => F.run B out s H ar us vs Q E (r.mono h)⟩
section
variable {P : Program} {w : World} {K : PySem.W.Frag} {mg : Str → Option Value} {base : Heap}
theorem _root_.L2.Fun.okG {x qual : Str} {st : Stmt} {f : Addr} {fd : FuncData} {N ps : List Str} {k : Nat} {sp : Sp} (F : Fun K x qual st f fd) (S : FnScope N ps (defScope st)) (len : ∀ vs H Q E, sp vs H Q E → vs.length = ps.length)
    (hbody : ∀ (cv : Value) (B : Around) (out : List Env) (s : Shared) (H : Hp) (vs : List V) (Q : VK) (E : XK), Room k (B.deeper (envOfC qual (defScope st) s.heap.objs.size f cv)) → B.guards = some [] → sp vs H Q E →
      ∃ t, PSs (cxOf (L2.CX P w) P w K mg base N qual (defScope st) f cv B out s H E) (defBody st) t ∧ t { nx := fun _ H' => Q .non H', rt := Q } (L2.start N vs) H) : FnG P w K mg base (k + 1) f fd ps sp := by
  obtain ⟨oc, od, kV, doc, pm, an, cv, ct, osl, rfl, lk, hcd⟩ := F.ex
  refine ⟨len, fun B out s H ar us vs Q E room gu e0 bind vals hsp => ?_⟩
  have lenV := len _ _ _ _ hsp
  have kin : K.In s.heap := e0.mod.kin.keeps (fun b o e => (e0.bs b o e).1)
  have lim : s.heap.NoLimit := e0.mod.nolimit.keeps (fun b o e => (e0.bs b o e).1)
  refine codeAny_call_function room.depth (kin _ _ lk) rfl S.co S.gen rfl (PySem.W.codeRec_of kin hcd) (bind _ _ _ _ ?_)
  refine wpAny_newFunctionEnv_cells S.kind (fun ⟨n, v⟩ hy => ?_) fun env he s1 x => ?_
  · rcases S.par n (List.of_mem_zip hy).1 with q | q
    · exact Or.inl q
    · exact Or.inr ⟨q, PySem.W.cellsFrom_some _ _ _ (Or.inl q)⟩
  · subst he
    refine ⟨lim.keeps x.toInCall.keep, codeAny_func ?_⟩
    obtain ⟨t, ht, hq⟩ := hbody cv B out s H vs Q E (room.deeper _) gu hsp
    have J := inv_start (CX := L2.CX P w) (E := E) (cd := cv) S room.hd e0 lenV vals x
    refine wpAny_mono (ht.run [] s1 (L2.start N vs) H _ J hq) (fun fl s2 hs => ?_) fun _ _ z => z
    cases fl with
    | ret u => obtain ⟨v, _, H', J', rv, q⟩ := hs; exact ⟨v, H', J'.os, J'.bare, J'.base, J'.hok, rv, q⟩
    | next => obtain ⟨_, H', J', q⟩ := hs; exact ⟨V.non, H', J'.os, J'.bare, J'.base, J'.hok, rfl, q⟩
    | brk => obtain ⟨_, _, _, q⟩ := hs; exact q.elim
    | cont => obtain ⟨_, _, _, q⟩ := hs; exact q.elim
end
section
variable {X : Cx} {k : Nat} {f : Addr} {fd : FuncData} {ps : List Str} {sp : Sp} {E : L2.St → XK} {x : Str} {p pos : Pos} {e : Expr} {es : List Expr} {t : TA}
theorem run_fnG {pins : List (Addr × Obj)} {σ : L2.St} {H : Hp} {s : Shared} {Q : VK} {us : List Value} {vs : List V} (F : FnG X.prog X.w X.K X.mg X.base k f fd ps sp) (room : Room k X.A) (gu : X.A.guards = some []) (bind : Binds X.K fd ps []) (pass : PassesAt (L2.CX X.prog X.w) X σ (E σ))
    (J : Inv X pins σ H s) (vals : Vals vs us) (h : sp vs H Q (E σ)) : wpAny (model X.prog X.w) X.A (call (.ref f) us) (EP X pins σ Q) X.xe s := by
  have lu : us.length = ps.length := vals.length.symm.trans (F.len _ _ _ _ h)
  have bd := bind s us J.kIn (by simpa using lu)
  simp only [List.append_nil] at bd
  refine wpAny_call (codeAny_mono (F.run X.A X.stack s H ⟨us, []⟩ us vs Q (E σ) room gu J.env0 bd vals h) fun r s2 hq => ?_)
  cases r with
  | error err => exact pass pins H s err s2 J hq
  | ok fl => cases fl with
    | ret u => exact J.after hq
    | _ => exact False.elim hq
def tCallG (sp : Sp) (E : L2.St → XK) (t : TA) : TE := fun σ H Q => t σ H fun vs H1 => sp vs H1 Q (E σ)
theorem pe_callG (F : FnG X.prog X.w X.K X.mg X.base k f fd ps sp) (room : Room k X.A) (gu : X.A.guards = some []) (hg : Gl X x) (hm : X.mg x = some (.ref f)) (hk : PySem.W.keepIn X.K (.ref f) = true) (bind : Binds X.K fd ps []) (pass : ∀ σ, PassesAt (L2.CX X.prog X.w) X σ (E σ))
    (ha : PA X (e :: es) t) (hdb : (x == ("__debug__" : Str)) = false := by decide) (he : starEach (e :: es) X.env = (false, eval e X.env) :: starEach es X.env := by rfl) (hpl : (backTo pos (starEach es X.env)).any (·.1) = false := by rfl) :
    PE X (.Call (.Name x p) (e :: es) [] pos) (tCallG sp E t) := ⟨fun pins s σ H Q J h =>
  wpAny_Call_Name_kw (ld_glob J hg hm (PySem.W.callWith_K (h₀ := X.base) J.ok.mod.kin hk (thn (ha.run pos pins s σ H _ J h) fun us s1 ⟨vs, H1, J1, vals, q⟩ => ⟨J1.kIn, run_fnG F room gu bind (pass σ) J1 vals q⟩) he hpl) hdb)⟩
end

/-! ### a promise over trees -/
abbrev SpT := List T → (T → Rho → Prop) → ExK → Prop
structure Ent (K : PySem.W.Frag) (np : Nat) (io : List Nat) (vs : List V) (H : Hp) (O : Own) (ts : List T) : Prop where
  lv : vs.length = np
  lt : ts.length = np
  tr : ∀ (i : Nat) (t : T), ts[i]? = some t → ∃ v, vs[i]? = some v ∧ Tr K H O i [] v t
  nt : ∀ b, O b ≠ .free → ∃ o, H b = some o ∧ ownable o
  inj : ∀ a b r p, O a = .at r p → O b = .at r p → a = b
  val : ∀ b r p, O b = .at r p → r < np ∧ r ∈ io ∧ ∃ t z, ts[r]? = some t ∧ subT t p = some z ∧ isNode z = true
  sm : Sm K H O
structure Exi (K : PySem.W.Frag) (np : Nat) (io : List Nat) (vs : List V) (H : Hp) (O : Own) (H' : Hp) (O' : Own) (ρ : Rho) : Prop where
  fr : ∀ b o, H b = some o → (O b = .free ∨ O b = .foreign) → H' b = some o ∧ O' b = O b
  nt : ∀ b, O' b ≠ .free → ∃ o, H' b = some o ∧ ownable o
  inj : ∀ a b r p, O' a = .at r p → O' b = .at r p → a = b
  pz : ∀ b j p, O b = .at j p → O' b = .at j p
  fo : ∀ b, O' b = .foreign → O b = .foreign
  lt : ∀ b r p, O' b = .at r p → r ≤ np
  val : ∀ b r p, O' b = .at r p → r < np → r ∈ io ∧ ∃ t z, ρ[r]? = some (some t) ∧ subT t p = some z ∧ isNode z = true
  tr : ∀ (i : Nat) (v : V) (t t0 : T) (ts : List T), i ∈ io → vs[i]? = some v → Tr K H O i [] v t0 → isNode t0 = true → ρ[i]? = some (some t) → isNode t = true → Tr K H' O' i [] v t
def lfSp (K : PySem.W.Frag) (np : Nat) (io : List Nat) (S : SpT) : Sp := fun vs H Q E => ∃ O ts, Ent K np io vs H O ts ∧
  S ts (fun t ρ => ∀ v H' O', Exi K np io vs H O H' O' ρ → Val K H' O' np v t → Q v H') (fun c ρ => ∀ H' O', Exi K np io vs H O H' O' ρ → (∀ b p, O' b ≠ .at np p) → E (.ref c) none H')
/-- the frame's values at the entry -/
def rho0 (N : List Str) (ts : List T) : Rho := ts.map some ++ List.replicate (N.length - ts.length) none
theorem rho0_get {N : List Str} {ts : List T} {i : Nat} {t : T} (h : (rho0 N ts)[i]? = some (some t)) : ts[i]? = some t := by
  unfold rho0 at h
  by_cases hi : i < ts.length
  · rw [List.getElem?_append_left (by simpa using hi), List.getElem?_map] at h
    cases e : ts[i]? with
    | none => rw [e] at h; cases h
    | some a => rw [e] at h; cases h; rfl
  · rw [List.getElem?_append_right (by simpa using Nat.le_of_not_lt hi), List.getElem?_replicate] at h
    split at h <;> cases h
theorem rho0_of {N : List Str} {ts : List T} {i : Nat} {t : T} (h : ts[i]? = some t) : (rho0 N ts)[i]? = some (some t) := by
  unfold rho0
  have hi := (List.getElem?_eq_some_iff.mp h).1
  rw [List.getElem?_append_left (by simpa using hi), List.getElem?_map, h]; rfl
theorem start_of {N : List Str} {vs : List V} {i : Nat} {v : V} (h : vs[i]? = some v) : (L2.start N vs)[i]? = some (some v) := by
  unfold L2.start
  have hi := (List.getElem?_eq_some_iff.mp h).1
  rw [List.getElem?_append_left (by simpa using hi), List.getElem?_map, h]; rfl
section
variable {P : Program} {w : World} {K : PySem.W.Frag} {mg : Str → Option Value} {base : Heap}
/-- only the labels of parameters that are handed in to be changed, and of the result, are kept -/
def outL (np : Nat) (io : List Nat) (N : Nat) (O : Own) : Own := fun b => match O b with
  | .at r p => if r = N then .at np p else if r < np ∧ r ∈ io then .at r p else .free
  | z => z
theorem outL_free {np N : Nat} {io : List Nat} {O : Own} {b : Addr} (h : O b = .free) : outL np io N O b = .free := by unfold outL; rw [h]
theorem outL_foreign {np N : Nat} {io : List Nat} {O : Own} {b : Addr} : outL np io N O b = .foreign ↔ O b = .foreign := by
  unfold outL
  cases e : O b with
  | free => simp
  | foreign => simp
  | «at» r p =>
    simp only
    by_cases h : r = N
    · simp [h]
    · rw [if_neg h]
      by_cases h2 : r < np ∧ r ∈ io <;> simp [h2]
theorem outL_at {np N : Nat} {io : List Nat} {O : Own} {b : Addr} {r : Nat} {p : List Nat} (h : outL np io N O b = .at r p) : (r = np ∧ O b = .at N p) ∨ (r < np ∧ r ∈ io ∧ r ≠ N ∧ O b = .at r p) := by
  unfold outL at h
  cases e : O b with
  | free => rw [e] at h; cases h
  | foreign => rw [e] at h; cases h
  | «at» r' p' =>
    rw [e] at h
    simp only at h
    by_cases h1 : r' = N
    · rw [if_pos h1] at h; cases h; subst h1; exact .inl ⟨rfl, rfl⟩
    · rw [if_neg h1] at h
      by_cases h2 : r' < np ∧ r' ∈ io
      · rw [if_pos h2] at h; cases h; exact .inr ⟨h2.1, h2.2, h1, rfl⟩
      · rw [if_neg h2] at h; cases h
theorem outL_res {np N : Nat} {io : List Nat} {O : Own} {b : Addr} {p : List Nat} (h : O b = .at N p) : outL np io N O b = .at np p := by unfold outL; rw [h]; simp
theorem outL_io {np N : Nat} {io : List Nat} {O : Own} {b : Addr} {r : Nat} {p : List Nat} (h : O b = .at r p) (h1 : r < np) (h2 : r ∈ io) (h3 : r ≠ N) : outL np io N O b = .at r p := by unfold outL; rw [h]; simp [h1, h2, h3]
theorem exi_of {C : Ctx} {n np : Nat} {io : List Nat} {vs : List V} {σ : L2.St} {H0 H : Hp} {O0 O : Own} {ρ : Rho} {ts : List T} (hH : C.H0 = H0) (hO : C.O0 = O0) (hnp : np ≤ C.N) (En : Ent K np io vs H0 O0 ts) (R : Rel K C n σ H O ρ) : Exi K np io vs H0 O0 H (outL np io C.N O) ρ := by
  subst hH hO
  refine ⟨fun b o e1 e2 => ?_, fun b z => R.nt b fun q => z (outL_free q), fun a b r p e1 e2 => ?_, fun b j p e => ?_, fun b e => let ⟨_, _, z⟩ := R.fo b (outL_foreign.mp e); z, fun b r p e => ?_, fun b r p e l => ?_, fun i v t t0 _ hi hv h0 hn e hn2 => ?_⟩
  · obtain ⟨z1, z2⟩ := R.fr b o e1 e2
    refine ⟨z1, ?_⟩
    rcases e2 with e2 | e2
    · rw [e2] at z2 ⊢; exact outL_free z2
    · rw [e2] at z2 ⊢; exact outL_foreign.mpr z2
  · rcases outL_at e1 with ⟨h1, h2⟩ | ⟨h1, _, _, h2⟩ <;> rcases outL_at e2 with ⟨h3, h4⟩ | ⟨h3, _, _, h4⟩
    · exact R.inj a b _ _ h2 h4
    · omega
    · omega
    · exact R.inj a b _ _ h2 h4
  · obtain ⟨h1, h2, _⟩ := En.val b j p e
    obtain ⟨h3, h4⟩ := R.pz b j p e
    exact outL_io h4 h1 h2 (Nat.ne_of_lt h3)
  · rcases outL_at e with ⟨h1, _⟩ | ⟨h1, _⟩ <;> omega
  · rcases outL_at e with ⟨h1, _⟩ | ⟨h1, h2, h3, h4⟩
    · omega
    · exact ⟨h2, R.val b r p h4 (by omega)⟩
  · obtain ⟨a, rfl, ha⟩ := tr_root h0 hn
    obtain ⟨h3, h4⟩ := R.pz a i [] ha
    obtain ⟨h1, h2, _⟩ := En.val a i [] ha
    obtain ⟨v', _, tr⟩ := R.sl i t e
    obtain ⟨a', rfl, ha'⟩ := tr_root tr hn2
    rw [R.inj a a' i [] h4 ha']
    exact Tr.move (r' := i) (p0 := []) (p1 := []) (fun b o e1 e2 => ⟨e1, outL_free e2⟩) (fun b o q e1 e2 => ⟨e1, outL_io e2 h1 h2 (Nat.ne_of_lt h3)⟩) t [] _ tr
def noAl : T → Bool
  | .a _ _ => false
  | _ => true
/-- THE RULE for a def: its body over trees -/
theorem _root_.L2.Fun.okT {x qual : Str} {st : Stmt} {f : Addr} {fd : FuncData} {N ps : List Str} {k np : Nat} {io : List Nat} {S : SpT} (F : Fun K x qual st f fd) (Sc : FnScope N ps (defScope st)) (hnp : np = ps.length := by rfl) (hN : np ≤ N.length := by decide)
    (hbody : ∀ (cv : Value) (B : Around) (out : List Env) (s : Shared) (H : Hp) (E : XK), Room k (B.deeper (envOfC qual (defScope st) s.heap.objs.size f cv)) → (B.deeper (envOfC qual (defScope st) s.heap.objs.size f cv)).guards = some [] →
      ∃ tw, LSs (cxOf (L2.CX P w) P w K mg base N qual (defScope st) f cv B out s H E) io (defBody st) tw ∧
        ∀ ts Q Ex, S ts Q Ex → tw { nx := fun ρ => Q (.d .none) ρ, rt := fun t ρ => noAl t = true ∧ Q t ρ, ex := Ex } (rho0 N ts)) : FnG P w K mg base (k + 1) f fd ps (lfSp K np io S) := by
  refine F.okG Sc (fun vs H Q E ⟨O, ts, En, _⟩ => by rw [En.lv, hnp]) fun cv B out s H vs Q E room gu ⟨O, ts, En, hS⟩ => ?_
  obtain ⟨tw, hw, hq⟩ := hbody cv B out s H E room gu
  let C : Ctx := ⟨H, O, N.length, io⟩
  have run := hw.run C (fun cls d _ H => E cls d H) rfl rfl (takes_of rfl rfl rfl rfl) (passes_of rfl)
  refine ⟨_, run, O, rho0 N ts, ?_, ?_⟩
  · have l1 : (L2.start N vs).length = N.length := by unfold L2.start; rw [List.length_append, List.length_map, List.length_replicate, En.lv]; omega
    have l2 : (rho0 N ts).length = N.length := by unfold rho0; rw [List.length_append, List.length_map, List.length_replicate, En.lt]; omega
    exact ⟨fun b o e1 e2 => ⟨e1, rfl⟩, En.nt, fun b r p e => Nat.lt_of_lt_of_le (En.val b r p e).1 hN, En.inj, fun b r p e _ => let ⟨_, _, t, z, h1, h2, h3⟩ := En.val b r p e; ⟨t, z, rho0_of h1, h2, h3⟩, l1, l2,
      fun i t e => let ⟨v, h1, h2⟩ := En.tr i t (rho0_get e); ⟨v, start_of h1, h2⟩, Nat.le_refl _, fun b e => let ⟨o, h, _⟩ := En.nt b (by rw [e]; intro z; cases z); ⟨o, h, e⟩, fun b j p e => ⟨Nat.lt_of_lt_of_le (En.val b j p e).1 hN, e⟩, En.sm, fun b j p e => (En.val b j p e).2.1⟩
  · have fin : ∀ {t : T} {v : V} {σ' : L2.St} {H' : Hp} {O' : Own} {ρ' : Rho} {m : Nat}, (∀ v H' O', Exi K np io vs H O H' O' ρ' → Val K H' O' np v t → Q v H') → Rel K C m σ' H' O' ρ' → Val K H' O' C.N v t → noAl t = true → Q v H' := fun {t v σ' H' O' ρ' m} q R' V' hal => by
      refine q v H' (outL np io C.N O') (exi_of rfl rfl hN En R') ?_
      have gen : ∀ u : T, (Tr K H' O' C.N [] v u ∧ ∀ b p, O' b = .at C.N p → ∃ z, subT u p = some z ∧ isNode z = true) → Tr K H' (outL np io C.N O') np [] v u ∧ ∀ b p, outL np io C.N O' b = .at np p → ∃ z, subT u p = some z ∧ isNode z = true := fun u h =>
        ⟨Tr.move (r' := np) (p0 := []) (p1 := []) (fun b o e1 e2 => ⟨e1, outL_free e2⟩) (fun b o q e1 e2 => ⟨e1, outL_res e2⟩) u [] v h.1, fun b p e => by
          rcases outL_at e with ⟨_, h2⟩ | ⟨h1, _⟩
          · exact h.2 b p h2
          · omega⟩
      cases t with
      | a r p => cases hal
      | _ => exact gen _ V'
    have hq' := hq ts _ _ hS
    refine hw.mono _ _ _ (LeD.mk (fun ρ' q => ?_) (fun t ρ' q => ?_) (fun _ z => False.elim z) (fun _ z => False.elim z) (fun c ρ' q => ?_)) hq'
    · intro σ' H' O' R' F'
      exact fin q R' (R'.val_d .non) rfl
    · intro v σ' H' O' R' F' V'
      exact fin q.2 R' V' q.1
    · intro σ' H' O' R' F'
      refine q H' _ (exi_of rfl rfl hN En R') fun b p e => ?_
      rcases outL_at e with ⟨_, h2⟩ | ⟨h1, _⟩
      · exact absurd (R'.lt b _ p h2) (Nat.lt_irrefl _)
      · omega
end
end TX

/-! The call of a def over trees. -/
namespace TX
open PySem PySem.Spec L2

def stripP : List Nat → List Nat → Option (List Nat)
  | [], q => some q
  | a :: p, b :: q => if a = b then stripP p q else none
  | _ :: _, [] => none
theorem stripP_app : ∀ (p q : List Nat), stripP p (p ++ q) = some q
  | [], q => rfl
  | a :: p, q => by simp [stripP, stripP_app p q]
theorem stripP_some : ∀ {p x q : List Nat}, stripP p x = some q → x = p ++ q
  | [], x, q, h => by cases h; rfl
  | a :: p, [], q, h => by cases h
  | a :: p, b :: x, q, h => by
    unfold stripP at h
    split at h
    · rename_i e; subst e; rw [stripP_some h]; rfl
    · cases h
/-- how an argument comes into the def -/
def argF (io : List Nat) (ρ : Rho) (vu : Bool) (i : Nat) (t : T) : Option T :=
  match io.contains i, t with
  | true, .a r p => match getT ρ r p with
    | some u => if isNode u then some u else none
    | none => none
  | true, _ => none
  | false, .a r p => match vu with
    | true => match getT ρ r p with
      | some u => (erase u).map T.d
      | none => none
    | false => none
  | false, .raw v => some (.raw v)
  | false, .fz ns => some (.fz ns)
  | false, t => (erase t).map T.d
def argsF (io : List Nat) (ρ : Rho) (vu : Bool) : Nat → List T → Option (List T)
  | _, [] => some []
  | i, t :: ts => match argF io ρ vu i t, argsF io ρ vu (i + 1) ts with
    | some u, some us => some (u :: us)
    | _, _ => none
theorem argsF_get {io : List Nat} {ρ : Rho} {vu : Bool} : ∀ {ts us : List T} {k i : Nat} {u : T}, argsF io ρ vu k ts = some us → us[i]? = some u → ∃ t, ts[i]? = some t ∧ argF io ρ vu (k + i) t = some u
  | [], us, k, i, u, h, e => by simp [argsF] at h; subst h; simp at e
  | t :: ts, us, k, i, u, h, e => by
    unfold argsF at h
    cases e1 : argF io ρ vu k t with
    | none => rw [e1] at h; cases h
    | some u' =>
      cases e2 : argsF io ρ vu (k + 1) ts with
      | none => rw [e1, e2] at h; cases h
      | some us' =>
        rw [e1, e2] at h
        cases h
        cases i with
        | zero => cases e; exact ⟨t, rfl, e1⟩
        | succ i =>
          obtain ⟨t', h1, h2⟩ := argsF_get e2 (by simpa using e)
          exact ⟨t', by simpa using h1, by rw [show k + (i + 1) = k + 1 + i by omega]; exact h2⟩
theorem argsF_len {io : List Nat} {ρ : Rho} {vu : Bool} : ∀ {ts us : List T} {k : Nat}, argsF io ρ vu k ts = some us → us.length = ts.length
  | [], us, k, h => by simp [argsF] at h; subst h; rfl
  | t :: ts, us, k, h => by
    unfold argsF at h
    cases e1 : argF io ρ vu k t with
    | none => rw [e1] at h; cases h
    | some u' =>
      cases e2 : argsF io ρ vu (k + 1) ts with
      | none => rw [e1, e2] at h; cases h
      | some us' => rw [e1, e2] at h; cases h; simp [argsF_len e2]
/-- the root of a place -/
def rootT : T → Option Nat
  | .a r _ => some r
  | _ => none
/-- no two places that are handed in have one root -/
def apartB : List T → Bool
  | [] => true
  | t :: ts => (match rootT t with
    | some r => ts.all fun u => rootT u != some r
    | none => true) && apartB ts
theorem apart_eq : ∀ {ts : List T} {i j r : Nat} {p q : List Nat}, apartB ts = true → ts[i]? = some (.a r p) → ts[j]? = some (.a r q) → i = j
  | [], i, _, _, _, _, _, h, _ => by simp at h
  | t :: ts, i, j, r, p, q, h, e1, e2 => by
    simp only [apartB, Bool.and_eq_true] at h
    cases i with
    | zero =>
      cases j with
      | zero => rfl
      | succ j =>
        simp at e1 e2
        subst e1
        have := h.1
        simp only [rootT, List.all_eq_true] at this
        have := this _ (List.mem_of_getElem? e2)
        simp [rootT] at this
    | succ i =>
      cases j with
      | zero =>
        simp at e1 e2
        subst e2
        have := h.1
        simp only [rootT, List.all_eq_true] at this
        have := this _ (List.mem_of_getElem? e1)
        simp [rootT] at this
      | succ j =>
        have := apart_eq (i := i) (j := j) h.2 (by simpa using e1) (by simpa using e2)
        omega
/-- the parameter that a root's tree is handed in at -/
def rmOf (io : List Nat) (ts : List T) (r : Nat) : Option (Nat × List Nat) := io.findSome? fun (i : Nat) => match (ts[i]? : Option T) with
  | some (.a r' p) => if r' = r then some (i, p) else none
  | _ => none
theorem rmOf_some {io : List Nat} {ts : List T} {r i : Nat} {p : List Nat} (h : rmOf io ts r = some (i, p)) : i ∈ io ∧ ts[i]? = some (.a r p) := by
  unfold rmOf at h
  obtain ⟨j, h1, h2⟩ := List.exists_of_findSome?_eq_some h
  split at h2
  · rename_i r' p' e
    split at h2
    · rename_i er; subst er; cases h2; exact ⟨h1, e⟩
    · cases h2
  · cases h2
theorem rmOf_of {io : List Nat} {ts : List T} {r i : Nat} {p : List Nat} (ha : apartB ts = true) (h1 : i ∈ io) (h2 : ts[i]? = some (.a r p)) : rmOf io ts r = some (i, p) := by
  cases e : rmOf io ts r with
  | some x =>
    obtain ⟨j, q⟩ := x
    obtain ⟨_, h3⟩ := rmOf_some e
    have := apart_eq ha h2 h3
    subst this
    rw [h2] at h3; cases h3; rfl
  | none =>
    unfold rmOf at e
    rw [List.findSome?_eq_none_iff] at e
    have := e i h1
    rw [h2] at this
    simp at this
def rmI (io : List Nat) (ts : List T) (i : Nat) : Option (Nat × List Nat) := if i ∈ io then match ts[i]? with
  | some (.a r p) => some (r, p)
  | _ => none else none
theorem rmI_some {io : List Nat} {ts : List T} {r i : Nat} {p : List Nat} (h : rmI io ts i = some (r, p)) : i ∈ io ∧ ts[i]? = some (.a r p) := by
  unfold rmI at h
  split at h
  · split at h
    · rename_i e; cases h; exact ⟨by assumption, e⟩
    · cases h
  · cases h
theorem rmI_of {io : List Nat} {ts : List T} {r i : Nat} {p : List Nat} (h1 : i ∈ io) (h2 : ts[i]? = some (.a r p)) : rmI io ts i = some (r, p) := by
  unfold rmI; rw [if_pos h1, h2]
/-- the owners as the def sees them; and behind it, as the caller does -/
def inL (N n : Nat) (io : List Nat) (ts : List T) (vu : Bool) (O : Own) : Own := fun b => match O b with
  | .at r q => if r < N then (match rmOf io ts r with
      | some (i, p) => match stripP p q with
        | some q' => .at i q'
        | none => .foreign
      | none => if vu = true then .free else .foreign)
    else if r < n then .foreign else .free
  | z => z
def bkL (N n np : Nat) (io : List Nat) (ts : List T) (O O' : Own) : Own := fun b => match O' b with
  | .at i q => if i = np then .at n q else match rmI io ts i with
    | some (r, p) => .at r (p ++ q)
    | none => .free
  | .foreign => O b
  | .free => match O b with
    | .at r q => if r < N then .at r q else .free
    | _ => .free
def backF (io : List Nat) (ts : List T) (ρ' : Rho) (r : Nat) (x : Option T) : Option T := match rmOf io ts r with
  | none => x
  | some (i, p) => match x, ρ'[i]? with
    | some t, some (some u) => some (putT t u p)
    | _, _ => x
def backA (io : List Nat) (ts : List T) (ρ ρ' : Rho) : Rho := ρ.mapIdx (backF io ts ρ')
/-! data without lists and dicts at all leaves -/
mutual
def immT : T → Bool
  | .d x => imm x
  | .l ts => immTs ts
  | .m _ _ ts => immTs ts
  | .o _ _ ts => immTs ts
  | .s _ _ => true
  | .raw _ => true
  | .fz _ => false
  | .lk _ _ _ => false
  | .a _ _ => true
def immTs : List T → Bool
  | [] => true
  | t :: ts => immT t && immTs ts
end
mutual
theorem Tr.moveI {K : PySem.W.Frag} {H : Hp} {O O' : Own} {r r' : Nat} {p0 p1 : List Nat} (hf : ∀ b, O' b ≠ .free → ∃ o, H b = some o ∧ ownable o)
    (hl : ∀ b q, O b = .at r (p0 ++ q) → O' b = .at r' (p1 ++ q)) : ∀ (t : T) (q : List Nat) (v : V), immT t = true → Tr K H O r (p0 ++ q) v t → Tr K H O' r' (p1 ++ q) v t
  | .d x, q, v, i, h => by
    cases h with
    | d h => exact .d (Rp.imm hf x v (by simpa [immT] using i) (Rp.mono (fun b o e => (msk_some e).2) _ _ h))
  | .l ts, q, v, i, h => by
    cases h with
    | l h1 h2 h3 => exact .l (hl _ q h1) h2 (TrAll.moveI hf hl ts q 0 _ (by simpa [immT] using i) h3)
  | .m tk ks ts, q, v, i, h => by
    cases h with
    | mk h1 h2 h3 h4 => exact .mk (hl _ q h1) h2 h3 (TrAll.moveI hf hl ts q 0 _ (by simpa [immT] using i) h4)
    | mt h1 h2 h3 h4 => exact .mt (hl _ q h1) h2 h3 (TrAll.moveI hf hl ts q 0 _ (by simpa [immT] using i) h4)
  | .o C ns ts, q, v, i, h => by
    cases h with
    | o h1 h2 h3 h4 => exact .o (hl _ q h1) h2 h3 (TrAll.moveI hf hl ts q 0 _ (by simpa [immT] using i) h4)
  | .s S n, q, v, i, h => by
    cases h with
    | s h1 h2 => exact .s (hl _ q h1) h2
  | .raw v', q, v, i, h => by cases h; exact .raw
  | .fz ns, q, v, i, h => by simp [immT] at i
  | .lk _ _ _, q, v, i, h => by simp [immT] at i
  | .a _ _, q, v, i, h => by cases h
theorem TrAll.moveI {K : PySem.W.Frag} {H : Hp} {O O' : Own} {r r' : Nat} {p0 p1 : List Nat} (hf : ∀ b, O' b ≠ .free → ∃ o, H b = some o ∧ ownable o)
    (hl : ∀ b q, O b = .at r (p0 ++ q) → O' b = .at r' (p1 ++ q)) : ∀ (ts : List T) (q : List Nat) (k : Nat) (vs : List V), immTs ts = true → TrAll K H O r (p0 ++ q) k vs ts → TrAll K H O' r' (p1 ++ q) k vs ts
  | [], q, k, vs, i, h => by cases h; exact .nil
  | t :: ts, q, k, vs, i, h => by
    cases h with
    | cons h1 h2 =>
      simp [immTs] at i
      refine .cons ?_ (TrAll.moveI hf hl ts q (k + 1) _ i.2 h2)
      have := Tr.moveI hf hl t (q ++ [k]) _ i.1 (by rw [← List.append_assoc]; exact h1)
      rw [← List.append_assoc] at this
      exact this
end
/-- the trees that come back are nodes; where places are looked at, nothing that comes back may lean on them -/
def ioOk (io : List Nat) (vu : Bool) (ρ' : Rho) : Bool := io.all fun i => match ρ'[i]? with
  | some (some t) => isNode t && (!vu || immT t)
  | _ => false
def wCall (io : List Nat) (np : Nat) (S : SpT) (tas : TwA) : TwE := fun ρ Q E => tas ρ (fun ts ρ1 => ∃ vu us, argsF io ρ1 vu 0 ts = some us ∧ us.length = np ∧ apartB ts = true ∧
  S us (fun t ρ' => ioOk io vu ρ' = true ∧ (vu = true → immT t = true) ∧ noAl t = true ∧ Q t (backA io ts ρ1 ρ')) (fun c ρ' => ioOk io vu ρ' = true ∧ E c (backA io ts ρ1 ρ'))) E
def MonSp (S : SpT) : Prop := ∀ ts (Q Q' : T → Rho → Prop) (E E' : ExK), (∀ t ρ, Q t ρ → Q' t ρ) → (∀ c ρ, E c ρ → E' c ρ) → S ts Q E → S ts Q' E'

theorem ValAll.get {K : PySem.W.Frag} {H : Hp} {O : Own} : ∀ {n : Nat} {vs : List V} {ts : List T} {i : Nat} {t : T}, ValAll K H O n vs ts → ts[i]? = some t → ∃ v, vs[i]? = some v ∧ Val K H O (n + i) v t
  | _, _, _, _, _, .nil, e => by simp at e
  | n, _, _, 0, _, .cons h _, e => by simp at e; subst e; exact ⟨_, rfl, h⟩
  | n, _, _, i + 1, _, .cons _ h, e => by
    obtain ⟨v, h1, h2⟩ := ValAll.get (i := i) h (by simpa using e)
    exact ⟨v, by simpa using h1, by rw [show n + (i + 1) = n + 1 + i by omega]; exact h2⟩
section
variable {K : PySem.W.Frag} {C : Ctx} {n m np : Nat} {σ : St} {H H' : Hp} {O O' : Own} {ρ ρ' : Rho} {io : List Nat} {ts us : List T} {vs : List V} {vu : Bool}
theorem inL_free {b : Addr} (h : O b = .free) : inL C.N n io ts vu O b = .free := by unfold inL; rw [h]
theorem inL_foreign {b : Addr} (h : O b = .foreign) : inL C.N n io ts vu O b = .foreign := by unfold inL; rw [h]
theorem inL_tmp {b : Addr} {r : Nat} {q : List Nat} (h : O b = .at r q) (h1 : C.N ≤ n) (h2 : n ≤ r) : inL C.N n io ts vu O b = .free := by unfold inL; rw [h]; simp only; rw [if_neg (by omega), if_neg (by omega)]
theorem inL_mid {b : Addr} {r : Nat} {q : List Nat} (h : O b = .at r q) (h1 : C.N ≤ r) (h2 : r < n) : inL C.N n io ts vu O b = .foreign := by unfold inL; rw [h]; simp only; rw [if_neg (by omega), if_pos h2]
theorem inL_io {b : Addr} {r i : Nat} {p q : List Nat} (h : O b = .at r (p ++ q)) (h1 : r < C.N) (h2 : rmOf io ts r = some (i, p)) : inL C.N n io ts vu O b = .at i q := by unfold inL; rw [h]; simp only; rw [if_pos h1, h2]; simp only; rw [stripP_app]
theorem inL_no {b : Addr} {r : Nat} {q : List Nat} (h : O b = .at r q) (h1 : r < C.N) (h2 : rmOf io ts r = none) : inL C.N n io ts vu O b = if vu = true then .free else .foreign := by unfold inL; rw [h]; simp only; rw [if_pos h1, h2]
theorem inL_off {b : Addr} {r i : Nat} {p q : List Nat} (h : O b = .at r q) (h1 : r < C.N) (h2 : rmOf io ts r = some (i, p)) (h3 : stripP p q = none) : inL C.N n io ts vu O b = .foreign := by unfold inL; rw [h]; simp only; rw [if_pos h1, h2]; simp only; rw [h3]
theorem inL_at {b : Addr} {i : Nat} {q : List Nat} (h : inL C.N n io ts vu O b = .at i q) : ∃ r p, r < C.N ∧ rmOf io ts r = some (i, p) ∧ O b = .at r (p ++ q) := by
  cases e : O b with
  | free => rw [inL_free e] at h; cases h
  | foreign => rw [inL_foreign e] at h; cases h
  | «at» r x =>
    by_cases h1 : r < C.N
    · cases h2 : rmOf io ts r with
      | none => rw [inL_no e h1 h2] at h; split at h <;> cases h
      | some y =>
        obtain ⟨j, p⟩ := y
        cases h3 : stripP p x with
        | none => rw [inL_off e h1 h2 h3] at h; cases h
        | some q' =>
          have := stripP_some h3
          subst this
          rw [inL_io e h1 h2] at h
          cases h
          exact ⟨r, p, h1, h2, rfl⟩
    · unfold inL at h
      rw [e] at h
      simp only at h
      rw [if_neg h1] at h
      split at h <;> cases h
theorem ent_of (R : Rel K C m σ H O ρ) (hn : C.N ≤ n) (VA : ValAll K H O n vs ts) (ha : argsF io ρ vu 0 ts = some us) (hl : us.length = np) (hap : apartB ts = true) : Ent K np io vs H (inL C.N n io ts vu O) us := by
  have len := argsF_len ha
  have hfree : ∀ b o, msk O H b = some o → msk (inL C.N n io ts vu O) H b = some o := fun b o z => by obtain ⟨z1, z2⟩ := msk_some z; rw [msk_of (inL_free z1)]; exact z2
  refine ⟨by rw [VA.length, ← len]; exact hl, hl, fun i u e => ?_, fun b z => R.nt b fun q => z (inL_free q), fun a b i q e1 e2 => ?_, fun b i q e => ?_, ?_⟩
  · obtain ⟨t, h1, h2⟩ := argsF_get ha e
    rw [Nat.zero_add] at h2
    obtain ⟨v, h3, h4⟩ := VA.get h1
    refine ⟨v, h3, ?_⟩
    by_cases hi : i ∈ io
    · have hc : io.contains i = true := by simpa using hi
      unfold argF at h2
      rw [hc] at h2
      cases t with
      | a r p =>
        simp only at h2
        cases g : getT ρ r p with
        | none => rw [g] at h2; cases h2
        | some w =>
          rw [g] at h2
          simp only at h2
          split at h2
          · cases h2
            obtain ⟨⟨a, rfl, e2, _⟩, _⟩ := h4
            have tr := R.alias g (by assumption) e2
            obtain ⟨t0, e3, _⟩ := getT_some g
            have hr := R.slt e3
            have rm := rmOf_of hap hi h1
            exact Tr.move (r' := i) (p0 := p) (p1 := []) (fun b o z1 z2 => ⟨z1, inL_free z2⟩) (fun b o q z1 z2 => ⟨z1, inL_io z2 hr rm⟩) u [] _ (by rw [List.append_nil]; exact tr)
          · cases h2
      | _ => cases h2
    · have hc : io.contains i = false := by simpa using hi
      unfold argF at h2
      rw [hc] at h2
      have tmp : ∀ {t : T} {x : PyData}, Tr K H O (n + i) [] v t → erase t = some x → Rp K (msk (inL C.N n io ts vu O) H) v x := fun {t x} h e => Rp.mono (fun b o z => by
        unfold vis at z
        split at z
        · rename_i e1; rw [msk_of (inL_free e1)]; exact z
        · cases z
        · rename_i r' p' e1
          split at z
          · rename_i e2
            rw [msk_of (inL_tmp e1 hn (by omega))]; exact z
          · cases z) _ _ (Tr.view t [] v x e h)
      cases t with
      | a r p =>
        simp only at h2
        cases vu with
        | false => cases h2
        | true =>
          simp only at h2
          cases g : getT ρ r p with
          | none => rw [g] at h2; cases h2
          | some w =>
            rw [g] at h2
            simp only [Option.map_eq_some_iff] at h2
            obtain ⟨x, e1, rfl⟩ := h2
            obtain ⟨⟨a, rfl, e2, _⟩, _⟩ := h4
            obtain ⟨t0, e3, _⟩ := getT_some g
            have hr := R.slt e3
            obtain ⟨w', g', hnw, tr⟩ := R.place e2 hr
            rw [g] at g'; cases g'
            have rm : rmOf io ts r = none := by
              cases q : rmOf io ts r with
              | none => rfl
              | some y =>
                obtain ⟨j, pj⟩ := y
                obtain ⟨y1, y2⟩ := rmOf_some q
                have := apart_eq hap h1 y2
                subst this
                exact absurd y1 hi
            refine .d (Rp.mono (fun b o z => ?_) _ _ (Tr.view w p _ x e1 tr))
            unfold vis at z
            split at z
            · rename_i e4; rw [msk_of (inL_free e4)]; exact z
            · cases z
            · rename_i r' p' e4
              split at z
              · rename_i e5
                subst e5
                rw [msk_of (by rw [inL_no e4 hr rm]; rfl)]; exact z
              · cases z
      | raw w =>
        cases h2
        rw [val_raw h4]
        exact .raw
      | fz ns =>
        cases h2
        have := h4.1
        cases this with
        | fz h => exact .fz (sql_mono hfree h)
      | d x =>
        simp only [erase, Option.map_some, Option.some.injEq] at h2
        subst h2
        exact .d (Rp.mono hfree _ _ (val_d h4))
      | _ =>
        simp only [Option.map_eq_some_iff] at h2
        obtain ⟨x, e1, rfl⟩ := h2
        exact .d (tmp h4.1 e1)
  · obtain ⟨r, p, h1, h2, h3⟩ := inL_at e1
    obtain ⟨r', p', h1', h2', h3'⟩ := inL_at e2
    have a1 := (rmOf_some h2).2
    have a2 := (rmOf_some h2').2
    rw [a1] at a2; cases a2
    exact R.inj a b _ _ h3 h3'
  · obtain ⟨r, p, h1, h2, h3⟩ := inL_at e
    obtain ⟨h4, h5⟩ := rmOf_some h2
    have hi : i < np := by rw [← hl, len]; exact (List.getElem?_eq_some_iff.mp h5).1
    refine ⟨hi, h4, ?_⟩
    have hu : i < us.length := by rw [hl]; exact hi
    obtain ⟨t, g1, g2⟩ := argsF_get ha (List.getElem?_eq_getElem hu)
    rw [Nat.zero_add] at g2
    rw [h5] at g1; cases g1
    have hc : io.contains i = true := by simpa using h4
    unfold argF at g2
    rw [hc] at g2
    simp only at g2
    cases g : getT ρ r p with
    | none => rw [g] at g2; cases g2
    | some w =>
      rw [g] at g2
      simp only at g2
      split at g2
      · obtain ⟨t0, z, y1, y2, y3⟩ := R.val b r _ h3 h1
        obtain ⟨t1, y4, y5⟩ := getT_some g
        rw [y1] at y4; cases y4
        rw [subT_append y5] at y2
        exact ⟨us[i], z, List.getElem?_eq_getElem hu, by rw [← Option.some.inj g2]; exact y2, y3⟩
      · cases g2
  · trivial

/-- what is known where the def has ended -/
structure BkC (K : PySem.W.Frag) (C : Ctx) (n np : Nat) (io : List Nat) (ts us : List T) (vs : List V) (vu : Bool) (H : Hp) (O : Own) (ρ : Rho) (H' : Hp) (O' : Own) (ρ' : Rho) : Prop where
  hn : C.N ≤ n
  VA : ValAll K H O n vs ts
  ha : argsF io ρ vu 0 ts = some us
  hl : us.length = np
  hap : apartB ts = true
  X : Exi K np io vs H (inL C.N n io ts vu O) H' O' ρ'
  ok : ioOk io vu ρ' = true
theorem bk_res {b : Addr} {q : List Nat} (h : O' b = .at np q) : bkL C.N n np io ts O O' b = .at n q := by unfold bkL; rw [h]; simp
theorem bk_io {b : Addr} {i r : Nat} {p q : List Nat} (h : O' b = .at i q) (h1 : i ≠ np) (h2 : rmI io ts i = some (r, p)) : bkL C.N n np io ts O O' b = .at r (p ++ q) := by unfold bkL; rw [h]; simp only; rw [if_neg h1, h2]
theorem bk_foreign {b : Addr} (h : O' b = .foreign) : bkL C.N n np io ts O O' b = O b := by unfold bkL; rw [h]
theorem bk_free {b : Addr} (h : O' b = .free) (h2 : ∀ r q, O b = .at r q → ¬ r < C.N) : bkL C.N n np io ts O O' b = .free := by
  unfold bkL; rw [h]; simp only
  cases e : O b with
  | free => rfl
  | foreign => rfl
  | «at» r q => simp only; rw [if_neg (h2 r q e)]
theorem bk_view {b : Addr} {r : Nat} {q : List Nat} (h : O' b = .free) (h2 : O b = .at r q) (h3 : r < C.N) : bkL C.N n np io ts O O' b = .at r q := by unfold bkL; rw [h]; simp only; rw [h2]; simp only; rw [if_pos h3]
theorem BkC.rm (B : BkC K C n np io ts us vs vu H O ρ H' O' ρ') {r i : Nat} {p : List Nat} (h : rmI io ts i = some (r, p)) : rmOf io ts r = some (i, p) := let ⟨h1, h2⟩ := rmI_some h; rmOf_of B.hap h1 h2
theorem BkC.mr (B : BkC K C n np io ts us vs vu H O ρ H' O' ρ') {r i : Nat} {p : List Nat} (h : rmOf io ts r = some (i, p)) : rmI io ts i = some (r, p) := let ⟨h1, h2⟩ := rmOf_some h; rmI_of h1 h2
theorem BkC.plc (B : BkC K C n np io ts us vs vu H O ρ H' O' ρ') (R : Rel K C m σ H O ρ) {r i : Nat} {p : List Nat} (h : rmI io ts i = some (r, p)) : r < C.N ∧ i < np ∧ ∃ u a, us[i]? = some u ∧ vs[i]? = some (.ref a) ∧ O a = .at r p ∧ getT ρ r p = some u ∧ isNode u = true := by
  obtain ⟨h1, h2⟩ := rmI_some h
  have hi : i < ts.length := (List.getElem?_eq_some_iff.mp h2).1
  have hu : i < us.length := by rw [argsF_len B.ha]; exact hi
  obtain ⟨t, g1, g2⟩ := argsF_get B.ha (List.getElem?_eq_getElem hu)
  rw [Nat.zero_add] at g2
  rw [h2] at g1; cases g1
  obtain ⟨v, h3, h4⟩ := B.VA.get h2
  have hc : io.contains i = true := by simpa using h1
  unfold argF at g2
  rw [hc] at g2
  simp only at g2
  cases g : getT ρ r p with
  | none => rw [g] at g2; cases g2
  | some w =>
    rw [g] at g2
    simp only at g2
    split at g2
    · obtain ⟨⟨a, rfl, e2, _⟩, _⟩ := h4
      obtain ⟨t0, e3, _⟩ := getT_some g
      refine ⟨R.slt e3, by rw [← B.hl]; exact hu, us[i], a, List.getElem?_eq_getElem hu, h3, e2, ?_, ?_⟩
      · rw [← Option.some.inj g2]
      · rw [← Option.some.inj g2]; assumption
    · cases g2
theorem BkC.okI (B : BkC K C n np io ts us vs vu H O ρ H' O' ρ') {i : Nat} (h : i ∈ io) : ∃ t, ρ'[i]? = some (some t) ∧ isNode t = true ∧ (vu = true → immT t = true) := by
  have := List.all_eq_true.mp B.ok i h
  split at this
  · rename_i t e
    simp only [Bool.and_eq_true, Bool.or_eq_true, Bool.not_eq_true'] at this
    refine ⟨t, e, this.1, fun z => ?_⟩
    rcases this.2 with q | q
    · rw [z] at q; cases q
    · exact q
  · cases this
/-- what is no place of the frame's handed-in trees is as it was -/
theorem BkC.keep (B : BkC K C n np io ts us vs vu H O ρ H' O' ρ') {b : Addr} {o : HO} (h : H b = some o) (h2 : inL C.N n io ts vu O b = .free ∨ inL C.N n io ts vu O b = .foreign) : H' b = some o ∧ O' b = inL C.N n io ts vu O b := B.X.fr b o h h2
theorem BkC.fre (B : BkC K C n np io ts us vs vu H O ρ H' O' ρ') {b : Addr} {o : HO} (h : H b = some o) (h2 : O b = .free) : H' b = some o ∧ bkL C.N n np io ts O O' b = .free := by
  obtain ⟨z1, z2⟩ := B.keep h (.inl (inL_free h2))
  rw [inL_free h2] at z2
  exact ⟨z1, bk_free z2 fun r q e => by rw [h2] at e; cases e⟩
/-- a place that is not handed in -/
theorem BkC.off (B : BkC K C n np io ts us vs vu H O ρ H' O' ρ') {b : Addr} {o : HO} {r : Nat} {q : List Nat} (h : H b = some o) (h2 : O b = .at r q) (h3 : r < C.N) (h4 : ∀ i p, rmOf io ts r = some (i, p) → ¬ p <+: q) : H' b = some o ∧ bkL C.N n np io ts O O' b = .at r q := by
  cases e : rmOf io ts r with
  | none =>
    have l := inL_no (n := n) (vu := vu) h2 h3 e
    cases vu with
    | true =>
      obtain ⟨z1, z2⟩ := B.keep h (.inl l)
      exact ⟨z1, bk_view (z2.trans l) h2 h3⟩
    | false =>
      obtain ⟨z1, z2⟩ := B.keep h (.inr l)
      exact ⟨z1, (bk_foreign (z2.trans l)).trans h2⟩
  | some y =>
    obtain ⟨i, p⟩ := y
    have hs : stripP p q = none := by
      cases z : stripP p q with
      | none => rfl
      | some q' => exact absurd ⟨q', (stripP_some z).symm⟩ (h4 i p e)
    have l := inL_off (n := n) (vu := vu) h2 h3 e hs
    obtain ⟨z1, z2⟩ := B.keep h (.inr l)
    exact ⟨z1, (bk_foreign (z2.trans l)).trans h2⟩
theorem BkC.mid (B : BkC K C n np io ts us vs vu H O ρ H' O' ρ') {b : Addr} {o : HO} {r : Nat} {q : List Nat} (h : H b = some o) (h2 : O b = .at r q) (h3 : C.N ≤ r) (h4 : r < n) : H' b = some o ∧ bkL C.N n np io ts O O' b = .at r q := by
  have l := inL_mid (io := io) (ts := ts) (vu := vu) h2 h3 h4
  obtain ⟨z1, z2⟩ := B.keep h (.inr l)
  exact ⟨z1, (bk_foreign (z2.trans l)).trans h2⟩
theorem BkC.pl (B : BkC K C n np io ts us vs vu H O ρ H' O' ρ') (R : Rel K C m σ H O ρ) {b : Addr} {r : Nat} {q : List Nat} (h2 : O b = .at r q) (h3 : r < C.N) : bkL C.N n np io ts O O' b = .at r q := by
  obtain ⟨o, h, _⟩ := R.tracked h2
  by_cases hh : ∃ i p, rmOf io ts r = some (i, p) ∧ p <+: q
  · obtain ⟨i, p, e, q', rfl⟩ := hh
    have l := inL_io (n := n) (vu := vu) h2 h3 e
    have := B.plc R (B.mr e)
    exact bk_io (B.X.pz b i q' l) (Nat.ne_of_lt this.2.1) (B.mr e)
  · exact (B.off h h2 h3 fun i p e z => hh ⟨i, p, e, z⟩).2
theorem BkC.cases (B : BkC K C n np io ts us vs vu H O ρ H' O' ρ') (R : Rel K C m σ H O ρ) {b : Addr} {r : Nat} {p : List Nat} (h : bkL C.N n np io ts O O' b = .at r p) :
    (r = n ∧ O' b = .at np p) ∨ (∃ i p0 q, i ≠ np ∧ O' b = .at i q ∧ rmI io ts i = some (r, p0) ∧ p = p0 ++ q) ∨ (O b = .at r p ∧ r < n ∧ (inL C.N n io ts vu O b = .foreign ∨ (inL C.N n io ts vu O b = .free ∧ r < C.N))) := by
  unfold bkL at h
  cases e : O' b with
  | «at» i q =>
    rw [e] at h
    simp only at h
    by_cases h1 : i = np
    · rw [if_pos h1] at h; cases h; subst h1; exact .inl ⟨rfl, rfl⟩
    · rw [if_neg h1] at h
      cases e2 : rmI io ts i with
      | none => rw [e2] at h; cases h
      | some y => obtain ⟨r', p0⟩ := y; rw [e2] at h; cases h; exact .inr (.inl ⟨i, p0, q, h1, rfl, e2, rfl⟩)
  | foreign =>
    rw [e] at h
    have f := B.X.fo b e
    refine .inr (.inr ⟨h, ?_, .inl f⟩)
    by_cases hr : r < C.N
    · exact Nat.lt_of_lt_of_le hr B.hn
    · by_cases hr2 : r < n
      · exact hr2
      · rw [inL_tmp h B.hn (by omega)] at f; cases f
  | free =>
    rw [e] at h
    simp only at h
    cases e2 : O b with
    | free => rw [e2] at h; cases h
    | foreign => rw [e2] at h; cases h
    | «at» r' q =>
      rw [e2] at h
      simp only at h
      by_cases hr : r' < C.N
      · rw [if_pos hr] at h; cases h
        refine .inr (.inr ⟨rfl, Nat.lt_of_lt_of_le hr B.hn, .inr ⟨?_, hr⟩⟩)
        obtain ⟨o, z, _⟩ := R.tracked e2
        cases l : inL C.N n io ts vu O b with
        | free => rfl
        | foreign =>
          obtain ⟨_, z2⟩ := B.keep z (.inr l)
          rw [e, l] at z2; cases z2
        | «at» i q' => have := B.X.pz b i q' l; rw [e] at this; cases this
      · rw [if_neg hr] at h; cases h
theorem BkC.off3 (B : BkC K C n np io ts us vs vu H O ρ H' O' ρ') {b : Addr} {r i : Nat} {p p0 : List Nat} (h : O b = .at r p) (h1 : r < C.N) (h2 : inL C.N n io ts vu O b = .foreign ∨ (inL C.N n io ts vu O b = .free ∧ r < C.N)) (h3 : rmOf io ts r = some (i, p0)) : ¬ p0 <+: p := fun ⟨q, e⟩ => by
  subst e
  rw [inL_io h h1 h3] at h2
  rcases h2 with z | ⟨z, _⟩ <;> cases z
theorem BkC.nt (B : BkC K C n np io ts us vs vu H O ρ H' O' ρ') (R : Rel K C m σ H O ρ) (b : Addr) (h : bkL C.N n np io ts O O' b ≠ .free) : ∃ o, H' b = some o ∧ ownable o := by
  by_cases e : O' b = .free
  · cases e2 : O b with
    | «at» r q =>
      obtain ⟨o, z, w⟩ := R.tracked e2
      by_cases hr : r < C.N
      · cases l : inL C.N n io ts vu O b with
        | free => exact ⟨o, (B.keep z (.inl l)).1, w⟩
        | foreign => exact ⟨o, (B.keep z (.inr l)).1, w⟩
        | «at» i q' => have := B.X.pz b i q' l; rw [e] at this; cases this
      · exact absurd (bk_free e fun r' q' e' => by rw [e2] at e'; cases e'; exact hr) h
    | _ => exact absurd (bk_free e fun r' q' e' => by rw [e2] at e'; cases e') h
  · exact B.X.nt b e
/-- a tree that the def leaves, seen from the caller -/
theorem BkC.move (B : BkC K C n np io ts us vs vu H O ρ H' O' ρ') (R : Rel K C m σ H O ρ) {i r : Nat} {p1 : List Nat} (hl : ∀ b q, O' b = .at i q → bkL C.N n np io ts O O' b = .at r (p1 ++ q)) {t : T} (hi : vu = true → immT t = true) {v : V} (h : Tr K H' O' i [] v t) : Tr K H' (bkL C.N n np io ts O O') r p1 v t := by
  cases hv : vu with
  | true =>
    have := Tr.moveI (p0 := []) (p1 := p1) (B.nt R) (fun b q e => hl b q e) t [] v (hi hv) h
    rw [List.append_nil] at this; exact this
  | false =>
    have := Tr.move (H' := H') (O' := bkL C.N n np io ts O O') (r' := r) (p0 := []) (p1 := p1) (fun b o e1 e2 => ⟨e1, bk_free e2 fun r' q' e' hr => by
      obtain ⟨o', z, _⟩ := R.tracked e'
      cases l : inL C.N n io ts vu O b with
      | free =>
        cases e3 : rmOf io ts r' with
        | none => rw [inL_no e' hr e3, hv] at l; cases l
        | some y =>
          obtain ⟨j, pj⟩ := y
          cases e4 : stripP pj q' with
          | none => rw [inL_off e' hr e3 e4] at l; cases l
          | some q2 => rw [stripP_some e4] at e'; rw [inL_io e' hr e3] at l; cases l
      | foreign => have := (B.keep z (.inr l)).2; rw [e2, l] at this; cases this
      | «at» j q2 => have := B.X.pz b j q2 l; rw [e2] at this; cases this⟩) (fun b o q e1 e2 => ⟨e1, hl b q e2⟩) t [] v h
    rw [List.append_nil] at this; exact this
theorem backA_get {r : Nat} {x : Option T} (h : ρ[r]? = some x) : (backA io ts ρ ρ')[r]? = some (backF io ts ρ' r x) := by
  unfold backA
  rw [List.getElem?_mapIdx, h]; rfl
theorem backA_no {r : Nat} {x : Option T} (h : ρ[r]? = some x) (h2 : rmOf io ts r = none) : (backA io ts ρ ρ')[r]? = some x := by rw [backA_get h]; unfold backF; rw [h2]
theorem backA_yes {r i : Nat} {p : List Nat} {t u : T} (h : ρ[r]? = some (some t)) (h2 : rmOf io ts r = some (i, p)) (h3 : ρ'[i]? = some (some u)) : (backA io ts ρ ρ')[r]? = some (some (putT t u p)) := by rw [backA_get h]; unfold backF; rw [h2]; simp only; rw [h3]
theorem BkC.rel (B : BkC K C n np io ts us vs vu H O ρ H' O' ρ') (R : Rel K C m σ H O ρ) : Rel K C (n + 1) σ H' (bkL C.N n np io ts O O') (backA io ts ρ ρ') := by
  refine ⟨fun b o e1 e2 => ?_, B.nt R, fun b r p e => ?_, fun a b r p e1 e2 => ?_, fun b r p e l => ?_, R.ln, by unfold backA; rw [List.length_mapIdx]; exact R.lr, fun r t e => ?_, Nat.le_succ_of_le B.hn, fun b e => ?_, fun b j p e => ?_, R.sm⟩
  · obtain ⟨z1, z2⟩ := R.fr b o e1 e2
    rcases e2 with e2 | e2
    · rw [e2] at z2 ⊢; exact B.fre z1 z2
    · rw [e2] at z2 ⊢
      obtain ⟨y1, y2⟩ := B.keep z1 (.inr (inL_foreign z2))
      exact ⟨y1, (bk_foreign (y2.trans (inL_foreign z2))).trans z2⟩
  · rcases B.cases R e with ⟨h, _⟩ | ⟨i, p0, q, _, _, h, _⟩ | ⟨_, h, _⟩
    · omega
    · have := (B.plc R h).1; have := B.hn; omega
    · omega
  · rcases B.cases R e1 with ⟨h, h'⟩ | ⟨i, p0, q, hne, h', h, rfl⟩ | ⟨h', h, h3⟩ <;> rcases B.cases R e2 with ⟨g, g'⟩ | ⟨j, p1, q1, gne, g', g, ge⟩ | ⟨g', g, g3⟩
    · exact B.X.inj a b _ _ h' g'
    · have := (B.plc R g).1; have := B.hn; omega
    · omega
    · have := (B.plc R h).1; have := B.hn; omega
    · have h1 := (rmI_some h).2
      have g1 := (rmI_some g).2
      have := apart_eq B.hap h1 g1
      subst this
      rw [h1] at g1; cases g1
      rw [List.append_cancel_left_eq] at ge
      subst ge
      exact B.X.inj a b _ _ h' g'
    · have hr := (B.plc R h).1
      exact absurd ⟨q, rfl⟩ (B.off3 g' hr g3 (B.rm h))
    · omega
    · have hr := (B.plc R g).1
      exact absurd ⟨q1, ge.symm⟩ (B.off3 h' hr h3 (B.rm g))
    · exact R.inj a b r p h' g'
  · rcases B.cases R e with ⟨h, h'⟩ | ⟨i, p0, q, hne, h', h, rfl⟩ | ⟨h', h, h3⟩
    · have := B.hn; omega
    · obtain ⟨hr, hi, u, a, _, _, _, g, _⟩ := B.plc R h
      obtain ⟨_, t, z, y1, y2, y3⟩ := B.X.val b i q h' hi
      obtain ⟨t0, g1, g2⟩ := getT_some g
      exact ⟨_, z, backA_yes g1 (B.rm h) y1, by rw [subT_append (subT_put g2)]; exact y2, y3⟩
    · obtain ⟨t, z, y1, y2, y3⟩ := R.val b r p h' l
      cases e3 : rmOf io ts r with
      | none => exact ⟨t, z, backA_no y1 e3, y2, y3⟩
      | some y =>
        obtain ⟨i, p0⟩ := y
        obtain ⟨hr, hi, u, a, _, _, _, g, _⟩ := B.plc R (B.mr e3)
        obtain ⟨t0, g1, g2⟩ := getT_some g
        rw [y1] at g1; cases g1
        obtain ⟨u', x1, x2, _⟩ := B.okI (rmOf_some e3).1
        obtain ⟨z', w1, w2⟩ := subT_put_ne (u := u') g2 (B.off3 h' l h3 e3) y2 y3
        exact ⟨_, z', backA_yes y1 e3 x1, w1, w2⟩
  · cases e0 : ρ[r]? with
    | none => unfold backA at e; rw [List.getElem?_mapIdx, e0] at e; cases e
    | some x =>
      have hr := R.slt e0
      cases e3 : rmOf io ts r with
      | none =>
        rw [backA_no e0 e3] at e; cases e
        obtain ⟨v, h2, h3⟩ := R.sl r t e0
        exact ⟨v, h2, Tr.move (r' := r) (p0 := []) (p1 := []) (fun b o e1 e2 => B.fre e1 e2) (fun b o q e1 e2 => B.off e1 e2 hr fun i p z => by rw [e3] at z; cases z) t [] v h3⟩
      | some y =>
        obtain ⟨i, p0⟩ := y
        obtain ⟨_, hi, u, a, y1, y2, y3, g, y4⟩ := B.plc R (B.mr e3)
        obtain ⟨t0, g1, g2⟩ := getT_some g
        rw [e0] at g1; cases g1
        obtain ⟨u', x1, x2, x3⟩ := B.okI (rmOf_some e3).1
        rw [backA_yes e0 e3 x1] at e; cases e
        obtain ⟨v, h2, h3⟩ := R.sl r t0 e0
        refine ⟨v, h2, Tr.upd (fun b o e1 e2 => B.fre e1 e2) (p := []) (fun b o p' e1 e2 e4 => B.off e1 e2 hr fun i' p' z => by rw [e3] at z; cases z; simpa using e4) g2 (fun w hw => ?_) h3⟩
        rw [List.nil_append] at hw ⊢
        obtain ⟨a', rfl, ha'⟩ := tr_root hw y4
        have := R.inj a a' r p0 y3 ha'
        subst this
        have tin : Tr K H (inL C.N n io ts vu O) i [] (.ref a) u := Tr.move (r' := i) (p0 := p0) (p1 := []) (fun b o z1 z2 => ⟨z1, inL_free z2⟩) (fun b o q z1 z2 => ⟨z1, inL_io z2 hr e3⟩) u [] _ (by rw [List.append_nil]; exact hw)
        have := B.X.tr i _ _ _ [] (rmOf_some e3).1 y2 tin y4 x1 x2
        exact B.move R (fun b q e5 => bk_io e5 (Nat.ne_of_lt hi) (B.mr e3)) x3 this
  · have : O' b = .foreign ∧ O b = .foreign := by
      unfold bkL at e
      split at e
      · split at e
        · cases e
        · split at e <;> cases e
      · exact ⟨by assumption, e⟩
      · split at e
        · split at e <;> cases e
        · cases e
    exact R.fo b this.2
  · obtain ⟨z1, z2⟩ := R.pz b j p e
    exact ⟨z1, B.pl R z2 z1⟩
theorem BkC.frm (B : BkC K C n np io ts us vs vu H O ρ H' O' ρ') (R : Rel K C m σ H O ρ) : Frm C.N n H O H' (bkL C.N n np io ts O O') := by
  refine ⟨fun b o e1 e2 => B.fre e1 e2, fun b r p e l => B.pl R e l, fun b o r p e1 e2 l1 l2 => B.mid e1 e2 l1 l2, fun b r p e l1 l2 => ?_⟩
  rcases B.cases R e with ⟨h, h'⟩ | ⟨i, p0, q, hne, h', h, rfl⟩ | ⟨h', h, h3⟩
  · omega
  · have := (B.plc R h).1; omega
  · exact h'
theorem BkC.val (B : BkC K C n np io ts us vs vu H O ρ H' O' ρ') (R : Rel K C m σ H O ρ) {v : V} {t : T} (h : Val K H' O' np v t) (ht : noAl t = true) (hi : vu = true → immT t = true) : Val K H' (bkL C.N n np io ts O O') n v t := by
  have gen : ∀ t : T, (vu = true → immT t = true) → (Tr K H' O' np [] v t ∧ ∀ b p, O' b = .at np p → ∃ z, subT t p = some z ∧ isNode z = true) → Tr K H' (bkL C.N n np io ts O O') n [] v t ∧ ∀ b p, bkL C.N n np io ts O O' b = .at n p → ∃ z, subT t p = some z ∧ isNode z = true := fun t hi h =>
    ⟨B.move R (p1 := []) (fun b q e => bk_res e) hi h.1, fun b p e => by
      rcases B.cases R e with ⟨_, h'⟩ | ⟨i, p0, q, hne, h', h2, rfl⟩ | ⟨h', h2, h3⟩
      · exact h.2 b p h'
      · have := (B.plc R h2).1; have := B.hn; omega
      · omega⟩
  cases t with
  | a r p => cases ht
  | _ => exact gen _ hi h
end

section
variable {X : Cx} {k np : Nat} {f : Addr} {fd : FuncData} {ps : List Str} {io : List Nat} {S : SpT} {x : Str} {p pos : Pos} {e : Expr} {es : List Expr} {tas : TwA}
/-- THE RULE for a call of a def -/
theorem le_call (F : FnG X.prog X.w X.K X.mg X.base k f fd ps (lfSp X.K np io S)) (room : Room k X.A) (gu : X.A.guards = some []) (mS : MonSp S) (hg : Gl X x) (hm : X.mg x = some (.ref f)) (hk : PySem.W.keepIn X.K (.ref f) = true) (bind : Binds X.K fd ps [])
    (ha : LA X (e :: es) tas) (hdb : (x == ("__debug__" : Str)) = false := by decide) (he : starEach (e :: es) X.env = (false, eval e X.env) :: starEach es X.env := by rfl) (hpl : (backTo pos (starEach es X.env)).any (·.1) = false := by rfl) :
    LE X (.Call (.Name x p) (e :: es) [] pos) (wCall io np S tas) := by
  refine ⟨fun ρ Q Q' E E' h he q => ha.mono ρ _ _ E E' (fun ts ρ1 ⟨vu, us, h1, h2, h3, h4⟩ => ⟨vu, us, h1, h2, h3, mS us _ _ _ _ (fun t ρ' ⟨z1, z2, z3, z4⟩ => ⟨z1, z2, z3, h _ _ z4⟩) (fun c ρ' ⟨z1, z2⟩ => ⟨z1, he _ _ z2⟩) h4⟩) he q,
    fun C W n hC hn tk => (pe_callG F room gu hg hm hk bind (fun σ => passAt tk σ) (ha.run C W n hC hn tk) hdb he hpl).imp fun σ H Q ⟨O, ρ, R, q⟩ => ⟨O, ρ, R, ha.mono ρ _ _ _ _ (fun ts ρ1 ⟨vu, us, h1, h2, h3, h4⟩ => ?_) (fun _ _ z => z) q⟩⟩
  intro vs H1 O1 R1 F1 V1
  refine ⟨inL C.N n io ts vu O1, us, ent_of R1 hn V1 h1 h2 h3, mS us _ _ _ _ (fun t ρ' ⟨z1, z2, z3, z4⟩ => ?_) (fun c ρ' ⟨z1, z2⟩ => ?_) h4⟩
  · intro v H' O' Ex V'
    have B : BkC X.K C n np io ts us vs vu H1 O1 ρ1 H' O' ρ' := ⟨hn, V1, h1, h2, h3, Ex, z1⟩
    exact z4 v H' _ (B.rel R1) (F1.trans (B.frm R1) (Nat.le_refl _)) (B.val R1 V' z3 z2)
  · intro H' O' Ex _
    have B : BkC X.K C n np io ts us vs vu H1 O1 ρ1 H' O' ρ' := ⟨hn, V1, h1, h2, h3, Ex, z1⟩
    exact z2 σ H' _ ((B.rel R1).cut (Nat.le_refl _)) (F1.fre.trans ((B.frm R1).fre.trans (fre_cut _)))
end
end TX

/-! The end of a law over trees. -/
namespace TX
open PySem PySem.Spec L2 PyProof.Rows

theorem roomA : Room 40 callerA := ⟨rfl, by decide, by decide⟩
/-- what a law's def must keep: True comes out, whatever the script holds -/
theorem law_callG {P : Program} {w : World} {K : PySem.W.Frag} {mg mb : Str → Option Value} {k : Nat} {fa a : Addr} {fd : FuncData} {x : Str} {S : SpT} {s₁ : Shared} {vs : List Value} {ns : List Int}
    (KX : K.In s₁.heap) (hns : s₁.heap.Ns mainGlobals mg) (hb : s₁.heap.Ns builtinsNs mb) (hbb : ∀ x : Str, x ≠ "__name__" → mb x = bootBuiltins x) (hlim : s₁.heap.NoLimit) (hg : s₁.gens = #[])
    (ha : s₁.heap.get? a = some { cls := .type "list", data := .seq vs.toArray }) (hi : IntsAre vs ns) (hl : ns.length ≤ sizeLine) (hr : Room k callerA) (mS : MonSp S)
    (F : ∀ base : Heap, K.In base → base.Ns mainGlobals mg → FnG P w K mg base k fa fd [x] (lfSp K 1 [] S)) (hbind : Binds K fd [x] [])
    (hS : S [.fz ns] (fun t _ => t = .d (.bool true)) fun _ _ => False) :
    codeAny (model P w) callerA (.call (.ref fa) ⟨[.ref a], []⟩) (fun r s' => r = .ok (.ret (.bool true)) ∧ OldK s₁.heap s'.heap ∧ s'.os = s₁.os ∧ AllBare s'.gens) s₁ := by
  have rv := vals_ints hi
  have lenV := hi.length
  have core : ∀ H : Hp, Only H → SqL K H a (ns.map V.int) → HOk P w H s₁.heap → (∀ b, H b ≠ none → b = a) → (H a ≠ none → K.lookup a = none) →
      codeAny (model P w) callerA (.call (.ref fa) ⟨[.ref a], []⟩) (fun r s' => r = .ok (.ret (.bool true)) ∧ OldK s₁.heap s'.heap ∧ s'.os = s₁.os ∧ AllBare s'.gens) s₁ := by
    intro H hO hSq hok hA hK
    have base_of : ∀ {b : Addr} {o : Obj}, s₁.heap.get? b = some o → H b = none → (hidT s₁.heap H).get? b = some o := fun e n => hidT_get e n
    have noA : ∀ {b : Addr} {o : Obj} {es : Array DictEntry} {ep : Nat}, s₁.heap.get? b = some o → o.data = .dict es ep → H b = none := fun {b o es ep} e d => by
      cases q : H b with
      | none => rfl
      | some u =>
        obtain rfl : b = a := hA b (by rw [q]; exact fun z => nomatch z)
        rw [ha] at e; cases e
        exact absurd (show Data.seq vs.toArray _ = Data.dict es ep from d) (fun z => nomatch z)
    have nsK : ∀ {b : Addr} {m : Str → Option Value}, s₁.heap.Ns b m → (hidT s₁.heap H).Ns b m := fun {b m} ⟨o, es, ep, e, d, r⟩ => ⟨o, es, ep, base_of e (noA e d), d, r⟩
    have hKb : K.In (hidT s₁.heap H) := fun b o e => base_of (KX b o e) (by
      cases q : H b with
      | none => rfl
      | some u =>
        obtain rfl : b = a := hA b (by rw [q]; exact fun z => nomatch z)
        rw [hK (by rw [q]; exact fun z => nomatch z)] at e; cases e)
    have hM : Mod K mg (hidT s₁.heap H) := ⟨hKb, nsK hns, ⟨mb, nsK hb, hbb⟩, let ⟨mc, h1, h2⟩ := hlim; ⟨mc, nsK h1, h2⟩⟩
    have e0 : Env0 P w K mg (hidT s₁.heap H) callerA [] s₁ H := ⟨rfl, hM, fun b o e => of_hidT e, Nat.le_of_eq (hidT_size _ _), trivial, fun b z => absurd (show b ∈ ([] : List Addr) from z) (by simp), hok, .of_eq hg⟩
    have en : Ent K 1 [] [.ref a] H (fun _ => .free) [.fz ns] := by
      have em : msk (fun _ => Lb.free) H = H := by funext b; exact msk_of rfl
      refine ⟨rfl, rfl, fun i t e => ?_, fun b z => absurd rfl z, fun b c r p z => (nomatch z), fun b r p z => (nomatch z), trivial⟩
      match i with
      | 0 => cases e; exact ⟨_, rfl, .fz (by rw [em]; exact hSq)⟩
      | i + 1 => simp at e
    refine codeAny_mono ((F _ hKb (nsK hns)).run callerA [] s₁ H ⟨[.ref a], []⟩ [.ref a] [.ref a] (fun v _ => v = .bl true) (fun _ _ _ => False) hr rfl e0 (by simpa using hbind s₁ [.ref a] KX rfl) (.cons rfl .nil) ⟨_, _, en, ?_⟩) fun r s' h => ?_
    · refine mS _ _ _ _ _ (fun t ρ q v H' O' _ V => ?_) (fun c ρ q => q.elim) hS
      subst q
      exact val_bool V
    cases r with
    | error e => obtain ⟨_, _, _, _, _, _, _, _, _, _, _, _, z⟩ := h; exact z.elim
    | ok fl =>
      cases fl with
      | next => exact False.elim h
      | brk => exact False.elim h
      | cont => exact False.elim h
      | ret u =>
        obtain ⟨v, H', os, bare, un, hok', r', q⟩ := h
        obtain rfl : v = .bl true := q
        obtain rfl : u = Value.bool true := r'
        refine ⟨rfl, OldK.of_keep fun b o e => ?_, os, bare⟩
        cases q : H b with
        | none => exact un.keep b o e q (by intro z; exact absurd (show b ∈ ([] : List Addr) from z) (by simp)) (by simp)
        | some u =>
          rcases hO b with z | ⟨ob, xs, z⟩
          · rw [q] at z; cases z
          · have z2 := un.frzs b ob _ z
            obtain ⟨e1, _⟩ := hok b _ z
            obtain ⟨e2, _⟩ := hok' b _ z2
            rw [e] at e1; cases e1
            exact e2
  cases hk : K.lookup a with
  | some o =>
    have e := KX a o hk
    rw [ha] at e
    cases e
    refine core (fun _ => none) (fun _ => .inl rfl) (.inr ⟨_, vs.toArray, _, hk, rfl, rfl, rfl, by rw [List.size_toArray, lenV]; exact hl, by simpa using rv⟩) (fun b u z => nomatch (show (none : Option HO) = some u from z)) (fun b z => absurd rfl z) fun z => absurd rfl z
  | none =>
    refine core (fun b => if b = a then some (.frz { cls := .type "list", data := .seq vs.toArray } (.lst (ns.map V.int))) else none) (fun b => ?_) (.inl (.inr ⟨{ cls := .type "list", data := .seq vs.toArray }, if_pos rfl⟩)) (fun b u z => ?_) (fun b z => ?_) fun _ => hk
    · by_cases hb : b = a
      · exact .inr ⟨_, _, if_pos hb⟩
      · exact .inl (if_neg hb)
    · by_cases hb : b = a
      · cases (if_pos hb).symm.trans z
        subst hb
        exact ⟨ha, by rw [List.length_map]; exact hl, vs, _, rv, ha⟩
      · exact nomatch (if_neg hb).symm.trans z
    · by_cases hb : b = a
      · exact hb
      · exact absurd (if_neg hb) z
/-- the goal that k_head leaves, from the promise of law's def -/
theorem walkG {l : PySem.W.OpenLaw} {n k : Nat} {q : Program} {loose : List Str} {XP : (Str → Option Value) → Heap → Prop} {YP : World → Heap → Prop} {d : DefRec} {K : Params → PySem.W.Frag} {S : SpT} {x : Str}
    (hn : l.most = some n) (hn2 : n ≤ sizeLine) (hdf : d.params.defaults = []) (hr : Room k callerA) (mS : MonSp S)
    (hY : ∀ (w : World) (h : Heap), YP w h → (K w.params).In h)
    (F : ∀ (w : World) (mg : Str → Option Value) (fa : Addr) (h : Heap), (K w.params).In h → h.Ns mainGlobals mg → mg d.name = some (.ref fa) →
      ∃ fd : FuncData, Binds (K w.params) fd [x] [] ∧
        ∀ base : Heap, (K w.params).In base → base.Ns mainGlobals mg → FnG l.prog w (K w.params) mg base k fa fd [x] (lfSp (K w.params) 1 [] S))
    (hS : ∀ ns : List Int, ns.length ≤ n → S [.fz ns] (fun t _ => t = .d (.bool true)) fun _ _ => False) :
    PySem.W.WalkO q loose XP YP l.row.toRowW d [] (fun f vs => PySem.call f vs) := by
  refine Att.attach_call hn hdf fun w s₀ s₁ mg mb fa o pm cd doc a vs ns G Y ho hd hcd hmg hobj hints hlen hg => ?_
  obtain ⟨fd, hb, hF⟩ := F w mg fa _ (hY w _ Y) G.T.g hmg
  exact law_callG (hY w _ Y) G.T.g G.T.b G.T.builtins G.T.nolimit hg hobj hints (Nat.le_trans hlen hn2) hr mS hF hb (hS ns hlen)
end TX

/-! Methods by name; stores at a place; chains; more built-ins. -/
namespace TX
open PySem PySem.Spec L2 PyProof.Rows

section
variable {X : Cx} {pos cpos apos p1 p2 p3 : Pos} {a b c e o i : Expr} {es : List Expr} {ta tb tc : TwE} {tas : TwA} {x : Str} {p : Pos}

/-! ### len of anything -/
def lenT (ρ : Rho) : T → Option Nat
  | .d (.list xs) => some xs.length
  | .d (.tuple xs) => some xs.length
  | .d (.str z) => if z.length ≤ sizeLine then some z.length else none
  | .l ts => some ts.length
  | .fz ns => some ns.length
  | .a r q => match getT ρ r q with
    | some (.l ts) => some ts.length
    | _ => none
  | _ => none
def kLen : KT := fun ts ρ Q => ∃ t n, ts = [t] ∧ lenT ρ t = some n ∧ Q (.d (.int (n : Nat))) ρ
theorem kLen_mono : MonK kLen := fun ts ρ Q Q' h ⟨t, n, e, e1, q⟩ => ⟨t, n, e, e1, h _ _ q⟩
theorem len_val {K : PySem.W.Frag} {C : Ctx} {n m k : Nat} {σ : L2.St} {H : Hp} {O : Own} {ρ : Rho} {t : T} {v : V} (R : Rel K C m σ H O ρ) (h : Val K H O k v t) (e : lenT ρ t = some n) : LenV K v H n := by
  cases t with
  | d x =>
    have r := val_d h
    cases x with
    | list xs => cases r with | lst h1 h2 => cases e; exact .inl ⟨_, .of (msk_some h1).2, h2.length.symm⟩
    | tuple xs => cases r with | tup h1 h2 => cases e; exact .inr ⟨_, .of (msk_some h1).2, h2.length.symm⟩
    | str z =>
      cases r
      have e' : (if z.length ≤ sizeLine then some z.length else none) = some n := e
      split at e'
      · cases e'; exact ⟨by assumption, rfl⟩
      · cases e'
    | _ => cases e
  | l ts =>
    cases e
    cases h.1 with | l h1 h2 h3 => exact .inl ⟨_, .of h2, h3.length.symm⟩
  | fz ns =>
    cases e
    cases h.1 with | fz h => exact .inl ⟨_, sql_mono msk_le h, by simp⟩
  | a r q =>
    obtain ⟨⟨ad, rfl, e2, _⟩, _⟩ := h
    have e' : (match getT ρ r q with | some (.l ts) => some ts.length | _ => none) = some n := e
    split at e'
    · rename_i ts g
      cases e'
      have tr := R.alias g rfl e2
      cases tr with | l h1 h2 h3 => exact .inl ⟨_, .of h2, h3.length.symm⟩
    · cases e'
  | _ => cases e
theorem fn_lenA {K : PySem.W.Frag} : FnK K (fun xs H Q => ∃ x n, xs = [x] ∧ LenV K x H n ∧ Q (.int n) H) kLen := by
  rintro C n m σ H0 H O0 O ρ ts vs Q hn hm R F V ⟨t, k, rfl, e, q⟩
  obtain ⟨v, rfl, V1⟩ := V.one
  exact ⟨v, k, rfl, len_val R V1 e, Fin.sc hn R F q (.int _)⟩
theorem le_len' (hg : Gl X "len") (hm : X.mg "len" = none) (ha : LA X [e] tas) (he : starEach [e] X.env = (false, eval e X.env) :: starEach [] X.env := by rfl) (hpl : (backTo pos (starEach [] X.env)).any (·.1) = false := by rfl) : LE X (.Call (.Name "len" p) [e] [] pos) (wFn kLen tas) :=
  le_fn (fun t h => pe_callB call_len hg hm (by decide +kernel) h (he := he) (hpl := hpl)) kLen_mono fn_lenA ha

/-! ### methods by name -/
theorem le_append (ho : LE X o ta) (ha : LA X [e] tas) (hbase : attributeBase o "append" X.env (eval o X.env) = eval o X.env := by rfl)
    (hfew : ((backTo cpos (starEach [e] X.env)).all (fun x => !x.1) && (backToKw cpos (keywordEach [] X.env)).all (fun x => x.1.isSome) && decide ([e].length + ([] : List Keyword).length + (if ([] : List Keyword).isEmpty then 0 else 1) < 30)) = true := by rfl)
    (hline : (apos.endLine == cpos.line) = true := by rfl) (hs : starEach [e] X.env = (false, eval e X.env) :: starEach [] X.env := by rfl) (hpl : (backTo cpos (starEach [] X.env)).any (·.1) = false := by rfl) :
    LE X (.Call (.Attribute o "append" apos) [e] [] cpos) (wM isLst kApp ta tas) :=
  le_bm (fun to t h1 h2 => pe_bm PySem.F.plainAttrs_list PySem.F.slot_list_append PySem.F.type_list_append mt_append h1 h2 hbase hfew hline hs hpl) ty_lst mon_app mk_app ho ha
theorem le_extend (ho : LE X o ta) (ha : LA X [e] tas) (hbase : attributeBase o "extend" X.env (eval o X.env) = eval o X.env := by rfl)
    (hfew : ((backTo cpos (starEach [e] X.env)).all (fun x => !x.1) && (backToKw cpos (keywordEach [] X.env)).all (fun x => x.1.isSome) && decide ([e].length + ([] : List Keyword).length + (if ([] : List Keyword).isEmpty then 0 else 1) < 30)) = true := by rfl)
    (hline : (apos.endLine == cpos.line) = true := by rfl) (hs : starEach [e] X.env = (false, eval e X.env) :: starEach [] X.env := by rfl) (hpl : (backTo cpos (starEach [] X.env)).any (·.1) = false := by rfl) :
    LE X (.Call (.Attribute o "extend" apos) [e] [] cpos) (wM isLst kExt ta tas) :=
  le_bm (fun to t h1 h2 => pe_bm PySem.F.plainAttrs_list PySem.F.slot_list_extend PySem.F.type_list_extend mt_extend h1 h2 hbase hfew hline hs hpl) ty_lst mon_ext mk_ext ho ha
theorem le_popAt (ho : LE X o ta) (ha : LA X [e] tas) (hbase : attributeBase o "pop" X.env (eval o X.env) = eval o X.env := by rfl)
    (hfew : ((backTo cpos (starEach [e] X.env)).all (fun x => !x.1) && (backToKw cpos (keywordEach [] X.env)).all (fun x => x.1.isSome) && decide ([e].length + ([] : List Keyword).length + (if ([] : List Keyword).isEmpty then 0 else 1) < 30)) = true := by rfl)
    (hline : (apos.endLine == cpos.line) = true := by rfl) (hs : starEach [e] X.env = (false, eval e X.env) :: starEach [] X.env := by rfl) (hpl : (backTo cpos (starEach [] X.env)).any (·.1) = false := by rfl) :
    LE X (.Call (.Attribute o "pop" apos) [e] [] cpos) (wM isLst kPopAt ta tas) :=
  le_bm (fun to t h1 h2 => pe_bm PySem.F.plainAttrs_list PySem.F.slot_list_pop PySem.F.type_list_pop mt_popAt h1 h2 hbase hfew hline hs hpl) ty_lst mon_popAt mk_popAt ho ha
theorem le_index (hu : X.A.units + 65 < cLine) (ho : LE X o ta) (ha : LA X [e] tas) (hbase : attributeBase o "index" X.env (eval o X.env) = eval o X.env := by rfl)
    (hfew : ((backTo cpos (starEach [e] X.env)).all (fun x => !x.1) && (backToKw cpos (keywordEach [] X.env)).all (fun x => x.1.isSome) && decide ([e].length + ([] : List Keyword).length + (if ([] : List Keyword).isEmpty then 0 else 1) < 30)) = true := by rfl)
    (hline : (apos.endLine == cpos.line) = true := by rfl) (hs : starEach [e] X.env = (false, eval e X.env) :: starEach [] X.env := by rfl) (hpl : (backTo cpos (starEach [] X.env)).any (·.1) = false := by rfl) :
    LE X (.Call (.Attribute o "index" apos) [e] [] cpos) (wM isLst kIdx ta tas) :=
  le_bm (fun to t h1 h2 => pe_bm PySem.F.plainAttrs_list PySem.F.slot_list_index PySem.F.type_list_index (mt_indexD hu) h1 h2 hbase hfew hline hs hpl) ty_lst mon_idx mk_idx ho ha
theorem le_reverse (ho : LE X o ta) (hbase : attributeBase o "reverse" X.env (eval o X.env) = eval o X.env := by rfl) (hline : (apos.endLine == cpos.line) = true := by rfl) : LE X (.Call (.Attribute o "reverse" apos) [] [] cpos) (wM isLst kRev ta wNil) :=
  le_bm0 (fun to h1 => pe_bm0 PySem.F.plainAttrs_list PySem.F.slot_list_reverse PySem.F.type_list_reverse mt_reverse h1 hbase hline) ty_lst mon_rev mk_rev ho
/-! ### xs[::-1] -/
def wRevS (ta : TwE) : TwE := fun ρ Q E => ta ρ (fun t ρ1 => ∃ xs, lsq ρ1 t = some xs ∧ Q (.l (xs.reverse.map T.d)) ρ1) E
theorem le_revS {k : Nat} (ha : LE X a ta) : LE X (.Subscript a (.Slice none none (some (.UnaryOp .USub (.Constant (.int 1) k p1) p2)) p3) pos) (wRevS ta) := by
  refine ⟨fun ρ Q Q' E E' h he q => ha.mono ρ _ _ E E' (fun t ρ1 ⟨xs, e, q⟩ => ⟨xs, e, h _ _ q⟩) he q, fun C W n hC hn tk => (pe_revL (ha.run C W n hC hn tk)).imp fun σ H Q ⟨O, ρ, R, q⟩ => ?_⟩
  refine ⟨O, ρ, R, ha.mono ρ _ _ _ _ (fun t ρ1 ⟨xs, e, q⟩ => ?_) (fun _ _ z => z) q⟩
  intro v H1 O1 R1 F1 V1
  obtain ⟨ad, ws, rfl, h1, h2⟩ := R1.lsqV V1 e
  exact ⟨ad, ws, rfl, .of h1, fun y hy => Fin.newL hn R1 F1 q h2.reverse y hy⟩

/-! ### o[i] = data, o a flat list of one's own -/
def wSub (ta tb : TwE) : TwG := fun x ρ Q E => ta ρ (fun t ρ1 => tb ρ1 (fun u ρ2 => ∃ r q, ∃ ds : List PyData, ∃ k j, t = .a r q ∧ u = .d (.int k) ∧ getT ρ2 r q = some (.l (ds.map T.d)) ∧ ixN ds.length k = some j ∧ Q (putAt ρ2 r q (.l ((ds.set j x).map T.d)))) E) E
theorem lg_sub (ha : LE X o ta) (hb : LE X i tb) (hs : ∀ v, assign (.Subscript o i pos) X.env v = (do
      let ov ← holding [v] (eval o X.env)
      let iv ← holding [v, ov] (eval i X.env)
      standAt pos
      holding [v, ov, iv] (setItem ov iv v)
      release [v, ov, iv] []) := by intro _; rfl) : LG X [] (.Subscript o i pos) (wSub ta tb) := by
  refine ⟨fun x ρ Q Q' E E' h he q => ha.mono ρ _ _ E E' (fun t ρ1 q1 => hb.mono ρ1 _ _ E E' (fun u ρ2 ⟨r, q, ds, k, j, h1, h2, h3, h4, q2⟩ => ⟨r, q, ds, k, j, h1, h2, h3, h4, h _ q2⟩) he q1) he q,
    fun C W n hC hn tk => (pg_sub (ha.run C W n hC hn tk) (hb.run C W (n + 1) hC (by omega) tk) set_list hs).imp fun v σ H Q ⟨O, ρ, x, R, rp, q⟩ => ?_⟩
  refine ⟨O, ρ, R, ha.mono ρ _ _ _ _ (fun t ρ1 q1 => ?_) (fun _ _ z => z) q⟩
  intro w1 H1 O1 R1 F1 V1
  refine ⟨O1, ρ1, R1, hb.mono ρ1 _ _ _ _ (fun u ρ2 ⟨r, q, ds, k, j, h1, h2, h3, h4, q2⟩ => ?_) (fun c ρ' z => exK.on F1.fre c ρ' z) q1⟩
  intro w2 H2 O2 R2 F2 V2
  subst h1 h2
  rw [rp_int (val_d V2)]
  obtain ⟨ad, ws, rfl, h5, h6, h7⟩ := flat_of R2 (V1.carry hn R1.lt R1.nt F2) h3 hn
  have F12 := F1.trans F2 (Nat.le_succ n)
  have rp2 : Rp X.K (msk (cut n O2) H2) v x := Rp.mono (fun b o z => by obtain ⟨z1, z2⟩ := msk_some z; rw [msk_of (cut_free z1)]; exact z2) _ _ (rp.fre F12.fre)
  obtain ⟨R3, F3⟩ := relUpdL R2 hn h3 h5 (h7.set rp2 j)
  have F := F12.trans F3 (Nat.le_refl n)
  exact ⟨ad, ws, k, j, rfl, rfl, h6, by rw [h7.length]; exact h4, q2 σ _ _ R3 ⟨F.fre, fun b r p e l _ => F.pl b r p e l, F.tm, F.nw⟩ rfl⟩

/-! ### a op b op c -/
def wCh (f f' : PyData → PyData → PyData → Prop) (ta tb tc : TwE) : TwE := fun ρ Q E => ta ρ (fun t ρ1 => tb ρ1 (fun u ρ2 => ∃ x y k, vw ρ2 t = some x ∧ vw ρ2 u = some y ∧ f x y (.bool k) ∧
  if k = true then tc ρ2 (fun w ρ3 => ∃ y' z k', vw ρ3 u = some y' ∧ vw ρ3 w = some z ∧ f' y' z (.bool k') ∧ Q (.d (.bool k')) ρ3) E else Q (.d (.bool false)) ρ2) E) E
variable {op op' : CmpOp} {r r' : R2} {f f' : PyData → PyData → PyData → Prop}
theorem wCh_mono (ha : MonE ta) (hb : MonE tb) (hc : MonE tc) : MonE (wCh f f' ta tb tc) := fun ρ Q Q' E E' h he q => ha ρ _ _ E E' (fun t ρ1 q1 => hb ρ1 _ _ E E' (fun u ρ2 ⟨x, y, k, h1, h2, h3, q2⟩ => ⟨x, y, k, h1, h2, h3, by
  cases k with
  | true => exact hc ρ2 _ _ E E' (fun w ρ3 ⟨y', z, k', g1, g2, g3, q3⟩ => ⟨y', z, k', g1, g2, g3, h _ _ q3⟩) he q2
  | false => exact h _ _ q2⟩) he q1) he q
theorem ch_run {K : PySem.W.Frag} {C : Ctx} {W : WX} {n : Nat} {σ : L2.St} {H : Hp} {Q : VK} (hd : OpD K r f) (hd' : OpD K r' f') (ha : MonE ta) (hb : MonE tb) (hc : MonE tc) (hn : C.N ≤ n) (h : lfE K C W n (wCh f f' ta tb tc) σ H Q) :
    tChain r r' (lfE K C W n ta) (lfE K C W (n + 1) tb) (lfE K C W (n + 2) tc) σ H Q := by
  obtain ⟨O, ρ, R, q⟩ := h
  refine ⟨O, ρ, R, ha ρ _ _ _ _ (fun t ρ1 q1 => ?_) (fun _ _ z => z) q⟩
  intro v H1 O1 R1 F1 V1
  refine ⟨O1, ρ1, R1, hb ρ1 _ _ _ _ (fun u ρ2 ⟨x, y, k, h1, h2, h3, q2⟩ => ?_) (fun c ρ' z => exK.on F1.fre c ρ' z) q1⟩
  intro w H2 O2 R2 F2 V2
  have F12 := F1.trans F2 (Nat.le_succ n)
  refine hd H2 v w x y (.bool k) _ (R2.viewH (V1.carry hn R1.lt R1.nt F2) h1) (R2.viewH V2 h2) h3 fun z s => ?_
  cases s
  refine ⟨k, rfl, ?_⟩
  cases k with
  | false => exact Fin.sc hn R2 F12 q2 (.bl _)
  | true =>
    refine ⟨O2, ρ2, R2, hc ρ2 _ _ _ _ (fun w' ρ3 ⟨y', z, k', g1, g2, g3, q3⟩ => ?_) (fun c ρ' z => exK.on F12.fre c ρ' z) q2⟩
    intro v3 H3 O3 R3 F3 V3
    have F13 := F12.trans F3 (show n ≤ n + 2 by omega)
    exact hd' H3 w v3 y' z (.bool k') Q (R3.viewH (V2.carry (by omega) R2.lt R2.nt F3) g1) (R3.viewH V3 g2) g3 fun z s => Fin.sc hn R3 F13 q3 s
theorem le_chain (ho : OpR X (compareOp op) r) (ho' : OpR X (compareOp op') r') (hd : OpD X.K r f) (hd' : OpD X.K r' f') (ha : LE X a ta) (hb : LE X b tb) (hc : LE X c tc)
    (hm : lastMarks [op, op'] [b, c] = false := by with_unfolding_all rfl) : LE X (.Compare a [op, op'] [b, c] pos) (wCh f f' ta tb tc) :=
  ⟨wCh_mono ha.mono hb.mono hc.mono, fun C W n hC hn tk => (pe_chain ho ho' (ha.run C W n hC hn tk) (hb.run C W (n + 1) hC (by omega) tk) (hc.run C W (n + 2) hC (by omega) tk) hm).imp fun σ H Q h => ch_run hd hd' ha.mono hb.mono hc.mono hn h⟩
theorem lt_chain (ho : OpR X (compareOp op) r) (ho' : OpR X (compareOp op') r') (hd : OpD X.K r f) (hd' : OpD X.K r' f') (ha : LE X a ta) (hb : LE X b tb) (hc : LE X c tc)
    (hm : lastMarks [op, op'] [b, c] = false := by with_unfolding_all rfl) : LT X (.Compare a [op, op'] [b, c] pos) (wT (wCh f f' ta tb tc)) := by
  refine ⟨fun ρ Q Q' E E' k ke q => wCh_mono ha.mono hb.mono hc.mono ρ _ _ E E' (fun t ρ1 ⟨b, e, q⟩ => ⟨b, e, k _ _ q⟩) ke q,
    fun C W n hC hn tk => (pt_chain ho ho' (ha.run C W n hC hn tk) (hb.run C W (n + 1) hC (by omega) tk) (hc.run C W (n + 2) hC (by omega) tk) hm).imp fun σ H Q ⟨O, ρ, R, q⟩ => ?_⟩
  refine ch_run (Q := fun x H' => ∃ k, x = V.bl k ∧ Q k H') hd hd' ha.mono hb.mono hc.mono hn ⟨O, ρ, R, wCh_mono ha.mono hb.mono hc.mono ρ _ _ _ _ (fun t ρ1 ⟨k, e, q⟩ => ?_) (fun _ _ z => z) q⟩
  subst e
  intro v H1 O1 R1 F1 V1
  exact ⟨k, val_bool V1, q H1 _ (R1.cut hn) (F1.trans (frm_cut C.N n H1 O1 hn) (Nat.le_refl _))⟩

/-! ### module names that hold scalars -/
theorem le_gI {i : Int} {k : Nat} (hg : Gl X x) (hm : X.mg x = some (.int i k)) (hd : (x == ("__debug__" : Str)) = false := by decide) : LE X (.Name x pos) (wC (.d (.int i))) := le_sc (.int i) (pe_glob hg hm ⟨k, rfl⟩ hd)

theorem le_gX {i : Int} (hg : Gl X x) (hm : ∃ k, X.mg x = some (.int i k)) (hd : (x == ("__debug__" : Str)) = false := by decide) : LE X (.Name x pos) (wC (.d (.int i))) := let ⟨_, h⟩ := hm; le_gI hg h hd

/-! ### all of a list of truths, len(set(ints)) -/
def fAll : PyData → PyData → Prop := fun x z => ∃ bs : List Bool, x = .list (bs.map PyData.bool) ∧ z = .bool (bs.all id)
def rAll : List V → Hp → VK → Prop := fun vs H Q => ∃ (a : Addr) (bs : List Bool), vs = [.ref a] ∧ H a = some (.lst (bs.map V.bl)) ∧ Q (.bl (bs.all id)) H
theorem vals_bl : ∀ {bs : List Bool} {us : List Value}, Vals (bs.map V.bl) us → us = bs.map Value.bool
  | [], _, .nil => rfl
  | b :: bs, _, .cons r t => by cases r; rw [vals_bl t]; rfl
theorem bools_reads {h : Heap} : ∀ bs : List Bool, ReadsAll h (bs.map Value.bool) (bs.map PyData.bool) []
  | [] => .nil
  | b :: bs => ReadsAll.cons (as := []) (bs := []) (.bool b) (bools_reads bs)
theorem bools_plain : ∀ bs : List Bool, PyData.plainAll (bs.map PyData.bool) = true
  | [] => rfl
  | b :: bs => by simp only [List.map_cons, PyData.plainAll, bools_plain bs, PyData.plain, Bool.and_self]
theorem bools_fit (bs : List Bool) : ∀ x ∈ bs.map PyData.bool, x.fits63 := fun x h => by
  obtain ⟨b, _, rfl⟩ := List.mem_map.mp h
  trivial
theorem cr_all (hc : X.calm = true) : CallR X (.builtin "all") rAll := by
  rintro pins s σ H vs us Q I r ⟨ad, bs, rfl, ha, q⟩
  rw [Vals.ref1 r]
  obtain ⟨hz, its, n, rv, e⟩ := I.hok ad _ ha
  cases vals_bl rv
  refine PySem.W.all_list_data (I.ok.hd hc) ⟨_, e, rfl, n, rfl⟩ (bools_reads bs) (bools_plain bs) (bools_fit bs) fun h' tk hk => ?_
  rw [show (bs.map PyData.bool).all PyData.truthy = bs.all id by rw [List.all_map]; rfl]
  exact ⟨.bl _, H, I.kept (t' := tk) hk, rfl, q⟩
theorem rp_bls {K : PySem.W.Frag} {H : Hp} : ∀ {bs : List Bool} {vs : List V}, RpAll K H vs (bs.map PyData.bool) → vs = bs.map V.bl
  | [], _, h => by cases h; rfl
  | b :: bs, _, h => by
    cases h with
    | cons h1 h2 => rw [rp_bool h1, rp_bls h2]; rfl
theorem rp_ints {K : PySem.W.Frag} {H : Hp} : ∀ {ns : List Int} {vs : List V}, RpAll K H vs (ns.map PyData.int) → vs = ns.map V.int
  | [], _, h => by cases h; rfl
  | b :: bs, _, h => by
    cases h with
    | cons h1 h2 => rw [rp_int h1, rp_ints h2]; rfl
theorem fn_all {K : PySem.W.Frag} : FnK K rAll (k1 fAll) := fnk1 fun H O v x z Q _ r ⟨bs, e1, e2⟩ q => by
  subst e1; subst e2
  cases r with
  | lst h1 h2 => exact ⟨_, bs, rfl, by rw [h1, rp_bls h2], q _ (.bl _)⟩
theorem le_all (hc : X.calm = true) (hg : Gl X "all") (hm : X.mg "all" = none) (ha : LA X [e] tas) (he : starEach [e] X.env = (false, eval e X.env) :: starEach [] X.env := by rfl) (hpl : (backTo pos (starEach [] X.env)).any (·.1) = false := by rfl) : LE X (.Call (.Name "all" p) [e] [] pos) (wFn (k1 fAll) tas) :=
  le_fn (fun t h => pe_callB (cr_all hc) hg hm (by decide +kernel) h (he := he) (hpl := hpl)) k1_mono fn_all ha
/-- how many different ones -/
def distI (ns : List Int) : Nat := (firstMet (fun i => ns.getD i 0) ns.length).length
def wLenSet (ta : TwE) : TwE := fun ρ Q E => ta ρ (fun t ρ1 => ∃ ns : List Int, vw ρ1 t = some (.list (ns.map PyData.int)) ∧ ns.length ≤ 4000 ∧ Q (.d (.int (distI ns : Nat))) ρ1) E
def tLenSetA (ta : TE) : TE := fun σ H Q => ta σ H fun x H1 => ∃ (l : Addr) (ns : List Int), x = .ref l ∧ H1 l = some (.lst (ns.map V.int)) ∧ ns.length ≤ 4000 ∧ Q (.int (distI ns : Nat)) H1
theorem firstMet_le (f : Nat → Int) : ∀ n, (firstMet f n).length ≤ n
  | 0 => Nat.le_refl _
  | n + 1 => by
    rw [firstMet_succ]
    have := firstMet_le f n
    unfold step_dedup
    split
    · omega
    · rw [List.length_append]; simp; omega
theorem pe_lenSetA {ua : TE} (hc : X.calm = true) (hg : Gl X "len") (hm : X.mg "len" = none) (hg2 : Gl X "set") (hm2 : X.mg "set" = none) (ha : PE X a ua)
    (na : starEach [a] X.env = (false, eval a X.env) :: starEach [] X.env := by rfl) : PE X (.Call (.Name "len" p) [.Call (.Name "set" p2) [a] [] p3] [] pos) (tLenSetA ua) := by
  refine ⟨fun pins s σ H Q I h => Call_ (ld_blt I hg hm PySem.boot_len (callWith_builtin1 (args_cons (Call_ (ld_blt I hg2 hm2 PyProof.Rows.boot_set (callWith_type1 (args_cons (thn (ha.run pins s σ H _ I h) fun v s1 ⟨x, H1, I1, r1, l, ns, ex, hq, hl, q1⟩ => args_nil ?_) na) na rfl))) rfl) rfl rfl))⟩
  subst ex
  cases r1
  obtain ⟨hz, its, k, r, ho⟩ := I1.hok l _ hq
  have hlen : its.toArray.size = ns.length := by rw [List.size_toArray, ← r.length, List.length_map]
  refine call_set_list (I1.ok.hd hc) ⟨_, ho, rfl, k, rfl⟩ (ns := ns) (by simpa using RZ.intsAre_vals r) (by rw [hlen]; unfold scanBound; omega) fun h' tk hS hk => args_nil ?_
  rw [hlen] at hS
  obtain ⟨ob, es, ep, t, ho2, hex, hd, _, _, _, hf, hn⟩ := hS
  have I2 : Inv X pins σ H1 { s1 with heap := h', toks := tk } := I1.kept fun b o e => hk b o (Heap.lt_size e) e
  have := firstMet_le (fun i => ns.getD i 0) ns.length
  exact call_len_set ho2 hex hd hf (by rw [hn] <;> omega) ⟨.int (distI ns : Nat), H1, I2.tok _, ⟨_, by rw [hn]; rfl⟩, q1⟩
theorem le_lenSet (hc : X.calm = true) (hg : Gl X "len") (hm : X.mg "len" = none) (hg2 : Gl X "set") (hm2 : X.mg "set" = none) (ha : LE X a ta)
    (na : starEach [a] X.env = (false, eval a X.env) :: starEach [] X.env := by rfl) : LE X (.Call (.Name "len" p) [.Call (.Name "set" p2) [a] [] p3] [] pos) (wLenSet ta) := by
  refine ⟨fun ρ Q Q' E E' h he q => ha.mono ρ _ _ E E' (fun t ρ1 ⟨ns, e, e2, q⟩ => ⟨ns, e, e2, h _ _ q⟩) he q, fun C W n hC hn tk => (pe_lenSetA hc hg hm hg2 hm2 (ha.run C W n hC hn tk) na).imp fun σ H Q ⟨O, ρ, R, q⟩ => ?_⟩
  refine ⟨O, ρ, R, ha.mono ρ _ _ _ _ (fun t ρ1 ⟨ns, e, e2, q⟩ => ?_) (fun _ _ z => z) q⟩
  intro v H1 O1 R1 F1 V1
  have rp := R1.viewH V1 e
  cases rp with
  | lst h1 h2 => exact ⟨_, ns, rfl, by rw [h1, rp_ints h2], e2, Fin.sc hn R1 F1 q (.int _)⟩
end
end TX

/-! Defs by name, their promises; plain steps. -/
namespace TX
open PySem PySem.Spec L2 PyProof.Rows

/-! ### a def of the text -/
structure Fd (K : PySem.W.Frag) (mg : Str → Option Value) (x : Str) (st : Stmt) (ps : List Str) (f : Addr) (fd : FuncData) : Prop where
  F : L2.Fun K x x st f fd
  g : mg x = some (.ref f)
  b : Binds K fd ps []
def Df (P : Program) (w : World) (K : PySem.W.Frag) (mg : Str → Option Value) (base : Heap) (x : Str) (k : Nat) (ps : List Str) (np : Nat) (io : List Nat) (S : SpT) : Prop :=
  ∃ f fd, FnG P w K mg base k f fd ps (lfSp K np io S) ∧ mg x = some (.ref f) ∧ PySem.W.keepIn K (.ref f) = true ∧ Binds K fd ps []
theorem hu64 {k : Nat} {A : Around} (r : Room k A) : A.units + 64 < cLine := by have := r.un; omega
theorem hu65 {k : Nat} {A : Around} (r : Room k A) : A.units + 65 < cLine := by have := r.un; omega
section
variable {P : Program} {w : World} {K : PySem.W.Frag} {mg : Str → Option Value} {base : Heap} {x : Str} {st : Stmt} {f : Addr} {fd : FuncData} {N ps : List Str} {k np : Nat} {io : List Nat} {S : SpT}
theorem Fd.df (D : Fd K mg x st ps f fd) (G : FnG P w K mg base k f fd ps (lfSp K np io S)) : Df P w K mg base x k ps np io S := ⟨f, fd, G, D.g, D.F.kp, D.b⟩
end
section
variable {X : Cx} {k np : Nat} {ps : List Str} {io : List Nat} {S : SpT} {x : Str} {p pos : Pos} {e : Expr} {es : List Expr} {tas : TwA}
theorem le_callD {j : Nat} (D : Df X.prog X.w X.K X.mg X.base x k ps np io S) (room : Room j X.A) (hj : k ≤ j) (gu : X.A.guards = some []) (mS : MonSp S) (hg : Gl X x)
    (ha : LA X (e :: es) tas) (hdb : (x == ("__debug__" : Str)) = false := by decide) (he : starEach (e :: es) X.env = (false, eval e X.env) :: starEach es X.env := by rfl) (hpl : (backTo pos (starEach es X.env)).any (·.1) = false := by rfl) :
    LE X (.Call (.Name x p) (e :: es) [] pos) (wCall io np S tas) := by
  obtain ⟨f, fd, F, h1, h2, h3⟩ := D
  exact le_call F (room.mono hj) gu mS hg h1 h2 h3 ha hdb he hpl
end
/-- a promise by what must hold ahead and what holds behind -/
def SpP (pre : List T → Prop) (post : List T → T → Rho → Prop) : SpT := fun ts Q _ => pre ts ∧ ∀ t ρ, post ts t ρ → Q t ρ
theorem mon_SpP {pre : List T → Prop} {post : List T → T → Rho → Prop} : MonSp (SpP pre post) := fun ts Q Q' E E' h _ ⟨p, q⟩ => ⟨p, fun t ρ z => h _ _ (q t ρ z)⟩
end TX

/-! Plain steps: from a reading's head to what it asks. -/
namespace TX
open PySem PySem.Spec L2
abbrev PlD (S : SpT) (w : TwS) (N : List Str) : Prop := ∀ ts Q Ex, S ts Q Ex → w { nx := fun ρ => Q (.d .none) ρ, rt := fun t ρ => noAl t = true ∧ Q t ρ, ex := Ex } (rho0 N ts)

section
variable {ρ ρ' : Rho} {Q : T → Rho → Prop} {QA : List T → Rho → Prop} {QT : Bool → Rho → Prop} {QI : List PyData → Rho → Prop} {E : ExK} {t u : T} {ts us : List T} {x y : PyData} {i j : Int} {k n r s : Nat} {p q : List Nat} {ds : List PyData} {ta tb tc : TwE} {tas : TwA} {tt tu : TwT} {D : EndsT} {sa sb : TwS} {b c : Bool}
theorem xVarD (h : ρ[k]? = some (some (.d x))) (q : Q (.d x) ρ) : wVar k ρ Q E := ⟨_, h, q⟩
theorem xVarZ {ns : List Int} (h : ρ[k]? = some (some (.fz ns))) (q : Q (.fz ns) ρ) : wVar k ρ Q E := ⟨_, h, q⟩
theorem xVarN (h : ρ[k]? = some (some t)) (hn : isNode t = true) (q : Q (.a k []) ρ) : wVar k ρ Q E := ⟨_, h, by unfold nmv; rw [if_pos hn]; exact q⟩
theorem xC (q : Q t ρ) : wC t ρ Q E := q
/-! ### operators -/
def opK (f : PyData → PyData → PyData → Prop) (t u : T) (ρ : Rho) (Q : T → Rho → Prop) : Prop := ∃ x y z, vw ρ t = some x ∧ vw ρ u = some y ∧ f x y z ∧ Q (.d z) ρ
theorem xOp {f : PyData → PyData → PyData → Prop} (h : ta ρ (fun t ρ1 => tb ρ1 (fun u ρ2 => opK f t u ρ2 Q) E) E) : wOp f ta tb ρ Q E := h
theorem xI {g : Int → Int → Int} (h1 : vw ρ t = some (.int i)) (h2 : vw ρ u = some (.int j)) (q : Q (.d (.int (g i j))) ρ) : opK (fI g) t u ρ Q := ⟨_, _, _, h1, h2, ⟨_, _, rfl, rfl, rfl⟩, q⟩
theorem xIc {C : Int → Int → Prop} {g : Int → Int → Int} (h1 : vw ρ t = some (.int i)) (h2 : vw ρ u = some (.int j)) (c : C i j) (q : Q (.d (.int (g i j))) ρ) : opK (fIc C g) t u ρ Q := ⟨_, _, _, h1, h2, ⟨_, _, rfl, rfl, c, rfl⟩, q⟩
theorem xB {g : Int → Int → Bool} (h1 : vw ρ t = some (.int i)) (h2 : vw ρ u = some (.int j)) (q : Q (.d (.bool (g i j))) ρ) : opK (fB g) t u ρ Q := ⟨_, _, _, h1, h2, ⟨_, _, rfl, rfl, rfl⟩, q⟩
theorem eqv_int : PyData.eqv (.int i) (.int j) = (i == j) := by simp [PyData.eqv]
theorem eqv_str {a b : Str} : PyData.eqv (.str a) (.str b) = (a == b) := by simp [PyData.eqv]
theorem xEqI (h1 : vw ρ t = some (.int i)) (h2 : vw ρ u = some (.int j)) (q : Q (.d (.bool (i == j))) ρ) : opK fEq t u ρ Q := ⟨_, _, _, h1, h2, .inl ⟨rfl, rfl, rfl⟩, by rw [eqv_int]; exact q⟩
theorem xNeI (h1 : vw ρ t = some (.int i)) (h2 : vw ρ u = some (.int j)) (q : Q (.d (.bool (!(i == j)))) ρ) : opK fNe t u ρ Q := ⟨_, _, _, h1, h2, .inl ⟨rfl, rfl, rfl⟩, by rw [eqv_int]; exact q⟩
theorem xEqS {a b : Str} (h1 : vw ρ t = some (.str a)) (h2 : vw ρ u = some (.str b)) (q : Q (.d (.bool (a == b))) ρ) : opK fEq t u ρ Q := ⟨_, _, _, h1, h2, .inr ⟨_, _, rfl, rfl, rfl⟩, q⟩
theorem xNeS {a b : Str} (h1 : vw ρ t = some (.str a)) (h2 : vw ρ u = some (.str b)) (q : Q (.d (.bool (!(a == b)))) ρ) : opK fNe t u ρ Q := ⟨_, _, _, h1, h2, .inr ⟨_, _, rfl, rfl, rfl⟩, q⟩
theorem xEq (h1 : vw ρ t = some x) (h2 : vw ρ u = some y) (s1 : SeqAt.shaped x = true) (s2 : SeqAt.shaped y = true) (q : Q (.d (.bool (PyData.eqv x y))) ρ) : opK fEq t u ρ Q := ⟨_, _, _, h1, h2, .inl ⟨s1, s2, rfl⟩, q⟩
theorem xNe (h1 : vw ρ t = some x) (h2 : vw ρ u = some y) (s1 : SeqAt.shaped x = true) (s2 : SeqAt.shaped y = true) (q : Q (.d (.bool (!PyData.eqv x y))) ρ) : opK fNe t u ρ Q := ⟨_, _, _, h1, h2, .inl ⟨s1, s2, rfl⟩, q⟩
def ngK (t : T) (ρ : Rho) (Q : T → Rho → Prop) : Prop := ∃ i, t = .d (.int i) ∧ Q (.d (.int (-i))) ρ
theorem xNeg (h : ta ρ (fun t ρ1 => ngK t ρ1 Q) E) : wNeg ta ρ Q E := h
theorem xNegK (q : Q (.d (.int (-i))) ρ) : ngK (.d (.int i)) ρ Q := ⟨i, rfl, q⟩
/-! ### tests -/
def tK (t : T) (ρ : Rho) (Q : Bool → Rho → Prop) : Prop := ∃ b, t = .d (.bool b) ∧ Q b ρ
theorem xT (h : ta ρ (fun t ρ1 => tK t ρ1 QT) E) : wT ta ρ QT E := h
theorem xTK (q : QT b ρ) : tK (.d (.bool b)) ρ QT := ⟨b, rfl, q⟩
theorem xNot (h : tt ρ (fun b ρ1 => QT (!b) ρ1) E) : wNot tt ρ QT E := h
theorem xAnd (h : tt ρ (fun b ρ1 => if b = true then tu ρ1 QT E else QT false ρ1) E) : wAnd tt tu ρ QT E := h
theorem xOr (h : tt ρ (fun b ρ1 => if b = true then QT true ρ1 else tu ρ1 QT E) E) : wOr tt tu ρ QT E := h
theorem xIte {P P' : Prop} (h1 : b = true → P) (h2 : b = false → P') : if b = true then P else P' := by
  cases b with
  | true => exact h1 rfl
  | false => exact h2 rfl
theorem xYes {P P' : Prop} (h : b = true) (q : P) : if b = true then P else P' := by rw [if_pos h]; exact q
theorem xNo {P P' : Prop} (h : b = false) (q : P') : if b = true then P else P' := by rw [if_neg (by rw [h]; exact Bool.false_ne_true)]; exact q
def bK (t : T) (ρ : Rho) (P : Bool → Prop) : Prop := ∃ c, t = .d (.bool c) ∧ P c
theorem xAndV (h : ta ρ (fun t ρ1 => bK t ρ1 fun c => if c = true then tb ρ1 Q E else Q (.d (.bool false)) ρ1) E) : wAndV ta tb ρ Q E := h
theorem xOrV (h : ta ρ (fun t ρ1 => bK t ρ1 fun c => if c = true then Q (.d (.bool true)) ρ1 else tb ρ1 Q E) E) : wOrV ta tb ρ Q E := h
theorem xNotV (h : ta ρ (fun t ρ1 => bK t ρ1 fun c => Q (.d (.bool (!c))) ρ1) E) : wNotV ta ρ Q E := h
theorem xBK {P : Bool → Prop} (q : P b) : bK (.d (.bool b)) ρ P := ⟨b, rfl, q⟩
theorem xIf (h : tt ρ (fun b ρ1 => if b = true then ta ρ1 Q E else tb ρ1 Q E) E) : wIf tt ta tb ρ Q E := h
/-- a op b op c -/
def ch1 (f f' : PyData → PyData → PyData → Prop) (tc : TwE) (t u : T) (ρ : Rho) (Q : T → Rho → Prop) (E : ExK) : Prop := ∃ x y k, vw ρ t = some x ∧ vw ρ u = some y ∧ f x y (.bool k) ∧
  if k = true then tc ρ (fun w ρ3 => ∃ y' z k', vw ρ3 u = some y' ∧ vw ρ3 w = some z ∧ f' y' z (.bool k') ∧ Q (.d (.bool k')) ρ3) E else Q (.d (.bool false)) ρ
def ch2 (f' : PyData → PyData → PyData → Prop) (u w : T) (ρ : Rho) (Q : T → Rho → Prop) : Prop := ∃ y' z k', vw ρ u = some y' ∧ vw ρ w = some z ∧ f' y' z (.bool k') ∧ Q (.d (.bool k')) ρ
theorem xCh {f f' : PyData → PyData → PyData → Prop} (h : ta ρ (fun t ρ1 => tb ρ1 (fun u ρ2 => ch1 f f' tc t u ρ2 Q E) E) E) : wCh f f' ta tb tc ρ Q E := h
theorem xCh1 {f' : PyData → PyData → PyData → Prop} {g : Int → Int → Bool} (h1 : vw ρ t = some (.int i)) (h2 : vw ρ u = some (.int j)) (q : if g i j = true then tc ρ (fun w ρ3 => ch2 f' u w ρ3 Q) E else Q (.d (.bool false)) ρ) : ch1 (fB g) f' tc t u ρ Q E := ⟨_, _, _, h1, h2, ⟨_, _, rfl, rfl, rfl⟩, q⟩
theorem xCh2 {g : Int → Int → Bool} {w : T} (h1 : vw ρ u = some (.int i)) (h2 : vw ρ w = some (.int j)) (q : Q (.d (.bool (g i j))) ρ) : ch2 (fB g) u w ρ Q := ⟨_, _, _, h1, h2, ⟨_, _, rfl, rfl, rfl⟩, q⟩
/-! ### items -/
def ixK (t u : T) (ρ : Rho) (Q : T → Rho → Prop) : Prop := ∃ i z, u = .d (.int i) ∧ IxT ρ t i z ∧ Q z ρ
theorem xIx (h : ta ρ (fun t ρ1 => tb ρ1 (fun u ρ2 => ixK t u ρ2 Q) E) E) : wIx ta tb ρ Q E := h
theorem xIxA (g : getT ρ r p = some (.l ts)) (hj : ixN ts.length i = some k) (hc : ts[k]? = some (.d x)) (q : Q (.d x) ρ) : ixK (.a r p) (.d (.int i)) ρ Q := ⟨i, _, rfl, ⟨ts, k, _, g, hj, hc, rfl⟩, q⟩
theorem xIxAL (g : getT ρ r p = some (.l (ds.map T.d))) (hj : atI ds i = some x) (q : Q (.d x) ρ) : ixK (.a r p) (.d (.int i)) ρ Q := by
  obtain ⟨j, h1, h2⟩ := atI_len (ys := ds.map T.d) (by simp) hj
  exact ⟨i, _, rfl, ⟨_, j, .d x, g, h1, by rw [List.getElem?_map, h2]; rfl, rfl⟩, q⟩
theorem xIxL (hj : atI ds i = some x) (q : Q (.d x) ρ) : ixK (.l (ds.map T.d)) (.d (.int i)) ρ Q := by
  obtain ⟨j, h1, h2⟩ := atI_len (ys := ds.map T.d) (by simp) hj
  exact ⟨i, _, rfl, ⟨x, atI_of h1 (by rw [List.getElem?_map, h2]; rfl), rfl⟩, q⟩
theorem xIxT (hj : atI ds i = some x) (q : Q (.d x) ρ) : ixK (.d (.tuple ds)) (.d (.int i)) ρ Q := ⟨i, _, rfl, ⟨x, hj, rfl⟩, q⟩
theorem xIxZ {ns : List Int} (hj : atI ns i = some j) (q : Q (.d (.int j)) ρ) : ixK (.fz ns) (.d (.int i)) ρ Q := ⟨i, _, rfl, ⟨j, hj, rfl⟩, q⟩
/-! ### displays, values of a call -/
theorem xNil (q : QA [] ρ) : wNil ρ QA E := q
theorem xCons (h : ta ρ (fun t ρ1 => tas ρ1 (fun ts ρ2 => QA (t :: ts) ρ2) E) E) : wCons ta tas ρ QA E := h
theorem xFn {k : KT} (h : tas ρ (fun ts ρ1 => k ts ρ1 Q) E) : wFn k tas ρ Q E := h
def lstK (ts : List T) (ρ : Rho) (Q : T → Rho → Prop) : Prop := ∃ ds, eraseAll ts = some ds ∧ Q (.l (ds.map T.d)) ρ
def tupK (ts : List T) (ρ : Rho) (Q : T → Rho → Prop) : Prop := ∃ ds, eraseAll ts = some ds ∧ Q (.d (.tuple ds)) ρ
theorem xLst (h : tas ρ (fun ts ρ1 => lstK ts ρ1 Q) E) : wLst tas ρ Q E := h
theorem xLstK (e : eraseAll ts = some ds) (q : Q (.l (ds.map T.d)) ρ) : lstK ts ρ Q := ⟨ds, e, q⟩
theorem xTup (h : tas ρ (fun ts ρ1 => tupK ts ρ1 Q) E) : wTup tas ρ Q E := h
theorem xTupK (e : eraseAll ts = some ds) (q : Q (.d (.tuple ds)) ρ) : tupK ts ρ Q := ⟨ds, e, q⟩
theorem xLen (e : lenT ρ t = some n) (q : Q (.d (.int (n : Nat))) ρ) : kLen [t] ρ Q := ⟨t, n, rfl, e, q⟩
theorem xMax (h1 : vw ρ t = some (.int i)) (h2 : vw ρ u = some (.int j)) (q : Q (.d (.int (max i j))) ρ) : k2 fMax [t, u] ρ Q := ⟨t, u, _, _, _, rfl, h1, h2, ⟨_, _, rfl, rfl, rfl⟩, q⟩
theorem xMin (h1 : vw ρ t = some (.int i)) (h2 : vw ρ u = some (.int j)) (q : Q (.d (.int (min i j))) ρ) : k2 fMin [t, u] ρ Q := ⟨t, u, _, _, _, rfl, h1, h2, ⟨_, _, rfl, rfl, rfl⟩, q⟩
theorem xReprD (h1 : vw ρ t = some x) (h2 : x.showable = true) (h4 : x.shown.length ≤ sizeLine) (h5 : x.depth ≤ 60) (q : Q (.d (.str x.shown)) ρ) : k1 fRepr [t] ρ Q := ⟨t, _, _, rfl, h1, ⟨h2, h4, h5, rfl⟩, q⟩
theorem xIs {c : String} (h1 : vw ρ t = some x) (h2 : kitB (tyD x) c = some b) (q : Q (.d (.bool b)) ρ) : kIs [t, .raw (.ty c)] ρ Q := ⟨t, x, c, b, rfl, h1, h2, q⟩
theorem xSort (h : lsq ρ t = some ds) (h1 : PySem.W.AllAlike ds) (h2 : PySem.W.Sortable ds) (h3 : ∀ d ∈ ds, d.depth ≤ 60) (q : Q (.l ((ds.mergeSort le0).map T.d)) ρ) : kSort [t] ρ Q := ⟨t, ds, rfl, h, h1, h2, h3, q⟩
theorem xList (h : lsq ρ t = some ds) (q : Q (.l (ds.map T.d)) ρ) : kList [t] ρ Q := ⟨t, ds, rfl, .inl h, q⟩
theorem xAll {bs : List Bool} (h : vw ρ t = some (.list (bs.map PyData.bool))) (q : Q (.d (.bool (bs.all id))) ρ) : k1 fAll [t] ρ Q := ⟨t, _, _, rfl, h, ⟨bs, rfl, rfl⟩, q⟩
def lsK (t : T) (ρ : Rho) (Q : T → Rho → Prop) : Prop := ∃ ns : List Int, vw ρ t = some (.list (ns.map PyData.int)) ∧ ns.length ≤ 4000 ∧ Q (.d (.int (distI ns : Nat))) ρ
theorem xLenSet (h : ta ρ (fun t ρ1 => lsK t ρ1 Q) E) : wLenSet ta ρ Q E := h
def catK (t u : T) (ρ : Rho) (Q : T → Rho → Prop) : Prop := ∃ xs ys, lsq ρ t = some xs ∧ lsq ρ u = some ys ∧ xs.length + ys.length ≤ sizeLine ∧ Q (.l ((xs ++ ys).map T.d)) ρ
theorem xCat (h : ta ρ (fun t ρ1 => tb ρ1 (fun u ρ2 => catK t u ρ2 Q) E) E) : wCat ta tb ρ Q E := h
theorem xCatK {es : List PyData} (h1 : lsq ρ t = some ds) (h2 : lsq ρ u = some es) (h3 : ds.length + es.length ≤ sizeLine) (q : Q (.l ((ds ++ es).map T.d)) ρ) : catK t u ρ Q := ⟨_, _, h1, h2, h3, q⟩
def revK (t : T) (ρ : Rho) (Q : T → Rho → Prop) : Prop := ∃ xs, lsq ρ t = some xs ∧ Q (.l (xs.reverse.map T.d)) ρ
theorem xRevS (h : ta ρ (fun t ρ1 => revK t ρ1 Q) E) : wRevS ta ρ Q E := h
theorem xRevK (h1 : lsq ρ t = some ds) (q : Q (.l (ds.reverse.map T.d)) ρ) : revK t ρ Q := ⟨_, h1, q⟩
/-! ### slices -/
def slK (t : T) (lo hi : Option Int) (ρ : Rho) (Q : T → Rho → Prop) : Prop := ∃ xs, lsq ρ t = some xs ∧ Q (.l ((cutD xs lo hi).map T.d)) ρ
theorem xSl {tl th : TwO} (h : ta ρ (fun t ρ1 => tl ρ1 (fun lo ρ2 => th ρ2 (fun hi ρ3 => slK t lo hi ρ3 Q) E) E) E) : wSl ta tl th ρ Q E := h
theorem xSlK {lo hi : Option Int} (h1 : lsq ρ t = some ds) (q : Q (.l ((cutD ds lo hi).map T.d)) ρ) : slK t lo hi ρ Q := ⟨_, h1, q⟩
theorem xNoPart {QO : Option Int → Rho → Prop} (q : QO none ρ) : wNoPart ρ QO E := q
def ptK (t : T) (ρ : Rho) (QO : Option Int → Rho → Prop) : Prop := ∃ i, t = .d (.int i) ∧ QO (some i) ρ
theorem xPart {QO : Option Int → Rho → Prop} (h : ta ρ (fun t ρ1 => ptK t ρ1 QO) E) : wPart ta ρ QO E := h
theorem xPartK {QO : Option Int → Rho → Prop} (q : QO (some i) ρ) : ptK (.d (.int i)) ρ QO := ⟨i, rfl, q⟩
/-! ### methods -/
def mK (ty : Rho → T → Prop) (k : KM) (tas : TwA) (t : T) (ρ : Rho) (Q : T → Rho → Prop) (E : ExK) : Prop := ty ρ t ∧ tas ρ (fun ts ρ2 => k t ts ρ2 Q) E
theorem xM {ty : Rho → T → Prop} {k : KM} (h : ta ρ (fun t ρ1 => mK ty k tas t ρ1 Q E) E) : wM ty k ta tas ρ Q E := h
theorem xMA {k : KM} (g : getT ρ r p = some (.l us)) (q : tas ρ (fun ts ρ2 => k (.a r p) ts ρ2 Q) E) : mK isLst k tas (.a r p) ρ Q E := ⟨⟨_, g⟩, q⟩
theorem xMD {k : KM} (q : tas ρ (fun ts ρ2 => k (.d (.list ds)) ts ρ2 Q) E) : mK isLst k tas (.d (.list ds)) ρ Q E := ⟨trivial, q⟩
theorem xApp (g : getT ρ r p = some (.l (ds.map T.d))) (e : erase t = some y) (l : ds.length < sizeLine) (q : Q (.d .none) (putAt ρ r p (.l ((ds ++ [y]).map T.d)))) : kApp (.a r p) [t] ρ Q := ⟨r, p, ds, t, y, rfl, rfl, g, e, l, q⟩
theorem xExt {ys : List PyData} (g : getT ρ r p = some (.l (ds.map T.d))) (e : lsq ρ t = some ys) (l : ds.length + ys.length ≤ sizeLine) (q : Q (.d .none) (putAt ρ r p (.l ((ds ++ ys).map T.d)))) : kExt (.a r p) [t] ρ Q := ⟨r, p, ds, t, ys, rfl, rfl, g, e, l, q⟩
theorem xPopAt (g : getT ρ r p = some (.l (ds.map T.d))) (h0 : 0 ≤ i) (h1 : i.toNat < ds.length) (hs : ds.length < 2 ^ 63) (e : ds[i.toNat]? = some y) (q : Q (.d y) (putAt ρ r p (.l ((ds.eraseIdx i.toNat).map T.d)))) : kPopAt (.a r p) [.d (.int i)] ρ Q :=
  ⟨r, p, ds, i, i.toNat, y, rfl, rfl, g, by omega, by omega, (ixN_seq (by unfold ixN; rw [if_pos h0, if_pos (by omega)])).1, e, q⟩
theorem xRev (g : getT ρ r p = some (.l (ds.map T.d))) (q : Q (.d .none) (putAt ρ r p (.l (ds.reverse.map T.d)))) : kRev (.a r p) [] ρ Q := ⟨r, p, ds, rfl, rfl, g, q⟩
theorem xIns (g : getT ρ r p = some (.l (ds.map T.d))) (e : erase t = some y) (l : ds.length < sizeLine) (h0 : 0 ≤ i) (h1 : i < 2 ^ 63) (q : Q (.d .none) (putAt ρ r p (.l ((ds.take i.toNat ++ [y] ++ ds.drop i.toNat).map T.d)))) : kIns (.a r p) [.d (.int i), t] ρ Q := ⟨r, p, ds, i, t, y, rfl, rfl, g, e, l, h0, h1, q⟩
/-! ### statements -/
theorem xSeq (h : sa { D with nx := sb D } ρ) : wSeq sa sb D ρ := h
theorem xNext (h : D.nx ρ) : wNext D ρ := h
theorem xIfS (h : tt ρ (fun b ρ1 => if b = true then sa D ρ1 else sb D ρ1) D.ex) : wIfS tt sa sb D ρ := h
def stK (k : Nat) (D : EndsT) (t : T) (ρ : Rho) : Prop := (∀ r p, t ≠ .a r p) ∧ D.nx (ρ.set k (some t))
theorem xSet (h : ta ρ (stK k D) D.ex) : wSet k ta D ρ := h
theorem xSetK (h : noAl t = true) (q : D.nx (ρ.set k (some t))) : stK k D t ρ := ⟨fun r p z => (by subst z; cases h), q⟩
theorem xDrop (h : ta ρ (fun _ ρ1 => D.nx ρ1) D.ex) : wDrop ta D ρ := h
theorem xRet (h : ta ρ (fun t ρ1 => D.rt t ρ1) D.ex) : wRet ta D ρ := h
theorem xRetV (h : ρ[k]? = some (some t)) (q : D.rt t (ρ.set k none)) : wRetV k D ρ := ⟨t, h, q⟩
theorem xFrz {sa : TwS} (h : ρ[k]? = some (some t)) (e : erase t = some x) (q : sa D (ρ.set k (some (.d x)))) : wFrz k sa D ρ := ⟨t, x, h, e, q⟩
def asK (tg : TwG) (D : EndsT) (t : T) (ρ : Rho) : Prop := ∃ x, erase t = some x ∧ tg x ρ D.nx D.ex
theorem xAsg {tg : TwG} (h : ta ρ (asK tg D) D.ex) : wAsg ta tg D ρ := h
theorem xAsK {tg : TwG} (e : erase t = some x) (h : tg x ρ D.nx D.ex) : asK tg D t ρ := ⟨x, e, h⟩
def sbK (x : PyData) (t u : T) (ρ : Rho) (N : Rho → Prop) : Prop := ∃ r q, ∃ ds : List PyData, ∃ k j, t = .a r q ∧ u = .d (.int k) ∧ getT ρ r q = some (.l (ds.map T.d)) ∧ ixN ds.length k = some j ∧ N (putAt ρ r q (.l ((ds.set j x).map T.d)))
theorem xSub {N : Rho → Prop} (h : ta ρ (fun t ρ1 => tb ρ1 (fun u ρ2 => sbK x t u ρ2 N) E) E) : wSub ta tb x ρ N E := h
theorem xSbK {N : Rho → Prop} (g : getT ρ r p = some (.l ts)) (e : allD ts = some ds) (h : ixN ds.length i = some k) (q : N (putAt ρ r p (.l ((ds.set k x).map T.d)))) : sbK x (.a r p) (.d (.int i)) ρ N := ⟨r, p, ds, i, k, rfl, rfl, by rw [g, allD_eq e], h, q⟩
theorem xNm {N : Rho → Prop} (h : noNdB ρ k = true) (q : N (ρ.set k (some (.d x)))) : wNm k x ρ N E := ⟨h, q⟩
theorem xGTup {tg : TwGs} {N : Rho → Prop} (h : ds.length = k) (q : tg ds ρ N E) : wGTup k tg (.tuple ds) ρ N E := ⟨ds, rfl, h, q⟩
theorem xGsCons {tg : TwG} {tgs : TwGs} {N : Rho → Prop} (q : tg x ρ (fun ρ1 => tgs ds ρ1 N E) E) : wGsCons tg tgs (x :: ds) ρ N E := ⟨x, ds, rfl, q⟩
theorem xGsNil {N : Rho → Prop} (q : N ρ) : wGsNil [] ρ N E := ⟨rfl, q⟩
/-! ### walks -/
def foK (g : TwG) (tb : TwS) (D : EndsT) (xs : List PyData) (ρ : Rho) : Prop := ∃ P : Nat → Rho → Prop, P 0 ρ ∧
  (∀ i x ρ2, xs[i]? = some x → P i ρ2 → g x ρ2 (fun ρ3 => tb { D with nx := P (i + 1), ct := P (i + 1), bk := D.nx } ρ3) D.ex) ∧ ∀ ρ2, P xs.length ρ2 → D.nx ρ2
theorem xFor {wi : TwI} {g : TwG} {tb : TwS} (h : wi ρ (foK g tb D) D.ex) : wFor wi g tb D ρ := h
theorem xFoK {g : TwG} {tb : TwS} {xs : List PyData} (P : Nat → Rho → Prop) (h0 : P 0 ρ) (hs : ∀ i x ρ2, xs[i]? = some x → P i ρ2 → g x ρ2 (fun ρ3 => tb { D with nx := P (i + 1), ct := P (i + 1), bk := D.nx } ρ3) D.ex) (hd : ∀ ρ2, P xs.length ρ2 → D.nx ρ2) : foK g tb D xs ρ := ⟨P, h0, hs, hd⟩
def ilK (t : T) (ρ : Rho) (Q : List PyData → Rho → Prop) : Prop := ∃ xs, flatL t = some xs ∧ Q xs ρ
theorem xILst (h : ta ρ (fun t ρ1 => ilK t ρ1 QI) E) : wILst ta ρ QI E := h
theorem xILK (h : flatL t = some ds) (q : QI ds ρ) : ilK t ρ QI := ⟨ds, h, q⟩
theorem flat_map : flatL (.l (ds.map T.d)) = some ds := allD_map ds
def irK (ts : List T) (ρ : Rho) (QI : List PyData → Rho → Prop) : Prop := ∃ j : Int, ts = [.d (.int j)] ∧ -(2 ^ 62) ≤ j ∧ j < 2 ^ 62 ∧ QI (rangeD 0 j.toNat) ρ
theorem xIR1 (h : tas ρ (fun ts ρ1 => irK ts ρ1 QI) E) : wIR1 tas ρ QI E := h
theorem xIRK (h1 : -(2 ^ 62) ≤ j) (h2 : j < 2 ^ 62) (q : QI (rangeD 0 j.toNat) ρ) : irK [.d (.int j)] ρ QI := ⟨j, rfl, h1, h2, q⟩
def ieK (ts : List T) (ρ : Rho) (QI : List PyData → Rho → Prop) : Prop := ∃ t xs, ts = [t] ∧ flatL t = some xs ∧ QI (enumD xs) ρ
theorem xIEn (h : tas ρ (fun ts ρ1 => ieK ts ρ1 QI) E) : wIEn tas ρ QI E := h
theorem xIEK (h : flatL t = some ds) (q : QI (enumD ds) ρ) : ieK [t] ρ QI := ⟨t, ds, rfl, h, q⟩
theorem range_get {lo : Int} {n m : Nat} {x : PyData} (h : (rangeD lo n)[m]? = some x) : m < n ∧ x = .int (lo + (m : Nat)) := by
  unfold rangeD at h
  rw [List.getElem?_map] at h
  by_cases q : m < n
  · rw [List.getElem?_range q] at h; cases h; exact ⟨q, rfl⟩
  · rw [List.getElem?_eq_none (by simpa using Nat.le_of_not_lt q)] at h; cases h
theorem range_len {lo : Int} {n : Nat} : (rangeD lo n).length = n := by unfold rangeD; simp
theorem at_in' {α : Type} {xs : List α} {i : Int} (h0 : 0 ≤ i) (h : i < xs.length) : ∃ x, atI xs i = some x ∧ xs[i.toNat]? = some x := by
  have hl : i.toNat < xs.length := by omega
  exact ⟨xs[i.toNat], atI_of (j := i.toNat) (by unfold ixN; rw [if_pos h0, if_pos h]) (List.getElem?_eq_getElem hl), List.getElem?_eq_getElem hl⟩
/-! ### comprehensions -/
def lcK (g : TwG) (tt : TwT) (te : TwE) (vs : List Nat) (Q : T → Rho → Prop) (xs : List PyData) (ρ1 : Rho) : Prop := noNd ρ1 vs ∧ xs.length ≤ 1000000 ∧ ∃ P : Nat → List PyData → Rho → Prop, P 0 [] (wipeR ρ1 vs) ∧
  (∀ i x acc ρ2, xs[i]? = some x → P i acc ρ2 → g x ρ2 (fun ρ3 => tt ρ3 (fun b ρ4 => noNd ρ4 vs ∧ if b = true then te ρ4 (fun t ρ5 => noNd ρ5 vs ∧ ∃ y, erase t = some y ∧ P (i + 1) (acc ++ [y]) (wipeR ρ5 vs)) exN else P (i + 1) acc (wipeR ρ4 vs)) exN) exN) ∧
  (∀ acc ρ2, P xs.length acc ρ2 → Q (.l (acc.map T.d)) (restR ρ1 ρ2 vs))
theorem xLc {wi : TwI} {g : TwG} {te : TwE} {vs : List Nat} (h : wi ρ (lcK g tt te vs Q) E) : wLc wi g tt te vs ρ Q E := h
theorem noNd1 (h : noNdB ρ k = true) : noNd ρ [k] := fun j hj t e => by
  have : j = k := by simpa using hj
  subst this
  unfold noNdB at h
  rw [e] at h
  simpa using h
theorem xYesT (q : QT true ρ) : wYes ρ QT E := q
/-- the same, the turn's steps told forward -/
theorem xLcM {xs : List PyData} {te : TwE} (f : PyData → Bool) (h : PyData → PyData) (hn : noNdB ρ k = true) (hl : xs.length ≤ 1000000) (hk : k < ρ.length)
    (step : ∀ x ∈ xs, ∀ (Y : PyData → Rho → Prop) (Z : Rho → Prop), (f x = true → Y (h x) (ρ.set k (some (.d x)))) → (f x = false → Z (ρ.set k (some (.d x)))) → tt (ρ.set k (some (.d x))) (fun b ρ4 => noNd ρ4 [k] ∧ if b = true then te ρ4 (fun t ρ5 => noNd ρ5 [k] ∧ ∃ y, erase t = some y ∧ Y y ρ5) exN else Z ρ4) exN)
    (q : Q (.l (((xs.filter f).map h).map T.d)) ρ) : lcK (wNm k) tt te [k] Q xs ρ := by
  have wp : ∀ x : PyData, wipeR (ρ.set k (some (.d x))) [k] = ρ.set k none := fun x => by unfold wipeR wipeR; rw [List.set_set]
  refine ⟨noNd1 hn, hl, fun i acc ρ2 => acc = ((xs.take i).filter f).map h ∧ ρ2 = ρ.set k none, ⟨rfl, rfl⟩, ?_, ?_⟩
  · rintro i x acc ρ2 e ⟨rfl, rfl⟩
    have tk : xs.take (i + 1) = xs.take i ++ [x] := by rw [List.take_succ, e]; rfl
    refine ⟨by unfold noNdB; rw [List.getElem?_set_self hk], ?_⟩
    rw [List.set_set]
    refine step x (List.mem_of_getElem? e) (fun y ρ5 => (((xs.take i).filter f).map h ++ [y]) = ((xs.take (i + 1)).filter f).map h ∧ wipeR ρ5 [k] = ρ.set k none) (fun ρ4 => ((xs.take i).filter f).map h = ((xs.take (i + 1)).filter f).map h ∧ wipeR ρ4 [k] = ρ.set k none) (fun hf => ⟨?_, wp x⟩) (fun hf => ⟨?_, wp x⟩)
    · rw [tk, List.filter_append, List.map_append]; simp [hf]
    · rw [tk, List.filter_append, List.map_append]; simp [hf]
  · rintro acc ρ2 ⟨rfl, rfl⟩
    have : restR ρ (ρ.set k none) [k] = ρ := rest_wipe [k]
    rw [this, List.take_length]
    exact q
/-- lists of ints -/
theorem pickI {cs : List Int} (h0 : 0 ≤ i) (h1 : i < cs.length) : ∃ w ∈ cs, atI (cs.map PyData.int) i = some (.int w) := by
  obtain ⟨x, e1, e2⟩ := at_in' h0 h1
  exact ⟨x, List.mem_of_getElem? e2, by
    unfold atI at e1 ⊢
    rw [List.length_map]
    cases z : ixN cs.length i with
    | none => rw [z] at e1; cases e1
    | some j => rw [z] at e1; simp only [Option.bind_some] at e1 ⊢; rw [List.getElem?_map, e1]; rfl⟩
/-! ### calls -/
def caK (io : List Nat) (np : Nat) (S : SpT) (ts : List T) (ρ1 : Rho) (Q : T → Rho → Prop) (E : ExK) : Prop := ∃ vu us, argsF io ρ1 vu 0 ts = some us ∧ us.length = np ∧ apartB ts = true ∧
  S us (fun t ρ' => ioOk io vu ρ' = true ∧ (vu = true → immT t = true) ∧ noAl t = true ∧ Q t (backA io ts ρ1 ρ')) (fun c ρ' => ioOk io vu ρ' = true ∧ E c (backA io ts ρ1 ρ'))
theorem xCall {io : List Nat} {np : Nat} {S : SpT} (h : tas ρ (fun ts ρ1 => caK io np S ts ρ1 Q E) E) : wCall io np S tas ρ Q E := h
theorem back_nil : backA [] ts ρ ρ' = ρ := by
  unfold backA
  refine List.ext_getElem? fun j => ?_
  rw [List.getElem?_mapIdx]
  cases ρ[j]? with
  | none => rfl
  | some z => rfl
/-- nothing is handed in to be changed, every value is data | looked at (vu) -/
theorem xCaP {np : Nat} {pre : List T → Prop} {post : List T → T → Rho → Prop} (h : argsF [] ρ false 0 ts = some us) (hl : us.length = np) (ha : apartB ts = true) (p : pre us) (q : ∀ t ρ', post us t ρ' → noAl t = true ∧ Q t ρ) : caK [] np (SpP pre post) ts ρ Q E :=
  ⟨false, us, h, hl, ha, p, fun t ρ' z => ⟨rfl, fun z => (nomatch z), (q t ρ' z).1, by rw [back_nil]; exact (q t ρ' z).2⟩⟩
theorem xCaV {np : Nat} {pre : List T → Prop} {post : List T → T → Rho → Prop} (h : argsF [] ρ true 0 ts = some us) (hl : us.length = np) (ha : apartB ts = true) (p : pre us) (q : ∀ t ρ', post us t ρ' → immT t = true ∧ noAl t = true ∧ Q t ρ) : caK [] np (SpP pre post) ts ρ Q E :=
  ⟨true, us, h, hl, ha, p, fun t ρ' z => ⟨rfl, fun _ => (q t ρ' z).1, (q t ρ' z).2.1, by rw [back_nil]; exact (q t ρ' z).2.2⟩⟩
theorem back_one {us : List T} {v : T} (hu : ρ'[0]? = some (some v)) (h : ρ[r]? = some (some t)) : backA [0] (.a r [] :: us) ρ ρ' = ρ.set r (some v) := by
  unfold backA
  refine List.ext_getElem? fun j => ?_
  rw [List.getElem?_mapIdx]
  by_cases q : j = r
  · subst q
    rw [List.getElem?_set_self (List.getElem?_eq_some_iff.mp h).1, h]
    simp only [Option.map_some]
    unfold backF rmOf
    simp only [List.findSome?_cons, List.getElem?_cons_zero, if_true]
    rw [hu]; rfl
  · rw [List.getElem?_set_ne (fun z => q z.symm)]
    cases ρ[j]? with
    | none => rfl
    | some z =>
      simp only [Option.map_some]
      unfold backF rmOf
      have : ¬ r = j := fun z => q z.symm
      simp [this]
/-- the first value is handed in to be changed, the others are scalar -/
theorem xCaF {np : Nat} {pre : List T → Prop} {post : List T → T → Rho → Prop} (g : ρ[r]? = some (some t)) (hn : isNode t = true) (h : argsF [0] ρ false 1 ts = some us) (hl : us.length + 1 = np) (ha : apartB (.a r [] :: ts) = true) (p : pre (t :: us))
    (q : ∀ u ρ', post (t :: us) u ρ' → ∃ v, ρ'[0]? = some (some v) ∧ isNode v = true ∧ noAl u = true ∧ Q u (ρ.set r (some v))) : caK [0] np (SpP pre post) (.a r [] :: ts) ρ Q E := by
  refine ⟨false, t :: us, ?_, hl, ha, p, fun u ρ' z => ?_⟩
  · unfold argsF argF
    have : getT ρ r [] = some t := by unfold getT; rw [g]; rfl
    simp only [List.contains_cons, BEq.rfl, Bool.true_or]
    rw [this]
    simp only
    rw [if_pos hn, h]
  · obtain ⟨v, h1, h2, h3, h4⟩ := q u ρ' z
    refine ⟨?_, fun z => (nomatch z), h3, by rw [back_one h1 g]; exact h4⟩
    unfold ioOk
    simp only [List.all_cons, List.all_nil, Bool.and_true]
    rw [h1]
    simp [h2]
end
/-! ### sizes -/
theorem log_le {n a : Nat} (h : n < 2 ^ a) : n.log2 ≤ a := by
  by_cases z : n = 0
  · subst z; simp
  · exact Nat.le_of_lt ((Nat.log2_lt z).mpr h)
theorem cmul {i j : Int} (a b : Nat) (h1 : i.natAbs < 2 ^ a) (h2 : j.natAbs < 2 ^ b) (h : a + b < 1000000 := by decide) : CMulW i j := by
  have := log_le h1
  have := log_le h2
  unfold CMulW
  omega
theorem nA {i m : Int} (a : Nat) (h0 : 0 ≤ i) (h1 : i < m) (h2 : m ≤ 2 ^ a) : i.natAbs < 2 ^ a := by
  have : ((2 ^ a : Nat) : Int) = 2 ^ a := by simp
  omega
theorem cdiv64 {i j : Int} (h1 : 0 < j) (h2 : j ≤ 2 ^ 64) : CDivW i j := ⟨h1, Nat.lt_of_le_of_lt (log_le (a := 65) (nA 65 (Int.le_of_lt h1) (Int.lt_add_one_of_le h2) (by decide))) (by decide)⟩
theorem cpow {i j : Int} (a : Nat) (h1 : i.natAbs < 2 ^ a) (h0 : 0 ≤ j) (h2 : (a : Int) * j ≤ 2 ^ 27) : CPowW i j := by
  have h3 : (Builtin.Int.intBits i : Nat) ≤ a := PyProof.Rows.intBits_le h1
  exact ⟨h0, Int.le_trans (Int.mul_le_mul_of_nonneg_right (by omega) h0) h2⟩
theorem at_of {α : Type} {xs : List α} {i : Int} {x : α} (h0 : 0 ≤ i) (h : xs[i.toNat]? = some x) : atI xs i = some x := by
  have := (List.getElem?_eq_some_iff.mp h).1
  exact atI_of (j := i.toNat) (by unfold ixN; rw [if_pos h0, if_pos (by omega)]) h
theorem at_in {α : Type} {xs : List α} {i : Int} (h0 : 0 ≤ i) (h : i < xs.length) : ∃ x, atI xs i = some x ∧ xs[i.toNat]? = some x := by
  have hl : i.toNat < xs.length := by omega
  exact ⟨xs[i.toNat], at_of h0 (List.getElem?_eq_getElem hl), List.getElem?_eq_getElem hl⟩
end TX

/-! Dicts of one's own: keys ints and texts, or tuples of these; values data. -/
namespace TX
open PySem PySem.Spec L2 PyProof.Rows

section
variable {κ : Type} [DecidableEq κ]
def lookD (kvs : List (κ × PyData)) (k : κ) : Option PyData := (kvs.find? fun p => decide (p.1 = k)).map (·.2)
def putD (kvs : List (κ × PyData)) (k : κ) (x : PyData) : List (κ × PyData) := if (kvs.any fun p => decide (p.1 = k)) = true then kvs.map (fun p => if p.1 = k then (p.1, x) else p) else kvs ++ [(k, x)]
/-- two tables with the same keys, the values alike -/
inductive KRp (K : PySem.W.Frag) (M : Hp) : List (κ × V) → List (κ × PyData) → Prop
  | nil : KRp K M [] []
  | cons {k v x t u} : Rp K M v x → KRp K M t u → KRp K M ((k, v) :: t) ((k, x) :: u)
section
variable {K : PySem.W.Frag} {M : Hp} {k : κ}
theorem KRp.of : ∀ {t : List (κ × V)} {u : List (κ × PyData)}, t.map (·.1) = u.map (·.1) → RpAll K M (t.map (·.2)) (u.map (·.2)) → KRp K M t u
  | [], [], _, _ => .nil
  | [], _ :: _, h, _ => by cases h
  | _ :: _, [], h, _ => by cases h
  | (a, v) :: t, (b, x) :: u, h, r => by
    simp only [List.map_cons, List.cons.injEq] at h
    obtain ⟨rfl, h2⟩ := h
    cases r with
    | cons r1 r2 => exact .cons r1 (KRp.of h2 r2)
theorem KRp.keys : ∀ {t : List (κ × V)} {u : List (κ × PyData)}, KRp K M t u → t.map (·.1) = u.map (·.1)
  | _, _, .nil => rfl
  | _, _, .cons _ h => by simp only [List.map_cons]; rw [KRp.keys h]
theorem KRp.vals : ∀ {t : List (κ × V)} {u : List (κ × PyData)}, KRp K M t u → RpAll K M (t.map (·.2)) (u.map (·.2))
  | _, _, .nil => .nil
  | _, _, .cons r h => .cons r (KRp.vals h)
theorem KRp.length {t : List (κ × V)} {u : List (κ × PyData)} (h : KRp K M t u) : t.length = u.length := by have := congrArg List.length h.keys; simpa using this
theorem KRp.look : ∀ {t : List (κ × V)} {u : List (κ × PyData)}, KRp K M t u → (lookD u k = none ∧ valV t k = none) ∨ ∃ v x, valV t k = some v ∧ lookD u k = some x ∧ Rp K M v x
  | [], _, h => by cases h; exact .inl ⟨rfl, rfl⟩
  | (a, v) :: t, _, h => by
    cases h with
    | @cons _ _ x _ u r h =>
    by_cases e : a = k
    · refine .inr ⟨v, x, valV_pos (p := (a, v)) e, ?_, r⟩
      unfold lookD; simp [List.find?_cons, e]
    · rw [valV_neg (p := (a, v)) e]
      have : lookD ((a, x) :: u) k = lookD u k := by unfold lookD; simp [List.find?_cons, e]
      rw [this]; exact KRp.look h
theorem KRp.any : ∀ {t : List (κ × V)} {u : List (κ × PyData)}, KRp K M t u → (t.any fun p => decide (p.1 = k)) = u.any fun p => decide (p.1 = k)
  | _, _, .nil => rfl
  | _, _, .cons _ h => by simp only [List.any_cons]; rw [KRp.any h]
theorem KRp.repl {v : V} {x : PyData} (r : Rp K M v x) : ∀ {t : List (κ × V)} {u : List (κ × PyData)}, KRp K M t u → KRp K M (t.map fun p => if p.1 = k then (p.1, v) else p) (u.map fun p => if p.1 = k then (p.1, x) else p)
  | [], _, h => by cases h; exact .nil
  | (a, w) :: t, _, h => by
    cases h with
    | @cons _ _ y _ u q h =>
    simp only [List.map_cons]
    by_cases e : a = k
    · rw [if_pos e, if_pos e]; exact .cons r (KRp.repl r h)
    · rw [if_neg e, if_neg e]; exact .cons q (KRp.repl r h)
theorem KRp.snoc {v : V} {x : PyData} (r : Rp K M v x) : ∀ {t : List (κ × V)} {u : List (κ × PyData)}, KRp K M t u → KRp K M (t ++ [(k, v)]) (u ++ [(k, x)])
  | _, _, .nil => .cons r .nil
  | _, _, .cons q h => .cons q (KRp.snoc r h)
theorem KRp.put {v : V} {x : PyData} (r : Rp K M v x) {t : List (κ × V)} {u : List (κ × PyData)} (h : KRp K M t u) : KRp K M (putK t k v) (putD u k x) := by
  unfold putK putD
  rw [h.any (k := k)]
  by_cases e : (u.any fun p => decide (p.1 = k)) = true
  · rw [if_pos e, if_pos e]; exact h.repl r
  · rw [if_neg e, if_neg e]; exact h.snoc r
theorem KRp.mono {M' : Hp} (f : ∀ b o, M b = some o → M' b = some o) : ∀ {t : List (κ × V)} {u : List (κ × PyData)}, KRp K M t u → KRp K M' t u
  | _, _, .nil => .nil
  | _, _, .cons q h => .cons (Rp.mono f _ _ q) (KRp.mono f h)
end
end
theorem keyD_inj {a b : Key} (h : keyD a = keyD b) : a = b := by
  cases a <;> cases b <;> simp [keyD] at h <;> rw [h]
theorem keyDs_inj : ∀ {a b : List Key}, a.map keyD = b.map keyD → a = b
  | [], [], _ => rfl
  | [], _ :: _, h => by simp at h
  | _ :: _, [], h => by simp at h
  | x :: xs, y :: ys, h => by
    simp only [List.map_cons, List.cons.injEq] at h
    rw [keyD_inj h.1, keyDs_inj h.2]
def tupD (k : List Key) : PyData := .tuple (k.map keyD)
theorem tupD_inj {a b : List Key} (h : tupD a = tupD b) : a = b := by unfold tupD at h; injection h with h; exact keyDs_inj h
theorem map_inj {α β : Type} {f : α → β} (hf : ∀ a b, f a = f b → a = b) : ∀ {xs ys : List α}, xs.map f = ys.map f → xs = ys
  | [], [], _ => rfl
  | [], _ :: _, h => by simp at h
  | _ :: _, [], h => by simp at h
  | x :: xs, y :: ys, h => by
    simp only [List.map_cons, List.cons.injEq] at h
    rw [hf _ _ h.1, map_inj hf h.2]
/-- own dicts as trees -/
def mK1 (kvs : List (Key × PyData)) : T := .m false (kvs.map fun p => keyD p.1) ((kvs.map (·.2)).map T.d)
def mK2 (kvs : List (List Key × PyData)) : T := .m true (kvs.map fun p => tupD p.1) ((kvs.map (·.2)).map T.d)
section
variable {K : PySem.W.Frag} {H : Hp} {O : Own} {r : Nat} {p : List Nat} {v : V}
theorem tr_mK2 {kvs : List (List Key × PyData)} (h : Tr K H O r p v (mK2 kvs)) : ∃ a ws, v = .ref a ∧ O a = .at r p ∧ H a = some (.dT ws) ∧ KRp K (msk O H) ws kvs := by
  unfold mK2 at h
  cases h with
  | mt h1 h2 h3 h4 =>
    refine ⟨_, _, rfl, h1, h2, KRp.of ?_ (TrAll.data h4)⟩
    refine map_inj (f := tupD) (fun a b => tupD_inj) ?_
    rw [List.map_map, List.map_map]; exact h3.symm
theorem mK1_tr {kvs : List (Key × PyData)} {a : Addr} {ws : List (Key × V)} (h1 : O a = .at r p) (h2 : H a = some (.dK ws)) (h3 : KRp K (msk O H) ws kvs) : Tr K H O r p (.ref a) (mK1 kvs) :=
  .mk h1 h2 (by rw [show (kvs.map fun p => keyD p.1) = (kvs.map (·.1)).map keyD by rw [List.map_map]; rfl, ← h3.keys, List.map_map]; rfl) (TrAll.ofData h3.vals)
theorem mK2_tr {kvs : List (List Key × PyData)} {a : Addr} {ws : List (List Key × V)} (h1 : O a = .at r p) (h2 : H a = some (.dT ws)) (h3 : KRp K (msk O H) ws kvs) : Tr K H O r p (.ref a) (mK2 kvs) :=
  .mt h1 h2 (by rw [show (kvs.map fun p => tupD p.1) = (kvs.map (·.1)).map tupD by rw [List.map_map]; rfl, ← h3.keys, List.map_map]; rfl) (TrAll.ofData h3.vals)
theorem sub_m {tk : Bool} {ks ds : List PyData} : ∀ {q : List Nat} {z : T}, subT (.m tk ks (ds.map T.d)) q = some z → isNode z = true → q = []
  | [], _, _, _ => rfl
  | k :: q, z, h, hn => by
    simp only [subT, kid, List.getElem?_map] at h
    cases e : ds[k]? with
    | none => rw [e] at h; cases h
    | some x =>
      rw [e] at h
      cases q with
      | nil => cases h; cases hn
      | cons j q => simp [subT, kid] at h
end
/-- a node without nodes in it is written anew -/
theorem relUpdF {K : PySem.W.Frag} {C : Ctx} {n m : Nat} {σ : L2.St} {H : Hp} {O : Own} {ρ : Rho} (R : Rel K C m σ H O ρ) (hn : C.N ≤ n) {r : Nat} {p : List Nat} {a : Addr} {u u' : T} {o' : HO} (g : getT ρ r p = some u) (hu : ∀ q z, subT u q = some z → isNode z = true → q = []) (hnu : isNode u = true) (hnu' : isNode u' = true) (ha : O a = .at r p) (ho : ownable o')
    (tr' : Tr K (upd H a o') (cut n O) r p (.ref a) u') : Rel K C n σ (upd H a o') (cut n O) (TX.putAt ρ r p u') ∧ Frm C.N n H O (upd H a o') (cut n O) := by
  have R0 := R.cut (n := n) hn
  have hr : r < C.N := let ⟨_, e, _⟩ := getT_some g; R.slt e
  have ha1 : cut n O a = .at r p := cut_at.mpr ⟨ha, Nat.lt_of_lt_of_le hr hn⟩
  have ne : ∀ {b : Addr}, cut n O b = .free → b ≠ a := fun {b} h e => by subst e; rw [ha1] at h; cases h
  have ne2 : ∀ {b : Addr}, cut n O b = .foreign → b ≠ a := fun {b} h e => by subst e; rw [ha1] at h; cases h
  refine ⟨R0.upd hn g (fun b o e1 e2 => ⟨by rw [upd_ne (ne e2)]; exact e1, e2⟩) (fun b o e1 e2 => ⟨by rw [upd_ne (ne2 e2)]; exact e1, e2⟩) (fun b o r' p' e1 e2 l h => ⟨?_, e2⟩) (fun b r' p' e _ => e) (fun w h => ?_)
    (fun b h => ?_) R0.lt R0.inj (fun b q e => ?_) (fun b r' p' e _ => .inr e) (fun b e => e), ⟨fun b o e1 e2 => ?_, fun b r' p' e l => cut_at.mpr ⟨e, Nat.lt_of_lt_of_le l hn⟩, fun b o r' p' e1 e2 l1 l2 => ?_, fun b r' p' e _ _ => (cut_at.mp e).1⟩⟩
  · rw [upd_ne (fun z => h (by subst z; rw [ha1] at e2; cases e2; exact ⟨rfl, List.prefix_refl _⟩))]; exact e1
  · obtain ⟨a', rfl, e⟩ := tr_root h hnu
    cases R0.inj a' a r p e ha1
    exact tr'
  · by_cases hb : b = a
    · subst hb; exact ⟨_, upd_same, ho⟩
    · obtain ⟨o, e, w⟩ := R0.nt b h
      exact ⟨o, by rw [upd_ne hb]; exact e, w⟩
  · obtain ⟨t, z, e1, e2, e3⟩ := R0.val b r (p ++ q) e hr
    obtain ⟨t', e4, e5⟩ := getT_some g
    rw [e1] at e4; cases e4
    rw [subT_append e5] at e2
    cases hu q z e2 e3
    exact ⟨_, rfl, hnu'⟩
  · have : b ≠ a := fun z => by subst z; rw [ha] at e2; cases e2
    exact ⟨by rw [upd_ne this]; exact e1, cut_free e2⟩
  · have : b ≠ a := fun z => by subst z; rw [ha] at e2; cases e2; omega
    exact ⟨by rw [upd_ne this]; exact e1, cut_at.mpr ⟨e2, l2⟩⟩
section
variable {X : Cx} {pos : Pos} {a b c e o i : Expr} {ta tb tc : TwE}
/-! ### {} -/
theorem le_dnew1 : LE X (.Dict [] [] pos) (wC (mK1 [])) := ⟨fun ρ Q Q' E E' h _ q => h _ _ q, fun C W n hC hn tk => pe_dnewK.imp fun σ H Q ⟨O, ρ, R, q⟩ d hd => by
  obtain ⟨R1, F1, u1⟩ := (R.cut (n := n) hn).alloc (o := .dK []) hd trivial
  exact q _ _ _ R1 ((frm_cut C.N n H O hn).trans F1 (Nat.le_refl _)) ⟨mK1_tr lay_same upd_same .nil, fun b q e => by obtain ⟨rfl, rfl⟩ := u1 b q e; exact ⟨_, rfl, rfl⟩⟩⟩
theorem le_dnew2 : LE X (.Dict [] [] pos) (wC (mK2 [])) := ⟨fun ρ Q Q' E E' h _ q => h _ _ q, fun C W n hC hn tk => pe_dnewT.imp fun σ H Q ⟨O, ρ, R, q⟩ d hd => by
  obtain ⟨R1, F1, u1⟩ := (R.cut (n := n) hn).alloc (o := .dT []) hd trivial
  exact q _ _ _ R1 ((frm_cut C.N n H O hn).trans F1 (Nat.le_refl _)) ⟨mK2_tr lay_same upd_same .nil, fun b q e => by obtain ⟨rfl, rfl⟩ := u1 b q e; exact ⟨_, rfl, rfl⟩⟩⟩
/-! ### a locked dict, as data -/
section
variable {K : PySem.W.Frag} {H : Hp} {O : Own}
theorem tr_lkd {r : Nat} {p : List Nat} {v : V} {tk : Bool} {ks xs : List PyData} (h : Tr K H O r p v (.lk tk ks xs)) : Tr K H O r p v (.d (.dict (ks.zip xs))) := by
  cases h with
  | lk h1 h2 h3 h4 =>
    have el : ks.length = xs.length := by rw [h3, ← h4.length]; simp
    exact .d (.dk (.inr ⟨_, by rw [msk_of h1]; exact h2⟩) (by rw [zip_fst el]; exact h3) (by rw [zip_snd el]; exact h4))
  | lt h1 h2 h3 h4 =>
    have el : ks.length = xs.length := by rw [h3, ← h4.length]; simp
    exact .d (.dt (.inr ⟨_, by rw [msk_of h1]; exact h2⟩) (by rw [zip_fst el]; exact h3) (by rw [zip_snd el]; exact h4))
end
def asD : T → T
  | .lk _ ks xs => .d (.dict (ks.zip xs))
  | t => t
theorem val_asD {K : PySem.W.Frag} {H : Hp} {O : Own} {n : Nat} {v : V} {t : T} (h : Val K H O n v t) : Val K H O n v (asD t) := by
  cases t with
  | lk tk ks xs => exact ⟨tr_lkd h.1, fun b p e => by obtain ⟨z, h1, h2⟩ := h.2 b p e; cases p with | nil => cases h1; cases h2 | cons k p => cases h1⟩
  | _ => exact h
def lkd (tk : Bool) (ps : List (PyData × PyData)) : T := .lk tk (ps.map (·.1)) (ps.map (·.2))
theorem zip_map {ps : List (PyData × PyData)} : (ps.map (·.1)).zip (ps.map (·.2)) = ps := by
  induction ps with
  | nil => rfl
  | cons p ps ih => simp only [List.map_cons, List.zip_cons_cons, ih]
theorem asD_lkd {tk : Bool} {ps : List (PyData × PyData)} : asD (lkd tk ps) = .d (.dict ps) := by
  show T.d (.dict ((ps.map (·.1)).zip (ps.map (·.2)))) = _
  rw [zip_map]
/-! ### what is at a key -/
/-- the dict a value shows: keys ints and texts | tuples of these -/
def Dk1 (ρ : Rho) (t : T) (kvs : List (Key × PyData)) : Prop := (∃ r p, t = .a r p ∧ getT ρ r p = some (mK1 kvs)) ∨ (kvs ≠ [] ∧ asD t = .d (.dict (kvs.map fun p => (keyD p.1, p.2))))
def Dk2 (ρ : Rho) (t : T) (kvs : List (List Key × PyData)) : Prop := (∃ r p, t = .a r p ∧ getT ρ r p = some (mK2 kvs)) ∨ (kvs ≠ [] ∧ asD t = .d (.dict (kvs.map fun p => (tupD p.1, p.2))))
theorem dk2_val {K : PySem.W.Frag} {C : Ctx} {n m : Nat} {σ : L2.St} {H : Hp} {O : Own} {ρ : Rho} {t : T} {v : V} {kvs : List (List Key × PyData)} (R : Rel K C m σ H O ρ) (V1 : Val K H O n v t) (h : Dk2 ρ t kvs) : ∃ ad ws, v = .ref ad ∧ Rd H ad (.dT ws) ∧ KRp K (msk O H) ws kvs := by
  rcases h with ⟨r, p, rfl, g⟩ | ⟨ne, et⟩
  · obtain ⟨⟨ad, rfl, e, _⟩, _⟩ := V1
    obtain ⟨a', ws, ea, _, h2, h3⟩ := tr_mK2 (R.alias g rfl e)
    cases ea
    exact ⟨ad, ws, rfl, .inl h2, h3⟩
  · have rp := val_d (et ▸ val_asD V1)
    cases rp with
    | dt h1 h2 h3 =>
      refine ⟨_, _, rfl, rd_mono msk_le h1, KRp.of (map_inj (f := tupD) (fun a b => tupD_inj) ?_) ?_⟩
      · rw [List.map_map, List.map_map]; rw [List.map_map] at h2; exact h2.symm
      · rw [List.map_map] at h3; exact h3
    | dk h1 h2 h3 =>
      exfalso
      cases kvs with
      | nil => exact ne rfl
      | cons q qs =>
        rw [List.map_map, List.map_cons] at h2
        have : tupD q.1 ∈ (tupD q.1 :: qs.map ((fun x => x.1) ∘ fun p => (tupD p.1, p.2))) := List.mem_cons_self
        have h2' := h2 ▸ this
        obtain ⟨⟨w, _⟩, _, e⟩ := List.mem_map.mp h2'
        cases w <;> cases e
theorem rp_key {K : PySem.W.Frag} {H : Hp} {w : V} {k : Key} (h : Rp K H w (keyD k)) : w = kV k := by
  cases k with
  | inl i => exact rp_int h
  | inr x => exact rp_str h
theorem rp_keys {K : PySem.W.Frag} {H : Hp} : ∀ {k : List Key} {ws : List V}, RpAll K H ws (k.map keyD) → ws = k.map kV
  | [], _, h => by cases h; rfl
  | k :: ks, _, h => by
    cases h with
    | cons h1 h2 => rw [rp_key h1, rp_keys h2]; rfl
theorem rp_tupk {K : PySem.W.Frag} {H : Hp} {w : V} {k : List Key} (h : Rp K H w (tupD k)) : ∃ b, w = .ref b ∧ H b = some (.tup (k.map kV)) := by
  unfold tupD at h
  cases h with
  | tup h1 h2 => rw [rp_keys h2] at h1; exact ⟨_, rfl, h1⟩
def dgK1 (t u : T) (ρ : Rho) (Q : T → Rho → Prop) : Prop := ∃ kvs k x, Dk1 ρ t kvs ∧ vw ρ u = some (keyD k) ∧ lookD kvs k = some x ∧ Q (.d x) ρ
def dgK2 (t u : T) (ρ : Rho) (Q : T → Rho → Prop) : Prop := ∃ kvs k x, Dk2 ρ t kvs ∧ vw ρ u = some (tupD k) ∧ lookD kvs k = some x ∧ Q (.d x) ρ
def wDg1 (ta tb : TwE) : TwE := w2 ta tb dgK1
def wDg2 (ta tb : TwE) : TwE := w2 ta tb dgK2
theorem le_dg2 (hu : X.A.units + 1 < cLine) (ha : LE X a ta) (hb : LE X b tb) (hs : NoSl b := by exact fun _ _ => rfl) : LE X (.Subscript a b pos) (wDg2 ta tb) := by
  refine ⟨w2_mono ha.mono hb.mono fun t u ρ Q Q' h ⟨x, y, z, e1, e2, e3, q⟩ => ⟨x, y, z, e1, e2, e3, h _ _ q⟩, fun C W n hC hn tk => (pe_dget (pos := pos) hu (ha.run C W n hC hn tk) (hb.run C W (n + 1) hC (by omega) tk) hs).imp fun σ H Q h => ?_⟩
  refine two (r := fun x y H Q => ∃ ad v, x = .ref ad ∧ DGet H ad y (some v) ∧ Q v H) ha.mono hb.mono hn h fun O ρ2 t u v w H2 O2 R2 F V1 V2 ⟨kvs, k, x, e1, e2, e3, q⟩ => ?_
  obtain ⟨ad, ws, rfl, h1, h2⟩ := dk2_val R2 V1 e1
  obtain ⟨bd, rfl, hb⟩ := rp_tupk (R2.viewH V2 e2)
  rcases h2.look (k := k) with ⟨z, _⟩ | ⟨v', x', z1, z2, z3⟩
  · rw [e3] at z; cases z
  · rw [e3] at z2; cases z2
    exact ⟨ad, v', rfl, .inr ⟨ws, k, bd, h1, rfl, hb, z1.symm⟩, Fin.dat hn R2 F q z3⟩
/-! ### d[k] = data -/
def dpK1 (x : PyData) (t u : T) (ρ : Rho) (N : Rho → Prop) : Prop := ∃ r q kvs k, t = .a r q ∧ getT ρ r q = some (mK1 kvs) ∧ vw ρ u = some (keyD k) ∧ kvs.length < sizeLine ∧ N (TX.putAt ρ r q (mK1 (putD kvs k x)))
def dpK2 (x : PyData) (t u : T) (ρ : Rho) (N : Rho → Prop) : Prop := ∃ r q kvs k, t = .a r q ∧ getT ρ r q = some (mK2 kvs) ∧ vw ρ u = some (tupD k) ∧ kvs.length < sizeLine ∧ N (TX.putAt ρ r q (mK2 (putD kvs k x)))
def wDp1 (ta tb : TwE) : TwG := fun x ρ Q E => ta ρ (fun t ρ1 => tb ρ1 (fun u ρ2 => dpK1 x t u ρ2 Q) E) E
def wDp2 (ta tb : TwE) : TwG := fun x ρ Q E => ta ρ (fun t ρ1 => tb ρ1 (fun u ρ2 => dpK2 x t u ρ2 Q) E) E
theorem lg_dp2 (hu : X.A.units + 1 < cLine) (ha : LE X o ta) (hb : LE X i tb) (hs : ∀ v, assign (.Subscript o i pos) X.env v = (do
      let ov ← holding [v] (eval o X.env)
      let iv ← holding [v, ov] (eval i X.env)
      standAt pos
      holding [v, ov, iv] (setItem ov iv v)
      release [v, ov, iv] []) := by intro _; rfl) : LG X [] (.Subscript o i pos) (wDp2 ta tb) := by
  refine ⟨fun x ρ Q Q' E E' h he q => ha.mono ρ _ _ E E' (fun t ρ1 q1 => hb.mono ρ1 _ _ E E' (fun u ρ2 ⟨r, q, kvs, k, h1, h2, h3, h4, q2⟩ => ⟨r, q, kvs, k, h1, h2, h3, h4, h _ q2⟩) he q1) he q,
    fun C W n hC hn tk => (pg_sub (ha.run C W n hC hn tk) (hb.run C W (n + 1) hC (by omega) tk) (set_dict hu) hs).imp fun v σ H Q ⟨O, ρ, x, R, rp, q⟩ => ?_⟩
  refine ⟨O, ρ, R, ha.mono ρ _ _ _ _ (fun t ρ1 q1 => ?_) (fun _ _ z => z) q⟩
  intro w1 H1 O1 R1 F1 V1
  refine ⟨O1, ρ1, R1, hb.mono ρ1 _ _ _ _ (fun u ρ2 ⟨r, q, kvs, k, h1, h2, h3, h4, q2⟩ => ?_) (fun c ρ' z => exK.on F1.fre c ρ' z) q1⟩
  intro w2 H2 O2 R2 F2 V2
  subst h1
  obtain ⟨bd, rfl, hbd⟩ := rp_tupk (R2.viewH V2 h3)
  obtain ⟨⟨ad, rfl, e, _⟩, _⟩ := V1.carry hn R1.lt R1.nt F2
  obtain ⟨a', ws, ea, h5, h6, h7⟩ := tr_mK2 (R2.alias h2 rfl e)
  cases ea
  have F12 := F1.trans F2 (Nat.le_succ n)
  have hr : r < C.N := let ⟨_, e, _⟩ := getT_some h2; R2.slt e
  have ha1 : cut n O2 ad = .at r q := cut_at.mpr ⟨h5, Nat.lt_of_lt_of_le hr hn⟩
  have up : ∀ {o : HO} b u, msk O2 H2 b = some u → msk (cut n O2) (upd H2 ad o) b = some u := fun {o} b u z => by
    obtain ⟨z1, z2⟩ := msk_some z
    rw [msk_of (cut_free z1), upd_ne (fun e => by subst e; rw [h5] at z1; cases z1)]; exact z2
  obtain ⟨R3, F3⟩ := relUpdF (u' := mK2 (putD kvs k x)) (o' := .dT (putK ws k v)) R2 hn h2 (fun q z a b => sub_m (tk := true) a b) rfl rfl h5 trivial (mK2_tr ha1 upd_same (KRp.put (Rp.mono (fun b o z => up b o z) _ _ (rp.fre F12.fre)) (h7.mono up)))
  have F := F12.trans F3 (Nat.le_refl n)
  exact ⟨ad, _, rfl, DPut.t h6 hbd (by rw [h7.length]; exact h4), q2 σ _ _ R3 ⟨F.fre, fun b r p e l _ => F.pl b r p e l, F.tm, F.nw⟩ rfl⟩
end
end TX

/-! More plain steps: dicts, comprehensions with several names, in. -/
namespace TX
open PySem PySem.Spec L2
section
variable {ρ ρ' : Rho} {Q : T → Rho → Prop} {E : ExK} {t u : T} {ts us : List T} {x y : PyData} {i j : Int} {k n r s : Nat} {p q : List Nat} {ds : List PyData} {ta tb tc te : TwE} {tt : TwT} {D : EndsT} {b : Bool} {g : TwG}
theorem noNd_all {vs : List Nat} (h : vs.all (noNdB ρ) = true) : noNd ρ vs := fun j hj t e => by
  have := List.all_eq_true.mp h j hj
  unfold noNdB at this
  rw [e] at this
  simpa using this
theorem xDg1 (h : ta ρ (fun t ρ1 => tb ρ1 (fun u ρ2 => dgK1 t u ρ2 Q) E) E) : wDg1 ta tb ρ Q E := h
theorem xDg2 (h : ta ρ (fun t ρ1 => tb ρ1 (fun u ρ2 => dgK2 t u ρ2 Q) E) E) : wDg2 ta tb ρ Q E := h
theorem xDgK2 {kvs : List (List Key × PyData)} {k : List Key} (g : getT ρ r p = some (mK2 kvs)) (e : vw ρ u = some (tupD k)) (h : lookD kvs k = some x) (q : Q (.d x) ρ) : dgK2 (.a r p) u ρ Q := ⟨kvs, k, x, .inl ⟨r, p, rfl, g⟩, e, h, q⟩
theorem xDp1 {N : Rho → Prop} (h : ta ρ (fun t ρ1 => tb ρ1 (fun u ρ2 => dpK1 x t u ρ2 N) E) E) : wDp1 ta tb x ρ N E := h
theorem xDp2 {N : Rho → Prop} (h : ta ρ (fun t ρ1 => tb ρ1 (fun u ρ2 => dpK2 x t u ρ2 N) E) E) : wDp2 ta tb x ρ N E := h
theorem xDpK2 {N : Rho → Prop} {kvs : List (List Key × PyData)} {k : List Key} (g : getT ρ r p = some (mK2 kvs)) (e : vw ρ u = some (tupD k)) (hl : kvs.length < sizeLine) (q : N (TX.putAt ρ r p (mK2 (putD kvs k x)))) : dpK2 x (.a r p) u ρ N := ⟨r, p, kvs, k, rfl, g, e, hl, q⟩
theorem xIn {neg : Bool} (h1 : vw ρ t = some x) (h2 : vw ρ u = some (.list ds)) (s1 : SeqAt.shaped x = true) (s2 : SeqAt.shaped (.list ds) = true) (q : Q (.d (.bool (neg != (ds.any fun w => PyData.eqv w x)))) ρ) : opK (fIn neg) t u ρ Q := ⟨_, _, _, h1, h2, ⟨ds, rfl, s1, s2, rfl⟩, q⟩
end
end TX

/-! a, b = e1, e2. -/
namespace TX
open PySem PySem.Spec L2
section
variable {K : PySem.W.Frag} {C : Ctx} {n m : Nat} {σ : L2.St} {H H' : Hp} {O O' : Own} {ρ : Rho}
/-- slot i takes the tree at root m, the last one on the way -/
theorem relStoreM (R : Rel K C (m + 1) σ H O ρ) (hm : C.N ≤ m) {i : Nat} (hi : i < C.N) (hio : i ∉ C.io) {v : V} {t : T} (V1 : Val K H O m v t) (ha : ∀ r p, t ≠ .a r p) :
    Rel K C m (σ.set i (some v)) H (mvR m i (dropR i O)) (ρ.set i (some t)) ∧ Fre H O H (mvR m i (dropR i O)) ∧ ∀ b r p, C.N ≤ r → r < m → (mvR m i (dropR i O) b = .at r p ↔ O b = .at r p) := by
  have hl : i < σ.length := by rw [R.ln]; exact hi
  have hl' : i < ρ.length := by rw [R.lr]; exact hi
  have tr : Tr K H O m [] v t ∧ ∀ b p, O b = .at m p → ∃ z, subT t p = some z ∧ isNode z = true := by
    cases t with
    | a r p => exact absurd rfl (ha r p)
    | _ => exact V1
  obtain ⟨V2, V3⟩ := tr
  have hne : m ≠ i := by omega
  have up : ∀ {b : Addr} {r : Nat} {p : List Nat}, O b = .at r p → r ≠ i → r ≠ m → mvR m i (dropR i O) b = .at r p := fun {b r p} e1 e2 e3 => mvR_ne (dropR_at.mpr ⟨e1, e2⟩) e3
  have upN : ∀ {b : Addr} {p : List Nat}, O b = .at m p → mvR m i (dropR i O) b = .at i p := fun {b p} e => mvR_root (dropR_at.mpr ⟨e, hne⟩)
  have dn : ∀ {b : Addr} {r : Nat} {p : List Nat}, mvR m i (dropR i O) b = .at r p → (r = i ∧ O b = .at m p) ∨ (r ≠ i ∧ r ≠ m ∧ O b = .at r p) := fun {b r p} e => by
    rcases mvR_at e with ⟨h1, h2⟩ | ⟨h1, h2⟩
    · exact .inl ⟨h1, (dropR_at.mp h2).1⟩
    · exact .inr ⟨(dropR_at.mp h2).2, h1, (dropR_at.mp h2).1⟩
  have fr : ∀ {b : Addr}, O b = .free → mvR m i (dropR i O) b = .free := fun {b} e => mvR_free.mpr (dropR_free e)
  have ff : ∀ {b : Addr}, O b = .foreign ↔ mvR m i (dropR i O) b = .foreign := fun {b} => by rw [mvR_foreign, dropR_foreign]
  refine ⟨⟨fun b o e1 e2 => ?_, fun b z => R.nt b fun q => z (fr q), fun b r p e => ?_, fun a b r p e1 e2 => ?_, fun b r p e l => ?_, by rw [List.length_set]; exact R.ln, by rw [List.length_set]; exact R.lr,
    fun j u e => ?_, hm, fun b e => R.fo b (ff.mpr e), fun b j p e => ?_, R.sm⟩, fun b o e1 e2 => ⟨e1, fr e2⟩, fun b r p l1 l2 => ⟨fun e => ?_, fun e => up e (by omega) (by omega)⟩⟩
  · obtain ⟨z1, z2⟩ := R.fr b o e1 e2
    refine ⟨z1, ?_⟩
    rcases e2 with e2 | e2
    · rw [e2] at z2 ⊢; exact fr z2
    · rw [e2] at z2 ⊢; exact ff.mp z2
  · rcases dn e with ⟨rfl, _⟩ | ⟨_, h2, h3⟩
    · omega
    · have := R.lt b r p h3; omega
  · rcases dn e1 with ⟨h1, h2⟩ | ⟨h1, _, h2⟩ <;> rcases dn e2 with ⟨h3, h4⟩ | ⟨h3, _, h4⟩
    · exact R.inj a b _ _ h2 h4
    · exact absurd h1 h3
    · exact absurd h3 h1
    · exact R.inj a b _ _ h2 h4
  · rcases dn e with ⟨rfl, h2⟩ | ⟨h1, _, h2⟩
    · obtain ⟨z, z1, z2⟩ := V3 b p h2
      exact ⟨t, z, by rw [set_get hl', if_pos rfl], z1, z2⟩
    · obtain ⟨t', z, g1, g2, g3⟩ := R.val b r p h2 l
      exact ⟨t', z, by rw [set_get hl', if_neg h1]; exact g1, g2, g3⟩
  · rw [set_get hl'] at e
    by_cases hj : j = i
    · subst hj
      rw [if_pos rfl] at e
      cases e
      exact ⟨v, by rw [set_get hl, if_pos rfl], Tr.move (r' := j) (p0 := []) (p1 := []) (fun b o e1 e2 => ⟨e1, fr e2⟩) (fun b o q e1 e2 => ⟨e1, upN e2⟩) t [] v V2⟩
    · rw [if_neg hj] at e
      obtain ⟨w, h2, h3⟩ := R.sl j u e
      have : j < C.N := R.slt e
      exact ⟨w, by rw [set_get hl, if_neg hj]; exact h2, Tr.move (r' := j) (p0 := []) (p1 := []) (fun b o e1 e2 => ⟨e1, fr e2⟩) (fun b o q e1 e2 => ⟨e1, up e2 hj (by omega)⟩) u [] w h3⟩
  · obtain ⟨z1, z2⟩ := R.pz b j p e
    exact ⟨z1, up z2 (fun z => hio (z ▸ R.sm.2 b j p e)) (by omega)⟩
  · rcases dn e with ⟨h, _⟩ | ⟨_, _, h⟩
    · omega
    · exact h
end
section
variable {X : Cx} {io : List Nat} {a b : Expr} {tas : TwA} {px py pt pt2 pos : Pos} {kt k2 : Nat}
def paK (i j : Nat) (D : EndsT) (ts : List T) (ρ : Rho) : Prop := ∃ t u, ts = [t, u] ∧ noAl t = true ∧ noAl u = true ∧ D.nx ((ρ.set i (some t)).set j (some u))
def wPar (i j : Nat) (tas : TwA) : TwS := fun D ρ => tas ρ (fun ts ρ1 => paK i j D ts ρ1) D.ex
theorem noAl_ne {t : T} (h : noAl t = true) : ∀ r p, t ≠ .a r p := fun r p e => by subst e; cases h
theorem ls_par {i j : Nat} {x y : Str} (hc : X.calm = true) (hN : X.N.Nodup) (hi : X.N[i]? = some x) (hj : X.N[j]? = some y) (hij : i ≠ j) (hx : X.env.scope.names.lookup x = some .local) (hy : X.env.scope.names.lookup y = some .local) (ha : LA X [a, b] tas)
    (hw : swappedStores [.Tuple [.Name x px, .Name y py] kt pt] (.Tuple [a, b] k2 pt2) X.env = pure (some [x, y])) (hio : i ∉ io := by decide) (hjo : j ∉ io := by decide)
    (hs : swapsWithSole [.Tuple [.Name x px, .Name y py] kt pt] (.Tuple [a, b] k2 pt2) pos.line X.env = pure false := by rfl) : LS X io (.Assign [.Tuple [.Name x px, .Name y py] kt pt] (.Tuple [a, b] k2 pt2) pos) (wPar i j tas) := by
  refine ⟨fun D D' ρ l q => ha.mono ρ _ _ _ _ (fun ts ρ1 ⟨t, u, e, h1, h2, q⟩ => ⟨t, u, e, h1, h2, l.nx _ q⟩) l.ex q, fun C W hC hio' tk hp => (ps_par hc hN hi hj hij hx hy (ha.run C W C.N hC (Nat.le_refl _) tk) hw hs).imp fun D σ H ⟨O, ρ, R, q⟩ => ?_⟩
  refine ⟨O, ρ, R, ha.mono ρ _ _ _ _ (fun ts ρ1 ⟨t, u, e, h1, h2, q⟩ => ?_) (fun _ _ z => z) q⟩
  subst e
  intro vs H1 O1 R1 F1 V1
  obtain ⟨v, w, rfl, V2, V3⟩ := V1.two
  have li := nlt hC hi
  have lj := nlt hC hj
  obtain ⟨R2, f2, k2'⟩ := relStoreM (m := C.N + 1) R1 (Nat.le_succ _) lj (by rw [hio']; exact hjo) V3 (noAl_ne h2)
  have V4 : Val X.K H1 (mvR (C.N + 1) j (dropR j O1)) C.N v t := by
    have gen : ∀ t : T, (Tr X.K H1 O1 C.N [] v t ∧ ∀ b p, O1 b = .at C.N p → ∃ z, subT t p = some z ∧ isNode z = true) → Tr X.K H1 (mvR (C.N + 1) j (dropR j O1)) C.N [] v t ∧ ∀ b p, mvR (C.N + 1) j (dropR j O1) b = .at C.N p → ∃ z, subT t p = some z ∧ isNode z = true := fun t h =>
      ⟨Tr.move (r' := C.N) (p0 := []) (p1 := []) (fun b o e1 e2 => ⟨e1, (f2 b o e1 e2).2⟩) (fun b o q e1 e2 => ⟨e1, (k2' b _ _ (Nat.le_refl _) (Nat.lt_succ_self _)).mpr e2⟩) t [] v h.1, fun b p e => h.2 b p ((k2' b _ _ (Nat.le_refl _) (Nat.lt_succ_self _)).mp e)⟩
    cases t with
    | a r p => cases h1
    | _ => exact gen _ V2
  obtain ⟨R3, f3, _⟩ := relStoreM (m := C.N) R2 (Nat.le_refl _) li (by rw [hio']; exact hio) V4 (noAl_ne h1)
  refine ⟨v, w, rfl, ?_⟩
  rw [List.set_comm _ _ (fun e => hij e.symm)] at R3
  rw [List.set_comm (i := j) (j := i) _ _ (fun e => hij e.symm)] at R3
  exact q _ H1 _ R3 ((F1.fre.trans f2).trans f3)
end
end TX

/-! A tuple turned round. -/
namespace TX
open PySem PySem.Spec L2 PyProof.Rows
section
variable {prog : Program} {w : World} {A : Around} {E : Value → Shared → Prop} {s : Shared}
theorem part_any {v : Value} {o : Option Int} {Q : Option Int → Shared → Prop} (p : IsPart v o) (h : Q o s) : wpAny (model prog w) A (Builtin.Slice.slicePartIndex v) Q E s := HT.slicePart_ p h
theorem adjust_rev (n : Nat) : Builtin.Slice.sliceAdjust none none (-1) (n : Int) = ((n : Int) - 1, -1) := by
  unfold Builtin.Slice.sliceAdjust
  have h1 : (-1 : Int) < 0 := by decide
  simp only [h1, if_true]
theorem places_rev (n : Nat) : Builtin.Slice.slicePlaces ((n : Int) - 1) (-1) (-1) = n := by
  unfold Builtin.Slice.slicePlaces
  have h1 : ¬ ((-1 : Int) > 0) := by decide
  simp only [h1, if_false]
  rw [show (- -1 : Int) = 1 from rfl, Int.ediv_one]
  split <;> omega
theorem fm_congr {α β : Type} {f g : α → Option β} : ∀ {l : List α}, (∀ a ∈ l, f a = g a) → l.filterMap f = l.filterMap g
  | [], _ => rfl
  | a :: l, h => by
    simp only [List.filterMap_cons]
    rw [h a List.mem_cons_self, fm_congr fun b hb => h b (List.mem_cons_of_mem _ hb)]
theorem pick_rev (xs : Array Value) : ((List.range xs.size).filterMap fun (m : Nat) => xs[((xs.size : Int) - 1 + (m : Int) * (-1)).toNat]?).toArray = xs.toList.reverse.toArray := by
  congr 1
  refine List.ext_getElem? fun i => ?_
  have e : ((List.range xs.size).filterMap fun (m : Nat) => xs[((xs.size : Int) - 1 + (m : Int) * (-1)).toNat]?) = (List.range xs.size).map fun m => xs.toList[xs.size - 1 - m]?.getD .none := by
    rw [← List.filterMap_eq_map]
    refine fm_congr fun m hm => ?_
    have hm' := List.mem_range.mp hm
    have h1 : ((xs.size : Int) - 1 + (m : Int) * (-1)).toNat = xs.size - 1 - m := by omega
    have h2 : xs.size - 1 - m < xs.size := by omega
    rw [h1]
    simp [h2]
  rw [e]
  rw [List.getElem?_map]
  by_cases hi : i < xs.size
  · rw [List.getElem?_range hi, List.getElem?_reverse (by simpa using hi)]
    have : xs.size - 1 - i < xs.size := by omega
    simp [this]
  · rw [List.getElem?_eq_none (by simpa using hi), List.getElem?_eq_none (by simpa using hi)]
    rfl
theorem applied_rev {sl : Addr} {vl vu vs : Value} {n : Nat} {Q : Int × Int × Nat → Shared → Prop} (hs : s.heap.IsSliceOf sl vl vu vs) (pl : IsPart vl none) (pu : IsPart vu none) (ps : IsPart vs (some (-1)))
    (h : Q ((n : Int) - 1, -1, n) s) : wpAny (model prog w) A (Builtin.Slice.sliceApplied (.ref sl) (pure (n : Int))) Q E s := by
  obtain ⟨os, hos, hcs, hds⟩ := id hs
  unfold Builtin.Slice.sliceApplied Builtin.Slice.sliceFields
  refine wpAny_bind (wpAny_bind (wpAny_field hos hds (x := vl) rfl (wpAny_bind (wpAny_field hos hds (x := vu) rfl (wpAny_bind (wpAny_field hos hds (x := vs) rfl (wpAny_pure ?_)))))))
  refine wpAny_bind (part_any ps ?_)
  show wpAny _ _ (if ((-1 : Int) == 0) = true then _ else _) _ _ s
  rw [if_neg (by decide)]
  refine wpAny_bind (part_any pl (wpAny_bind (part_any pu (wpAny_bind (wpAny_pure ?_)))))
  show wpAny _ _ (match Builtin.Slice.sliceAdjust none none (-1) (n : Int) with | (lo, hi) => pure (lo, (-1 : Int), Builtin.Slice.slicePlaces lo hi (-1))) _ _ s
  rw [adjust_rev n]
  show wpAny _ _ (pure ((n : Int) - 1, (-1 : Int), Builtin.Slice.slicePlaces ((n : Int) - 1) (-1) (-1))) _ _ s
  rw [places_rev]
  exact wpAny_pure h
theorem item_rev {t sl : Addr} {items : Array Value} {vl vu vs : Value} {Q : Value → Shared → Prop} (ht : IsTup s.heap t items) (hs : s.heap.IsSliceOf sl vl vu vs) (pl : IsPart vl none) (pu : IsPart vu none) (ps : IsPart vs (some (-1)))
    (h : Q (.ref s.heap.objs.size) { s with heap := s.heap.push { cls := .type "tuple", data := .seq items.toList.reverse.toArray } }) (hsz : items.size ≤ sizeLine) : wpAny (model prog w) A (getItem (.ref t) (.ref sl)) Q E s := by
  have hfit : sizeOk (.seq items.toList.reverse.toArray) := by
    show items.toList.reverse.toArray.size ≤ sizeLine
    simpa using hsz
  obtain ⟨os, hos, hcs, hds⟩ := id hs
  have hT : s.TypeIs (.ref sl) "slice" := ⟨os, hos, hcs⟩
  unfold getItem
  try with_reducible refine wpAny_holding ?_
  first | refine wpAny_bind (wpAny_pure ?_) | skip
  refine wpAny_bind (wpAny_sequenceKey ht.typeIs (by decide) ?_)
  refine wpAny_bind (wpAny_callSpecial?_slot (name := Str.ofString "__getitem__") ht.typeIs PyProof.Rows.slot_tuple_getitem
    (wpAny_call_entry PyProof.Rows.slot_tuple_getitem ht.typeIs entry_tuple_getitem ?_ (args_tuple_getitem _ _)))
  show wpAny _ _ (Builtin.Tuple.tupleItemsOf (.ref t) >>= _) _ _ s
  refine wpAny_bind (tupleItemsOf_ ht ?_)
  refine wpAny_bind (wpAny_typeOf hT ?_)
  rw [if_pos (by decide)]
  refine wpAny_bind (applied_rev hs pl pu ps ?_)
  have hno : ¬ ((((items.size : Int) - 1) == 0 && (-1 : Int) == 1 && items.size == items.size) = true) := by
    rw [show ((-1 : Int) == 1) = false by decide]
    simp
  show wpAny _ _ (if (((items.size : Int) - 1) == 0 && (-1 : Int) == 1 && items.size == items.size) = true then _ else _) _ _ s
  rw [if_neg hno, pick_rev]
  first
    | exact wpAny_bind (m := Builtin.Tuple.tupleExact _) (wpAny_newObj_type (wpAny_pure ⟨_, rfl, wpAny_pure h⟩) hfit)
    | exact wpAny_bind (m := Builtin.Tuple.tupleExact _) (wpAny_newObj_type (wpAny_bind (wpAny_pure (wpAny_pure ⟨_, rfl, wpAny_pure h⟩))) hfit)
    | exact wpAny_bind (wpAny_bind (m := Builtin.Tuple.tupleExact _) (wpAny_newObj_type (wpAny_pure (wpAny_pure ⟨_, rfl, wpAny_pure h⟩)) hfit))
    | exact wpAny_bind (wpAny_bind (m := Builtin.Tuple.tupleExact _) (wpAny_newObj_type (wpAny_pure ⟨_, rfl, wpAny_pure h⟩) hfit))
end
def tRevT (K : PySem.W.Frag) (te : TE) : TE := fun σ H Q => te σ H fun x H1 => ∃ a xs, x = .ref a ∧ SqT K H1 a xs ∧ ∀ p, H1 p = none → Q (.ref p) (upd H1 p (.tup xs.reverse))
section
variable {X : Cx} {e : Expr} {te : TE} {k : Nat} {p1 p2 p3 pos : Pos}
theorem pe_revT (he : PE X e te) : PE X (.Subscript e (.Slice none none (some (.UnaryOp .USub (.Constant (.int 1) k p1) p2)) p3) pos) (tRevT X.K te) := by
  refine ⟨fun pins s σ H Q I h => Subscript_ (thn (he.run pins s σ H _ I h) fun v s1 ⟨x, H1, I1, r1, a, xs, ex, hx, q⟩ => ?_)⟩
  subst ex
  cases r1
  have hst : PO X (some (.UnaryOp .USub (.Constant (.int 1) k p1) p2)) (tPart (tUn (rU fun i => .int (-i)) (tC (.int 1)))) := po_some (pe_un un_neg pe_int)
  refine wpAny_Slice (thn (po_none.run pins s1 σ H1 (fun o H2 => o = none ∧ H2 = H1) I1 ⟨rfl, rfl⟩) fun vl s2 ⟨l, H2, I2, pl, el, e2⟩ => ?_)
  subst el e2
  refine thn (po_none.run pins s2 σ H2 (fun o H3 => o = none ∧ H3 = H2) I2 ⟨rfl, rfl⟩) fun vu s3 ⟨u, H3, I3, pu, eu, e3⟩ => ?_
  subst eu e3
  refine thn (hst.run pins s3 σ H3 (fun o H4 => o = some (-1) ∧ H4 = H3) I3 ⟨1, rfl, -1, rfl, rfl, rfl⟩) fun vs s4 ⟨o, H4, I4, ps, eo, e4⟩ => ?_
  subst eo e4
  have I5 : Inv X pins σ H4 { s4 with heap := s4.heap.push { cls := .type "slice", data := .fields #[vl, vu, vs] } } := I4.kept (t' := s4.toks) fun b ob q => Heap.get?_push_of_some _ q
  obtain ⟨its, r, ht, hz⟩ := I5.tuple hx
  have hlen := r.length
  show wpAny (model X.prog X.w) X.A (subscriptTail e (.Slice none none (some (.UnaryOp .USub (.Constant (.int 1) k p1) p2)) p3) (.ref a) (.ref s4.heap.objs.size)) (EP X pins σ Q) X.xe { s4 with heap := s4.heap.push { cls := .type "slice", data := .fields #[vl, vu, vs] } }
  refine tail_any (ops := [.ref a, .ref s4.heap.objs.size]) ht.typeIs (PyProof.Rows.slot_tuple_getitem.lookup) ?_ (by with_unfolding_all rfl)
  refine item_rev ht (Heap.IsSliceOf.new _ vl vu vs) pl pu ps ?_ (by rw [List.size_toArray]; omega)
  refine ⟨.ref _, _, I5.laid (t' := s4.toks) (o := .tup xs.reverse) (fun b ob q => Heap.get?_push_of_some _ q) (Nat.le_refl _) ?_, rfl, q _ (I5.hok.fresh (Nat.le_refl _))⟩
  exact ⟨by rw [List.length_reverse]; exact hz, _, r.reverse, IsTup.new _ _⟩
def wRevT (ta : TwE) : TwE := fun ρ Q E => ta ρ (fun t ρ1 => ∃ xs, t = .d (.tuple xs) ∧ Q (.d (.tuple xs.reverse)) ρ1) E
theorem le_revT {ta : TwE} (ha : LE X e ta) : LE X (.Subscript e (.Slice none none (some (.UnaryOp .USub (.Constant (.int 1) k p1) p2)) p3) pos) (wRevT ta) := by
  refine ⟨fun ρ Q Q' E E' h he q => ha.mono ρ _ _ E E' (fun t ρ1 ⟨xs, e, q⟩ => ⟨xs, e, h _ _ q⟩) he q, fun C W n hC hn tk => (pe_revT (ha.run C W n hC hn tk)).imp fun σ H Q ⟨O, ρ, R, q⟩ => ?_⟩
  refine ⟨O, ρ, R, ha.mono ρ _ _ _ _ (fun t ρ1 ⟨xs, e, q⟩ => ?_) (fun _ _ z => z) q⟩
  subst e
  intro v H1 O1 R1 F1 V1
  have rp := val_d V1
  cases rp with
  | tup h1 h2 => exact ⟨_, _, rfl, .of (msk_some h1).2, fun y hy => Fin.newT hn R1 F1 q h2.reverse y hy⟩
end
end TX

/-! Steps for pairs, for tuples turned round; keys in dicts. -/
namespace TX
open PySem PySem.Spec L2
section
variable {ρ : Rho} {Q : T → Rho → Prop} {E : ExK} {t u : T} {x : PyData} {i j : Nat} {ds : List PyData} {ta tb : TwE} {tas : TwA} {D : EndsT} {neg : Bool}
theorem xPar (h : tas ρ (paK i j D) D.ex) : wPar i j tas D ρ := h
theorem xPaK (ht : noAl t = true) (hu : noAl u = true) (q : D.nx ((ρ.set i (some t)).set j (some u))) : paK i j D [t, u] ρ := ⟨t, u, rfl, ht, hu, q⟩
def rtK2 (t : T) (ρ : Rho) (Q : T → Rho → Prop) : Prop := ∃ xs, t = .d (.tuple xs) ∧ Q (.d (.tuple xs.reverse)) ρ
theorem xRevT (h : ta ρ (fun t ρ1 => rtK2 t ρ1 Q) E) : wRevT ta ρ Q E := h
theorem xRevTK (q : Q (.d (.tuple ds.reverse)) ρ) : rtK2 (.d (.tuple ds)) ρ Q := ⟨ds, rfl, q⟩
/-- k in d | k not in d -/
def diK1 (neg : Bool) (u t : T) (ρ : Rho) (Q : T → Rho → Prop) : Prop := ∃ kvs k, Dk1 ρ t kvs ∧ vw ρ u = some (keyD k) ∧ Q (.d (.bool (neg != (lookD kvs k).isSome))) ρ
def diK2 (neg : Bool) (u t : T) (ρ : Rho) (Q : T → Rho → Prop) : Prop := ∃ kvs k, Dk2 ρ t kvs ∧ vw ρ u = some (tupD k) ∧ Q (.d (.bool (neg != (lookD kvs k).isSome))) ρ
def wDi1 (neg : Bool) (ta tb : TwE) : TwE := w2 ta tb (diK1 neg)
def wDi2 (neg : Bool) (ta tb : TwE) : TwE := w2 ta tb (diK2 neg)
theorem xDi1 (h : ta ρ (fun t ρ1 => tb ρ1 (fun u ρ2 => diK1 neg t u ρ2 Q) E) E) : wDi1 neg ta tb ρ Q E := h
theorem xDi2 (h : ta ρ (fun t ρ1 => tb ρ1 (fun u ρ2 => diK2 neg t u ρ2 Q) E) E) : wDi2 neg ta tb ρ Q E := h
end
section
variable {X : Cx} {pos : Pos} {a b : Expr} {ta tb : TwE}
end
end TX

/-! More plain steps. -/
namespace TX
open PySem PySem.Spec L2
section
variable {ρ ρ' : Rho} {Q : T → Rho → Prop} {QI : List PyData → Rho → Prop} {E : ExK} {t u : T} {ts us : List T} {x y : PyData} {i j : Int} {k n r s : Nat} {p q : List Nat} {ds es : List PyData} {ta tb tc : TwE} {tas : TwA} {b : Bool}
/-! ### walks over tuples, zip, range of two -/
def itK (t : T) (ρ : Rho) (QI : List PyData → Rho → Prop) : Prop := ∃ xs, t = .d (.tuple xs) ∧ QI xs ρ
theorem xITup (h : ta ρ (fun t ρ1 => itK t ρ1 QI) E) : wITup ta ρ QI E := h
theorem xITupK (q : QI ds ρ) : itK (.d (.tuple ds)) ρ QI := ⟨ds, rfl, q⟩
def izK (ts : List T) (ρ : Rho) (QI : List PyData → Rho → Prop) : Prop := ∃ t u xs ys, ts = [t, u] ∧ flatL t = some xs ∧ flatL u = some ys ∧ QI (zipD xs ys) ρ
theorem xIZip (h : tas ρ (fun ts ρ1 => izK ts ρ1 QI) E) : wIZip tas ρ QI E := h
def ir2K (ts : List T) (ρ : Rho) (QI : List PyData → Rho → Prop) : Prop := ∃ i j : Int, ts = [.d (.int i), .d (.int j)] ∧ (-(2 ^ 62) ≤ i ∧ i < 2 ^ 62 ∧ -(2 ^ 62) ≤ j ∧ j < 2 ^ 62) ∧ QI (rangeD i (j - i).toNat) ρ
theorem xIR2 (h : tas ρ (fun ts ρ1 => ir2K ts ρ1 QI) E) : wIR2 tas ρ QI E := h
theorem xIR2K (h1 : -(2 ^ 62) ≤ i) (h2 : i < 2 ^ 62) (h3 : -(2 ^ 62) ≤ j) (h4 : j < 2 ^ 62) (q : QI (rangeD i (j - i).toNat) ρ) : ir2K [.d (.int i), .d (.int j)] ρ QI := ⟨i, j, rfl, ⟨h1, h2, h3, h4⟩, q⟩
/-! ### is none -/
def isNn : PyData → Bool
  | .none => true
  | _ => false
theorem fIsN_of {neg : Bool} {x : PyData} : fIsN neg x .none (.bool (neg != isNn x)) := ⟨rfl, by cases x <;> rfl⟩
theorem xIsNK {neg : Bool} (h : vw ρ t = some x) (q : Q (.d (.bool (neg != isNn x))) ρ) : opK (fIsN neg) t (.d .none) ρ Q := ⟨x, .none, _, h, rfl, fIsN_of, q⟩
/-! ### methods -/
theorem xRev2 {ts : List T} (g : getT ρ r p = some (.l (ds.map T.d))) (q : Q (.d .none) (TX.putAt ρ r p (.l (ds.reverse.map T.d)))) : kRev (.a r p) [] ρ Q := ⟨r, p, ds, rfl, rfl, g, q⟩
end
theorem argV {ρ : Rho} {r : Nat} {t : T} {x : PyData} {io : List Nat} {i : Nat} {ts us : List T} (hi : io.contains i = false) (h : ρ[r]? = some (some t)) (e : erase t = some x) (hs : argsF io ρ true (i + 1) ts = some us) : argsF io ρ true i (.a r [] :: ts) = some (.d x :: us) := by
  unfold argsF argF
  have g : getT ρ r [] = some t := by unfold getT; rw [h]; rfl
  rw [hi, hs]
  simp only [g, e, Option.map_some]
theorem argD {ρ : Rho} {t : T} {x : PyData} {io : List Nat} {vu : Bool} {i : Nat} {ts us : List T} (hi : io.contains i = false) (ha : noAl t = true) (e : erase t = some x) (hs : argsF io ρ vu (i + 1) ts = some us) : argsF io ρ vu i (t :: ts) = some (.d x :: us) := by
  unfold argsF argF
  rw [hi, hs]
  cases t with
  | a r p => cases ha
  | raw v => cases e
  | fz v => cases e
  | _ => simp only [e, Option.map_some]
theorem argNil {ρ : Rho} {io : List Nat} {vu : Bool} {i : Nat} : argsF io ρ vu i [] = some [] := rfl
end TX

/-! list(range(n)); a dict of one pair of constants. -/
namespace TX
open PySem PySem.Spec L2 PyProof.Rows
section
variable {X : Cx} {p pos : Pos} {a b c e o i k v : Expr} {ta tb tc : TwE}
def wListR (ta : TwE) : TwE := fun ρ Q E => ta ρ (fun t ρ1 => ∃ n : Int, t = .d (.int n) ∧ RgOk 0 n ∧ Q (.l ((rangeD 0 n.toNat).map T.d)) ρ1) E
def lrK (t : T) (ρ : Rho) (Q : T → Rho → Prop) : Prop := ∃ n : Int, t = .d (.int n) ∧ RgOk 0 n ∧ Q (.l ((rangeD 0 n.toNat).map T.d)) ρ
theorem xListR {ρ : Rho} {Q : T → Rho → Prop} {E : ExK} (h : ta ρ (fun t ρ1 => lrK t ρ1 Q) E) : wListR ta ρ Q E := h
end
end TX

/-! is True; slices of tuples; in a tuple; d.get(k), k not in d. -/
namespace TX
open PySem PySem.Spec L2 PyProof.Rows
def fIsB : PyData → PyData → PyData → Prop := fun x y z => ∃ a b, x = .bool a ∧ y = .bool b ∧ z = .bool (decide (a = b))
section
variable {ρ : Rho} {Q : T → Rho → Prop} {E : ExK} {t u : T} {x y : PyData} {ds : List PyData} {a b : Bool}
theorem xIsB (h1 : vw ρ t = some (.bool a)) (h2 : vw ρ u = some (.bool b)) (q : Q (.d (.bool (decide (a = b)))) ρ) : opK fIsB t u ρ Q := ⟨_, _, _, h1, h2, ⟨a, b, rfl, rfl, rfl⟩, q⟩
end
/-! ### in a tuple -/
def fInT (neg : Bool) : PyData → PyData → PyData → Prop := fun x y z => ∃ ds, y = .tuple ds ∧ SeqAt.shaped x = true ∧ SeqAt.shaped y = true ∧ z = .bool (neg != (ds.any fun w => PyData.eqv w x))
def rInTX (K : PySem.W.Frag) (neg : Bool) : R2 := fun x y H Q => ∃ d ds, Rp K H x d ∧ Rp K H y (.tuple ds) ∧ SeqAt.shaped d = true ∧ SeqAt.shaped (.tuple ds) = true ∧ Q (.bl (neg != (ds.any fun z => PyData.eqv z d))) H
section
variable {X : Cx}
theorem room_in_shapedT {ds : List PyData} {d : PyData} {A : Around} (sd : SeqAt.shaped d = true) (hu : A.units + 65 < cLine) : A.units + 1 + min (PyData.depthAll ds) d.depth < cLine := by
  have : d.depth ≤ 64 := by
    have := (Bool.and_eq_true_iff.mp sd).2
    exact of_decide_eq_true this
  omega
theorem op_inT (hu : X.A.units + 65 < cLine) : OpR X (compareOp .In) (rInTX X.K false) := by
  intro pins s σ H x y v u Q I rx ry h
  obtain ⟨d, ds, hd, he, sd, se, q⟩ := h
  obtain ⟨as, r1, _⟩ := Rp.reads I d x v hd rx
  obtain ⟨bs, r2, _⟩ := Rp.reads I (.tuple ds) y u he ry
  exact SeqAt.in_tuple_reads r2 r1 (SeqAt.canLay_of_shaped se) (SeqAt.canLay_of_shaped sd) (room_in_shapedT sd hu) ⟨.bl _, H, I, rfl, by simpa using q⟩
theorem od_InT {K : PySem.W.Frag} {neg : Bool} : OpD K (rInTX K neg) (fInT neg) := by
  rintro H v u x y z Q h1 h2 ⟨ds, rfl, s1, s2, rfl⟩ q
  exact ⟨x, ds, h1, h2, s1, s2, q _ (.bl _)⟩
theorem xInT {ρ : Rho} {Q : T → Rho → Prop} {t u : T} {x : PyData} {ds : List PyData} {neg : Bool} (h1 : vw ρ t = some x) (h2 : vw ρ u = some (.tuple ds)) (s1 : SeqAt.shaped x = true) (s2 : SeqAt.shaped (.tuple ds) = true) (q : Q (.d (.bool (neg != (ds.any fun w => PyData.eqv w x)))) ρ) : opK (fInT neg) t u ρ Q := ⟨_, _, _, h1, h2, ⟨ds, rfl, s1, s2, rfl⟩, q⟩
end
/-! ### a tuple's slice -/
section
variable {X : Cx} {a b o e : Expr} {ta tb : TwE} {tl th : TwO} {lo hi : Option Expr} {pos p2 apos cpos : Pos}
def wSlT (ta : TwE) (tl th : TwO) : TwE := fun ρ Q E => ta ρ (fun t ρ1 => tl ρ1 (fun lo ρ2 => th ρ2 (fun hi ρ3 => ∃ xs, t = .d (.tuple xs) ∧ Q (.d (.tuple (cutD xs lo hi))) ρ3) E) E) E
def slTK (t : T) (lo hi : Option Int) (ρ : Rho) (Q : T → Rho → Prop) : Prop := ∃ xs, t = .d (.tuple xs) ∧ Q (.d (.tuple (cutD xs lo hi))) ρ
theorem xSlT {ρ : Rho} {Q : T → Rho → Prop} {E : ExK} (h : ta ρ (fun t ρ1 => tl ρ1 (fun lo ρ2 => th ρ2 (fun hi ρ3 => slTK t lo hi ρ3 Q) E) E) E) : wSlT ta tl th ρ Q E := h
theorem xSlTK {ρ : Rho} {Q : T → Rho → Prop} {lo hi : Option Int} {ds : List PyData} (q : Q (.d (.tuple (cutD ds lo hi))) ρ) : slTK (.d (.tuple ds)) lo hi ρ Q := ⟨_, rfl, q⟩
/-! ### d.get(k) -/
def dctTy (ρ : Rho) (t : T) : Prop := (∃ r p tk ks xs, t = .a r p ∧ getT ρ r p = some (.m tk ks xs)) ∨ ∃ ps, t = .d (.dict ps)
def gtK1 (t u : T) (ρ : Rho) (Q : T → Rho → Prop) : Prop := ∃ kvs k, Dk1 ρ t kvs ∧ vw ρ u = some (keyD k) ∧ Q (.d ((lookD kvs k).getD .none)) ρ
def gtK2 (t u : T) (ρ : Rho) (Q : T → Rho → Prop) : Prop := ∃ kvs k, Dk2 ρ t kvs ∧ vw ρ u = some (tupD k) ∧ Q (.d ((lookD kvs k).getD .none)) ρ
def wGt (k : T → T → Rho → (T → Rho → Prop) → Prop) (ta tb : TwE) : TwE := fun ρ Q E => ta ρ (fun t ρ1 => dctTy ρ1 t ∧ tb ρ1 (fun u ρ2 => k t u ρ2 Q) E) E
def wGt1 (ta tb : TwE) : TwE := wGt gtK1 ta tb
def wGt2 (ta tb : TwE) : TwE := wGt gtK2 ta tb
def gtA (tb : TwE) (k : T → T → Rho → (T → Rho → Prop) → Prop) (t : T) (ρ1 : Rho) (Q : T → Rho → Prop) (E : ExK) : Prop := dctTy ρ1 t ∧ tb ρ1 (fun u ρ2 => k t u ρ2 Q) E
theorem xGt1 {ρ : Rho} {Q : T → Rho → Prop} {E : ExK} (h : ta ρ (fun t ρ1 => gtA tb gtK1 t ρ1 Q E) E) : wGt1 ta tb ρ Q E := h
theorem xGt2 {ρ : Rho} {Q : T → Rho → Prop} {E : ExK} (h : ta ρ (fun t ρ1 => gtA tb gtK2 t ρ1 Q E) E) : wGt2 ta tb ρ Q E := h
theorem xGtA {ρ : Rho} {Q : T → Rho → Prop} {E : ExK} {k : T → T → Rho → (T → Rho → Prop) → Prop} {r : Nat} {p : List Nat} {tk : Bool} {ks : List PyData} {xs : List T} (g : getT ρ r p = some (.m tk ks xs)) (q : tb ρ (fun u ρ2 => k (.a r p) u ρ2 Q) E) : gtA tb k (.a r p) ρ Q E := ⟨.inl ⟨r, p, tk, ks, xs, rfl, g⟩, q⟩
theorem xGtD {ρ : Rho} {Q : T → Rho → Prop} {E : ExK} {k : T → T → Rho → (T → Rho → Prop) → Prop} {ps : List (PyData × PyData)} (q : tb ρ (fun u ρ2 => k (.d (.dict ps)) u ρ2 Q) E) : gtA tb k (.d (.dict ps)) ρ Q E := ⟨.inr ⟨ps, rfl⟩, q⟩
/-! ### k not in d -/
end
end TX

/-! a, b = a list; look-ups in dicts that may be empty. -/
namespace TX
open PySem PySem.Spec L2 PyProof.Rows
section
variable {X : Cx} {es : List Expr} {tgs : TwGs} {s1 : List Nat} {pos : Pos}
def wGLst (k : Nat) (t : TwGs) : TwG := fun x ρ Q E => ∃ xs, x = .list xs ∧ xs.length = k ∧ t xs ρ Q E
theorem xGLst {ρ : Rho} {E : ExK} {ds : List PyData} {k : Nat} {tg : TwGs} {N : Rho → Prop} (h : ds.length = k) (q : tg ds ρ N E) : wGLst k tg (.list ds) ρ N E := ⟨ds, rfl, h, q⟩
end
section
variable {X : Cx} {x : Str} {pos : Pos}
theorem le_gS {i : Str} (hg : Gl X x) (hm : ∃ k, X.mg x = some (.str i k)) (hd : (x == ("__debug__" : Str)) = false := by decide) : LE X (.Name x pos) (wC (.d (.str i))) := let ⟨k, h⟩ := hm; le_sc (.str i) (pe_glob hg h ⟨k, rfl⟩ hd)
end
/-! ### look-ups in dicts that may be empty -/
section
variable {X : Cx} {pins : List (Addr × Obj)} {σ : L2.St} {H : Hp} {s : Shared} {a : Addr} {y : V} {u : Value} {A : Around} {E : Value → Shared → Prop}
end
section
variable {X : Cx} {o e f i : Expr} {apos cpos : Pos} {td ty tx : TE}
end
/-! ### over trees -/
def Dk1E (ρ : Rho) (t : T) (kvs : List (Key × PyData)) : Prop := (∃ r p, t = .a r p ∧ getT ρ r p = some (mK1 kvs)) ∨ asD t = .d (.dict (kvs.map fun p => (keyD p.1, p.2)))
def Dk2E (ρ : Rho) (t : T) (kvs : List (List Key × PyData)) : Prop := (∃ r p, t = .a r p ∧ getT ρ r p = some (mK2 kvs)) ∨ asD t = .d (.dict (kvs.map fun p => (tupD p.1, p.2)))
def ge1 (t u : T) (ρ : Rho) (Q : T → Rho → Prop) : Prop := ∃ kvs k, Dk1E ρ t kvs ∧ vw ρ u = some (keyD k) ∧ Q (.d ((lookD kvs k).getD .none)) ρ
def ge2 (t u : T) (ρ : Rho) (Q : T → Rho → Prop) : Prop := ∃ kvs k, Dk2E ρ t kvs ∧ vw ρ u = some (tupD k) ∧ Q (.d ((lookD kvs k).getD .none)) ρ
def wGe1 (ta tb : TwE) : TwE := wGt ge1 ta tb
def wGe2 (ta tb : TwE) : TwE := wGt ge2 ta tb
section
variable {X : Cx} {a b o e : Expr} {ta tb : TwE} {pos apos cpos : Pos}
theorem xGe1 {ρ : Rho} {Q : T → Rho → Prop} {E : ExK} (h : ta ρ (fun t ρ1 => gtA tb ge1 t ρ1 Q E) E) : wGe1 ta tb ρ Q E := h
theorem xGe2 {ρ : Rho} {Q : T → Rho → Prop} {E : ExK} (h : ta ρ (fun t ρ1 => gtA tb ge2 t ρ1 Q E) E) : wGe2 ta tb ρ Q E := h
/-- k in d | k not in d -/
def ie1 (neg : Bool) (u t : T) (ρ : Rho) (Q : T → Rho → Prop) : Prop := ∃ kvs k, Dk1E ρ t kvs ∧ vw ρ u = some (keyD k) ∧ Q (.d (.bool (neg != (lookD kvs k).isSome))) ρ
def ie2 (neg : Bool) (u t : T) (ρ : Rho) (Q : T → Rho → Prop) : Prop := ∃ kvs k, Dk2E ρ t kvs ∧ vw ρ u = some (tupD k) ∧ Q (.d (.bool (neg != (lookD kvs k).isSome))) ρ
def wIe1 (neg : Bool) (ta tb : TwE) : TwE := w2 ta tb (ie1 neg)
def wIe2 (neg : Bool) (ta tb : TwE) : TwE := w2 ta tb (ie2 neg)
theorem xIe1 {ρ : Rho} {Q : T → Rho → Prop} {E : ExK} {neg : Bool} (h : ta ρ (fun t ρ1 => tb ρ1 (fun u ρ2 => ie1 neg t u ρ2 Q) E) E) : wIe1 neg ta tb ρ Q E := h
theorem xIe2 {ρ : Rho} {Q : T → Rho → Prop} {E : ExK} {neg : Bool} (h : ta ρ (fun t ρ1 => tb ρ1 (fun u ρ2 => ie2 neg t u ρ2 Q) E) E) : wIe2 neg ta tb ρ Q E := h
end
end TX

/-! Dicts by comprehensions: values data; {k: [] for ..}: values lists of one's own. -/
namespace TX
open PySem PySem.Spec L2 PyProof.Rows
section
variable {K : PySem.W.Frag} {C : Ctx} {n m : Nat} {σ : L2.St} {H : Hp} {O : Own} {ρ : Rho}
/-- the object of a tree on the way is replaced -/
theorem tmpUpd (R : Rel K C m σ H O ρ) (hn : C.N ≤ n) {D : Addr} {q0 : List Nat} {o' : HO} (oD : O D = .at n q0) (ow : ownable o') : Rel K C m σ (upd H D o') O ρ ∧ Frm C.N n H O (upd H D o') O := by
  have ne : ∀ {b}, O b = .free → b ≠ D := fun {b} z e => by subst e; rw [oD] at z; cases z
  have ne2 : ∀ {b}, O b = .foreign → b ≠ D := fun {b} z e => by subst e; rw [oD] at z; cases z
  refine ⟨⟨fun b o e1 e2 => ?_, fun b z => ?_, R.lt, R.inj, R.val, R.ln, R.lr, fun j u e => ?_, R.hN, R.fo, R.pz, R.sm⟩, ⟨fun b o e1 e2 => ⟨by rw [upd_ne (ne e2)]; exact e1, e2⟩, fun b r q e l => e, fun b o r q e1 e2 l1 l2 => ⟨by rw [upd_ne (fun z => by subst z; rw [oD] at e2; cases e2; omega)]; exact e1, e2⟩, fun b r q e _ _ => e⟩⟩
  · obtain ⟨z1, z2⟩ := R.fr b o e1 e2
    refine ⟨?_, z2⟩
    rcases e2 with e2 | e2
    · rw [upd_ne (ne (z2.trans e2))]; exact z1
    · rw [upd_ne (ne2 (z2.trans e2))]; exact z1
  · by_cases hb : b = D
    · subst hb; exact ⟨_, upd_same, ow⟩
    · obtain ⟨o, e, w⟩ := R.nt b z
      exact ⟨o, by rw [upd_ne hb]; exact e, w⟩
  · obtain ⟨v', h1, h2⟩ := R.sl j u e
    have hjN : j < C.N := R.slt e
    exact ⟨v', h1, Tr.move (r' := j) (p0 := []) (p1 := []) (fun b o e1 e2 => ⟨by rw [upd_ne (ne e2)]; exact e1, e2⟩) (fun b o q e1 e2 => ⟨by rw [upd_ne (fun z => by subst z; rw [oD] at e2; cases e2; omega)]; exact e1, e2⟩) u [] v' h2⟩
end
/-! ### {k: v for ..}, v data -/
section
variable {wi : TwI} {g : TwG} {tt : TwT} {tk tv : TwE}
def wDc (wi : TwI) (g : TwG) (tt : TwT) (tk tv : TwE) (vs : List Nat) : TwE := fun ρ Q E => wi ρ (fun xs ρ1 => noNd ρ1 vs ∧ xs.length ≤ 1000000 ∧ ∃ P : Nat → List (Key × PyData) → Rho → Prop, P 0 [] (wipeR ρ1 vs) ∧
  (∀ i x acc ρ2, xs[i]? = some x → P i acc ρ2 → g x ρ2 (fun ρ3 => tt ρ3 (fun b ρ4 => if b = true then tk ρ4 (fun t ρ5 => ∃ k, t = .d (keyD k) ∧ tv ρ5 (fun u ρ6 => noNd ρ6 vs ∧ ∃ y, erase u = some y ∧ P (i + 1) (putD acc k y) (wipeR ρ6 vs)) exN) exN else noNd ρ4 vs ∧ P (i + 1) acc (wipeR ρ4 vs)) exN) exN) ∧
  ∀ acc ρ2, P xs.length acc ρ2 → Q (mK1 acc) (restR ρ1 ρ2 vs)) E
theorem KRp.fre {K : PySem.W.Frag} {κ : Type} [DecidableEq κ] {H H' : Hp} {O O' : Own} (f : Fre H O H' O') {t : List (κ × V)} {u : List (κ × PyData)} (h : KRp K (msk O H) t u) : KRp K (msk O' H') t u :=
  KRp.mono (fun b o e => by obtain ⟨e1, e2⟩ := msk_some e; obtain ⟨z1, z2⟩ := f b o e2 e1; rw [msk_of z2]; exact z1) h
theorem putD_len {κ : Type} [DecidableEq κ] (kvs : List (κ × PyData)) (k : κ) (x : PyData) : (putD kvs k x).length ≤ kvs.length + 1 := by
  unfold putD
  split
  · simp
  · simp
end
section
variable {X : Cx} {kx vx tg iter : Expr} {ifs : List Expr} {scope : Scope} {own : List (Str × Nat)} {pos : Pos} {wi : TwI} {g : TwG} {tt : TwT} {tk tv : TwE}
end
end TX

/-! {k: [] for ..}: the lists are the dict's own; d[k] as a place. -/
namespace TX
open PySem PySem.Spec L2 PyProof.Rows
section
variable {wi : TwI} {g : TwG} {tk : TwE}
def mE (acc : List Int) : T := .m false (acc.map PyData.int) (acc.map fun _ => .l [])
def wDcL (wi : TwI) (g : TwG) (tk : TwE) (vs : List Nat) : TwE := fun ρ Q E => wi ρ (fun xs ρ1 => noNd ρ1 vs ∧ xs.length ≤ 1000000 ∧ ∃ P : Nat → List Int → Rho → Prop, P 0 [] (wipeR ρ1 vs) ∧
  (∀ i x acc ρ2, xs[i]? = some x → P i acc ρ2 → g x ρ2 (fun ρ3 => tk ρ3 (fun t ρ5 => noNd ρ5 vs ∧ ∃ k, t = .d (.int k) ∧ k ∉ acc ∧ P (i + 1) (acc ++ [k]) (wipeR ρ5 vs)) exN) exN) ∧
  ∀ acc ρ2, P xs.length acc ρ2 → Q (mE acc) (restR ρ1 ρ2 vs)) E
def kl (acc : List Int) (ps : List Addr) : List (Key × V) := List.zipWith (fun k p => (.inl k, .ref p)) acc ps
end
section
variable {X : Cx} {kx tg iter : Expr} {scope : Scope} {own : List (Str × Nat)} {pos pos2 : Pos} {wi : TwI} {g : TwG} {tk : TwE}
end
end TX

/-! d[k]: a place in a dict of one's own whose values are one's own. -/
namespace TX
open PySem PySem.Spec L2 PyProof.Rows
/-- the place of the first such key -/
def kix (ks : List Int) (k : Int) : Nat := match ks with
  | [] => 0
  | c :: r => if c = k then 0 else kix r k + 1
def dpl (t u : T) (ρ : Rho) (Q : T → Rho → Prop) : Prop := ∃ r p ks ts k c, t = .a r p ∧ getT ρ r p = some (.m false (List.map PyData.int ks) ts) ∧ vw ρ u = some (.int k) ∧ k ∈ ks ∧ ts[kix ks k]? = some c ∧ isNode c = true ∧ Q (.a r (p ++ [kix ks k])) ρ
def wDpl (ta tb : TwE) : TwE := w2 ta tb dpl
section
variable {X : Cx} {a b : Expr} {ta tb : TwE} {pos : Pos}
theorem xDpl {ρ : Rho} {Q : T → Rho → Prop} {E : ExK} (h : ta ρ (fun t ρ1 => tb ρ1 (fun u ρ2 => dpl t u ρ2 Q) E) E) : wDpl ta tb ρ Q E := h
end
end TX

/-! name = {.. for ..}. -/
namespace TX
open PySem PySem.Spec L2 PyProof.Rows
section
variable {X : Cx} {i : Nat} {y : Str} {py : Pos} {kx vx tg iter : Expr} {ifs : List Expr} {scope : Scope} {own : List (Str × Nat)} {pos spos : Pos} {wi : TI} {g : TG} {tt : TT} {tk tv : TE}
end
section
variable {X : Cx} {io : List Nat} {kx vx tg iter : Expr} {ifs : List Expr} {scope : Scope} {own : List (Str × Nat)} {pos pos2 : Pos} {wi : TwI} {g : TwG} {tt : TwT} {tk tv : TwE}
end
section
variable {ρ : Rho} {Q : T → Rho → Prop} {E : ExK} {wi : TwI} {g : TwG} {tt : TwT} {tk tv : TwE} {vs : List Nat}
def dcLK (g : TwG) (tk : TwE) (vs : List Nat) (Q : T → Rho → Prop) (xs : List PyData) (ρ1 : Rho) : Prop := noNd ρ1 vs ∧ xs.length ≤ 1000000 ∧ ∃ P : Nat → List Int → Rho → Prop, P 0 [] (wipeR ρ1 vs) ∧
  (∀ i x acc ρ2, xs[i]? = some x → P i acc ρ2 → g x ρ2 (fun ρ3 => tk ρ3 (fun t ρ5 => noNd ρ5 vs ∧ ∃ k, t = .d (.int k) ∧ k ∉ acc ∧ P (i + 1) (acc ++ [k]) (wipeR ρ5 vs)) exN) exN) ∧
  ∀ acc ρ2, P xs.length acc ρ2 → Q (mE acc) (restR ρ1 ρ2 vs)
theorem xDcL (h : wi ρ (dcLK g tk vs Q) E) : wDcL wi g tk vs ρ Q E := h
def dcK (g : TwG) (tt : TwT) (tk tv : TwE) (vs : List Nat) (Q : T → Rho → Prop) (xs : List PyData) (ρ1 : Rho) : Prop := noNd ρ1 vs ∧ xs.length ≤ 1000000 ∧ ∃ P : Nat → List (Key × PyData) → Rho → Prop, P 0 [] (wipeR ρ1 vs) ∧
  (∀ i x acc ρ2, xs[i]? = some x → P i acc ρ2 → g x ρ2 (fun ρ3 => tt ρ3 (fun b ρ4 => if b = true then tk ρ4 (fun t ρ5 => ∃ k, t = .d (keyD k) ∧ tv ρ5 (fun u ρ6 => noNd ρ6 vs ∧ ∃ y, erase u = some y ∧ P (i + 1) (putD acc k y) (wipeR ρ6 vs)) exN) exN else noNd ρ4 vs ∧ P (i + 1) acc (wipeR ρ4 vs)) exN) exN) ∧
  ∀ acc ρ2, P xs.length acc ρ2 → Q (mK1 acc) (restR ρ1 ρ2 vs)
theorem xDc (h : wi ρ (dcK g tt tk tv vs Q) E) : wDc wi g tt tk tv vs ρ Q E := h
end
end TX

/-! k in d as a test. -/
namespace TX
open PySem PySem.Spec L2 PyProof.Rows
section
variable {X : Cx} {a b : Expr} {ta tb : TwE} {pos : Pos}
end
end TX

/-! A dict of data that is walked: locked while an expression or a statement runs. -/
namespace TX
open PySem PySem.Spec L2
/-! ### no locked dict in a tree -/
mutual
def nlk : T → Bool
  | .l ts => nlks ts
  | .m _ _ ts => nlks ts
  | .o _ _ ts => nlks ts
  | .lk _ _ _ => false
  | _ => true
def nlks : List T → Bool
  | [] => true
  | t :: ts => nlk t && nlks ts
end
theorem nlks_d : ∀ ds : List PyData, nlks (ds.map T.d) = true
  | [] => rfl
  | d :: ds => by simp [nlks, nlk, nlks_d ds]
def nlkO : Option T → Bool
  | some t => nlk t
  | none => true
def nlkR (ρ : Rho) : Bool := ρ.all nlkO
theorem nlkR_get {ρ : Rho} (h : nlkR ρ = true) {i : Nat} {t : T} (e : ρ[i]? = some (some t)) : nlk t = true := by
  have := List.all_eq_true.mp h _ (List.mem_of_getElem? e)
  exact this
def isDk : HO → Bool
  | .dK _ => true
  | .dT _ => true
  | _ => false
/-- as it was, or a dict that was locked or unlocked -/
def Shf (o : HO) (x : Option HO) : Prop := x = some o ∨ ∃ od u, isDk u = true ∧ ((o = u ∧ x = some (.frz od u)) ∨ (o = .frz od u ∧ x = some u))
section
variable {K : PySem.W.Frag} {M M' : Hp}
theorem Shf.lst {xs : List V} {x : Option HO} (h : Shf (.lst xs) x) : x = some (.lst xs) := by
  rcases h with h | ⟨od, u, d, ⟨e, _⟩ | ⟨e, _⟩⟩
  · exact h
  · subst e; cases d
  · cases e
theorem Shf.tup {xs : List V} {x : Option HO} (h : Shf (.tup xs) x) : x = some (.tup xs) := by
  rcases h with h | ⟨od, u, d, ⟨e, _⟩ | ⟨e, _⟩⟩
  · exact h
  · subst e; cases d
  · cases e
theorem rd_sh (k : ∀ b o, M b = some o → Shf o (M' b)) {a : Addr} {u : HO} (hu : isDk u = true) (h : Rd M a u) : Rd M' a u := by
  rcases h with h | ⟨o, h⟩
  · rcases k _ _ h with z | ⟨od, w, d, ⟨e, z⟩ | ⟨e, z⟩⟩
    · exact .inl z
    · subst e; exact .inr ⟨_, z⟩
    · subst e; cases hu
  · rcases k _ _ h with z | ⟨od, w, d, ⟨e, z⟩ | ⟨e, z⟩⟩
    · exact .inr ⟨o, z⟩
    · subst e; cases d
    · cases e; exact .inl z
mutual
theorem Rp.sh (k : ∀ b o, M b = some o → Shf o (M' b)) : ∀ (d : PyData) (v : V), Rp K M v d → Rp K M' v d
  | .none, _, h => by cases h; exact .non
  | .bool b, _, h => by cases h; exact .bl b
  | .int b, _, h => by cases h; exact .int b
  | .str b, _, h => by cases h; exact .str b
  | .list ds, _, h => by
    cases h with
    | lst h1 h2 => exact .lst (k _ _ h1).lst (RpAll.sh k ds _ h2)
  | .tuple ds, _, h => by
    cases h with
    | tup h1 h2 => exact .tup (k _ _ h1).tup (RpAll.sh k ds _ h2)
  | .dict ps, _, h => by
    cases h with
    | dk h1 h2 h3 => exact .dk (rd_sh k rfl h1) h2 (RpAll.shKv k ps _ h3)
    | dt h1 h2 h3 => exact .dt (rd_sh k rfl h1) h2 (RpAll.shKv k ps _ h3)
theorem RpAll.sh (k : ∀ b o, M b = some o → Shf o (M' b)) : ∀ (ds : List PyData) (vs : List V), RpAll K M vs ds → RpAll K M' vs ds
  | [], _, h => by cases h; exact .nil
  | d :: ds, _, h => by
    cases h with
    | cons h1 h2 => exact .cons (Rp.sh k d _ h1) (RpAll.sh k ds _ h2)
theorem RpAll.shKv (k : ∀ b o, M b = some o → Shf o (M' b)) : ∀ (ps : List (PyData × PyData)) (vs : List V), RpAll K M vs (ps.map (·.2)) → RpAll K M' vs (ps.map (·.2))
  | [], _, h => by cases h; exact .nil
  | (a, b) :: ps, _, h => by
    cases h with
    | cons h1 h2 => exact .cons (Rp.sh k b _ h1) (RpAll.shKv k ps _ h2)
end
variable {H H' : Hp} {O : Own}
theorem sql_sh (k : ∀ b o, M b = some o → Shf o (M' b)) {a : Addr} {xs : List V} (h : SqL K M a xs) : SqL K M' a xs := by
  rcases h with h | h
  · refine .inl ?_
    rcases h with h | ⟨o, h⟩
    · exact .inl (k _ _ h).lst
    · rcases k _ _ h with z | ⟨od, w, d, ⟨e, z⟩ | ⟨e, z⟩⟩
      · exact .inr ⟨o, z⟩
      · subst e; cases d
      · cases e; cases d
  · exact .inr h
/-! only the dict at a, which is free, is locked or unlocked -/
mutual
theorem Tr.sh {r : Nat} (k : ∀ b o, H b = some o → O b = .free → Shf o (H' b)) (kl : ∀ b o r p, H b = some o → O b = .at r p → H' b = some o) : ∀ (t : T) (p : List Nat) (v : V), nlk t = true → Tr K H O r p v t → Tr K H' O r p v t
  | .d x, p, v, _, h => by
    cases h with
    | d h => exact .d (Rp.sh (fun b o e => by obtain ⟨e1, e2⟩ := msk_some e; rw [msk_of e1]; exact k b o e2 e1) _ _ h)
  | .l ts, p, v, n, h => by
    cases h with
    | l h1 h2 h3 => exact .l h1 (kl _ _ _ _ h2 h1) (TrAll.sh k kl ts p 0 _ (by simpa [nlk] using n) h3)
  | .m tk ks ts, p, v, n, h => by
    cases h with
    | mk h1 h2 h3 h4 => exact .mk h1 (kl _ _ _ _ h2 h1) h3 (TrAll.sh k kl ts p 0 _ (by simpa [nlk] using n) h4)
    | mt h1 h2 h3 h4 => exact .mt h1 (kl _ _ _ _ h2 h1) h3 (TrAll.sh k kl ts p 0 _ (by simpa [nlk] using n) h4)
  | .o C ns ts, p, v, n, h => by
    cases h with
    | o h1 h2 h3 h4 => exact .o h1 (kl _ _ _ _ h2 h1) h3 (TrAll.sh k kl ts p 0 _ (by simpa [nlk] using n) h4)
  | .s S m, p, v, _, h => by
    cases h with
    | s h1 h2 => exact .s h1 (kl _ _ _ _ h2 h1)
  | .raw v', p, v, _, h => by cases h; exact .raw
  | .fz ns, p, v, _, h => by
    cases h with
    | fz h => exact .fz (sql_sh (fun b o e => by obtain ⟨e1, e2⟩ := msk_some e; rw [msk_of e1]; exact k b o e2 e1) h)
  | .lk _ _ _, p, v, n, h => by cases n
  | .a _ _, p, v, _, h => by cases h
theorem TrAll.sh {r : Nat} (k : ∀ b o, H b = some o → O b = .free → Shf o (H' b)) (kl : ∀ b o r p, H b = some o → O b = .at r p → H' b = some o) : ∀ (ts : List T) (p : List Nat) (j : Nat) (vs : List V), nlks ts = true → TrAll K H O r p j vs ts → TrAll K H' O r p j vs ts
  | [], p, j, vs, _, h => by cases h; exact .nil
  | t :: ts, p, j, vs, n, h => by
    cases h with
    | cons h1 h2 =>
      simp only [nlks, Bool.and_eq_true] at n
      exact .cons (Tr.sh k kl t _ _ n.1 h1) (TrAll.sh k kl ts p (j + 1) _ n.2 h2)
end
end
/-! ### the frame while the dict at a is locked -/
def lockC (H : Hp) (O : Own) (C : Ctx) : Ctx := ⟨fun b => match O b with | .at _ _ => none | _ => H b, fun b => match O b with | .at _ _ => (match C.O0 b with | .at j p => .at j p | _ => .free) | z => z, C.N, C.io⟩
section
variable {K : PySem.W.Frag} {C : Ctx} {n m : Nat} {σ σ' : St} {H H' H1 : Hp} {O O' : Own} {ρ ρ' : Rho} {a : Addr} {od : Obj} {u : HO}
theorem lockC_no {b : Addr} (h : ∀ r p, O b ≠ .at r p) : (lockC H O C).H0 b = H b ∧ (lockC H O C).O0 b = O b := by
  unfold lockC
  cases e : O b with
  | «at» r p => exact absurd e (h r p)
  | free => simp [e]
  | foreign => simp [e]
theorem lockC_at {b : Addr} {r : Nat} {p : List Nat} (h : O b = .at r p) : (lockC H O C).H0 b = none ∧ (lockC H O C).O0 b ≠ .foreign ∧ ∀ j q, (lockC H O C).O0 b = .at j q → C.O0 b = .at j q := by
  unfold lockC
  simp only [h]
  refine ⟨trivial, fun z => ?_, fun j q z => ?_⟩
  · split at z <;> cases z
  · split at z
    · rename_i e; rw [e]; exact z
    · cases z
theorem lockC_io {b : Addr} {j : Nat} {p : List Nat} (h : (lockC H O C).O0 b = .at j p) : C.O0 b = .at j p := by
  cases e : O b with
  | «at» r q => exact (lockC_at e).2.2 j p h
  | free => have := lockC_no (H := H) (C := C) (O := O) (b := b) (by rw [e]; intro r p z; cases z); rw [this.2, e] at h; cases h
  | foreign => have := lockC_no (H := H) (C := C) (O := O) (b := b) (by rw [e]; intro r p z; cases z); rw [this.2, e] at h; cases h
theorem io_lock {b : Addr} {j : Nat} {p : List Nat} (h : C.O0 b = .at j p) (h2 : O b = .at j p) : (lockC H O C).O0 b = .at j p := by
  unfold lockC
  simp only [h2, h]
/-- the frame, seen from here on as if it were just entered -/
theorem Rel.entS (R : Rel K C n σ H O ρ) (nt : ∀ b, O b ≠ .free → ∃ o, H1 b = some o ∧ ownable o) (sl : ∀ (i : Nat) (t : T), ρ[i]? = some (some t) → ∃ v, σ[i]? = some (some v) ∧ Tr K H1 O i [] v t) : Rel K (lockC H1 O C) n σ H1 O ρ := by
  refine ⟨fun b o e1 e2 => ?_, nt, R.lt, R.inj, R.val, R.ln, R.lr, sl, R.hN, fun b e => ?_, fun b j p e => R.pz b j p (lockC_io e), ⟨trivial, fun b j p e => R.sm.2 b j p (lockC_io e)⟩⟩
  · cases h : O b with
    | «at» r p => rw [(lockC_at h).1] at e1; cases e1
    | free => have := lockC_no (H := H1) (C := C) (O := O) (b := b) (by rw [h]; intro r p z; cases z); rw [this.1] at e1; exact ⟨e1, by rw [this.2, h]⟩
    | foreign => have := lockC_no (H := H1) (C := C) (O := O) (b := b) (by rw [h]; intro r p z; cases z); rw [this.1] at e1; exact ⟨e1, by rw [this.2, h]⟩
  · obtain ⟨o, h, _⟩ := nt b (by rw [e]; intro z; cases z)
    have := lockC_no (H := H1) (C := C) (O := O) (b := b) (by rw [e]; intro r p z; cases z)
    exact ⟨o, by rw [this.1]; exact h, by rw [this.2]; exact e⟩
/-- what stood at that entry stands -/
theorem since {R' : Rel K (lockC H1 O C) m σ' H' O' ρ'} {b : Addr} {o : HO} (h : H1 b = some o) (hf : ∀ r p, O b ≠ .at r p) : H' b = some o ∧ O' b = O b := by
  have := lockC_no (H := H1) (C := C) hf
  have := R'.fr b o (by rw [this.1]; exact h) (by
    rw [this.2]
    cases e : O b with
    | «at» r p => exact absurd e (hf r p)
    | free => exact .inl rfl
    | foreign => exact .inr rfl)
  rw [(lockC_no (H := H1) (C := C) hf).2] at this
  exact this
theorem noat_free {b : Addr} (h : O b = .free) : ∀ r p, O b ≠ .at r p := fun r p z => by rw [h] at z; cases z
theorem Rel.locked (R : Rel K C n σ H O ρ) (ha : O a = .free) (hu : H a = some u) (du : isDk u = true) (nl : nlkR ρ = true) (od : Obj) : Rel K (lockC (L2.upd H a (.frz od u)) O C) n σ (L2.upd H a (.frz od u)) O ρ := by
  have hs : ∀ b o, H b = some o → b ≠ a → L2.upd H a (.frz od u) b = some o := fun b o e z => by rw [upd_ne z]; exact e
  refine R.entS (fun b e => ?_) fun i t e => ?_
  · obtain ⟨o, h, w⟩ := R.nt b e
    exact ⟨o, hs b o h fun z => e (z ▸ ha), w⟩
  · obtain ⟨v, h1, h2⟩ := R.sl i t e
    refine ⟨v, h1, Tr.sh (fun b o e _ => ?_) (fun b o r p e z => hs b o e fun y => by subst y; rw [ha] at z; cases z) t [] v (nlkR_get nl e) h2⟩
    by_cases z : b = a
    · subst z; rw [hu] at e; cases e; exact .inr ⟨od, u, du, .inl ⟨rfl, upd_same⟩⟩
    · exact .inl (hs b o e z)
/-- back in the frame as it was entered, the dict unlocked -/
theorem Rel.unlocked (R : Rel K C n σ H O ρ) (ha : O a = .free) (hu : H a = some u) (du : isDk u = true) (R' : Rel K (lockC (L2.upd H a (.frz od u)) O C) m σ' H' O' ρ') (nl : nlkR ρ' = true) : H' a = some (.frz od u) ∧ Rel K C m σ' (L2.upd H' a u) O' ρ' := by
  obtain ⟨ha', oa'⟩ := since (R' := R') (b := a) upd_same (noat_free ha)
  rw [ha] at oa'
  have hs : ∀ b o, H' b = some o → b ≠ a → L2.upd H' a u b = some o := fun b o e z => by rw [upd_ne z]; exact e
  refine ⟨ha', fun b o e1 e2 => ?_, fun b e => ?_, R'.lt, R'.inj, R'.val, R'.ln, R'.lr, fun i t e => ?_, R'.hN, fun b e => ?_, fun b j p e => ?_, R.sm⟩
  · obtain ⟨h1, h2⟩ := R.fr b o e1 e2
    by_cases z : b = a
    · subst z
      rw [hu] at h1; cases h1
      exact ⟨upd_same, by rw [oa', ← h2, ha]⟩
    · have hf : ∀ r p, O b ≠ .at r p := fun r p z => by rw [h2] at z; rcases e2 with e2 | e2 <;> rw [e2] at z <;> cases z
      obtain ⟨h3, h4⟩ := since (R' := R') (b := b) (by rw [upd_ne z]; exact h1) hf
      exact ⟨hs b o h3 z, h4.trans h2⟩
  · obtain ⟨o, h, w⟩ := R'.nt b e
    exact ⟨o, hs b o h fun z => e (z ▸ oa'), w⟩
  · obtain ⟨v, h1, h2⟩ := R'.sl i t e
    refine ⟨v, h1, Tr.sh (fun b o e _ => ?_) (fun b o r p e z => hs b o e fun y => by subst y; rw [oa'] at z; cases z) t [] v (nlkR_get nl e) h2⟩
    by_cases z : b = a
    · subst z; rw [ha'] at e; cases e; exact .inr ⟨od, u, du, .inr ⟨rfl, upd_same⟩⟩
    · exact .inl (hs b o e z)
  · obtain ⟨o, h1, h2⟩ := R'.fo b e
    cases h : O b with
    | «at» r p => exact absurd h2 (lockC_at h).2.1
    | free => have := lockC_no (H := L2.upd H a (.frz od u)) (C := C) (O := O) (b := b) (by rw [h]; intro r p z; cases z); rw [this.2, h] at h2; cases h2
    | foreign => exact R.fo b h
  · obtain ⟨h1, h2⟩ := R.pz b j p e
    exact R'.pz b j p (io_lock e h2)
/-- slot i holds the same, told otherwise -/
theorem Rel.retype (R : Rel K C n σ H O ρ) {i : Nat} {t t' : T} (e : ρ[i]? = some (some t)) (hn : isNode t = false) (h : ∀ v, σ[i]? = some (some v) → Tr K H O i [] v t → Tr K H O i [] v t') : Rel K C n σ H O (ρ.set i (some t')) := by
  have hi : i < ρ.length := (List.getElem?_eq_some_iff.mp e).1
  refine ⟨R.fr, R.nt, R.lt, R.inj, fun b r p z l => ?_, R.ln, by rw [List.length_set]; exact R.lr, fun j u z => ?_, R.hN, R.fo, R.pz, R.sm⟩
  · obtain ⟨t1, y, h1, h2, h3⟩ := R.val b r p z l
    refine ⟨t1, y, ?_, h2, h3⟩
    rw [set_get hi]
    split
    · rename_i q
      subst q
      rw [e] at h1; cases h1
      cases p with
      | nil => cases h2; rw [hn] at h3; cases h3
      | cons k p =>
        cases t with
        | l _ => cases hn
        | m _ _ _ => cases hn
        | o _ _ _ => cases hn
        | _ => cases h2
    · exact h1
  · rw [set_get hi] at z
    split at z
    · rename_i q
      subst q
      cases z
      obtain ⟨v, h1, h2⟩ := R.sl _ t e
      exact ⟨v, h1, h v h1 h2⟩
    · exact R.sl j u z
theorem fre_unl (f : Fre (L2.upd H a (.frz od u)) O H' O') (hu : H a = some u) : Fre H O (L2.upd H' a u) O' := fun b o e z => by
  by_cases y : b = a
  · subst y; rw [hu] at e; cases e; exact ⟨upd_same, (f b _ upd_same z).2⟩
  · obtain ⟨h1, h2⟩ := f b o (by rw [upd_ne y]; exact e) z
    exact ⟨by rw [upd_ne y]; exact h1, h2⟩
theorem val_unl (ha : O' a = .free) (hu : H' a = some (.frz od u)) (du : isDk u = true) {v : V} {t : T} (nl : nlk t = true) (h : Val K H' O' n v t) : Val K (L2.upd H' a u) O' n v t := by
  have gen : ∀ t : T, nlk t = true → (Tr K H' O' n [] v t ∧ ∀ b p, O' b = .at n p → ∃ z, subT t p = some z ∧ isNode z = true) → Tr K (L2.upd H' a u) O' n [] v t ∧ ∀ b p, O' b = .at n p → ∃ z, subT t p = some z ∧ isNode z = true := fun t nl h =>
    ⟨Tr.sh (fun b o e _ => by
      by_cases z : b = a
      · subst z; rw [hu] at e; cases e; exact .inr ⟨od, u, du, .inr ⟨rfl, upd_same⟩⟩
      · exact .inl (by rw [upd_ne z]; exact e)) (fun b o r p e z => by rw [upd_ne fun y => by subst y; rw [ha] at z; cases z]; exact e) t [] v nl h.1, h.2⟩
  cases t with
  | a r p => exact h
  | _ => exact gen _ nl h
/-- a dict of data: where it stands, locked or not -/
theorem dict_at {v : V} {ps : List (PyData × PyData)} (h : Rp K (msk O H) v (.dict ps)) : ∃ a u, v = .ref a ∧ O a = .free ∧ isDk u = true ∧ (H a = some u ∨ ∃ od, H a = some (.frz od u)) ∧
    ((∃ kvs, u = .dK kvs ∧ ps.map (·.1) = kvs.map (fun q => keyD q.1) ∧ RpAll K (msk O H) (kvs.map (·.2)) (ps.map (·.2))) ∨ ∃ kvs, u = .dT kvs ∧ ps.map (·.1) = kvs.map (fun q => PyData.tuple (q.1.map keyD)) ∧ RpAll K (msk O H) (kvs.map (·.2)) (ps.map (·.2))) := by
  cases h with
  | dk h1 h2 h3 =>
    rcases h1 with h1 | ⟨o, h1⟩
    · obtain ⟨z1, z2⟩ := msk_some h1; exact ⟨_, _, rfl, z1, rfl, .inl z2, .inl ⟨_, rfl, h2, h3⟩⟩
    · obtain ⟨z1, z2⟩ := msk_some h1; exact ⟨_, _, rfl, z1, rfl, .inr ⟨_, z2⟩, .inl ⟨_, rfl, h2, h3⟩⟩
  | dt h1 h2 h3 =>
    rcases h1 with h1 | ⟨o, h1⟩
    · obtain ⟨z1, z2⟩ := msk_some h1; exact ⟨_, _, rfl, z1, rfl, .inl z2, .inr ⟨_, rfl, h2, h3⟩⟩
    · obtain ⟨z1, z2⟩ := msk_some h1; exact ⟨_, _, rfl, z1, rfl, .inr ⟨_, z2⟩, .inr ⟨_, rfl, h2, h3⟩⟩
end
theorem mut_dk {u : HO} (h : isDk u = true) : Mut (some u) := by cases u <;> first | trivial | cases h
/-- behind the walk: the slot's dict is data again -/
def lkB (i : Nat) (tk : Bool) (ps : List (PyData × PyData)) (q : Rho → Prop) : Rho → Prop := fun ρ' => ρ'[i]? = some (some (lkd tk ps)) ∧ nlkR (ρ'.set i none) = true ∧ q (ρ'.set i (some (.d (.dict ps))))
def wLk (i : Nat) (ta : TwE) : TwE := fun ρ Q _ => ∃ ps, ρ[i]? = some (some (.d (.dict ps))) ∧ nlkR ρ = true ∧ ∀ tk, ta (ρ.set i (some (lkd tk ps))) (fun t ρ' => nlk t = true ∧ lkB i tk ps (Q t) ρ') exN
section
variable {K : PySem.W.Frag} {C : Ctx} {n m : Nat} {σ σ' : St} {H H' H1 : Hp} {O O' : Own} {ρ ρ' : Rho} {a : Addr} {od : Obj} {u : HO} {i : Nat} {tk : Bool} {ps : List (PyData × PyData)}
theorem nlkR_set {x : Option T} (h : nlkR (ρ.set i none) = true) (hx : nlkO x = true) : nlkR (ρ.set i x) = true := by
  unfold nlkR at h ⊢
  rw [List.all_eq_true] at h ⊢
  intro y hy
  rcases List.mem_or_eq_of_mem_set hy with z | z
  · obtain ⟨j, hj, ej⟩ := List.mem_iff_getElem.mp hy
    by_cases e : j = i
    · subst e
      rw [List.getElem_set_self] at ej
      rw [← ej]; exact hx
    · refine h y (List.mem_iff_getElem.mpr ⟨j, by simpa using hj, ?_⟩)
      rw [List.getElem_set_ne (fun z => e z.symm)] at ej ⊢
      exact ej
  · rw [z]; exact hx
/-- the locked dict is told as such -/
theorem Rel.tell (R : Rel K C n σ H O ρ) (hv : σ[i]? = some (some (.ref a))) (e : ρ[i]? = some (some (.d (.dict ps)))) (oa : O a = .free) (ha : H a = some (.frz od u))
    (kind : (∃ kvs, u = .dK kvs ∧ ps.map (·.1) = kvs.map (fun q => keyD q.1) ∧ RpAll K (msk O H) (kvs.map (·.2)) (ps.map (·.2))) ∨ ∃ kvs, u = .dT kvs ∧ ps.map (·.1) = kvs.map (fun q => PyData.tuple (q.1.map keyD)) ∧ RpAll K (msk O H) (kvs.map (·.2)) (ps.map (·.2))) :
    ∃ tk, Rel K C n σ H O (ρ.set i (some (lkd tk ps))) := by
  rcases kind with ⟨kvs, rfl, h1, h2⟩ | ⟨kvs, rfl, h1, h2⟩
  · exact ⟨false, R.retype e rfl fun v z _ => by rw [hv] at z; cases z; exact .lk oa ha h1 h2⟩
  · exact ⟨true, R.retype e rfl fun v z _ => by rw [hv] at z; cases z; exact .lt oa ha h1 h2⟩
theorem Rel.untell (R : Rel K C n σ H O ρ) (e : ρ[i]? = some (some (lkd tk ps))) : Rel K C n σ H O (ρ.set i (some (.d (.dict ps)))) :=
  R.retype e rfl fun v _ h => by have := tr_lkd h; rw [zip_map] at this; exact this
theorem kind_sh {M M' : Hp} (k : ∀ b o, M b = some o → Shf o (M' b)) (h : (∃ kvs, u = .dK kvs ∧ ps.map (·.1) = kvs.map (fun q => keyD q.1) ∧ RpAll K M (kvs.map (·.2)) (ps.map (·.2))) ∨ ∃ kvs, u = .dT kvs ∧ ps.map (·.1) = kvs.map (fun q => PyData.tuple (q.1.map keyD)) ∧ RpAll K M (kvs.map (·.2)) (ps.map (·.2))) :
    (∃ kvs, u = .dK kvs ∧ ps.map (·.1) = kvs.map (fun q => keyD q.1) ∧ RpAll K M' (kvs.map (·.2)) (ps.map (·.2))) ∨ ∃ kvs, u = .dT kvs ∧ ps.map (·.1) = kvs.map (fun q => PyData.tuple (q.1.map keyD)) ∧ RpAll K M' (kvs.map (·.2)) (ps.map (·.2)) := by
  rcases h with ⟨kvs, h1, h2, h3⟩ | ⟨kvs, h1, h2, h3⟩
  · exact .inl ⟨kvs, h1, h2, RpAll.sh k _ _ h3⟩
  · exact .inr ⟨kvs, h1, h2, RpAll.sh k _ _ h3⟩
theorem lock_sh (oa : O a = .free) (hu : H a = some u) (du : isDk u = true) (od : Obj) : ∀ b o, msk O H b = some o → Shf o (msk O (L2.upd H a (.frz od u)) b) := fun b o e => by
  obtain ⟨e1, e2⟩ := msk_some e
  rw [msk_of e1]
  by_cases z : b = a
  · subst z; rw [hu] at e2; cases e2; exact .inr ⟨od, u, du, .inl ⟨rfl, upd_same⟩⟩
  · exact .inl (by rw [upd_ne z]; exact e2)
end
section
variable {X : Cx} {io : List Nat} {e : Expr} {st : Stmt} {ta : TwE} {tw : TwS} {pos : Pos}
theorem le_lk (i : Nat) (h : LE X e ta) : LE X e (wLk i ta) := by
  refine ⟨fun ρ Q Q' E E' hq _ ⟨ps, e1, nl, q⟩ => ⟨ps, e1, nl, fun tk => h.mono _ _ _ _ _ (fun t ρ' ⟨z1, z2, z3, z4⟩ => ⟨z1, z2, z3, hq _ _ z4⟩) (fun _ _ z => z) (q tk)⟩,
    fun C W n hC hn tk => ⟨fun pins s σ H Q I ⟨O, ρ, R, ps, e1, nl, q⟩ => ?_⟩⟩
  obtain ⟨v, hv, tr⟩ := R.sl i _ e1
  have rp : Rp X.K (msk O H) v (.dict ps) := by cases tr with | d h => exact h
  obtain ⟨a, u, rfl, oa, du, hu, kind⟩ := dict_at rp
  have hi : i < ρ.length := (List.getElem?_eq_some_iff.mp e1).1
  rcases hu with hu | ⟨od, hu⟩
  · have hp : PE X e (fun σ H Q => ∃ C', C'.N = X.N.length ∧ C'.N ≤ n ∧ lfE X.K C' W n ta σ H Q) := ⟨fun pins s σ H Q I ⟨C', h1, h2, q⟩ => (h.run C' W n h1 h2 tk).run pins s σ H Q I q⟩
    refine (pe_lock hp).run pins s σ H Q I ⟨a, u, hu, mut_dk du, fun od => ⟨lockC (L2.upd H a (.frz od u)) O C, hC, hn, ?_⟩⟩
    obtain ⟨tk', R2⟩ := (R.locked oa hu du nl od).tell hv e1 oa upd_same (kind_sh (lock_sh oa hu du od) kind)
    refine ⟨O, _, R2, h.mono _ _ _ _ _ (fun t ρ' ⟨z1, z2, z3, z4⟩ => ?_) (fun _ _ z => z.elim) (q tk')⟩
    intro v H' O' R' F' V'
    obtain ⟨h1, h2⟩ := R.unlocked oa hu du (R'.untell z2) (nlkR_set z3 rfl)
    have oa' := (F'.fre a _ upd_same oa).2
    refine ⟨h1, z4 v _ O' h2 ⟨fre_unl F'.fre hu, F'.pl, fun b o r p e1 e2 l1 l2 => ?_, F'.nw⟩ (val_unl oa' h1 du z1 V')⟩
    have nb : b ≠ a := fun z => by subst z; rw [oa] at e2; cases e2
    obtain ⟨y1, y2⟩ := F'.tm b o r p (by rw [upd_ne nb]; exact e1) e2 l1 l2
    exact ⟨by rw [upd_ne nb]; exact y1, y2⟩
  · obtain ⟨tk', R2⟩ := R.tell hv e1 oa hu kind
    refine (h.run C W n hC hn tk).run pins s σ H Q I ⟨O, _, R2, h.mono _ _ _ _ _ (fun t ρ' ⟨z1, z2, z3, z4⟩ => ?_) (fun _ _ z => z.elim) (q tk')⟩
    intro v H' O' R' F' V'
    exact z4 v H' O' (R'.untell z2) F' V'
end
end TX

/-! for k in d, d locked; d's items and values. -/
namespace TX
open PySem PySem.Spec L2
section
variable {K : PySem.W.Frag} {H : Hp} {O : Own} {a : Addr} {od : Obj}
theorem rp_kV {M : Hp} (k : Key) : Rp K M (kV k) (keyD k) := by
  cases k with
  | inl i => exact .int i
  | inr x => exact .str x
theorem rp_kVs {M : Hp} : ∀ k : List Key, RpAll K M (k.map kV) (k.map keyD)
  | [] => .nil
  | k :: ks => .cons (rp_kV k) (rp_kVs ks)
theorem yl_keys {kvs : List (Key × V)} {ks : List PyData} (oa : O a = .free) (ha : H a = some (.frz od (.dK kvs))) (hk : ks = kvs.map fun q => keyD q.1) : Yl K (Itk a od kvs) ks H O where
  stop H' O' f := ⟨(f a _ ha oa).1, by rw [hk, List.length_map]; exact Nat.le_refl _⟩
  go i x H' O' f e := ⟨(f a _ ha oa).1, by have := (List.getElem?_eq_some_iff.mp e).1; rw [hk, List.length_map] at this; exact this⟩
  yld i x v H' O' H'' f e y _ := by
    obtain ⟨rfl, k, w, e1, rfl⟩ := y
    rw [hk, List.getElem?_map, e1] at e
    cases e
    exact ⟨.inl rfl, rp_kV k⟩
theorem yl_keysT {kvs : List (List Key × V)} {ks : List PyData} (oa : O a = .free) (ha : H a = some (.frz od (.dT kvs))) (hk : ks = kvs.map fun q => PyData.tuple (q.1.map keyD)) : Yl K (Itkt a od kvs) ks H O where
  stop H' O' f := ⟨(f a _ ha oa).1, by rw [hk, List.length_map]; exact Nat.le_refl _⟩
  go i x H' O' f e := ⟨(f a _ ha oa).1, by have := (List.getElem?_eq_some_iff.mp e).1; rw [hk, List.length_map] at this; exact this⟩
  yld i x v H' O' H'' f e y nt := by
    obtain ⟨rfl, k, w, q, e1, rfl, hq⟩ := y
    rw [hk, List.getElem?_map, e1] at e
    cases e
    have oq : O' q = .free := by
      by_cases z : O' q = .free
      · exact z
      · obtain ⟨o, h, w⟩ := nt q z
        rw [hq] at h; cases h
        exact absurd w (fun z => z)
    exact ⟨.inl rfl, .tup (by rw [msk_of oq]; exact hq) (rp_kVs k)⟩
end
section
variable {X : Cx} {tg e : Expr} {ta : TwE}
def wIDc (ta : TwE) : TwI := fun ρ Q E => ta ρ (fun t ρ1 => ∃ tk ks xs, t = .lk tk ks xs ∧ Q ks ρ1) E
def idK (t : T) (ρ : Rho) (QI : List PyData → Rho → Prop) : Prop := ∃ tk ks xs, t = .lk tk ks xs ∧ QI ks ρ
theorem xIDc {ρ : Rho} {QI : List PyData → Rho → Prop} {E : ExK} (h : ta ρ (fun t ρ1 => idK t ρ1 QI) E) : wIDc ta ρ QI E := h
theorem xIDcK {ρ : Rho} {QI : List PyData → Rho → Prop} {tk : Bool} {ks xs : List PyData} (q : QI ks ρ) : idK (.lk tk ks xs) ρ QI := ⟨tk, ks, xs, rfl, q⟩
theorem li_dict (ha : LE X e ta) : LI X tg e (wIDc ta) := by
  refine ⟨fun ρ Q Q' E E' h he q => ha.mono ρ _ _ E E' (fun t ρ1 ⟨tk, ks, xs, e, q⟩ => ⟨tk, ks, xs, e, h _ _ q⟩) he q, fun C W n hC hn tk => (pi_keys (tg := tg) (ha.run C W n hC hn tk)).imp fun σ H R ⟨O, ρ, Rl, q⟩ => ?_⟩
  refine ⟨O, ρ, Rl, ha.mono ρ _ _ _ _ (fun t ρ1 ⟨tk, ks, xs, e, q⟩ => ?_) (fun _ _ z => z) q⟩
  subst e
  intro v H1 O1 R1 F1 V1
  have tr := V1.1
  cases tr with
  | lk h1 h2 h3 h4 => exact ⟨_, _, rfl, .inl ⟨_, h2, q _ H1 _ (R1.cut hn) (F1.trans (frm_cut C.N n H1 O1 hn) (Nat.le_refl _)) (yl_keys (cut_free h1) h2 h3)⟩⟩
  | lt h1 h2 h3 h4 => exact ⟨_, _, rfl, .inr ⟨_, h2, q _ H1 _ (R1.cut hn) (F1.trans (frm_cut C.N n H1 O1 hn) (Nat.le_refl _)) (yl_keysT (cut_free h1) h2 h3)⟩⟩
end
/-! ### the steps -/
section
variable {ρ : Rho} {Q : T → Rho → Prop} {E : ExK} {D : EndsT} {i : Nat} {ta : TwE} {tw : TwS} {ps : List (PyData × PyData)}
theorem xVarL {k : Nat} {tk : Bool} {ks xs : List PyData} (h : ρ[k]? = some (some (.lk tk ks xs))) (q : Q (.lk tk ks xs) ρ) : wVar k ρ Q E := ⟨_, h, q⟩
theorem xLk (h : ρ[i]? = some (some (.d (.dict ps)))) (n : nlkR ρ = true) (q : ∀ tk, ta (ρ.set i (some (lkd tk ps))) (fun t ρ' => nlk t = true ∧ lkB i tk ps (Q t) ρ') exN) : wLk i ta ρ Q E := ⟨ps, h, n, q⟩
theorem xLkB {tk : Bool} {q : Rho → Prop} (h : ρ[i]? = some (some (lkd tk ps))) (n : nlkR (ρ.set i none) = true) (k : q (ρ.set i (some (.d (.dict ps))))) : lkB i tk ps q ρ := ⟨h, n, k⟩
end
end TX

/-! == and != of two dicts whose values are data without dicts. -/
namespace TX
open PySem PySem.Spec L2 PyProof.Rows
section
variable {prog : Program} {w : World} {A : Around} {E : Value → Shared → Prop} {s : Shared}
/-- the two tables, entry by entry of the first -/
theorem samePairsG {nm : String} {a b : Addr} {oa ob : Obj} {es es' : Array DictEntry} {ep ep' : Nat} {ok : Nat → Bool} {Q : Bool → Shared → Prop} (ha : (a == sysModules) = false) (hb : (b == sysModules) = false)
    (hoa : s.heap.get? a = some oa) (hda : oa.data = .dict es ep) (hob : s.heap.get? b = some ob) (hdb : ob.data = .dict es' ep')
    (hf : es.size = es'.size → ∀ i e, es[i]? = some e → ((∀ (E : Value → Shared → Prop) (Q : Option Nat → Shared → Prop), Q none s → wpAny (model prog w) A (dictFind b e.key e.hash) Q E s) ∧ ok i = false) ∨
      ∃ j e', es'[j]? = some e' ∧ (∀ (E : Value → Shared → Prop) (Q : Option Nat → Shared → Prop), Q (some j) s → wpAny (model prog w) A (dictFind b e.key e.hash) Q E s) ∧ SeqAt.EqP prog w A s e.val e'.val (ok i))
    (h : Q (es.size == es'.size && (List.range' 0 es.size).all ok) s) : wpAny (model prog w) A (Builtin.Dict.samePairs nm a b) Q E s := by
  unfold Builtin.Dict.samePairs Builtin.Dict.showsAll
  rw [if_neg (show ¬ (a == sysModules) = true by rw [ha]; exact Bool.false_ne_true), if_neg (show ¬ (b == sysModules) = true by rw [hb]; exact Bool.false_ne_true)]
  refine wpAny_bind (wpAny_pure (wpAny_bind (wpAny_pure ?_)))
  refine wpAny_bind (wpAny_dictEntries hoa hda ?_)
  dsimp only
  refine wpAny_bind (wpAny_dictEntries hob hdb ?_)
  by_cases hsz : es.size = es'.size
  case neg =>
    rw [if_pos (by simpa using hsz)]
    have hbf : (es.size == es'.size) = false := by simpa using hsz
    rw [hbf, Bool.false_and] at h
    exact wpAny_bind (wpAny_rule (wpAny_pure h))
  case pos =>
    have h' : Q ((List.range' 0 es.size).all ok) s := by simpa [hsz] using h
    have hf' := hf hsz
    rw [if_neg (by rw [hsz]; simp)]
    refine wpAny_bind (wpAny_dictEpoch hoa hda ?_)
    refine wpAny_bind ?_
    rw [Std.Legacy.Range.forIn_eq_forIn_range']
    simp only [Std.Legacy.Range.size, Nat.sub_zero, Nat.add_sub_cancel, Nat.div_one]
    refine wpAny_forIn_list _
      (fun rest q s' => s' = s ∧ q = (none, ()) ∧ ∃ i, rest = List.range' i (es.size - i) ∧ i ≤ es.size ∧ (List.range' 0 es.size).all ok = (List.range' i (es.size - i)).all ok)
      _ ?_ ?_ _ _ ⟨rfl, rfl, 0, by simp, Nat.zero_le _, by simp⟩
    · rintro x rest q s' ⟨rfl, rfl, i, hr, hi, hpre⟩
      have hlt : i < es.size := by
        rcases Nat.lt_or_ge i es.size with h | h
        · exact h
        · rw [Nat.sub_eq_zero_of_le h] at hr; simp at hr
      have e : es.size - i = (es.size - (i + 1)) + 1 := by omega
      obtain ⟨rfl, hrest⟩ : x = i ∧ rest = List.range' (i + 1) (es.size - (i + 1)) := by
        rw [e, List.range'_succ] at hr
        injection hr with h1 h2
        exact ⟨h1, h2⟩
      rw [e, List.range'_succ, List.all_cons] at hpre
      refine wpAny_bind (wpAny_dictEntries hoa hda ?_)
      rw [Array.getElem?_eq_getElem hlt]
      show wpAny _ _ (holding [es[x].key, es[x].val] _ >>= _) _ _ _
      rcases hf' x es[x] (Array.getElem?_eq_getElem hlt) with ⟨fn, er⟩ | ⟨j, e', hj, fs, he⟩
      · refine wpAny_bind (wpAny_holding (wpAny_bind (fn _ _ ?_)))
        rw [hpre, er, Bool.false_and] at h'
        refine wpAny_pure ?_
        show wpAny _ _ (if (!false) = true then _ else _) _ _ _
        rw [if_pos (by decide)]
        exact wpAny_pure (wpAny_pure h')
      · refine wpAny_bind (wpAny_holding (wpAny_bind (fs _ _ ?_)))
        refine wpAny_bind (wpAny_dictEntries hob hdb ?_)
        rw [hj]
        refine wpAny_holding (he _ _ ?_)
        cases eo : ok x with
        | false =>
          rw [hpre, eo, Bool.false_and] at h'
          show wpAny _ _ (if (!false) = true then _ else _) _ _ _
          rw [if_pos (by decide)]
          exact wpAny_pure (wpAny_pure h')
        | true =>
          rw [eo, Bool.true_and] at hpre
          show wpAny _ _ (if (!true) = true then _ else _) _ _ _
          rw [if_neg (by decide)]
          refine wpAny_bind (wpAny_dictEpoch hoa hda ?_)
          rw [if_neg (by simp)]
          exact wpAny_pure ⟨rfl, rfl, x + 1, hrest, hlt, hpre⟩
    · rintro q s' ⟨rfl, rfl, i, hr, hi, hpre⟩
      have hin : es.size - i = 0 := by
        cases z : es.size - i with
        | zero => rfl
        | succ k => rw [z, List.range'_succ] at hr; exact nomatch hr
      rw [hin] at hpre
      refine wpAny_pure ?_
      rw [hpre] at h'
      exact h'
end
/-! ### tables of the machine as entries -/
section
variable {P : Program} {w : World} {H : Hp} {s : Shared} {a : Addr}
/-- what a table of the machine is, entry by entry; k is the kind's look at an entry's key -/
structure Tab {κ : Type} [DecidableEq κ] (P : Program) (w : World) (s : Shared) (Ky : κ → DictEntry → Prop) (a : Addr) (kvs : List (κ × V)) : Prop where
  sm : (a == sysModules) = false
  ty : s.TypeIs (.ref a) "dict"
  ob : ∃ o es ep, s.heap.get? a = some o ∧ o.data = .dict es ep ∧ es.size = kvs.length ∧ (∀ (i : Nat) (k : κ) (v : V), kvs[i]? = some (k, v) → ∃ e, es[i]? = some e ∧ Ky k e ∧ RelV v e.val) ∧
    ∀ (A : Around) (k : κ) (e : DictEntry), A.units < cLine → Ky k e → (valV kvs k = none ∧ ∀ (E : Value → Shared → Prop) (Q : Option Nat → Shared → Prop), Q none s → wpAny (model P w) A (dictFind a e.key e.hash) Q E s) ∨
      ∃ j v e', es[j]? = some e' ∧ RelV v e'.val ∧ valV kvs k = some v ∧ ∀ (E : Value → Shared → Prop) (Q : Option Nat → Shared → Prop), Q (some j) s → wpAny (model P w) A (dictFind a e.key e.hash) Q E s
def KyK (P : Program) (w : World) (_ : Heap) (k : Key) (e : DictEntry) : Prop := (mixKind P w).is k e.key = true ∧ e.hash = (mixKind P w).hash k
def KyT (P : Program) (w : World) (h : Heap) (k : List Key) (e : DictEntry) : Prop := ∃ q, e.key = .ref q ∧ (tupleKind (mixKind P w)).is h k q ∧ e.hash = (tupleKind (mixKind P w)).hash k
theorem tabK {kvs : List (Key × V)} (ok : HOk P w H s.heap) (rd : Rd H a (.dK kvs)) : Tab P w s (KyK P w s.heap) a kvs := by
  obtain ⟨_, sm, vs, kv, dd⟩ := dk_rd ok rd
  refine ⟨sm, dd.typeIs, ?_⟩
  obtain ⟨o, es, ep, ho, _, hd, hk, hp, _⟩ := dd
  have hl : vs.length = es.size := by rw [← hp.length]; exact Array.length_toList
  have hl2 : kvs.length = vs.length := Paired.length kv
  refine ⟨o, es, ep, ho, hd, by omega, fun i k v e => ?_, fun A k e hu ⟨ky, hh⟩ => ?_⟩
  · obtain ⟨u, e1, r⟩ := kv_get kv e
    have hi : i < es.size := by have := (List.getElem?_eq_some_iff.mp e1).1; omega
    obtain ⟨hkey, hval⟩ := hp.get? (i := i) (e := es[i]) (k := k) (v := u) (by rw [Array.getElem?_toList]; exact Array.getElem?_eq_getElem hi) e1
    obtain ⟨k', hk', hh⟩ := hk es[i] (Array.getElem_mem hi)
    have ekk : k' = k := (mixKind P w).inj _ _ _ hk' hkey
    exact ⟨es[i], Array.getElem?_eq_getElem hi, ⟨hkey, by rw [hh, ekk]⟩, by rw [hval]; exact r⟩
  · have hfind : findBy (mixKind P w).is es k = valueAt vs k := by
      rw [← hp.find k]
      clear hl hp hk hd ho
      obtain ⟨l⟩ := es
      simp [findBy]
    have rl := kv.val k
    rw [hh]
    cases hj : es.findIdx? fun e => (mixKind P w).is k e.key with
    | none =>
      have hn : valueAt vs k = none := by rw [← hfind, findBy_of_findIdx?, hj]
      rw [hn] at rl
      refine .inl ⟨?_, fun E Q q => wpAny_dictFind_of ky ho hd hk (by rw [hj]; exact q)⟩
      cases z : valV kvs k with
      | none => rfl
      | some v => rw [z] at rl; exact False.elim rl
    | some j =>
      obtain ⟨hjlt, _, _⟩ := Array.findIdx?_eq_some_iff_getElem.mp hj
      have hv' : valueAt vs k = some es[j].val := by
        rw [← hfind, findBy_of_findIdx?, hj]
        simp [Array.getElem?_eq_getElem hjlt]
      rw [hv'] at rl
      cases z : valV kvs k with
      | none => rw [z] at rl; exact False.elim rl
      | some v =>
        rw [z] at rl
        exact .inr ⟨j, v, es[j], Array.getElem?_eq_getElem hjlt, rl, rfl, fun E Q q => wpAny_dictFind_of ky ho hd hk (by rw [hj]; exact q)⟩
theorem tabT {kvs : List (List Key × V)} (ok : HOk P w H s.heap) (rd : Rd H a (.dT kvs)) : Tab P w s (KyT P w s.heap) a kvs := by
  obtain ⟨_, sm, xs, kt, dd⟩ := dt_rd ok rd
  refine ⟨sm, dd.typeIs, ?_⟩
  obtain ⟨o, es, ep, ho, _, hd, he, his, hn⟩ := dd
  have hl : es.size = xs.length := size_of_entries he
  have hl2 : kvs.length = xs.length := Paired.length kt
  refine ⟨o, es, ep, ho, hd, by omega, fun i k v e => ?_, fun A k e hu ⟨q, ek, ki, hh⟩ => ?_⟩
  · obtain ⟨b, e1, e2, e3, e4⟩ := paired_get kt e
    have q := entry_at he i
    rw [e1] at q
    have e2' : k = b.1 := e2
    exact ⟨_, q, ⟨b.2.1, rfl, by rw [e2']; exact his b (List.mem_of_getElem? e1), by rw [e2']; rfl⟩, e4⟩
  · rw [ek, hh]
    have rl := kt.val k
    by_cases z : ∃ (j : Nat) (p : Addr × Value), xs[j]? = some (k, p)
    · obtain ⟨j, p, hj⟩ := z
      have ak := atKey_of_get hn hj
      rw [ak] at rl
      have en := entry_at he j
      rw [hj] at en
      cases z : valV kvs k with
      | none => rw [z] at rl; exact False.elim rl
      | some v =>
        rw [z] at rl
        refine .inr ⟨j, v, _, en, rl, rfl, fun E Q qq => wpAny_dictFind_heap (knd := tupleKind (mixKind P w)) hu ki ho hd he his hn (fun no => absurd hj (no j p)) fun j' p' hj' => ?_⟩
        rw [← idxH_unique hn hj hj']
        exact qq
    · have no : ∀ (j : Nat) (p : Addr × Value), xs[j]? ≠ some (k, p) := fun j p e => z ⟨j, p, e⟩
      rw [atKey_none_of_get no] at rl
      refine .inl ⟨?_, fun E Q qq => wpAny_dictFind_heap (knd := tupleKind (mixKind P w)) hu ki ho hd he his hn (fun _ => qq) fun j' p' hj' => absurd hj' (no j' p')⟩
      cases z : valV kvs k with
      | none => rfl
      | some v => rw [z] at rl; exact False.elim rl
end
/-! ### dicts as data -/
def okP (qs : List (PyData × PyData)) (p : PyData × PyData) : Bool := match qs.find? (fun q => PyData.eqv q.1 p.1) with
  | some q => PyData.eqv p.2 q.2
  | none => false
def dEq (ps qs : List (PyData × PyData)) : Bool := ps.length == qs.length && ps.all (okP qs)
theorem eqv_key {a b : Key} : PyData.eqv (keyD a) (keyD b) = decide (a = b) := by
  cases a <;> cases b <;> simp [keyD, PyData.eqv]
  · rw [Bool.eq_iff_iff]; simp
  · rw [Bool.eq_iff_iff]; simp
theorem eqv_keys : ∀ {a b : List Key}, PyData.eqvAll (a.map keyD) (b.map keyD) = decide (a = b)
  | [], [] => by simp [PyData.eqvAll]
  | [], _ :: _ => by simp [PyData.eqvAll]
  | _ :: _, [] => by simp [PyData.eqvAll]
  | a :: as, b :: bs => by
    simp only [List.map_cons, PyData.eqvAll, eqv_key, eqv_keys (a := as) (b := bs)]
    rw [Bool.eq_iff_iff]; simp
theorem eqv_tupD {a b : List Key} : PyData.eqv (tupD a) (tupD b) = decide (a = b) := by
  unfold tupD
  simp only [PyData.eqv, eqv_keys]
theorem look_enc {κ : Type} [DecidableEq κ] {K : PySem.W.Frag} {M : Hp} (enc : κ → PyData) (henc : ∀ a b, PyData.eqv (enc a) (enc b) = decide (a = b)) (k : κ) : ∀ {ls : List (κ × V)} {qs : List (PyData × PyData)}, qs.map (·.1) = ls.map (fun q => enc q.1) → RpAll K M (ls.map (·.2)) (qs.map (·.2)) →
    (valV ls k = none ∧ qs.find? (fun q => PyData.eqv q.1 (enc k)) = none) ∨ ∃ v q, valV ls k = some v ∧ qs.find? (fun q => PyData.eqv q.1 (enc k)) = some q ∧ Rp K M v q.2
  | [], [], _, _ => .inl ⟨rfl, rfl⟩
  | [], _ :: _, h, _ => by simp at h
  | _ :: _, [], h, _ => by simp at h
  | l :: ls, q :: qs, h, r => by
    simp only [List.map_cons, List.cons.injEq] at h
    obtain ⟨h1, h2⟩ := h
    simp only [List.map_cons] at r
    cases r with
    | cons r1 r2 =>
      have e : PyData.eqv q.1 (enc k) = decide (l.1 = k) := by rw [h1, henc]
      unfold valV
      rw [List.find?_cons, List.find?_cons, e]
      by_cases z : l.1 = k
      · rw [decide_eq_true z]
        exact .inr ⟨l.2, q, rfl, rfl, r1⟩
      · rw [decide_eq_false z]
        exact look_enc enc henc k h2 r2
def okI {α : Type} (f : α → Bool) (ps : List α) (i : Nat) : Bool := match ps[i]? with
  | some p => f p
  | none => true
theorem okI_cons {α : Type} {f : α → Bool} {p : α} {ps : List α} {i : Nat} : okI f (p :: ps) (i + 1) = okI f ps i := by unfold okI; rw [List.getElem?_cons_succ]
theorem all_range {α : Type} (f : α → Bool) : ∀ (n : Nat) (ps : List α), (List.range' n ps.length).all (fun i => okI f ps (i - n)) = ps.all f
  | n, [] => rfl
  | n, p :: ps => by
    rw [List.length_cons, List.range'_succ, List.all_cons, List.all_cons, Nat.sub_self, show okI f (p :: ps) 0 = f p from rfl, ← all_range f (n + 1) ps]
    congr 1
    have hx : ∀ x ∈ List.range' (n + 1) ps.length, okI f (p :: ps) (x - n) = okI f ps (x - (n + 1)) := fun x hx => by
      have := (List.mem_range'_1.mp hx).1
      rw [show x - n = (x - (n + 1)) + 1 by omega, okI_cons]
    rw [Bool.eq_iff_iff, List.all_eq_true, List.all_eq_true]
    exact ⟨fun h x m => by rw [← hx x m]; exact h x m, fun h x m => by rw [hx x m]; exact h x m⟩
theorem all_range0 {α : Type} (f : α → Bool) (ps : List α) : (List.range' 0 ps.length).all (okI f ps) = ps.all f := by
  have := all_range f 0 ps
  simpa only [Nat.sub_zero] using this
section
variable {X : Cx} {pins : List (Addr × Obj)} {σ : L2.St} {H : Hp} {s : Shared}
theorem pairsG {κ : Type} [DecidableEq κ] (I : Inv X pins σ H s) (enc : κ → PyData) (henc : ∀ a b, PyData.eqv (enc a) (enc b) = decide (a = b)) {Ky : κ → DictEntry → Prop} {a b : Addr} {kvs ls : List (κ × V)} {ps qs : List (PyData × PyData)} (ta : Tab X.prog X.w s Ky a kvs) (tb : Tab X.prog X.w s Ky b ls)
    (h1 : ps.map (·.1) = kvs.map (fun q => enc q.1)) (r1 : RpAll X.K H (kvs.map (·.2)) (ps.map (·.2))) (h2 : qs.map (·.1) = ls.map (fun q => enc q.1)) (r2 : RpAll X.K H (ls.map (·.2)) (qs.map (·.2)))
    (s1 : ∀ p ∈ ps, SeqAt.shaped p.2 = true) (s2 : ∀ q ∈ qs, SeqAt.shaped q.2 = true) {A : Around} (hu : A.units + 66 < cLine) {E : Value → Shared → Prop} {nm : String} {Q : Bool → Shared → Prop} (q : Q (dEq ps qs) s) : wpAny (model X.prog X.w) A.in1 (Builtin.Dict.samePairs nm a b) Q E s := by
  obtain ⟨oa, es, ep, hoa, hda, hsa, ea, _⟩ := ta.ob
  obtain ⟨ob, es', ep', hob, hdb, hsb, _, fb⟩ := tb.ob
  have l1 : ps.length = kvs.length := by have := congrArg List.length h1; simpa using this
  have l2 : qs.length = ls.length := by have := congrArg List.length h2; simpa using this
  refine samePairsG (ok := okI (okP qs) ps) ta.sm tb.sm hoa hda hob hdb (fun hsz i e he => ?_) ?_
  · have hi : i < es.size := (Array.getElem?_eq_some_iff.mp he).1
    obtain ⟨kv, hkv⟩ : ∃ kv, kvs[i]? = some kv := ⟨kvs[i], List.getElem?_eq_getElem (by omega)⟩
    obtain ⟨p, hp⟩ : ∃ p, ps[i]? = some p := ⟨ps[i], List.getElem?_eq_getElem (by omega)⟩
    obtain ⟨k, v⟩ := kv
    obtain ⟨e1, he1, ky, rv⟩ := ea i k v hkv
    rw [he] at he1; cases he1
    have hp1 : p.1 = enc k := by
      have : (ps.map (·.1))[i]? = (kvs.map fun q => enc q.1)[i]? := by rw [h1]
      rw [List.getElem?_map, List.getElem?_map, hp, hkv] at this
      simpa using this
    have rp : Rp X.K H v p.2 := by
      obtain ⟨v', e1, e2⟩ := r1.get (i := i) (d := p.2) (by rw [List.getElem?_map, hp]; rfl)
      rw [List.getElem?_map, hkv] at e1
      cases e1
      exact e2
    have oe : okI (okP qs) ps i = okP qs p := by unfold okI; rw [hp]
    rw [oe]
    have lk := look_enc (K := X.K) (M := H) enc henc k h2 r2
    rcases fb A.in1 k e (by show A.units + 1 < cLine; omega) ky with ⟨z, fn⟩ | ⟨j, u, e', z1, z2, z3, z4⟩
    · refine .inl ⟨fn, ?_⟩
      rcases lk with ⟨_, z2⟩ | ⟨u, y, z2, _⟩
      · show okP qs p = false
        unfold okP; rw [hp1, z2]
      · rw [z] at z2; cases z2
    · refine .inr ⟨j, e', z1, z4, ?_⟩
      rcases lk with ⟨y, _⟩ | ⟨u', y, y1, y2, y3⟩
      · rw [z3] at y; cases y
      · rw [z3] at y1; cases y1
        have ok : okP qs p = PyData.eqv p.2 y.2 := by unfold okP; rw [hp1, y2]
        rw [ok]
        obtain ⟨as, rd1, _⟩ := Rp.reads I p.2 v e.val rp rv
        obtain ⟨bs, rd2, _⟩ := Rp.reads I y.2 u e'.val y3 z2
        exact (PySem.W.keq_at rd1 rd2 (s1 p (List.mem_of_getElem? hp)) (s2 y (List.mem_of_find?_eq_some y2)) (by show A.units + 1 + 64 < cLine; omega)).eqP
  · have e1 : es.size = ps.length := by omega
    rw [e1, all_range0]
    have e2 : (ps.length == es'.size) = (ps.length == qs.length) := by rw [hsb, ← l2]
    rw [e2]
    exact q
theorem cmpG {a b : Addr} (ty : s.TypeIs (.ref a) "dict") (tb : s.TypeIs (.ref b) "dict") {A : Around} (hu : A.units < cLine) {E : Value → Shared → Prop} {r : Bool} (hp : ∀ (nm : String) (E : Value → Shared → Prop) (Q : Bool → Shared → Prop), Q r s → wpAny (model X.prog X.w) A.in1 (Builtin.Dict.samePairs nm a b) Q E s) :
    (∀ Q : Value → Shared → Prop, Q (.bool r) s → wpAny (model X.prog X.w) A (compareOp .Eq (.ref a) (.ref b)) Q E s) ∧ ∀ Q : Value → Shared → Prop, Q (.bool (!r)) s → wpAny (model X.prog X.w) A (compareOp .NotEq (.ref a) (.ref b)) Q E s := by
  refine ⟨fun Q h => ?_, fun Q h => ?_⟩
  · refine wpAny_richCompare_same_room (op := .Eq) ty tb PySem.F.slot_dict_eq (wpAny_call_entry PySem.F.slot_dict_eq ty PySem.F.entry_dict_eq ?_ (PySem.F.args_dict_eq_2 _ _)) hu
    show wpAny _ _ (Builtin.Dict.dictSlotArgs "__eq__" ⟨[.ref a, .ref b], []⟩ >>= _) _ _ s
    refine wpAny_bind ?_
    unfold Builtin.Dict.dictSlotArgs
    refine wpAny_bind (wpAny_notOrdered_dict ty ?_)
    show wpAny _ _ (pure (Value.ref a, Value.ref b)) _ _ s
    refine wpAny_pure ?_
    refine wpAny_bind (wpAny_isInstance (T := "dict") tb PySem.F.sub_dict_dict ?_)
    simp only [Bool.not_true, Bool.false_eq_true, if_false]
    refine wpAny_bind (wpAny_pure (wpAny_bind (wpAny_pure ?_)))
    refine wpAny_bind (hp _ _ _ ?_)
    refine wpAny_pure ⟨_, rfl, ?_, ?_⟩
    · exact fun x => nomatch x
    · simpa using h
  · refine wpAny_richCompare_same_room (op := .NotEq) ty tb PySem.F.slot_dict_ne (wpAny_call_entry PySem.F.slot_dict_ne ty PySem.F.entry_dict_ne ?_ (PySem.F.args_dict_ne_2 _ _)) hu
    show wpAny _ _ (Builtin.Dict.dictSlotArgs "__ne__" ⟨[.ref a, .ref b], []⟩ >>= _) _ _ s
    refine wpAny_bind ?_
    unfold Builtin.Dict.dictSlotArgs
    refine wpAny_bind (wpAny_notOrdered_dict ty ?_)
    show wpAny _ _ (pure (Value.ref a, Value.ref b)) _ _ s
    refine wpAny_pure ?_
    refine wpAny_bind (wpAny_isInstance (T := "dict") tb PySem.F.sub_dict_dict ?_)
    simp only [Bool.not_true, Bool.false_eq_true, if_false]
    refine wpAny_bind (wpAny_pure (wpAny_bind (wpAny_pure ?_)))
    refine wpAny_bind (hp _ _ _ ?_)
    refine wpAny_pure ⟨_, rfl, ?_, ?_⟩
    · exact fun x => nomatch x
    · simpa using h
/-- the first key's kind -/
def tkD : List (PyData × PyData) → Bool
  | (.tuple _, _) :: _ => true
  | _ => false
/-- either of the two tables -/
theorem dictsG (I : Inv X pins σ H s) {v u : V} {x y : Value} {ps qs : List (PyData × PyData)} (h1 : Rp X.K H v (.dict ps)) (h2 : Rp X.K H u (.dict qs)) (r1 : RelV v x) (r2 : RelV u y) (s1 : ∀ p ∈ ps, SeqAt.shaped p.2 = true) (s2 : ∀ q ∈ qs, SeqAt.shaped q.2 = true) (hk : ps.length = qs.length → tkD ps = tkD qs)
    {A : Around} (hu : A.units + 66 < cLine) : ∃ a b, x = .ref a ∧ y = .ref b ∧ s.TypeIs (.ref a) "dict" ∧ s.TypeIs (.ref b) "dict" ∧ ∀ (nm : String) (E : Value → Shared → Prop) (Q : Bool → Shared → Prop), Q (dEq ps qs) s → wpAny (model X.prog X.w) A.in1 (Builtin.Dict.samePairs nm a b) Q E s := by
  have mixed : ∀ {κ κ' : Type} [DecidableEq κ] [DecidableEq κ'] {K1 : κ → DictEntry → Prop} {K2 : κ' → DictEntry → Prop} {a b : Addr} {kvs : List (κ × V)} {ls : List (κ' × V)} (ta : Tab X.prog X.w s K1 a kvs) (tb : Tab X.prog X.w s K2 b ls), kvs.length = ps.length → ls.length = qs.length → (ps.length = qs.length → ps = []) →
      ∀ (nm : String) (E : Value → Shared → Prop) (Q : Bool → Shared → Prop), Q (dEq ps qs) s → wpAny (model X.prog X.w) A.in1 (Builtin.Dict.samePairs nm a b) Q E s := by
    intro κ κ' _ _ K1 K2 a b kvs ls ta tb l1 l2 he nm E Q q
    obtain ⟨oa, es, ep, hoa, hda, hsa, _, _⟩ := ta.ob
    obtain ⟨ob, es', ep', hob, hdb, hsb, _, _⟩ := tb.ob
    refine samePairsG (ok := okI (okP qs) ps) ta.sm tb.sm hoa hda hob hdb (fun hsz i e hi => ?_) ?_
    · have z := he (by omega)
      have : i < es.size := (Array.getElem?_eq_some_iff.mp hi).1
      rw [z] at l1
      simp at l1
      rw [hsa, l1] at this
      simp at this
    · rw [show es.size = ps.length by omega, all_range0, show (ps.length == es'.size) = (ps.length == qs.length) by rw [hsb, l2]]
      exact q
  cases h1 with
  | dk a1 a2 a3 =>
    rename_i kvs
    have l1 : kvs.length = ps.length := by have := congrArg List.length a2; simpa using this.symm
    cases h2 with
    | dk b1 b2 b3 =>
      have ta := tabK (P := X.prog) (w := X.w) I.hok a1
      have tb := tabK (P := X.prog) (w := X.w) I.hok b1
      exact ⟨_, _, r1, r2, ta.ty, tb.ty, fun nm E Q q => pairsG I keyD (fun _ _ => eqv_key) ta tb a2 a3 b2 b3 s1 s2 hu q⟩
    | dt b1 b2 b3 =>
      rename_i ls
      have ta := tabK (P := X.prog) (w := X.w) I.hok a1
      have tb := tabT (P := X.prog) (w := X.w) I.hok b1
      have l2 : ls.length = qs.length := by have := congrArg List.length b2; simpa using this.symm
      refine ⟨_, _, r1, r2, ta.ty, tb.ty, mixed ta tb l1 l2 fun e => ?_⟩
      cases ps with
      | nil => rfl
      | cons p ps =>
        exfalso
        have k := hk e
        cases qs with
        | nil => simp at e
        | cons q qs =>
          cases kvs with
          | nil => simp at l1
          | cons kv kvs =>
            cases ls with
            | nil => simp at l2
            | cons l ls =>
              obtain ⟨p1, p2⟩ := p
              obtain ⟨q1, q2⟩ := q
              simp only [List.map_cons, List.cons.injEq] at a2 b2
              rw [a2.1, b2.1] at k
              obtain ⟨kk, _⟩ := kv
              cases kk <;> cases k
  | dt a1 a2 a3 =>
    rename_i kvs
    have l1 : kvs.length = ps.length := by have := congrArg List.length a2; simpa using this.symm
    cases h2 with
    | dt b1 b2 b3 =>
      have ta := tabT (P := X.prog) (w := X.w) I.hok a1
      have tb := tabT (P := X.prog) (w := X.w) I.hok b1
      exact ⟨_, _, r1, r2, ta.ty, tb.ty, fun nm E Q q => pairsG I tupD (fun _ _ => eqv_tupD) ta tb a2 a3 b2 b3 s1 s2 hu q⟩
    | dk b1 b2 b3 =>
      rename_i ls
      have ta := tabT (P := X.prog) (w := X.w) I.hok a1
      have tb := tabK (P := X.prog) (w := X.w) I.hok b1
      have l2 : ls.length = qs.length := by have := congrArg List.length b2; simpa using this.symm
      refine ⟨_, _, r1, r2, ta.ty, tb.ty, mixed ta tb l1 l2 fun e => ?_⟩
      cases ps with
      | nil => rfl
      | cons p ps =>
        exfalso
        have k := hk e
        cases qs with
        | nil => simp at e
        | cons q qs =>
          cases kvs with
          | nil => simp at l1
          | cons kv kvs =>
            cases ls with
            | nil => simp at l2
            | cons l ls =>
              obtain ⟨p1, p2⟩ := p
              obtain ⟨q1, q2⟩ := q
              simp only [List.map_cons, List.cons.injEq] at a2 b2
              rw [a2.1, b2.1] at k
              obtain ⟨kk, _⟩ := l
              cases kk <;> cases k
end
/-! ### the operators -/
def fEqD : PyData → PyData → PyData → Prop := fun x y z => ∃ ps qs, x = .dict ps ∧ y = .dict qs ∧ (∀ p ∈ ps, SeqAt.shaped p.2 = true) ∧ (∀ q ∈ qs, SeqAt.shaped q.2 = true) ∧ (ps.length = qs.length → tkD ps = tkD qs) ∧ z = .bool (dEq ps qs)
def rD (K : PySem.W.Frag) (neg : Bool) : R2 := fun x y H Q => ∃ ps qs, Rp K H x (.dict ps) ∧ Rp K H y (.dict qs) ∧ (∀ p ∈ ps, SeqAt.shaped p.2 = true) ∧ (∀ q ∈ qs, SeqAt.shaped q.2 = true) ∧ (ps.length = qs.length → tkD ps = tkD qs) ∧ Q (.bl (neg != dEq ps qs)) H
theorem op_eqD {X : Cx} (hu : X.A.units + 66 < cLine) : OpR X (compareOp .Eq) (rD X.K false) := by
  rintro pins s σ H x y v u Q I rx ry ⟨ps, qs, h1, h2, s1, s2, hk, q⟩
  obtain ⟨a, b, rfl, rfl, ty, tb, hp⟩ := dictsG I h1 h2 rx ry s1 s2 hk hu
  exact (cmpG ty tb (by omega) hp).1 _ ⟨.bl _, H, I, rfl, by simpa using q⟩
theorem od_EqD {K : PySem.W.Frag} : OpD K (rD K false) fEqD := by
  rintro H v u x y z Q h1 h2 ⟨ps, qs, rfl, rfl, s1, s2, hk, rfl⟩ q
  exact ⟨ps, qs, h1, h2, s1, s2, hk, q _ (by simpa using Sc.bl _)⟩
theorem hu66 {k : Nat} {A : Around} (r : Room k A) : A.units + 66 < cLine := by have := r.un; omega
section
variable {ρ : Rho} {Q : T → Rho → Prop} {t u : T} {ps qs : List (PyData × PyData)}
theorem xEqD (h1 : vw ρ t = some (.dict ps)) (h2 : vw ρ u = some (.dict qs)) (s1 : ∀ p ∈ ps, SeqAt.shaped p.2 = true) (s2 : ∀ q ∈ qs, SeqAt.shaped q.2 = true) (hk : ps.length = qs.length → tkD ps = tkD qs) (q : Q (.d (.bool (dEq ps qs))) ρ) : opK fEqD t u ρ Q := ⟨_, _, _, h1, h2, ⟨ps, qs, rfl, rfl, s1, s2, hk, rfl⟩, q⟩
end
end TX

/-! A dict of one's own that is walked: locked and looked at while an expression runs, one's own again behind it. -/
namespace TX
open PySem PySem.Spec L2
/-- the frame as if just entered, no parameter handed in to be changed -/
def lockZ (H : Hp) (O : Own) (C : Ctx) : Ctx := ⟨fun b => match O b with | .at _ _ => none | _ => H b, fun b => match O b with | .at _ _ => .free | z => z, C.N, C.io⟩
section
variable {K : PySem.W.Frag} {C : Ctx} {n m : Nat} {σ : St} {H H' : Hp} {O O' : Own} {ρ : Rho} {a : Addr} {od : Obj} {u : HO} {i : Nat}
theorem lockZ_no {b : Addr} (h : ∀ r p, O b ≠ .at r p) : (lockZ H O C).H0 b = H b ∧ (lockZ H O C).O0 b = O b := by
  unfold lockZ
  cases e : O b with
  | «at» r p => exact absurd e (h r p)
  | free => simp [e]
  | foreign => simp [e]
theorem lockZ_at {b : Addr} {r : Nat} {p : List Nat} (h : O b = .at r p) : (lockZ H O C).H0 b = none ∧ (lockZ H O C).O0 b = .free := by
  unfold lockZ
  simp [h]
theorem lockZ_io {b : Addr} {j : Nat} {p : List Nat} : (lockZ H O C).O0 b ≠ .at j p := fun h => by
  cases e : O b with
  | «at» r q => rw [(lockZ_at e).2] at h; cases h
  | free => have := lockZ_no (H := H) (C := C) (O := O) (b := b) (by rw [e]; intro r p z; cases z); rw [this.2, e] at h; cases h
  | foreign => have := lockZ_no (H := H) (C := C) (O := O) (b := b) (by rw [e]; intro r p z; cases z); rw [this.2, e] at h; cases h
/-- the own dict at slot i, locked and looked at -/
theorem Rel.look {tk : Bool} {ks : List PyData} {ts : List T} {xs : List PyData} (R : Rel K C n σ H O ρ) (e : ρ[i]? = some (some (.m tk ks ts))) (ex : eraseAll ts = some xs) :
    ∃ a u, σ[i]? = some (some (.ref a)) ∧ O a = .at i [] ∧ H a = some u ∧ isDk u = true ∧ ∀ od, Rel K (lockZ (L2.upd H a (.frz od u)) (dropR i O) C) n σ (L2.upd H a (.frz od u)) (dropR i O) (ρ.set i (some (.lk tk ks xs))) := by
  have hi : i < ρ.length := (List.getElem?_eq_some_iff.mp e).1
  have hiN := R.slt e
  obtain ⟨v, hv, tr⟩ := R.sl i _ e
  have main : ∀ (a : Addr) (u : HO), v = .ref a → O a = .at i [] → H a = some u → isDk u = true → (∀ od, Tr K (L2.upd H a (.frz od u)) (dropR i O) i [] (.ref a) (.lk tk ks xs)) →
      ∃ a u, σ[i]? = some (some (.ref a)) ∧ O a = .at i [] ∧ H a = some u ∧ isDk u = true ∧ ∀ od, Rel K (lockZ (L2.upd H a (.frz od u)) (dropR i O) C) n σ (L2.upd H a (.frz od u)) (dropR i O) (ρ.set i (some (.lk tk ks xs))) := by
    intro a u ev oa ha du htr
    subst ev
    refine ⟨a, u, hv, oa, ha, du, fun od => ⟨fun b o e1 e2 => ?_, fun b h => ?_, fun b r p h => R.lt b r p (dropR_at.mp h).1, fun x y r p e1 e2 => R.inj x y r p (dropR_at.mp e1).1 (dropR_at.mp e2).1, fun b r p h l => ?_, R.ln, by rw [List.length_set]; exact R.lr, fun j t h => ?_, R.hN, fun b h => ?_, fun b j p h => absurd h lockZ_io, ⟨trivial, fun b j p h => absurd h lockZ_io⟩⟩⟩
    · cases h : dropR i O b with
      | «at» r p => rw [(lockZ_at h).1] at e1; cases e1
      | free => have := lockZ_no (H := L2.upd H a (.frz od u)) (C := C) (O := dropR i O) (b := b) (by rw [h]; intro r p z; cases z); rw [this.1] at e1; exact ⟨e1, by rw [this.2, h]⟩
      | foreign => have := lockZ_no (H := L2.upd H a (.frz od u)) (C := C) (O := dropR i O) (b := b) (by rw [h]; intro r p z; cases z); rw [this.1] at e1; exact ⟨e1, by rw [this.2, h]⟩
    · obtain ⟨o, h1, h2⟩ := R.nt b fun z => h (dropR_free z)
      exact ⟨o, by rw [upd_ne fun z => h (by subst z; unfold dropR; rw [oa]; simp)]; exact h1, h2⟩
    · obtain ⟨h1, h2⟩ := dropR_at.mp h
      obtain ⟨t, z, g1, g2, g3⟩ := R.val b r p h1 l
      exact ⟨t, z, by rw [List.getElem?_set_ne (fun z => h2 z.symm)]; exact g1, g2, g3⟩
    · rw [set_get hi] at h
      split at h
      · rename_i z; subst z; cases h; exact ⟨_, hv, htr od⟩
      · rename_i z
        obtain ⟨w, h1, h2⟩ := R.sl j t h
        refine ⟨w, h1, Tr.move (r' := j) (p0 := []) (p1 := []) (fun b o e1 e2 => ?_) (fun b o q e1 e2 => ?_) t [] w h2⟩
        · exact ⟨by rw [upd_ne fun y => by subst y; rw [oa] at e2; cases e2]; exact e1, dropR_free e2⟩
        · have nb : b ≠ a := fun y => by
            subst y
            have e2' : O b = .at j q := e2
            rw [oa] at e2'
            cases e2'
            exact z rfl
          exact ⟨by rw [upd_ne nb]; exact e1, dropR_at.mpr ⟨e2, z⟩⟩
    · have h1 := dropR_foreign.mp h
      obtain ⟨o, h2, _⟩ := R.nt b (by rw [h1]; intro z; cases z)
      have := lockZ_no (H := L2.upd H a (.frz od u)) (C := C) (O := dropR i O) (b := b) (by rw [h]; intro r p z; cases z)
      exact ⟨o, by rw [this.1, upd_ne fun z => by subst z; rw [oa] at h1; cases h1]; exact h2, by rw [this.2]; exact h⟩
  have sh : ∀ {a : Addr} {u : HO} (od : Obj), O a = .at i [] → H a = some u → isDk u = true → ∀ b o, vis i O H b = some o → Shf o (msk (dropR i O) (L2.upd H a (.frz od u)) b) := fun {a u} od oa ha du b o h => by
    have hb : dropR i O b = .free := by
      unfold vis at h
      split at h
      · rename_i z; exact dropR_free z
      · cases h
      · rename_i r p z
        split at h
        · rename_i y; unfold dropR; rw [z]; simp [y]
        · cases h
    rw [msk_of hb]
    have h' := vis_le b o h
    by_cases z : b = a
    · subst z; rw [ha] at h'; cases h'; exact .inr ⟨od, _, du, .inl ⟨rfl, upd_same⟩⟩
    · exact .inl (by rw [upd_ne z]; exact h')
  cases tr with
  | mk h1 h2 h3 h4 =>
    refine main _ _ rfl h1 h2 rfl fun od => .lk (by unfold dropR; rw [h1]; simp) upd_same h3 (RpAll.sh (sh od h1 h2 rfl) _ _ (TrAll.view ts [] 0 _ xs ex h4))
  | mt h1 h2 h3 h4 =>
    refine main _ _ rfl h1 h2 rfl fun od => .lt (by unfold dropR; rw [h1]; simp) upd_same h3 (RpAll.sh (sh od h1 h2 rfl) _ _ (TrAll.view ts [] 0 _ xs ex h4))
end
end TX

/-! d.clear() as a statement: behind it the slot's dict is an empty one, shared. -/
namespace TX
open PySem PySem.Spec L2
section
variable {X : Cx} {io : List Nat} {pos p2 apos cpos : Pos} {x : Str}
end
end TX

/-! The keys of a dict of data: sorted(d), list(d), len(d). -/
namespace TX
open PySem PySem.Spec L2 PyProof.Rows
/-- the keys that a table bears -/
def KeysD (H : Hp) (a : Addr) (ks : List PyData) : Prop := (∃ kvs, Rd H a (.dK kvs) ∧ ks = kvs.map fun q => keyD q.1) ∨ ∃ kvs, Rd H a (.dT kvs) ∧ ks = kvs.map fun q => PyData.tuple (q.1.map keyD)
section
variable {X : Cx} {pins : List (Addr × Obj)} {σ : L2.St} {H : Hp} {s : Shared} {a : Addr} {ks : List PyData}
/-- the keys' values: what reads them are the tuples of the heap -/
theorem keysAt (I : Inv X pins σ H s) (h : KeysD H a ks) : ∃ (o : Obj) (es : Array DictEntry) (ep : Nat) (ws : List V), (a == sysModules) = false ∧ s.heap.get? a = some o ∧ o.ExactDict ∧ o.data = .dict es ep ∧ es.size ≤ sizeLine ∧ ws.length = es.size ∧ ks.length = es.size ∧
    (∀ (i : Nat) (e : DictEntry) (v : V), es[i]? = some e → ws[i]? = some v → RelV v e.key) ∧ ∀ M : Hp, (∀ b xs, H b = some (.tup xs) → M b = some (.tup xs)) → RpAll X.K M ws ks := by
  rcases h with ⟨kvs, rd, rfl⟩ | ⟨kvs, rd, rfl⟩
  · obtain ⟨z, sm, vs, kv, o, es, ep, ho, hx, hd, hk, hp, _⟩ := dk_rd I.hok rd
    have hl : vs.length = es.size := by rw [← hp.length]; exact Array.length_toList
    have hl2 : kvs.length = vs.length := Paired.length kv
    refine ⟨o, es, ep, kvs.map fun q => kV q.1, sm, ho, hx, hd, by omega, by rw [List.length_map]; omega, by rw [List.length_map]; omega, fun i e v he hv => ?_, fun M _ => ?_⟩
    · rw [List.getElem?_map] at hv
      cases e2 : kvs[i]? with
      | none => rw [e2] at hv; cases hv
      | some q =>
        rw [e2] at hv; cases hv
        obtain ⟨k, v⟩ := q
        obtain ⟨u, e1, _⟩ := kv_get kv e2
        obtain ⟨hkey, _⟩ := hp.get? (i := i) (e := e) (k := k) (v := u) (by rw [Array.getElem?_toList]; exact he) e1
        exact relV_key hkey
    · clear rd z kv hl2
      induction kvs with
      | nil => exact .nil
      | cons q qs ih => exact .cons (rp_kV q.1) ih
  · obtain ⟨z, sm, xs, kt, o, es, ep, ho, hx, hd, he, his, nd⟩ := dt_rd I.hok rd
    have hl : es.size = xs.length := size_of_entries he
    have hl2 : kvs.length = xs.length := Paired.length kt
    refine ⟨o, es, ep, (xs.map fun x => x.2.1).map V.ref, sm, ho, hx, hd, by omega, by rw [List.length_map, List.length_map]; omega, by rw [List.length_map]; omega, fun i e v hi hv => ?_, fun M hM => ?_⟩
    · rw [List.getElem?_map, List.getElem?_map] at hv
      have q := entry_at he i
      rw [hi] at q
      cases e2 : xs[i]? with
      | none => rw [e2] at hv; cases hv
      | some x =>
        rw [e2] at hv q
        cases hv
        have q' : e = entryOfKey (tupleKind (mixKind X.prog X.w)) x := Option.some.inj q
        rw [q']
        rfl
    · clear rd z hl2 he his hl hd ho nd
      unfold L2.KT at kt
      induction kt with
      | nil => exact .nil
      | cons h t ih => exact .cons (.tup (hM _ _ h.2.1) (rp_kVs _)) ih
theorem acc_vals {es : Array DictEntry} {ws : List V} {acc : Array Value} (hl : ws.length = es.size) (hr : ∀ (i : Nat) (e : DictEntry) (v : V), es[i]? = some e → ws[i]? = some v → RelV v e.key)
    (it : ItemsOf (fun i v => ∃ en : DictEntry, es[i]? = some en ∧ v = en.key) acc es.size) : Vals ws acc.toList := by
  refine vals_of_at (hl.trans (it.1.symm.trans Array.length_toList.symm)) fun j x u h1 h2 => ?_
  obtain ⟨en, e1, e2⟩ := it.2 j u (by rw [← Array.getElem?_toList]; exact h2)
  rw [e2]
  exact hr j en x e1 h1
def rSortD (K : PySem.W.Frag) : List V → Hp → VK → Prop := fun vs H Q => ∃ a ks, vs = [.ref a] ∧ KeysD H a ks ∧ PySem.W.AllAlike ks ∧ PySem.W.Sortable ks ∧ (∀ d ∈ ks, d.depth ≤ 60) ∧
  ∀ ys p, (∀ M : Hp, (∀ b xs, H b = some (.tup xs) → M b = some (.tup xs)) → RpAll K M ys (ks.mergeSort le0)) → H p = none → Q (.ref p) (L2.upd H p (.lst ys))
theorem cr_sortedDct (hc : X.calm = true) (hu : X.A.units + 64 < cLine) : CallR X (.builtin "sorted") (rSortD X.K) := by
  rintro pins s σ H vs us Q I r ⟨a, ks, rfl, hk, al, so, dp, q⟩
  rw [Vals.ref1 r]
  obtain ⟨o, es, ep, ws, sm, ho, hx, hd, hz, hl, hl2, hr, hM⟩ := keysAt I hk
  refine PySem.Calls.call_function_entry kind_sorted plain_sorted entry_sorted (args_sorted1 _) ?_
  unfold Builtin.«sorted»
  refine wpAny_bind (m := checkCount "sorted" 1 1 _) (wpAny_pure ?_)
  refine wpAny_bind (PySem.W.kdu_collect (A := X.A.in1) (kdl_raw sm hx hd) (I.ok.hd hc) ho hz fun h' tk acc kp it => ?_)
  have rv := acc_vals hl hr it
  have la : acc.toList.length = es.size := by rw [← rv.length]; exact hl
  refine wpAny_bind (wpAny_newList ?_ (by rw [la]; exact hz))
  have hob : (h'.push { cls := .type "list", data := .seq acc.toList.toArray }).get? h'.objs.size = some (seqObj "list" acc.toList.toArray 0) := Heap.get?_push_size _ rfl
  have kb : ∀ b o, s.heap.get? b = some o → (h'.push { cls := .type "list", data := .seq acc.toList.toArray }).get? b = some o := fun b o e => Heap.get?_push_of_some _ (kp b o e)
  have sn : s.heap.get? h'.objs.size = none := by
    cases z : s.heap.get? h'.objs.size with
    | none => rfl
    | some o => exact absurd (Heap.lt_size (kp _ _ z)) (Nat.lt_irrefl _)
  have hn : H h'.objs.size = none := I.hok.gone sn
  have ne : ∀ b o, s.heap.get? b = some o → b ≠ h'.objs.size := fun b o e z => by rw [z, sn] at e; cases e
  have kn : ks.length = ws.length := by omega
  have hlen : ws.length = ks.length := kn.symm
  have zf : (ks.zip ws).map (·.1) = ks := zip_fst kn
  obtain ⟨as, ra, ld⟩ := RpAll.reads I ks ws acc.toList (hM H fun _ _ e => e) rv
  generalize hh2 : h'.push { cls := .type "list", data := .seq acc.toList.toArray } = h2 at hob kb ⊢
  have er : PySem.W.EachIs (fun v (b : PyData × V) => ∃ as, Reads h2 v b.1 as ∧ h'.objs.size ∉ as) acc.toList (ks.zip ws) := by
    have gen : ∀ {ds : List PyData} {us : List V} {vs : List Value}, RpAll X.K H us ds → Vals us vs → PySem.W.EachIs (fun v (b : PyData × V) => ∃ as, Reads h2 v b.1 as ∧ h'.objs.size ∉ as) vs (ds.zip us) := by
      intro ds us vs hd rv
      induction rv generalizing ds with
      | nil => cases hd; exact .nil
      | @cons u v us vs r1 r2 ih =>
        cases hd with
        | cons h1 h2' =>
          rename_i d ds
          obtain ⟨as, q1, l1⟩ := Rp.reads I d _ _ h1 r1
          exact .cons ⟨as, PyProof.Rows.Reads.keeps kb q1, fun hm => by obtain ⟨o', z, _⟩ := l1 _ hm; rw [hn] at z; cases z⟩ (ih h2')
    exact gen (hM H fun _ _ e => e) rv
  refine wpAny_bind (wpAny_holding ?_)
  refine PySem.W.list_sort_data (s := { s with heap := h2, toks := tk }) (bs := ks.zip ws) (enc := fun b => b.1) (R := fun u b => RelV b.2 u) (vs := acc.toList) hob (each_pair (R := fun _ _ => True) rv hlen) er (by rw [zf]; exact al) (by rw [zf]; exact so) (by rw [List.length_zip]; omega) (fun b hb => ?_) fun out ol oe => ?_
  · have : b.1 ∈ ks := by rw [← zf]; exact List.mem_map.mpr ⟨b, hb, rfl⟩
    have := dp _ this
    show X.A.units + 1 + 1 + _ < cLine
    omega
  · obtain ⟨c, hc'⟩ := sortedHeap_at (vs := acc.toList) (out := out.toArray) hob
    have vo := each_out oe
    have ms : ((ks.zip ws).mergeSort (PySem.W.dataLe false fun b => b.1)).map (·.1) = ks.mergeSort le0 := by
      have := PySem.W.sort_maps (r := PySem.W.dataLe false fun b : PyData × V => b.1) (s := le0) (l := ks.zip ws) (fun b : PyData × V => b.1) (fun _ _ _ _ => rfl)
      rw [zf] at this
      exact this
    refine wpAny_pure ⟨_, rfl, ?_⟩
    refine ⟨.ref h'.objs.size, L2.upd H h'.objs.size (.lst (((ks.zip ws).mergeSort (PySem.W.dataLe false fun b => b.1)).map (·.2))), I.laidN (t' := tk) (fun b o e => ?_) sn hn ⟨?_, out, c, vo, hc'⟩, rfl, ?_⟩
    · have := kb b o e
      rw [sortedHeap_old (ne b o e) (Heap.lt_size this)]
      exact this
    · rw [List.length_map, List.length_mergeSort, List.length_zip]; omega
    · refine q _ _ (fun M hm => ?_) hn
      rw [← ms]
      exact rp_pairs (bs := []) fun b hb => rp_mem (hM M hm) b (List.mem_mergeSort.mp hb)
end
/-! ### over trees -/
/-- the keys of the dict that a value shows -/
def dkeys (ρ : Rho) : T → Option (List PyData)
  | .a r p => match getT ρ r p with
    | some (.m _ ks _) => some ks
    | _ => none
  | .d (.dict ps) => some (ps.map (·.1))
  | .lk _ ks _ => some ks
  | .m _ ks _ => some ks
  | _ => none
theorem keys_tr {K : PySem.W.Frag} {H : Hp} {O : Own} {r : Nat} {p : List Nat} {v : V} {tk : Bool} {ks : List PyData} {ts : List T} (h : Tr K H O r p v (.m tk ks ts)) : ∃ a, v = .ref a ∧ KeysD H a ks := by
  cases h with
  | mk h1 h2 h3 h4 => exact ⟨_, rfl, .inl ⟨_, .inl h2, h3⟩⟩
  | mt h1 h2 h3 h4 => exact ⟨_, rfl, .inr ⟨_, .inl h2, h3⟩⟩
theorem keys_val {K : PySem.W.Frag} {C : Ctx} {n m : Nat} {σ : L2.St} {H : Hp} {O : Own} {ρ : Rho} {t : T} {v : V} {ks : List PyData} (R : Rel K C m σ H O ρ) (V1 : Val K H O n v t) (h : dkeys ρ t = some ks) : ∃ a, v = .ref a ∧ KeysD H a ks := by
  cases t with
  | a r p =>
    obtain ⟨⟨ad, rfl, e2, _⟩, _⟩ := V1
    have e' : (match getT ρ r p with | some (.m _ ks _) => some ks | _ => none) = some ks := h
    split at e'
    · rename_i tk ks' ts g
      cases e'
      exact keys_tr (R.alias g rfl e2)
    · cases e'
  | d x =>
    cases x with
    | dict ps =>
      cases h
      have rp := val_d V1
      cases rp with
      | dk h1 h2 h3 => exact ⟨_, rfl, .inl ⟨_, rd_mono msk_le h1, h2⟩⟩
      | dt h1 h2 h3 => exact ⟨_, rfl, .inr ⟨_, rd_mono msk_le h1, h2⟩⟩
    | _ => cases h
  | lk tk ks' xs =>
    cases h
    cases V1.1 with
    | lk h1 h2 h3 h4 => exact ⟨_, rfl, .inl ⟨_, .inr ⟨_, h2⟩, h3⟩⟩
    | lt h1 h2 h3 h4 => exact ⟨_, rfl, .inr ⟨_, .inr ⟨_, h2⟩, h3⟩⟩
  | m tk ks' ts =>
    cases h
    exact keys_tr V1.1
  | _ => cases h
def kSortD : KT := fun ts ρ Q => ∃ t ks, ts = [t] ∧ dkeys ρ t = some ks ∧ PySem.W.AllAlike ks ∧ PySem.W.Sortable ks ∧ (∀ d ∈ ks, d.depth ≤ 60) ∧ Q (.l ((ks.mergeSort le0).map T.d)) ρ
theorem kSortD_mono : MonK kSortD := fun ts ρ Q Q' h ⟨t, ds, e, e1, e2, e3, e4, q⟩ => ⟨t, ds, e, e1, e2, e3, e4, h _ _ q⟩
theorem tups_free {K : PySem.W.Frag} {C : Ctx} {m : Nat} {σ : L2.St} {H : Hp} {O : Own} {ρ : Rho} (R : Rel K C m σ H O ρ) : ∀ b xs, H b = some (.tup xs) → msk O H b = some (.tup xs) := fun b xs h => by
  have z : O b = .free := by
    by_cases z : O b = .free
    · exact z
    · obtain ⟨o, h2, w⟩ := R.nt b z
      rw [h] at h2; cases h2
      exact w.elim
  rw [msk_of z]; exact h
theorem fn_sortedD {K : PySem.W.Frag} : FnK K (rSortD K) kSortD := by
  rintro C n m σ H0 H O0 O ρ ts vs Q hn hm R F V ⟨t, ks, rfl, e1, e2, e3, e4, q⟩
  obtain ⟨v, rfl, V1⟩ := V.one
  obtain ⟨a, rfl, hk⟩ := keys_val R V1 e1
  exact ⟨a, ks, rfl, hk, e2, e3, e4, fun ys p hy hp => q.newL hn R F (hy _ (tups_free R)) p hp⟩
section
variable {X : Cx} {e : Expr} {tas : TwA} {p pos : Pos}
theorem le_sortedD (hc : X.calm = true) (hu : X.A.units + 64 < cLine) (hg : Gl X "sorted") (hm : X.mg "sorted" = none) (ha : LA X [e] tas) (he : starEach [e] X.env = (false, eval e X.env) :: starEach [] X.env := by rfl) (hpl : (backTo pos (starEach [] X.env)).any (·.1) = false := by rfl) :
    LE X (.Call (.Name "sorted" p) [e] [] pos) (wFn kSortD tas) := le_fn (fun t h => pe_callB (cr_sortedDct hc hu) hg hm (by decide +kernel) h (he := he) (hpl := hpl)) kSortD_mono fn_sortedD ha
end
theorem xSortD {ρ : Rho} {Q : T → Rho → Prop} {t : T} {ks : List PyData} (h : dkeys ρ t = some ks) (h1 : PySem.W.AllAlike ks) (h2 : PySem.W.Sortable ks) (h3 : ∀ d ∈ ks, d.depth ≤ 60) (q : Q (.l ((ks.mergeSort le0).map T.d)) ρ) : kSortD [t] ρ Q := ⟨t, ks, rfl, h, h1, h2, h3, q⟩
end TX

/-! Dicts by comprehensions whose keys are tuples. -/
namespace TX
open PySem PySem.Spec L2
theorem d_dictSetT {X : Cx} {pins : List (Addr × Obj)} {σ : L2.St} {H : Hp} {s : Shared} {E : Value → Shared → Prop} {D b : Addr} {kvs : List (List Key × V)} {k : List Key} {v : V} {u r : Value} {Q : Unit → Shared → Prop} (hu : X.A.units + 1 < cLine) (I : L2.Inv X pins σ H s) (hD : H D = some (.dT kvs)) (hz : kvs.length < sizeLine)
    (eb : H b = some (.tup (k.map kV))) (ry : RelV (.ref b) u) (rv : RelV v r) (h : ∀ s', L2.Inv X pins σ (L2.upd H D (.dT (putK kvs k v))) s' → Q () s') : wpAny (model X.prog X.w) X.A (dictSet D u r) Q E s := by
  cases (show u = Value.ref b from ry)
  obtain ⟨z, hd, xs, rel, dd⟩ := dt_of I.hok hD
  have hz2 : xs.length ≤ sizeLine := by rw [← Paired.length rel]; exact z
  have hl : (putK kvs k v).length ≤ sizeLine := by have := length_putK kvs k v; omega
  refine wpAny_dictSet_heap (knd := tupleKind (mixKind X.prog X.w)) (hsz := hz2) (show X.A.units < cLine by omega) (key_of I.hok eb) dd fun h' dd' hs => h _ ?_
  obtain ⟨q, es, ep, hq, h2, h3, h4, _, h5⟩ := dd'
  refine d_write I (by rw [hD]; exact True.intro) hs ⟨q, hq⟩ ⟨hl, hd, _, (rel.put k eb rv).keeps fun c ys ec => ?_, q, es, ep, hq, h2, h3, h4, h5⟩
  rw [upd_ne (ne_of ec hD (fun z => nomatch z))]
  exact ec
section
variable {X : Cx}
/-- the same with keys that are tuples of these -/
def tDcT (wi : TI) (g : TG) (tt : TT) (tk tv : TE) (vs : List Nat) : TE := fun σ H Q => wi σ H fun J H1 => ∀ D, H1 D = none → ∃ W : Nat → Nat → Hp → Prop, (∃ m, W 0 m (L2.upd H1 D (.dT []))) ∧ ∀ i m H, W i m H →
  (J.stop i H ∧ Q (.ref D) H) ∨ (J.go i H ∧ ∃ Nx : Hp → Prop, (∀ H', Nx H' → ∃ m', m' < m ∧ W (i + 1) m' H') ∧ ∀ x H', J.yld i H x H' → g x (wipe σ vs) H' fun σ2 H2 => wipe σ2 vs = wipe σ vs ∧ tt σ2 H2 fun b H3 =>
    if b = true then tk σ2 H3 fun y H4 => tv σ2 H4 fun z H5 => ∃ kvs k b, y = .ref b ∧ H5 b = some (.tup (k.map kV)) ∧ H5 D = some (.dT kvs) ∧ kvs.length < sizeLine ∧ Nx (L2.upd H5 D (.dT (putK kvs k z))) else Nx H3)
theorem dcT_core {pins : List (Addr × Obj)} {s : Shared} {σ : St} {H : Hp} {Q : VK} {kx vx tg iter : Expr} {ifs : List Expr} {scope : Scope} {own : List (Str × Nat)} {pos pos' : Pos} {wi : TI} {g : TG} {tt : TT} {tk tv : TE} {use : Option (Value → Sem Unit)} {Qf : Value → Shared → Prop}
    (hu : X.A.units + 1 < cLine) (hc : X.calm = true) (hN : X.N.Nodup) (I : L2.Inv X pins σ H s) (hi : PI X tg iter wi) (ok : BlkOk X.N X.env.scope scope own)
    (hg : ∀ (s : Shared) (H : Hp) (C : Addr) (cl : List (Str × Addr)) (fp : List Addr), PG (X.blk s H scope (compEnvC scope cl C X.env) fp) tg g) (ht : ∀ (s : Shared) (H : Hp) (C : Addr) (cl : List (Str × Addr)) (fp : List Addr), PTs (X.blk s H scope (compEnvC scope cl C X.env) fp) ifs tt)
    (hk : ∀ (s : Shared) (H : Hp) (C : Addr) (cl : List (Str × Addr)) (fp : List Addr), PE (X.blk s H scope (compEnvC scope cl C X.env) fp) kx tk)
    (he : ∀ (s : Shared) (H : Hp) (C : Addr) (cl : List (Str × Addr)) (fp : List Addr), PE (X.blk s H scope (compEnvC scope cl C X.env) fp) vx tv) (hs : ∀ x, foldedSetIterable iter X.env x = pure x)
    (h : tDcT wi g tt tk tv (own.map (·.2)) σ H Q)
    (hRR : ∀ D C s' m H', L2.Inv X pins σ H' s' → Q (.ref D) H' → s'.heap.Ns C m → FpOk X pins H' C → compPost (model X.prog X.w) X.A X.xe use Qf (.ref D) C (.ok .next) s') :
    wpAny (model X.prog X.w) X.A (comprehension (.DictComp kx vx [⟨tg, iter, ifs, 0⟩] scope pos) scope X.env pos' newDict false (eval iter X.env) use) Qf X.xe s := by
  have hfree : ∀ y ∈ scope.names, y.2 = .free → ∃ c, X.env.cells.lookup y.1 = some c := fun y hy e => by
    rcases ok.free y hy e with k | k
    · exact I.ok.has _ (.inl k)
    · exact I.ok.has _ (.inr k)
  refine wpAny_comprehension_free (use := use) rfl hs (closure_ok hfree) ok.kind (fun y hy e => by rw [ok.uniq y hy, e])
    (thn (hi.run pins s σ H _ I h) fun xv s1 hx => thn hx fun itv s2 h2 => ?_)
  obtain ⟨it, fp, tn, J, H2, e, I2, T, st2, f2, q⟩ := h2
  subst e
  refine wpAny_newObj_type (newEnv_comp ?_)
  generalize hD : s2.heap.objs.size = D
  have hDn : H2 D = none := I2.hok.fresh (Nat.le_of_eq hD)
  obtain ⟨W, ⟨m0, w0⟩, turn⟩ := q D hDn
  
  generalize hs3 : ({ s2 with heap := s2.heap.push { cls := .type "dict", data := .dict #[] } } : Shared) = s3
  have I3 : L2.Inv X pins σ (L2.upd H2 D (.dT [])) s3 := by
    rw [← hs3]
    refine I2.laid (t' := s2.toks) (fun b o e => Heap.get?_push_of_some _ e) (Nat.le_of_eq hD) ?_
    rw [← hD]
    exact dt_empty s2.heap I2.big
  have h3 : s3.heap = s2.heap.push { cls := .type "dict", data := .dict #[] } := by rw [← hs3]
  have sz : ∀ b ∈ fp, b < s2.heap.objs.size := fun b hb => by
    obtain ⟨o, e, _⟩ := T.obj _ _ st2 b hb
    exact Heap.lt_size e
  have f3 : ∀ b ∈ fp, FpOk X pins (L2.upd H2 D (.dT [])) b ∧ b < s3.heap.objs.size := fun b hb => by
    have hlt := sz b hb
    refine ⟨⟨?_, (f2 b hb).2⟩, by rw [h3, Heap.size_push]; exact Nat.lt_succ_of_lt hlt⟩
    rw [upd_ne (by rw [← hD]; exact Nat.ne_of_lt hlt)]
    exact (f2 b hb).1
  have st3 : tn 0 s3.heap := T.keep _ _ _ st2 fun b _ o e => by rw [h3]; exact Heap.get?_push_of_some _ e
  have I4 := block_start I3 ok hN f3
  have pg := hg s3 (L2.upd H2 D (.dT [])) s3.heap.objs.size (cellsFrom (s3.heap.objs.size + 1) scope.names (cloFrom X.env.cells scope.names [])) fp
  have pt := ht s3 (L2.upd H2 D (.dT [])) s3.heap.objs.size (cellsFrom (s3.heap.objs.size + 1) scope.names (cloFrom X.env.cells scope.names [])) fp
  have pk := hk s3 (L2.upd H2 D (.dT [])) s3.heap.objs.size (cellsFrom (s3.heap.objs.size + 1) scope.names (cloFrom X.env.cells scope.names [])) fp
  have pe := he s3 (L2.upd H2 D (.dT [])) s3.heap.objs.size (cellsFrom (s3.heap.objs.size + 1) scope.names (cloFrom X.env.cells scope.names [])) fp
  show codeAny _ _ (.compStart (.DictComp kx vx [⟨tg, iter, ifs, 0⟩] scope pos) 0 (.ref it) (.ref D) (compEnvC scope (cellsFrom (s3.heap.objs.size + 1) scope.names (cloFrom X.env.cells scope.names [])) s3.heap.objs.size X.env)) (compPost (model X.prog X.w) X.A X.xe use Qf (.ref D) s3.heap.objs.size) { s3 with heap := pushCells (s3.heap.push { cls := .type "dict", data := .dict #[] }) scope.names }
  have nfp : ∀ b ∈ fp, (L2.upd H2 D (.dT [])) b = none := fun b hb => (f3 b hb).1.1
  generalize hce : compEnvC scope (cellsFrom (s3.heap.objs.size + 1) scope.names (cloFrom X.env.cells scope.names [])) s3.heap.objs.size X.env = ce at I4 pg pt pk pe ⊢
  have cL : ce.locals = s3.heap.objs.size := by subst hce; rfl
  generalize hH3 : L2.upd H2 D (.dT []) = H3 at I3 I4 pg pt pk pe w0 nfp f3
  generalize hs4 : ({ s3 with heap := pushCells (s3.heap.push { cls := .type "dict", data := .dict #[] }) scope.names } : Shared) = s4 at I4 ⊢
  have st4 : tn 0 s4.heap := T.keep _ _ _ st3 fun b _ o e => by rw [← hs4]; exact pushCells_keeps _ _ _ _ (Heap.get?_push_of_some _ e)
  have stat : ∀ {σ' : St} {H' : Hp} {s' : Shared}, L2.Inv (X.blk s3 H3 scope ce fp) [] σ' H' s' → (∀ b ∈ fp, H' b = none) → ∀ b ∈ fp, FpOk (X.blk s3 H3 scope ce fp) [] H' b := fun {σ' H' s'} I' hn b hb =>
    ⟨hn b hb, (I'.ok.exf b hb).1, I'.ok.exfs b hb, .inl hb, fun x c e => (I'.ok.exf b hb).2 x c e, fun p hp => absurd (show p ∈ ([] : List (Addr × Obj)) ++ [] from hp) (by simp)⟩
  have loop : codeAny (model X.prog X.w) X.A (.compLoop (.DictComp kx vx [⟨tg, iter, ifs, 0⟩] scope pos) 0 (.ref it) (.ref D) ce) (compPost (model X.prog X.w) X.A X.xe use Qf (.ref D) s3.heap.objs.size) s4 := by
    refine compLoop_anyD (fun n s' => ∃ i H', L2.Inv (X.blk s3 H3 scope ce fp) [] (wipe σ (own.map (·.2))) H' s' ∧ tn i s'.heap ∧ (∀ b ∈ fp, H' b = none) ∧ W i n H') ?_ m0 ⟨0, H3, I4, st4, nfp, w0⟩
    rintro n s5 ⟨i, H5, I5, st5, n5, w5⟩
    rcases turn i n H5 w5 with ⟨stop, qq⟩ | ⟨go, Nx, hNx, step⟩
    · have td := T.done (X.blk s3 H3 scope ce fp) rfl rfl rfl hc i [] s5 _ H5 (fun _ _ => False) I5 (stat I5 n5) st5 stop
      refine thnF td fun r s6 ⟨hr, I6⟩ => ?_
      subst hr
      
      have I7 : L2.Inv X pins σ H5 s6 := I3.call' (ch := fp) I6.os I6.base I6.hok I6.bare fun b hb => ⟨(f3 b hb).1.2.2.2.1, (f3 b hb).1.2.1, (f3 b hb).1.2.2.2.2.1, (f3 b hb).1.2.2.2.2.2⟩
      have nC : H5 s3.heap.objs.size = none := by
        have z : H5 ce.locals = none := I6.free
        rw [cL] at z
        exact z
      obtain ⟨m, hn, _⟩ := I6.loc
      have hn : s6.heap.Ns ce.locals m := hn
      rw [cL] at hn
      exact hRR D s3.heap.objs.size s6 m H5 I7 qq hn (I3.fpOk (Nat.le_refl _) nC)
    · have ti := T.item (X.blk s3 H3 scope ce fp) rfl rfl rfl hc i [] s5 _ H5 (fun _ _ => False) I5 (stat I5 n5) st5 go
      refine thnF ti fun r s6 ⟨u, hr, h6⟩ => ?_
      subst hr
      refine thnF h6 fun _ s7 ⟨x, H7, I7, r7, y7, st7, n7⟩ => ?_
      have I7' := I7.pinned (stat I7 n7) (T.obj _ _ st7)
      refine thnF (pg.run _ s7 _ H7 x u _ I7' r7 (step x H7 y7)) fun _ s8 ⟨σ8, H8, I8, hw8, q8⟩ => ?_
      refine thnF (pt.run _ s8 σ8 H8 _ I8 q8) fun b s9 ⟨H9, I9, q9⟩ => ?_
      
      have fin : ∀ {s' : Shared} {H' : Hp}, L2.Inv (X.blk s3 H3 scope ce fp) ([] ++ pinsAt fp s7.heap) σ8 H' s' → Nx H' → ∃ m, m < n ∧ ∃ i H', L2.Inv (X.blk s3 H3 scope ce fp) [] (wipe σ (own.map (·.2))) H' s' ∧ tn i s'.heap ∧ (∀ b ∈ fp, H' b = none) ∧ W i m H' := fun {s' H'} I' nx => by
        obtain ⟨m', hm, w'⟩ := hNx H' nx
        have pin' : ∀ b ∈ fp, ∀ o, s7.heap.get? b = some o → s'.heap.get? b = some o ∧ H' b = none := fun b hb o e =>
          let z := I'.pin (b, o) (List.mem_append_right _ (List.mem_append_right _ (mem_pinsAt hb e)))
          ⟨z.1, z.2.1⟩
        have hl : (wipe σ (own.map (·.2))).length = σ8.length := by rw [← hw8, wipe_length]
        refine ⟨m', hm, i + 1, H', (I'.unpinned (pins := [])).weak hl (fun j v e => ?_), T.keep _ _ _ st7 fun b hb o e => (pin' b hb o e).1, fun b hb => ?_, w'⟩
        · rw [← hw8] at e
          exact (wipe_some e).1
        · obtain ⟨o, e, _⟩ := T.obj _ _ st7 b hb
          exact (pin' b hb o e).2
      cases b with
      | false =>
        simp only [Bool.false_eq_true, if_false] at q9 ⊢
        exact fin I9 q9
      | true =>
        simp only [if_true] at q9 ⊢
        refine thnF (pk.run _ s9 σ8 H9 _ I9 q9) fun z s10 ⟨yk, H10, I10, r10, q10⟩ => ?_
        refine thnF (pe.run _ s10 σ8 H10 _ I10 q10) fun z2 s11 ⟨yv, H11, I11, r11, kvs, k, b, ek, hb11, hD11, hz11, nx⟩ => ?_
        subst ek
        exact d_dictSetT (X := X.blk s3 H3 scope ce fp) hu I11 hD11 hz11 hb11 r10 r11 fun s12 I12 => fin I12 nx
  exact codeAny_compStart_dict loop (T.self X.A 0 _ _ _ st4 loop)
theorem pe_dcT {kx vx tg iter : Expr} {ifs : List Expr} {scope : Scope} {own : List (Str × Nat)} {pos : Pos} {wi : TI} {g : TG} {tt : TT} {tk tv : TE} (hu : X.A.units + 1 < cLine) (hc : X.calm = true) (hN : X.N.Nodup) (hi : PI X tg iter wi) (ok : BlkOk X.N X.env.scope scope own)
    (hg : ∀ (s : Shared) (H : Hp) (C : Addr) (cl : List (Str × Addr)) (fp : List Addr), PG (X.blk s H scope (compEnvC scope cl C X.env) fp) tg g) (ht : ∀ (s : Shared) (H : Hp) (C : Addr) (cl : List (Str × Addr)) (fp : List Addr), PTs (X.blk s H scope (compEnvC scope cl C X.env) fp) ifs tt)
    (hk : ∀ (s : Shared) (H : Hp) (C : Addr) (cl : List (Str × Addr)) (fp : List Addr), PE (X.blk s H scope (compEnvC scope cl C X.env) fp) kx tk)
    (he : ∀ (s : Shared) (H : Hp) (C : Addr) (cl : List (Str × Addr)) (fp : List Addr), PE (X.blk s H scope (compEnvC scope cl C X.env) fp) vx tv) (hs : ∀ x, foldedSetIterable iter X.env x = pure x := by intro _; rfl) :
    PE X (.DictComp kx vx [⟨tg, iter, ifs, 0⟩] scope pos) (tDcT wi g tt tk tv (own.map (·.2))) := by
  refine ⟨fun pins s σ H Q I h => ?_⟩
  rw [arm_eval_DictComp]
  refine dcT_core hu hc hN I hi ok hg ht hk he hs h fun D C s' m H' I' q hn f => ⟨m, hn, fun h'' sb => ?_⟩
  obtain ⟨f0, f1, f2, f3, f4, f5⟩ := f
  exact ⟨.ref D, H', I'.turned (t' := s'.toks) (fun b o hb e => (sb.2 b hb).trans e) f0 f1 f3 f4 f5, rfl, q⟩
end
section
variable {wi : TwI} {g : TwG} {tt : TwT} {tk tv : TwE}
def wDcT (wi : TwI) (g : TwG) (tt : TwT) (tk tv : TwE) (vs : List Nat) : TwE := fun ρ Q E => wi ρ (fun xs ρ1 => noNd ρ1 vs ∧ xs.length ≤ 1000000 ∧ ∃ P : Nat → List (List Key × PyData) → Rho → Prop, P 0 [] (wipeR ρ1 vs) ∧
  (∀ i x acc ρ2, xs[i]? = some x → P i acc ρ2 → g x ρ2 (fun ρ3 => tt ρ3 (fun b ρ4 => if b = true then tk ρ4 (fun t ρ5 => ∃ k, t = .d (tupD k) ∧ tv ρ5 (fun u ρ6 => noNd ρ6 vs ∧ ∃ y, erase u = some y ∧ P (i + 1) (putD acc k y) (wipeR ρ6 vs)) exN) exN else noNd ρ4 vs ∧ P (i + 1) acc (wipeR ρ4 vs)) exN) exN) ∧
  ∀ acc ρ2, P xs.length acc ρ2 → Q (mK2 acc) (restR ρ1 ρ2 vs)) E
theorem wDcT_mono {vs : List Nat} (hi : MonE wi) : MonE (wDcT wi g tt tk tv vs) := fun ρ Q Q' E E' h he q => hi ρ _ _ E E' (fun xs ρ1 ⟨h1, h2, P, p0, ps, pd⟩ => ⟨h1, h2, P, p0, ps, fun acc ρ2 z => h _ _ (pd acc ρ2 z)⟩) he q
theorem dcT_run {K : PySem.W.Frag} {C : Ctx} {W : WX} {n : Nat} {vs : List Nat} {σ : L2.St} {H : Hp} {Q : VK} (hi : MonE wi) (hg : MonG g) (ht : MonE tt) (hk : MonE tk) (he : MonE tv) (hn : C.N ≤ n) (hv : ∀ j ∈ vs, j < C.N)
    (h : lfE K C W n (wDcT wi g tt tk tv vs) σ H Q) : tDcT (lfI K C W n wi) (lfG K C (fun _ _ _ _ => False) vs (n + 1) g) (lfT K C (fun _ _ _ _ => False) (n + 1) tt) (lfE K C (fun _ _ _ _ => False) (n + 1) tk) (lfE K C (fun _ _ _ _ => False) (n + 2) tv) vs σ H Q := by
  obtain ⟨O, ρ, R, q⟩ := h
  refine ⟨O, ρ, R, hi ρ _ _ _ _ (fun xs ρ1 ⟨nn, sz, P, p0, ps, pd⟩ => ?_) (fun _ _ z => z) q⟩
  intro J H1 O1 R1 F1 Y D hD
  obtain ⟨RA, FA, UA⟩ := R1.alloc (o := .dT []) hD trivial
  have FA' : Frm C.N n H O (upd H1 D (.dT [])) (lay n D O1) := F1.trans FA (Nat.le_refl _)
  refine ⟨fun i m H2 => m = xs.length - i ∧ i ≤ xs.length ∧ ∃ O2 ρ2 acc ws, Rel K C (n + 1) (wipe σ vs) H2 O2 ρ2 ∧ Frm C.N n H1 O1 H2 O2 ∧ O2 D = .at n [] ∧ (∀ b q, O2 b = .at n q → b = D ∧ q = []) ∧ H2 D = some (.dT ws) ∧ KRp K (msk O2 H2) ws acc ∧ acc.length ≤ i ∧ P i acc ρ2 ∧ ∀ j ∈ vs, ∀ t, ρ2[j]? ≠ some (some t),
    ⟨_, rfl, Nat.zero_le _, _, wipeR ρ1 vs, [], [], relWipe RA nn rfl, FA, lay_same, UA, upd_same, .nil, Nat.le_refl _, p0, fun j hj t => by rw [wipeR_get, if_pos hj]; split <;> simp⟩, ?_⟩
  rintro i m H2 ⟨rfl, hi', O2, ρ2, acc, ws, R2, F2, oD, uD, hH, ha, al, p, hw⟩
  by_cases hlt : i < xs.length
  · have ex : xs[i]? = some xs[i] := List.getElem?_eq_getElem hlt
    refine .inr ⟨Y.go i _ H2 O2 F2.fre ex, fun H6 => ∃ O6 ρ6 acc6 ws6, Rel K C (n + 1) (wipe σ vs) H6 O6 ρ6 ∧ Frm C.N n H1 O1 H6 O6 ∧ O6 D = .at n [] ∧ (∀ b q, O6 b = .at n q → b = D ∧ q = []) ∧ H6 D = some (.dT ws6) ∧ KRp K (msk O6 H6) ws6 acc6 ∧ acc6.length ≤ i + 1 ∧ P (i + 1) acc6 ρ6 ∧ ∀ j ∈ vs, ∀ t, ρ6[j]? ≠ some (some t),
      fun H6 h6 => ⟨xs.length - (i + 1), by omega, rfl, hlt, h6⟩, fun v H3 y => ?_⟩
    obtain ⟨hu, rp⟩ := Y.yld i _ v H2 O2 H3 F2.fre ex y R2.nt
    obtain ⟨R3, kp⟩ := rel_yield R2 hu
    have F3 : Frm C.N (n + 1) H2 O2 H3 O2 := ⟨fun b o e1 e2 => ⟨kp b o e1, e2⟩, fun _ _ _ e _ => e, fun b o r p e1 e2 _ _ => ⟨kp b o e1, e2⟩, fun _ _ _ e _ _ => e⟩
    have nolab : ∀ {b r q}, O2 b = .at r q → r < C.N → r ∉ vs := fun {b r q} e l hr => by
      obtain ⟨t, z, h1, _⟩ := R2.val b r q e l
      exact hw r hr t h1
    refine ⟨O2, ρ2, xs[i], R3, rp, hg _ _ _ _ _ _ (fun ρ3 q3 => ?_) noneW (ps i _ acc ρ2 ex p)⟩
    intro σ4 H4 O4 R4 F4 w4
    have F24 : Frm C.N (n + 1) H2 O2 H4 O4 := ⟨F3.fre.trans F4.fre, fun b r q e l => F4.pl b r q e l (nolab e l), fun b o r q e1 e2 l1 l2 => F4.tm b o r q (kp b o e1) e2 l1 l2, fun b r q e l1 l2 => F4.nw b r q e l1 l2⟩
    have ww : wipe σ4 vs = wipe σ vs := w4.trans (wipe_twice σ vs)
    refine ⟨ww, O4, ρ3, R4, ht ρ3 _ _ _ _ (fun b ρ4 q4 => ?_) noneW q3⟩
    intro H5 O5 R5 F5
    have F25 := F24.trans F5 (Nat.le_refl _)
    have dk : ∀ {H' O'}, Frm C.N (n + 1) H2 O2 H' O' → H' D = some (.dT ws) ∧ O' D = .at n [] := fun {H' O'} f => f.tm D _ n [] hH oD hn (Nat.lt_succ_self n)
    have du : ∀ {H' O'}, Frm C.N (n + 1) H2 O2 H' O' → ∀ b q, O' b = .at n q → b = D ∧ q = [] := fun {H' O'} f b q e => uD b q (f.nw b n q e hn (Nat.lt_succ_self n))
    cases b with
    | false =>
      obtain ⟨nn4, q4⟩ := q4
      have RW := relWipe (σ2 := σ4) R5 nn4 rfl
      rw [ww] at RW
      exact ⟨O5, wipeR ρ4 vs, acc, ws, RW, F2.trans (F25.le (Nat.le_succ n)) (Nat.le_refl _), (dk F25).2, du F25, (dk F25).1, ha.fre F25.fre, Nat.le_succ_of_le al, q4, fun j hj t => by rw [wipeR_get, if_pos hj]; split <;> simp⟩
    | true =>
      refine ⟨O5, ρ4, R5, hk ρ4 _ _ _ _ (fun t ρ5 q5 => ?_) noneW q4⟩
      intro kv H6 O6 R6 F6 V6
      obtain ⟨k, ek, q5⟩ := q5
      subst ek
      have F26 := F25.trans F6 (Nat.le_refl _)
      obtain ⟨kb, rfl, hkb⟩ := rp_tupk (val_d V6)
      obtain ⟨zb1, zb2⟩ := msk_some hkb
      refine ⟨O6, ρ5, R6, he ρ5 _ _ _ _ (fun u ρ6 q6 => ?_) noneW q5⟩
      intro y H7 O7 R7 F7 V7
      obtain ⟨nn6, yd, ey, q6⟩ := q6
      have F27 : Frm C.N (n + 1) H2 O2 H7 O7 := F26.trans (F7.le (Nat.le_succ _)) (Nat.le_refl _)
      obtain ⟨hD7, oD7⟩ := dk F27
      have al' : ws.length = acc.length := ha.length
      refine ⟨ws, k, kb, rfl, (F7.fre kb _ zb2 zb1).1, hD7, by rw [al', sizeLine_eq]; omega, ?_⟩
      have R8 := R7.cut (n := n + 1) (Nat.le_succ_of_le hn)
      have oD8 : cut (n + 1) O7 D = .at n [] := cut_at.mpr ⟨oD7, Nat.lt_succ_self n⟩
      obtain ⟨R9, F9⟩ := tmpUpd (o' := .dT (putK ws k y)) R8 hn oD8 trivial
      have RW := relWipe (σ2 := σ4) R9 nn6 rfl
      rw [ww] at RW
      have F78 : Frm C.N n H7 O7 H7 (cut (n + 1) O7) := (frm_cut C.N (n + 1) H7 O7 (Nat.le_succ_of_le hn)).le (Nat.le_succ n)
      have F79 := F78.trans F9 (Nat.le_refl _)
      have fr29 : Fre H2 O2 (upd H7 D (.dT (putK ws k y))) (cut (n + 1) O7) := F27.fre.trans F79.fre
      refine ⟨_, wipeR ρ6 vs, putD acc k yd, putK ws k y, RW, (F2.trans (F27.le (Nat.le_succ n)) (Nat.le_refl _)).trans F79 (Nat.le_refl _), oD8, fun b q e => du F27 b q (cut_at.mp e).1, upd_same, ?_, Nat.le_trans (putD_len acc k yd) (by omega), q6, fun j hj t => by rw [wipeR_get, if_pos hj]; split <;> simp⟩
      refine KRp.put ?_ (ha.fre fr29)
      exact Rp.fre F9.fre (V7.asD (Nat.le_succ _) ey)
  · have e : i = xs.length := by omega
    subst e
    refine .inl ⟨Y.stop H2 O2 F2.fre, pd acc ρ2 p (.ref D) H2 O2 (relBack R1 nn R2 hw F2.fre) (F1.trans F2 (Nat.le_refl _)) ⟨mK2_tr oD hH ha, fun b q e => ?_⟩⟩
    obtain ⟨rfl, rfl⟩ := uD b q e
    exact ⟨_, rfl, rfl⟩
end
section
variable {X : Cx} {kx vx tg iter : Expr} {ifs : List Expr} {scope : Scope} {own : List (Str × Nat)} {pos : Pos} {wi : TwI} {g : TwG} {tt : TwT} {tk tv : TwE}
theorem le_dcT (hu : X.A.units + 1 < cLine) (hc : X.calm = true) (hN : X.N.Nodup) (hi : LI X tg iter wi) (ok : BlkOk X.N X.env.scope scope own)
    (hg : ∀ (s : Shared) (H : Hp) (C : Addr) (cl : List (Str × Addr)) (fp : List Addr), LG (X.blk s H scope (compEnvC scope cl C X.env) fp) (own.map (·.2)) tg g)
    (ht : ∀ (s : Shared) (H : Hp) (C : Addr) (cl : List (Str × Addr)) (fp : List Addr), LTs (X.blk s H scope (compEnvC scope cl C X.env) fp) ifs tt)
    (hk : ∀ (s : Shared) (H : Hp) (C : Addr) (cl : List (Str × Addr)) (fp : List Addr), LE (X.blk s H scope (compEnvC scope cl C X.env) fp) kx tk)
    (he : ∀ (s : Shared) (H : Hp) (C : Addr) (cl : List (Str × Addr)) (fp : List Addr), LE (X.blk s H scope (compEnvC scope cl C X.env) fp) vx tv) (hs : ∀ x, foldedSetIterable iter X.env x = pure x := by intro _; rfl) :
    LE X (.DictComp kx vx [⟨tg, iter, ifs, 0⟩] scope pos) (wDcT wi g tt tk tv (own.map (·.2))) := by
  refine ⟨wDcT_mono hi.mono, fun C W n hC hn tk' => ?_⟩
  refine ⟨fun pins s0 σ H Q I h => (pe_dcT (pos := pos) (g := lfG X.K C (fun _ _ _ _ => False) (own.map (·.2)) (n + 1) g) (tt := lfT X.K C (fun _ _ _ _ => False) (n + 1) tt) (tk := lfE X.K C (fun _ _ _ _ => False) (n + 1) tk) (tv := lfE X.K C (fun _ _ _ _ => False) (n + 2) tv) hu hc hN (hi.run C W n hC hn tk') ok (fun s H c cl fp => (hg s H c cl fp).run C (fun _ _ _ _ => False) (n + 1) hC (Nat.le_succ_of_le hn) takes0) (fun s H c cl fp => (ht s H c cl fp).run C (fun _ _ _ _ => False) (n + 1) hC (Nat.le_succ_of_le hn) takes0)
    (fun s H c cl fp => (hk s H c cl fp).run C (fun _ _ _ _ => False) (n + 1) hC (Nat.le_succ_of_le hn) takes0) (fun s H c cl fp => (he s H c cl fp).run C (fun _ _ _ _ => False) (n + 2) hC (by omega) takes0) hs).run pins s0 σ H Q I (dcT_run hi.mono (hg s0 H 0 [] []).mono (ht s0 H 0 [] []).mono (hk s0 H 0 [] []).mono (he s0 H 0 [] []).mono hn (fun j hj => by
    obtain ⟨⟨x, j'⟩, h1, rfl⟩ := List.mem_map.mp hj
    rw [hC]
    exact (List.getElem?_eq_some_iff.mp (ok.ix _ h1)).1) h)⟩
end
section
variable {X : Cx} {i : Nat} {y : Str} {py : Pos} {kx vx tg iter : Expr} {ifs : List Expr} {scope : Scope} {own : List (Str × Nat)} {pos spos : Pos} {wi : TI} {g : TG} {tt : TT} {tk tv : TE}
end
section
variable {X : Cx} {io : List Nat} {kx vx tg iter : Expr} {ifs : List Expr} {scope : Scope} {own : List (Str × Nat)} {pos pos2 : Pos} {wi : TwI} {g : TwG} {tt : TwT} {tk tv : TwE}
end
section
variable {ρ : Rho} {Q : T → Rho → Prop} {E : ExK} {wi : TwI} {g : TwG} {tt : TwT} {tk tv : TwE} {vs : List Nat}
def dcTK (g : TwG) (tt : TwT) (tk tv : TwE) (vs : List Nat) (Q : T → Rho → Prop) (xs : List PyData) (ρ1 : Rho) : Prop := noNd ρ1 vs ∧ xs.length ≤ 1000000 ∧ ∃ P : Nat → List (List Key × PyData) → Rho → Prop, P 0 [] (wipeR ρ1 vs) ∧
  (∀ i x acc ρ2, xs[i]? = some x → P i acc ρ2 → g x ρ2 (fun ρ3 => tt ρ3 (fun b ρ4 => if b = true then tk ρ4 (fun t ρ5 => ∃ k, t = .d (tupD k) ∧ tv ρ5 (fun u ρ6 => noNd ρ6 vs ∧ ∃ y, erase u = some y ∧ P (i + 1) (putD acc k y) (wipeR ρ6 vs)) exN) exN else noNd ρ4 vs ∧ P (i + 1) acc (wipeR ρ4 vs)) exN) exN) ∧
  ∀ acc ρ2, P xs.length acc ρ2 → Q (mK2 acc) (restR ρ1 ρ2 vs)
theorem xDcT (h : wi ρ (dcTK g tt tk tv vs Q) E) : wDcT wi g tt tk tv vs ρ Q E := h
end
end TX

/-! Comprehensions with two sources. -/
namespace TX
open PySem PySem.Spec L2
section
variable {K : PySem.W.Frag} {C : Ctx} {W : WX} {n m : Nat} {vs vs1 : List Nat} {σ σ4 : St} {H H2 H6 : Hp} {O O2 O6 : Own} {ρ ρ5 : Rho} {Q : VK} {D : Addr} {ws : List V} {acc : List PyData}
/-- the list that is made, at root n -/
structure DSt (K : PySem.W.Frag) (n : Nat) (D : Addr) (O2 : Own) (H2 : Hp) (ws : List V) (acc : List PyData) : Prop where
  o : O2 D = .at n []
  u : ∀ b q, O2 b = .at n q → b = D ∧ q = []
  h : H2 D = some (.lst ws)
  r : RpAll K (msk O2 H2) ws acc
theorem DSt.frm (d : DSt K n D O2 H2 ws acc) (hn : C.N ≤ n) (F : Frm C.N (n + 1) H2 O2 H6 O6) : DSt K n D O6 H6 ws acc :=
  let ⟨h1, h2⟩ := F.tm D _ n [] d.h d.o hn (Nat.lt_succ_self n)
  ⟨h2, fun b q e => d.u b q (F.nw b n q e hn (Nat.lt_succ_self n)), h1, d.r.fre F.fre⟩
theorem DSt.cut (d : DSt K n D O2 H2 ws acc) : DSt K n D (TX.cut (n + 1) O2) H2 ws acc :=
  ⟨cut_at.mpr ⟨d.o, Nat.lt_succ_self n⟩, fun b q e => d.u b q (cut_at.mp e).1, d.h, d.r.fre (fre_cut _)⟩
theorem wipe_sub (h : ∀ i ∈ vs1, i ∈ vs) : wipe (wipe σ vs1) vs = wipe σ vs := by
  refine List.ext_getElem? fun j => ?_
  rw [wipe_get, wipe_length, wipe_get, wipe_get]
  by_cases q : j ∈ vs
  · rw [if_pos q, if_pos q]
  · rw [if_neg q, if_neg q, if_neg fun z => q (h j z)]
/-- an item more -/
theorem lcGrow (hn : C.N ≤ n) (R6 : Rel K C (n + 1 + 1) σ4 H6 O6 ρ5) (d : DSt K n D O6 H6 ws acc) {y : V} {t : T} {yd : PyData} (V6 : Val K H6 O6 (n + 1) y t) (ey : erase t = some yd) :
    Rel K C (n + 1) σ4 (L2.upd H6 D (.lst (ws ++ [y]))) (TX.cut (n + 1) O6) ρ5 ∧ Frm C.N n H6 O6 (L2.upd H6 D (.lst (ws ++ [y]))) (TX.cut (n + 1) O6) ∧ DSt K n D (TX.cut (n + 1) O6) (L2.upd H6 D (.lst (ws ++ [y]))) (ws ++ [y]) (acc ++ [yd]) := by
  have R7 := R6.cut (n := n + 1) (Nat.le_succ_of_le hn)
  have oD6 := d.o
  have d7 := d.cut
  have oD7 := d7.o
  have ne : ∀ {b}, TX.cut (n + 1) O6 b = .free → b ≠ D := fun {b} z e => by subst e; rw [oD7] at z; cases z
  have up : ∀ b o, msk (TX.cut (n + 1) O6) H6 b = some o → msk (TX.cut (n + 1) O6) (L2.upd H6 D (.lst (ws ++ [y]))) b = some o := fun b o z => by
    obtain ⟨z1, z2⟩ := msk_some z
    rw [msk_of z1, upd_ne (ne z1)]; exact z2
  obtain ⟨R9, F9⟩ := tmpUpd (o' := .lst (ws ++ [y])) R7 hn oD7 trivial
  have F78 : Frm C.N n H6 O6 H6 (TX.cut (n + 1) O6) := (frm_cut C.N (n + 1) H6 O6 (Nat.le_succ_of_le hn)).le (Nat.le_succ n)
  exact ⟨R9, F78.trans F9 (Nat.le_refl _), oD7, d7.u, upd_same, RpAll.append (RpAll.mono up _ _ d7.r) (.cons (Rp.mono up _ _ (V6.asD (Nat.le_refl _) ey)) .nil)⟩
end
def wLc2 (wi : TwI) (g : TwG) (tt : TwT) (wi1 : TwI) (g1 : TwG) (tt1 : TwT) (te : TwE) (vs vs1 : List Nat) : TwE := fun ρ Q E => wi ρ (fun xs ρ1 => noNd ρ1 vs ∧ xs.length ≤ 1000 ∧ ∃ P : Nat → List PyData → Rho → Prop, P 0 [] (wipeR ρ1 vs) ∧
  (∀ i x acc ρ2, xs[i]? = some x → P i acc ρ2 → g x ρ2 (fun ρ3 => tt ρ3 (fun b ρ4 => if b = true then wi1 ρ4 (fun ys ρ5 => noNd ρ5 vs1 ∧ ys.length ≤ 1000 ∧ ∃ P1 : Nat → List PyData → Rho → Prop, P1 0 acc (wipeR ρ5 vs1) ∧
      (∀ j y acc1 ρ6, ys[j]? = some y → P1 j acc1 ρ6 → g1 y ρ6 (fun ρ7 => tt1 ρ7 (fun b ρ8 => noNd ρ8 vs1 ∧ if b = true then te ρ8 (fun t ρ9 => noNd ρ9 vs1 ∧ ∃ z, erase t = some z ∧ P1 (j + 1) (acc1 ++ [z]) (wipeR ρ9 vs1)) exN else P1 (j + 1) acc1 (wipeR ρ8 vs1)) exN) exN) ∧
      ∀ acc1 ρ6, P1 ys.length acc1 ρ6 → noNd ρ6 vs ∧ P (i + 1) acc1 (wipeR ρ6 vs)) exN else noNd ρ4 vs ∧ P (i + 1) acc (wipeR ρ4 vs)) exN) exN) ∧
  (∀ acc ρ2, P xs.length acc ρ2 → Q (.l (acc.map T.d)) (restR ρ1 ρ2 vs))) E
section
variable {wi wi1 : TwI} {g g1 : TwG} {tt tt1 : TwT} {te : TwE}
theorem wLc2_mono {vs vs1 : List Nat} (hi : MonE wi) : MonE (wLc2 wi g tt wi1 g1 tt1 te vs vs1) := fun ρ Q Q' E E' h he q => hi ρ _ _ E E' (fun xs ρ1 ⟨h1, h2, P, p0, ps, pd⟩ => ⟨h1, h2, P, p0, ps, fun acc ρ2 z => h _ _ (pd acc ρ2 z)⟩) he q
theorem lc2_run {K : PySem.W.Frag} {C : Ctx} {W : WX} {n : Nat} {vs vs1 : List Nat} {σ : St} {H : Hp} {Q : VK} (hi : MonE wi) (hg : MonG g) (ht : MonE tt) (hi1 : MonE wi1) (hg1 : MonG g1) (ht1 : MonE tt1) (he : MonE te) (hn : C.N ≤ n) (hv : ∀ j ∈ vs, j < C.N) (hsub : ∀ i ∈ vs1, i ∈ vs)
    (h : lfE K C W n (wLc2 wi g tt wi1 g1 tt1 te vs vs1) σ H Q) : tLc2 (lfI K C W n wi) (lfG K C (fun _ _ _ _ => False) vs (n + 1) g) (lfT K C (fun _ _ _ _ => False) (n + 1) tt) (lfI K C (fun _ _ _ _ => False) (n + 1) wi1) (lfG K C (fun _ _ _ _ => False) vs1 (n + 1) g1) (lfT K C (fun _ _ _ _ => False) (n + 1) tt1) (lfE K C (fun _ _ _ _ => False) (n + 1) te) vs vs1 σ H Q := by
  obtain ⟨O, ρ, R, q⟩ := h
  refine ⟨O, ρ, R, hi ρ _ _ _ _ (fun xs ρ1 ⟨nn, sz, P, p0, ps, pd⟩ => ?_) (fun _ _ z => z) q⟩
  intro J H1 O1 R1 F1 Y D hD
  obtain ⟨RA, FA, UA⟩ := R1.alloc (o := .lst []) hD trivial
  refine ⟨fun i m H2 => m = xs.length - i ∧ i ≤ xs.length ∧ ∃ O2 ρ2 acc ws, Rel K C (n + 1) (wipe σ vs) H2 O2 ρ2 ∧ Frm C.N n H1 O1 H2 O2 ∧ DSt K n D O2 H2 ws acc ∧ acc.length ≤ 1000 * i ∧ P i acc ρ2 ∧ ∀ j ∈ vs, ∀ t, ρ2[j]? ≠ some (some t),
    ⟨_, rfl, Nat.zero_le _, _, wipeR ρ1 vs, [], [], relWipe RA nn rfl, FA, ⟨lay_same, UA, upd_same, .nil⟩, Nat.zero_le _, p0, fun j hj t => by rw [wipeR_get, if_pos hj]; split <;> simp⟩, ?_⟩
  rintro i m H2 ⟨rfl, hi', O2, ρ2, acc, ws, R2, F2, d2, al, p, hw⟩
  by_cases hlt : i < xs.length
  · have ex : xs[i]? = some xs[i] := List.getElem?_eq_getElem hlt
    refine .inr ⟨Y.go i _ H2 O2 F2.fre ex, fun H6 => ∃ O6 ρ6 acc6 ws6, Rel K C (n + 1) (wipe σ vs) H6 O6 ρ6 ∧ Frm C.N n H1 O1 H6 O6 ∧ DSt K n D O6 H6 ws6 acc6 ∧ acc6.length ≤ 1000 * (i + 1) ∧ P (i + 1) acc6 ρ6 ∧ ∀ j ∈ vs, ∀ t, ρ6[j]? ≠ some (some t),
      fun H6 h6 => ⟨xs.length - (i + 1), by omega, rfl, hlt, h6⟩, fun v H3 y => ?_⟩
    obtain ⟨hu, rp⟩ := Y.yld i _ v H2 O2 H3 F2.fre ex y R2.nt
    obtain ⟨R3, kp⟩ := rel_yield R2 hu
    have F3 : Frm C.N (n + 1) H2 O2 H3 O2 := ⟨fun b o e1 e2 => ⟨kp b o e1, e2⟩, fun _ _ _ e _ => e, fun b o r p e1 e2 _ _ => ⟨kp b o e1, e2⟩, fun _ _ _ e _ _ => e⟩
    have nolab : ∀ {b r q}, O2 b = .at r q → r < C.N → r ∉ vs := fun {b r q} e l hr => by
      obtain ⟨t, z, h1, _⟩ := R2.val b r q e l
      exact hw r hr t h1
    refine ⟨O2, ρ2, xs[i], R3, rp, hg _ _ _ _ _ _ (fun ρ3 q3 => ?_) noneW (ps i _ acc ρ2 ex p)⟩
    intro σ4 H4 O4 R4 F4 w4
    have F24 : Frm C.N (n + 1) H2 O2 H4 O4 := ⟨F3.fre.trans F4.fre, fun b r q e l => F4.pl b r q e l (nolab e l), fun b o r q e1 e2 l1 l2 => F4.tm b o r q (kp b o e1) e2 l1 l2, fun b r q e l1 l2 => F4.nw b r q e l1 l2⟩
    have ww : wipe σ4 vs = wipe σ vs := w4.trans (wipe_twice σ vs)
    refine ⟨ww, O4, ρ3, R4, ht ρ3 _ _ _ _ (fun b ρ4 q4 => ?_) noneW q3⟩
    intro H5 O5 R5 F5
    have F25 := F24.trans F5 (Nat.le_refl _)
    cases b with
    | false =>
      obtain ⟨nn4, q4⟩ := q4
      have RW := relWipe (σ2 := σ4) R5 nn4 rfl
      rw [ww] at RW
      exact ⟨O5, wipeR ρ4 vs, acc, ws, RW, F2.trans (F25.le (Nat.le_succ n)) (Nat.le_refl _), d2.frm hn F25, by omega, q4, fun j hj t => by rw [wipeR_get, if_pos hj]; split <;> simp⟩
    | true =>
      refine ⟨O5, ρ4, R5, hi1 ρ4 _ _ _ _ (fun ys ρ5 ⟨nn5, sz5, P1, p10, ps1, pd1⟩ => ?_) noneW q4⟩
      intro J1 H6 O6 R6 F6 Y1
      have F26 := F25.trans F6 (Nat.le_refl _)
      have d6 := d2.frm hn F26
      refine ⟨fun j k H7 => k = ys.length - j ∧ j ≤ ys.length ∧ ∃ O7 ρ7 acc7 ws7, Rel K C (n + 1) (wipe σ4 vs1) H7 O7 ρ7 ∧ Frm C.N n H6 O6 H7 O7 ∧ DSt K n D O7 H7 ws7 acc7 ∧ acc7.length ≤ 1000 * i + j ∧ P1 j acc7 ρ7 ∧ ∀ j ∈ vs1, ∀ t, ρ7[j]? ≠ some (some t),
        ⟨_, rfl, Nat.zero_le _, O6, wipeR ρ5 vs1, acc, ws, relWipe R6 nn5 rfl, .refl, d6, by omega, p10, fun j hj t => by rw [wipeR_get, if_pos hj]; split <;> simp⟩, ?_⟩
      rintro j k H7 ⟨rfl, hj', O7, ρ7, acc7, ws7, R7, F7, d7, al7, p7, hw7⟩
      by_cases hlt1 : j < ys.length
      · have ey : ys[j]? = some ys[j] := List.getElem?_eq_getElem hlt1
        refine .inr ⟨Y1.go j _ H7 O7 F7.fre ey, fun H8 => ∃ O8 ρ8 acc8 ws8, Rel K C (n + 1) (wipe σ4 vs1) H8 O8 ρ8 ∧ Frm C.N n H6 O6 H8 O8 ∧ DSt K n D O8 H8 ws8 acc8 ∧ acc8.length ≤ 1000 * i + (j + 1) ∧ P1 (j + 1) acc8 ρ8 ∧ ∀ j ∈ vs1, ∀ t, ρ8[j]? ≠ some (some t),
          fun H8 h8 => ⟨ys.length - (j + 1), by omega, rfl, hlt1, h8⟩, fun v1 H8 y1 => ?_⟩
        obtain ⟨hu1, rp1⟩ := Y1.yld j _ v1 H7 O7 H8 F7.fre ey y1 R7.nt
        obtain ⟨R8, kp8⟩ := rel_yield R7 hu1
        have F8 : Frm C.N (n + 1) H7 O7 H8 O7 := ⟨fun b o e1 e2 => ⟨kp8 b o e1, e2⟩, fun _ _ _ e _ => e, fun b o r p e1 e2 _ _ => ⟨kp8 b o e1, e2⟩, fun _ _ _ e _ _ => e⟩
        have nolab1 : ∀ {b r q}, O7 b = .at r q → r < C.N → r ∉ vs1 := fun {b r q} e l hr => by
          obtain ⟨t, z, h1, _⟩ := R7.val b r q e l
          exact hw7 r hr t h1
        refine ⟨O7, ρ7, ys[j], R8, rp1, hg1 _ _ _ _ _ _ (fun ρ8 q8 => ?_) noneW (ps1 j _ acc7 ρ7 ey p7)⟩
        intro σ9 H9 O9 R9 F9 w9
        have F79 : Frm C.N (n + 1) H7 O7 H9 O9 := ⟨F8.fre.trans F9.fre, fun b r q e l => F9.pl b r q e l (nolab1 e l), fun b o r q e1 e2 l1 l2 => F9.tm b o r q (kp8 b o e1) e2 l1 l2, fun b r q e l1 l2 => F9.nw b r q e l1 l2⟩
        have ww9 : wipe σ9 vs1 = wipe σ4 vs1 := w9.trans (wipe_twice σ4 vs1)
        refine ⟨ww9, O9, ρ8, R9, ht1 ρ8 _ _ _ _ (fun b1 ρ9 q9 => ?_) noneW q8⟩
        intro H10 O10 R10 F10
        have F710 := F79.trans F10 (Nat.le_refl _)
        obtain ⟨nn9, q9⟩ := q9
        cases b1 with
        | false =>
          have RW := relWipe (σ2 := σ9) R10 nn9 rfl
          rw [ww9] at RW
          exact ⟨O10, wipeR ρ9 vs1, acc7, ws7, RW, F7.trans (F710.le (Nat.le_succ n)) (Nat.le_refl _), d7.frm hn F710, by omega, q9, fun j hj t => by rw [wipeR_get, if_pos hj]; split <;> simp⟩
        | true =>
          refine ⟨O10, ρ9, R10, he ρ9 _ _ _ _ (fun t ρ10 q10 => ?_) noneW q9⟩
          intro y H11 O11 R11 F11 V11
          obtain ⟨nn10, yd, eyd, q10⟩ := q10
          have F711 := F710.trans F11 (Nat.le_refl _)
          have d11 := d7.frm hn F711
          have al' : ws7.length = acc7.length := d7.r.length
          refine ⟨ws7, d11.h, by rw [al', sizeLine_eq]; omega, ?_⟩
          obtain ⟨R12, F12, d12⟩ := lcGrow hn R11 d11 V11 eyd
          have RW := relWipe (σ2 := σ9) R12 nn10 rfl
          rw [ww9] at RW
          exact ⟨_, wipeR ρ10 vs1, acc7 ++ [yd], ws7 ++ [y], RW, (F7.trans (F711.le (Nat.le_succ n)) (Nat.le_refl _)).trans F12 (Nat.le_refl _), d12, by rw [List.length_append]; simp; omega, q10, fun j hj t => by rw [wipeR_get, if_pos hj]; split <;> simp⟩
      · have e : j = ys.length := by omega
        subst e
        obtain ⟨nn7, q7⟩ := pd1 acc7 ρ7 p7
        have RW := relWipe (σ2 := wipe σ4 vs1) R7 nn7 rfl
        rw [wipe_sub hsub, ww] at RW
        exact .inl ⟨Y1.stop H7 O7 F7.fre, O7, wipeR ρ7 vs, acc7, ws7, RW, (F2.trans (F26.le (Nat.le_succ n)) (Nat.le_refl _)).trans F7 (Nat.le_refl _), d7, by omega, q7, fun j hj t => by rw [wipeR_get, if_pos hj]; split <;> simp⟩
  · have e : i = xs.length := by omega
    subst e
    refine .inl ⟨Y.stop H2 O2 F2.fre, pd acc ρ2 p (.ref D) H2 O2 (relBack R1 nn R2 hw F2.fre) (F1.trans F2 (Nat.le_refl _)) ⟨.l d2.o d2.h (TrAll.ofData d2.r), fun b q e => ?_⟩⟩
    obtain ⟨rfl, rfl⟩ := d2.u b q e
    exact ⟨_, rfl, rfl⟩
end
section
variable {X : Cx} {io : List Nat} {tg iter tg1 iter1 elt : Expr} {ifs ifs1 : List Expr} {wi wi1 : TwI} {g g1 : TwG} {tt tt1 : TwT} {te : TwE} {pos : Pos} {scope : Scope} {own : List (Str × Nat)} {vs1 : List Nat}
theorem le_lc2 (hc : X.calm = true) (hN : X.N.Nodup) (hi : LI X tg iter wi) (ok : BlkOk X.N X.env.scope scope own) (hsub : ∀ i ∈ vs1, i ∈ own.map (·.2))
    (hg : ∀ (s : Shared) (H : Hp) (C : Addr) (cl : List (Str × Addr)) (fp : List Addr), LG (X.blk s H scope (compEnvC scope cl C X.env) fp) (own.map (·.2)) tg g)
    (ht : ∀ (s : Shared) (H : Hp) (C : Addr) (cl : List (Str × Addr)) (fp : List Addr), LTs (X.blk s H scope (compEnvC scope cl C X.env) fp) ifs tt)
    (hi1 : ∀ (s : Shared) (H : Hp) (C : Addr) (cl : List (Str × Addr)) (fp : List Addr), LI (X.blk s H scope (compEnvC scope cl C X.env) fp) tg1 iter1 wi1)
    (hg1 : ∀ (s : Shared) (H : Hp) (C : Addr) (cl : List (Str × Addr)) (fp : List Addr), LG (X.blk s H scope (compEnvC scope cl C X.env) fp) vs1 tg1 g1)
    (ht1 : ∀ (s : Shared) (H : Hp) (C : Addr) (cl : List (Str × Addr)) (fp : List Addr), LTs (X.blk s H scope (compEnvC scope cl C X.env) fp) ifs1 tt1)
    (he : ∀ (s : Shared) (H : Hp) (C : Addr) (cl : List (Str × Addr)) (fp : List Addr), LE (X.blk s H scope (compEnvC scope cl C X.env) fp) elt te) (hs : ∀ x, foldedSetIterable iter X.env x = pure x := by intro _; rfl) (hs1 : ∀ env x, foldedSetIterable iter1 env x = pure x := by intro _ _; rfl) :
    LE X (.ListComp elt [⟨tg, iter, ifs, 0⟩, ⟨tg1, iter1, ifs1, 0⟩] scope pos) (wLc2 wi g tt wi1 g1 tt1 te (own.map (·.2)) vs1) := by
  refine ⟨wLc2_mono hi.mono, fun C W n hC hn tk => ?_⟩
  have h1 := Nat.le_succ_of_le hn
  refine ⟨fun pins s0 σ H Q I h => (pe_lc2 (pos := pos) hc hN (hi.run C W n hC hn tk) ok hsub (fun s H c cl fp => (hg s H c cl fp).run C (fun _ _ _ _ => False) (n + 1) hC h1 takes0) (fun s H c cl fp => (ht s H c cl fp).run C (fun _ _ _ _ => False) (n + 1) hC h1 takes0)
    (fun s H c cl fp => (hi1 s H c cl fp).run C (fun _ _ _ _ => False) (n + 1) hC h1 takes0) (fun s H c cl fp => (hg1 s H c cl fp).run C (fun _ _ _ _ => False) (n + 1) hC h1 takes0) (fun s H c cl fp => (ht1 s H c cl fp).run C (fun _ _ _ _ => False) (n + 1) hC h1 takes0)
    (fun s H c cl fp => (he s H c cl fp).run C (fun _ _ _ _ => False) (n + 1) hC h1 takes0) hs hs1).run pins s0 σ H Q I (lc2_run hi.mono (hg s0 H 0 [] []).mono (ht s0 H 0 [] []).mono (hi1 s0 H 0 [] []).mono (hg1 s0 H 0 [] []).mono (ht1 s0 H 0 [] []).mono (he s0 H 0 [] []).mono hn (fun j hj => by
    obtain ⟨⟨x, j'⟩, h1, rfl⟩ := List.mem_map.mp hj
    rw [hC]
    exact (List.getElem?_eq_some_iff.mp (ok.ix _ h1)).1) hsub h)⟩
end
end TX

/-! Steps of comprehensions of two sources; d.get(k, x); xs[a:b] = ys. -/
namespace TX
open PySem PySem.Spec L2 PyProof.Rows
/-! ### two sources -/
section
variable {wi wi1 : TwI} {g g1 : TwG} {tt tt1 : TwT} {te : TwE} {vs vs1 : List Nat} {ρ : Rho} {Q : T → Rho → Prop} {E : ExK}
def lc2I (g1 : TwG) (tt1 : TwT) (te : TwE) (vs vs1 : List Nat) (acc : List PyData) (N : List PyData → Rho → Prop) (ys : List PyData) (ρ5 : Rho) : Prop := noNd ρ5 vs1 ∧ ys.length ≤ 1000 ∧ ∃ P1 : Nat → List PyData → Rho → Prop, P1 0 acc (wipeR ρ5 vs1) ∧
      (∀ j y acc1 ρ6, ys[j]? = some y → P1 j acc1 ρ6 → g1 y ρ6 (fun ρ7 => tt1 ρ7 (fun b ρ8 => noNd ρ8 vs1 ∧ if b = true then te ρ8 (fun t ρ9 => noNd ρ9 vs1 ∧ ∃ z, erase t = some z ∧ P1 (j + 1) (acc1 ++ [z]) (wipeR ρ9 vs1)) exN else P1 (j + 1) acc1 (wipeR ρ8 vs1)) exN) exN) ∧
      ∀ acc1 ρ6, P1 ys.length acc1 ρ6 → noNd ρ6 vs ∧ N acc1 (wipeR ρ6 vs)
def lc2K (g : TwG) (tt : TwT) (wi1 : TwI) (g1 : TwG) (tt1 : TwT) (te : TwE) (vs vs1 : List Nat) (Q : T → Rho → Prop) (xs : List PyData) (ρ1 : Rho) : Prop := noNd ρ1 vs ∧ xs.length ≤ 1000 ∧ ∃ P : Nat → List PyData → Rho → Prop, P 0 [] (wipeR ρ1 vs) ∧
  (∀ i x acc ρ2, xs[i]? = some x → P i acc ρ2 → g x ρ2 (fun ρ3 => tt ρ3 (fun b ρ4 => if b = true then wi1 ρ4 (lc2I g1 tt1 te vs vs1 acc (P (i + 1))) exN else noNd ρ4 vs ∧ P (i + 1) acc (wipeR ρ4 vs)) exN) exN) ∧
  (∀ acc ρ2, P xs.length acc ρ2 → Q (.l (acc.map T.d)) (restR ρ1 ρ2 vs))
theorem xLc2 (h : wi ρ (lc2K g tt wi1 g1 tt1 te vs vs1 Q) E) : wLc2 wi g tt wi1 g1 tt1 te vs vs1 ρ Q E := h
/-- the inner round, nothing but its own names changed -/
def Inn (g1 : TwG) (tt1 : TwT) (te : TwE) (vs1 : List Nat) (f1 : PyData → Bool) (h : PyData → PyData) (ys : List PyData) (ρ5 : Rho) : Prop := noNd ρ5 vs1 ∧ ys.length ≤ 1000 ∧
  ∀ y ∈ ys, ∀ (Y : PyData → Rho → Prop) (Z : Rho → Prop), (f1 y = true → ∀ ρ9, wipeR ρ9 vs1 = wipeR ρ5 vs1 → Y (h y) ρ9) → (f1 y = false → ∀ ρ8, wipeR ρ8 vs1 = wipeR ρ5 vs1 → Z ρ8) →
    g1 y (wipeR ρ5 vs1) (fun ρ7 => tt1 ρ7 (fun b ρ8 => noNd ρ8 vs1 ∧ if b = true then te ρ8 (fun t ρ9 => noNd ρ9 vs1 ∧ ∃ z, erase t = some z ∧ Y z ρ9) exN else Z ρ8) exN) exN
theorem inn_run {f1 : PyData → Bool} {h : PyData → PyData} {ys : List PyData} {ρ5 : Rho} {acc : List PyData} {N : List PyData → Rho → Prop} (i : Inn g1 tt1 te vs1 f1 h ys ρ5) (nn : noNd (wipeR ρ5 vs1) vs) (q : N (acc ++ (ys.filter f1).map h) (wipeR (wipeR ρ5 vs1) vs)) :
    lc2I g1 tt1 te vs vs1 acc N ys ρ5 := by
  obtain ⟨n5, l5, st⟩ := i
  refine ⟨n5, l5, fun j acc1 ρ6 => acc1 = acc ++ ((ys.take j).filter f1).map h ∧ ρ6 = wipeR ρ5 vs1, ⟨by simp, rfl⟩, ?_, ?_⟩
  · rintro j y acc1 ρ6 e ⟨rfl, rfl⟩
    have tk : ys.take (j + 1) = ys.take j ++ [y] := by rw [List.take_succ, e]; rfl
    refine st y (List.mem_of_getElem? e) (fun z ρ9 => ((acc ++ ((ys.take j).filter f1).map h) ++ [z]) = acc ++ ((ys.take (j + 1)).filter f1).map h ∧ wipeR ρ9 vs1 = wipeR ρ5 vs1) (fun ρ8 => (acc ++ ((ys.take j).filter f1).map h) = acc ++ ((ys.take (j + 1)).filter f1).map h ∧ wipeR ρ8 vs1 = wipeR ρ5 vs1) (fun hf ρ9 hw => ⟨?_, hw⟩) (fun hf ρ8 hw => ⟨?_, hw⟩)
    · rw [tk, List.filter_append, List.map_append]; simp [hf]
    · rw [tk, List.filter_append, List.map_append]; simp [hf]
  · rintro acc1 ρ6 ⟨rfl, rfl⟩
    rw [List.take_length]
    exact ⟨nn, q⟩
def F2 (f : PyData → Bool) (ys : PyData → List PyData) (f1 : PyData → PyData → Bool) (h : PyData → PyData → PyData) (x : PyData) : List PyData := if f x = true then ((ys x).filter (f1 x)).map (h x) else []
theorem xLc2N {xs : List PyData} (f : PyData → Bool) (ys : PyData → List PyData) (f1 : PyData → PyData → Bool) (h : PyData → PyData → PyData) (hn : noNd ρ vs) (hl : xs.length ≤ 1000)
    (step : ∀ x ∈ xs, ∀ (W : List PyData → Rho → Prop) (Z : Rho → Prop), (f x = true → ∀ ρ5, wipeR (wipeR ρ5 vs1) vs = wipeR ρ vs → noNd (wipeR ρ5 vs1) vs → Inn g1 tt1 te vs1 (f1 x) (h x) (ys x) ρ5 → W (ys x) ρ5) → (f x = false → ∀ ρ4, wipeR ρ4 vs = wipeR ρ vs → Z ρ4) →
      g x (wipeR ρ vs) (fun ρ3 => tt ρ3 (fun b ρ4 => if b = true then wi1 ρ4 W exN else noNd ρ4 vs ∧ Z ρ4) exN) exN)
    (q : Q (.l ((xs.flatMap (F2 f ys f1 h)).map T.d)) ρ) : lc2K g tt wi1 g1 tt1 te vs vs1 Q xs ρ := by
  refine ⟨hn, hl, fun i acc ρ2 => acc = (xs.take i).flatMap (F2 f ys f1 h) ∧ ρ2 = wipeR ρ vs, ⟨rfl, rfl⟩, ?_, ?_⟩
  · rintro i x acc ρ2 e ⟨rfl, rfl⟩
    have tk : xs.take (i + 1) = xs.take i ++ [x] := by rw [List.take_succ, e]; rfl
    refine step x (List.mem_of_getElem? e) _ (fun ρ4 => (xs.take i).flatMap (F2 f ys f1 h) = (xs.take (i + 1)).flatMap (F2 f ys f1 h) ∧ wipeR ρ4 vs = wipeR ρ vs) (fun hf ρ5 hw nn i5 => inn_run i5 nn ⟨?_, hw⟩) (fun hf ρ4 hw => ⟨?_, hw⟩)
    · rw [tk, List.flatMap_append]; simp [F2, hf]
    · rw [tk, List.flatMap_append]; simp [F2, hf]
  · rintro acc ρ2 ⟨rfl, rfl⟩
    rw [rest_wipe, List.take_length]
    exact q
end
/-! ### d.get(k, x) -/
theorem Val.carry2 {K : PySem.W.Frag} {C : Ctx} {n : Nat} {H H' : Hp} {O O' : Own} {v : V} {t : T} (h : Val K H O n v t) (hn : C.N ≤ n) (lt : ∀ b r p, O b = .at r p → r < n + 2) (nt : ∀ b, O b ≠ .free → ∃ o, H b = some o ∧ ownable o) (F : Frm C.N (n + 2) H O H' O') : Val K H' O' n v t := by
  have gen : ∀ t : T, (Tr K H O n [] v t ∧ ∀ b p, O b = .at n p → ∃ z, subT t p = some z ∧ isNode z = true) → (Tr K H' O' n [] v t ∧ ∀ b p, O' b = .at n p → ∃ z, subT t p = some z ∧ isNode z = true) := fun t h =>
    ⟨Tr.move (r' := n) (p0 := []) (p1 := []) F.fre (fun b o q e1 e2 => F.tm b o n q e1 e2 hn (by omega)) t [] v h.1, fun b p e => h.2 b p (F.nw b n p e hn (by omega))⟩
  cases t with
  | a r p =>
    obtain ⟨⟨a, e1, e2, l⟩, h2⟩ := h
    refine ⟨⟨a, e1, ?_, l⟩, fun b q e => h2 b q (F.nw b n q e hn (by omega))⟩
    by_cases hr : r < C.N
    · exact F.pl a r p e2 hr
    · obtain ⟨o, ho, _⟩ := nt a (by rw [e2]; intro z; cases z)
      exact (F.tm a o r p ho e2 (by omega) (lt a r p e2)).2
  | _ => exact gen _ h
section
variable {X : Cx} {pins : List (Addr × Obj)} {σ : L2.St} {H : Hp} {s : Shared} {a : Addr} {y z : V} {u r : Value} {A : Around} {E : Value → Shared → Prop}
end
section
variable {X : Cx} {o e f : Expr} {apos cpos : Pos} {td ty tx : TE} {ta tb tc : TwE}
def gd1 (t u w : T) (ρ : Rho) (Q : T → Rho → Prop) : Prop := ∃ kvs k x, Dk1E ρ t kvs ∧ vw ρ u = some (keyD k) ∧ w = .d x ∧ Q (.d ((lookD kvs k).getD x)) ρ
def gd2 (t u w : T) (ρ : Rho) (Q : T → Rho → Prop) : Prop := ∃ kvs k x, Dk2E ρ t kvs ∧ vw ρ u = some (tupD k) ∧ w = .d x ∧ Q (.d ((lookD kvs k).getD x)) ρ
def wGdd (k : T → T → T → Rho → (T → Rho → Prop) → Prop) (ta tb tc : TwE) : TwE := fun ρ Q E => ta ρ (fun t ρ1 => dctTy ρ1 t ∧ tb ρ1 (fun u ρ2 => tc ρ2 (fun w ρ3 => k t u w ρ3 Q) E) E) E
def wGd1 (ta tb tc : TwE) : TwE := wGdd gd1 ta tb tc
def wGd2 (ta tb tc : TwE) : TwE := wGdd gd2 ta tb tc
def gdA (tb tc : TwE) (k : T → T → T → Rho → (T → Rho → Prop) → Prop) (t : T) (ρ1 : Rho) (Q : T → Rho → Prop) (E : ExK) : Prop := dctTy ρ1 t ∧ tb ρ1 (fun u ρ2 => tc ρ2 (fun w ρ3 => k t u w ρ3 Q) E) E
theorem xGd1 {ρ : Rho} {Q : T → Rho → Prop} {E : ExK} (h : ta ρ (fun t ρ1 => gdA tb tc gd1 t ρ1 Q E) E) : wGd1 ta tb tc ρ Q E := h
theorem xGd2 {ρ : Rho} {Q : T → Rho → Prop} {E : ExK} (h : ta ρ (fun t ρ1 => gdA tb tc gd2 t ρ1 Q E) E) : wGd2 ta tb tc ρ Q E := h
theorem xGdA {ρ : Rho} {Q : T → Rho → Prop} {E : ExK} {k : T → T → T → Rho → (T → Rho → Prop) → Prop} {r : Nat} {p : List Nat} {tk : Bool} {ks : List PyData} {xs : List T} (g : getT ρ r p = some (.m tk ks xs)) (q : tb ρ (fun u ρ2 => tc ρ2 (fun w ρ3 => k (.a r p) u w ρ3 Q) E) E) : gdA tb tc k (.a r p) ρ Q E := ⟨.inl ⟨r, p, tk, ks, xs, rfl, g⟩, q⟩
theorem xGdD {ρ : Rho} {Q : T → Rho → Prop} {E : ExK} {k : T → T → T → Rho → (T → Rho → Prop) → Prop} {ps : List (PyData × PyData)} (q : tb ρ (fun u ρ2 => tc ρ2 (fun w ρ3 => k (.d (.dict ps)) u w ρ3 Q) E) E) : gdA tb tc k (.d (.dict ps)) ρ Q E := ⟨.inr ⟨ps, rfl⟩, q⟩
end
end TX

/-! xs[a:c] = ys, xs a flat list of one's own; c may lie beyond the end. -/
namespace TX
open PySem PySem.Spec L2 PyProof.Rows
theorem bounds_clip {a c n : Nat} (hac : a ≤ c) (ha : a ≤ n) : sliceBounds (some (a : Int)) (some (c : Int)) none n = ((a : Int), ((min c n : Nat) : Int), 1) := by
  simp only [sliceBounds, Option.getD_none]
  have h1 : ¬ ((a : Int) < 0) := by omega
  have h2 : ¬ ((c : Int) < 0) := by omega
  simp only [h1, h2, if_false, show (1 : Int) > 0 by decide, if_true]
  congr 1
  · omega
  · congr 1; omega
section
variable {prog : Program} {w : World} {A : Around} {E : Value → Shared → Prop} {s : Shared}
set_option maxRecDepth 100000 in
theorem setItem_clip {l b sl : Addr} {its new : Array Value} {n n2 : Nat} {vl vu : Value} {a c : Nat} {Q : Unit → Shared → Prop}
    (e : s.heap.get? l = some { cls := .type "list", data := .seq its n }) (e2 : s.heap.get? b = some { cls := .type "list", data := .seq new n2 }) (hne : l ≠ b)
    (hs : s.heap.IsSliceOf sl vl vu .none) (pl : IsPart vl (some (a : Int))) (pu : IsPart vu (some (c : Int))) (hac : a ≤ c) (ha : a ≤ its.size)
    (hsz : its.size + new.size ≤ sizeLine) (h : Q () { s with heap := s.heap.update l (Obj.mapSeq fun xs => xs.extract 0 a ++ new ++ xs.extract (min c its.size) xs.size) }) :
    wpAny (model prog w) A (setItem (.ref l) (.ref sl) (.ref b)) Q E s := by
  have hl : s.heap.IsList l its := PySem.IsL.isList e
  have hb : s.heap.IsList b new := PySem.IsL.isList e2
  obtain ⟨os, hos, hcs, hds⟩ := id hs
  have tS : s.TypeIs (.ref sl) "slice" := ⟨os, hos, hcs⟩
  have same : Builtin.List.listSameRef (.ref l) (.ref b) = false := by
    unfold Builtin.List.listSameRef
    exact beq_eq_false_iff_ne.mpr hne
  have hmax : (max (a : Int) ((min c its.size : Nat) : Int)).toNat = min c its.size := by omega
  have hz' : ((fun xs : Array Value => xs.extract 0 a ++ new ++ xs.extract (min c its.size) xs.size) its).size ≤ sizeLine + 1 := by
    simp only [Array.size_append, Array.size_extract]
    omega
  unfold setItem
  try with_reducible refine wpAny_holding ?_
  first | refine wpAny_bind (wpAny_pure ?_) | skip
  refine wpAny_bind (wpAny_sequenceKey hl.typeIs (by decide) ?_)
  refine wpAny_bind (wpAny_callSpecial?_slot (name := Str.ofString "__setitem__") hl.typeIs slot_list_setitem (wpAny_call_entry slot_list_setitem hl.typeIs entry_list_setitem ?_ (args_list_setitem _ _ _)))
  show wpAny _ _ (Builtin.List.listSubscript? (.ref sl) >>= _) _ _ s
  refine wpAny_bind ?_
  unfold Builtin.List.listSubscript?
  refine wpAny_bind (wpAny_specialOf tS slice_no_index ?_)
  simp only [Option.isNone_none, if_true]
  refine wpAny_pure ?_
  show wpAny _ _ (typeOf (.ref sl) >>= _) _ _ s
  refine wpAny_bind (wpAny_typeOf tS ?_)
  first
    | rw [if_neg (by decide)]
    | refine PySem.W.KFB.if_not (by decide) ?_
  rw [listSliceParts_eq]
  refine wpAny_bind (wpAny_bind (wpAny_field hos hds (x := .none) rfl (wpAny_bind (wpAny_listPart .none ?_))))
  rw [if_neg (show ¬ ((rawPart none == rawInt 0) = true) from Bool.false_ne_true)]
  refine wpAny_bind (wpAny_field hos hds (x := vl) rfl (wpAny_bind (wpAny_listPart pl ?_)))
  refine wpAny_bind (wpAny_field hos hds (x := vu) rfl (wpAny_bind (wpAny_listPart pu (wpAny_pure ?_))))
  first
    | simp only [same, Bool.false_eq_true, if_false]
    | refine PySem.W.KFB.if_not same ?_
  refine wpAny_bind (m := Builtin.List.listAllItems (.ref b) "must assign iterable to extended slice") ?_
  unfold Builtin.List.listAllItems
  refine wpAny_bind (wpAny_typeOf hb.typeIs ?_)
  first
    | refine PySem.W.KFB.if_so (by decide) ?_
    | rw [if_pos (by decide)]
  unfold Builtin.List.listItems
  refine wpAny_bind (wpAny_seqItems e2 rfl (wpAny_pure ?_))
  refine wpAny_bind (wpAny_bind (wpAny_seqItems e rfl (wpAny_pure ?_)))
  refine wpAny_bind (wpAny_of_eq ((sliceIndices_raw (some (a : Int)) (some (c : Int)) none its.size (by simp)).trans (congrArg (pure : Int × Int × Int → Sem (Int × Int × Int)) (bounds_clip hac ha))) ?_)
  show wpAny _ _ (if ((1 : Int) == 1) = true then _ else _) _ _ s
  rw [if_pos (by decide)]
  refine wpAny_bind (wpAny_rule ?_)
  first
    | simp only [L2.notLongL hsz, Bool.false_eq_true, if_false]
    | refine PySem.W.KFB.if_not (L2.notLongL hsz) ?_
  first | refine wpAny_bind (wpAny_pure ?_) | skip
  show wpAny _ _ (updateSeq l (fun xs => xs.extract 0 ((a : Int)).toNat ++ new ++ xs.extract (max (a : Int) ((min c its.size : Nat) : Int)).toNat xs.size) >>= _) _ _ s
  rw [hmax, Int.toNat_natCast]
  refine wpAny_bind (wpAny_updateSeq (hz := Nat.le_trans (Nat.le_add_right _ _) hsz) (_hz' := hz') e rfl ?_)
  refine wpAny_bind (wpAny_letGo ?_)
  first
    | exact wpAny_bind (wpAny_pure (wpAny_pure ⟨.none, rfl, wpAny_pure h⟩))
    | exact wpAny_pure ⟨.none, rfl, wpAny_pure h⟩
end
section
variable {X : Cx}
theorem set_clip {pins : List (Addr × Obj)} {s : Shared} {σ : L2.St} {H : Hp} {l b sl : Addr} {xs ys : List V} {a c : Int} {vl vu : Value} {Q : Unit → Shared → Prop} (I : L2.Inv X pins σ H s)
    (hH : H l = some (.lst xs)) (hB : H b = some (.lst ys)) (hne : l ≠ b) (hs : s.heap.IsSliceOf sl vl vu .none) (pl : IsPart vl (some a)) (pu : IsPart vu (some c)) (h0 : 0 ≤ a) (hac : a ≤ c) (hc : a ≤ xs.length)
    (hz : xs.length + ys.length ≤ sizeLine) (h : ∀ s', L2.Inv X pins σ (L2.upd H l (.lst (xs.take a.toNat ++ ys ++ xs.drop c.toNat))) s' → Q () s') :
    wpAny (model X.prog X.w) X.A (setItem (.ref l) (.ref sl) (.ref b)) Q X.xe s := by
  obtain ⟨z, its, n, r, hl, e⟩ := I.lstM hH
  obtain ⟨z2, its2, n2, r2, hl2, e2⟩ := I.lstM hB
  obtain ⟨a', rfl⟩ := Int.eq_ofNat_of_zero_le h0
  obtain ⟨c', rfl⟩ := Int.eq_ofNat_of_zero_le (Int.le_trans h0 hac)
  simp only [Int.toNat_natCast] at h
  have ln : xs.length = its.length := r.length
  refine setItem_clip (a := a') (c := c') e e2 hne hs pl pu (by omega) (by rw [List.size_toArray]; omega) (by rw [List.size_toArray, List.size_toArray]; omega) (h _ ?_)
  refine I.lset (its' := its.take a' ++ its2 ++ its.drop c') (t' := s.toks) hH e ?_ (Vals.append (Vals.append (r.take _) r2) (r.drop _)) ?_
  · refine Array.toList_inj.mp ?_
    rw [List.size_toArray]
    by_cases q : c' ≤ its.length
    · rw [Nat.min_eq_left q]
      simp [List.take_of_length_le]
    · rw [Nat.min_eq_right (by omega)]
      simp [List.drop_eq_nil_of_le (show its.length ≤ c' by omega)]
  · rw [List.length_append, List.length_append, List.length_take, List.length_drop]
    omega
end
end TX

/-! xs[a:c] = ys as a target. -/
namespace TX
open PySem PySem.Spec L2 PyProof.Rows
def gClip (to : TE) (tl th : TO) : TG := fun v σ H Q => to σ H fun x H1 => tl σ H1 fun l H2 => th σ H2 fun u H3 => ∃ ad b a c xs ys, x = .ref ad ∧ v = .ref b ∧ l = some a ∧ u = some c ∧ H3 ad = some (.lst xs) ∧ H3 b = some (.lst ys) ∧ ad ≠ b ∧ 0 ≤ a ∧ a ≤ c ∧ a ≤ (xs.length : Int) ∧ xs.length + ys.length ≤ sizeLine ∧
  Q σ (L2.upd H3 ad (.lst (xs.take a.toNat ++ ys ++ xs.drop c.toNat)))
section
variable {X : Cx} {o : Expr} {lo hi : Option Expr} {to : TE} {tl th : TO} {pos p2 : Pos}
theorem pg_clip (ho : PE X o to) (hl : PO X lo tl) (hh : PO X hi th)
    (ha : ∀ v, assign (.Subscript o (.Slice lo hi none p2) pos) X.env v = (do
      let ov ← holding [v] (eval o X.env)
      let iv ← holding [v, ov] (eval (.Slice lo hi none p2) X.env)
      standAt pos
      holding [v, ov, iv] (setItem ov iv v)
      release [iv, v, ov] []) := by intro _; rfl) : PG X (.Subscript o (.Slice lo hi none p2) pos) (gClip to tl th) := by
  refine ⟨fun pins s σ H v u Q I r h => ?_⟩
  rw [ha]
  refine wpAny_bind (wpAny_holding (thn (ho.run pins s σ H _ I h) fun ov s1 ⟨x, H1, I1, r1, q1⟩ => ?_))
  refine wpAny_bind (wpAny_holding (wpAny_Slice (thn (hl.run pins s1 σ H1 _ I1 q1) fun vl s2 ⟨l, H2, I2, pl, q2⟩ => thn (hh.run pins s2 σ H2 _ I2 q2) fun vu s3 ⟨w, H3, I3, pu, q3⟩ => ?_)))
  rw [evalPart_none]
  refine wpAny_pure ?_
  obtain ⟨ad, b, a, c, xs, ys, rfl, rfl, rfl, rfl, e1, e2, ne, h0, hac, hal, hz, q⟩ := q3
  have I4 : L2.Inv X pins σ H3 { s3 with heap := s3.heap.push { cls := .type "slice", data := .fields #[vl, vu, .none] } } := I3.kept (t' := s3.toks) fun b ob q => Heap.get?_push_of_some _ q
  cases r1
  cases r
  refine wpAny_bind (wpAny_standAt (wpAny_bind (wpAny_holding (set_clip I4 e1 e2 ne (Heap.IsSliceOf.new ..) pl pu h0 hac hal hz fun s5 I5 => ?_))))
  exact wpAny_release ⟨σ, _, I5, q⟩
end
def wClip (ta : TwE) (tl th : TwO) : TwG := fun x ρ Q E => ta ρ (fun t ρ1 => tl ρ1 (fun lo ρ2 => th ρ2 (fun hi ρ3 => ∃ r q, ∃ ds ys : List PyData, ∃ a c, t = .a r q ∧ x = .list ys ∧ lo = some a ∧ hi = some c ∧ getT ρ3 r q = some (.l (ds.map T.d)) ∧ 0 ≤ a ∧ a ≤ c ∧ a ≤ (ds.length : Int) ∧ ds.length + ys.length ≤ sizeLine ∧
  Q (putAt ρ3 r q (.l ((ds.take a.toNat ++ ys ++ ds.drop c.toNat).map T.d)))) E) E) E
section
variable {X : Cx} {o : Expr} {lo hi : Option Expr} {ta : TwE} {tl th : TwO} {pos p2 : Pos}
theorem lg_clip (ha : LE X o ta) (hl : LO X lo tl) (hh : LO X hi th) (hs : ∀ v, assign (.Subscript o (.Slice lo hi none p2) pos) X.env v = (do
      let ov ← holding [v] (eval o X.env)
      let iv ← holding [v, ov] (eval (.Slice lo hi none p2) X.env)
      standAt pos
      holding [v, ov, iv] (setItem ov iv v)
      release [iv, v, ov] []) := by intro _; rfl) : LG X [] (.Subscript o (.Slice lo hi none p2) pos) (wClip ta tl th) := by
  refine ⟨fun x ρ Q Q' E E' h he q => ha.mono ρ _ _ E E' (fun t ρ1 q1 => hl.mono ρ1 _ _ E E' (fun l ρ2 q2 => hh.mono ρ2 _ _ E E' (fun u ρ3 ⟨r, q, ds, ys, a, c, h1, h2, h3, h4, h5, h6, h7, h8, h9, q2⟩ => ⟨r, q, ds, ys, a, c, h1, h2, h3, h4, h5, h6, h7, h8, h9, h _ q2⟩) he q2) he q1) he q,
    fun C W n hC hn tk => (pg_clip (ha.run C W n hC hn tk) (hl.run C W (n + 1) hC (by omega) tk) (hh.run C W (n + 1) hC (by omega) tk) hs).imp fun v σ H Q ⟨O, ρ, x, R, rp, q⟩ => ?_⟩
  refine ⟨O, ρ, R, ha.mono ρ _ _ _ _ (fun t ρ1 q1 => ?_) (fun _ _ z => z) q⟩
  intro w1 H1 O1 R1 F1 V1
  refine ⟨O1, ρ1, R1, hl.mono ρ1 _ _ _ _ (fun l ρ2 q2 => ?_) (fun c ρ' z => exK.on F1.fre c ρ' z) q1⟩
  intro H2 O2 R2 F2
  have F12 := F1.trans F2 (Nat.le_succ n)
  refine ⟨O2, ρ2, R2, hh.mono ρ2 _ _ _ _ (fun u ρ3 ⟨r, q, ds, ys, a, c, h1, h2, h3, h4, h5, h6, h7, h8, h9, q3⟩ => ?_) (fun c ρ' z => exK.on F12.fre c ρ' z) q2⟩
  intro H3 O3 R3 F3
  have F13 := F12.trans F3 (Nat.le_succ n)
  have V3 : Val X.K H3 O3 n w1 t := (V1.carry hn R1.lt R1.nt F2).carry hn R2.lt R2.nt F3
  subst h1 h2 h3 h4
  obtain ⟨ad, ws, rfl, g5, g6, g7⟩ := flat_of R3 V3 h5 hn
  have rp2 : Rp X.K (msk (cut n O3) H3) v (.list ys) := Rp.mono (fun b o z => by obtain ⟨z1, z2⟩ := msk_some z; rw [msk_of (cut_free z1)]; exact z2) _ _ (rp.fre F13.fre)
  cases rp2 with
  | @lst b vs _ k1 k2 =>
    obtain ⟨z1, z2⟩ := msk_some k1
    have nb : ad ≠ b := fun e => by subst e; rw [cut_at.mpr ⟨g5, Nat.lt_of_lt_of_le (let ⟨_, e, _⟩ := getT_some h5; R3.slt e) hn⟩] at z1; cases z1
    obtain ⟨R4, F4⟩ := relUpdL R3 hn h5 g5 (RpAll.append (RpAll.append (g7.take a.toNat) k2) (g7.drop c.toNat))
    have F := F13.trans F4 (Nat.le_refl n)
    exact ⟨ad, b, a, c, ws, vs, rfl, rfl, rfl, rfl, g6, z2, nb, h6, h7, by rw [g7.length]; exact h8, by rw [g7.length, k2.length]; exact h9, q3 σ _ _ R4 ⟨F.fre, fun b r p e l _ => F.pl b r p e l, F.tm, F.nw⟩ rfl⟩
theorem xClip {ρ : Rho} {x : PyData} {Q : Rho → Prop} {E : ExK} (h : ta ρ (fun t ρ1 => tl ρ1 (fun lo ρ2 => th ρ2 (fun hi ρ3 => ∃ r q, ∃ ds ys : List PyData, ∃ a c, t = .a r q ∧ x = .list ys ∧ lo = some a ∧ hi = some c ∧ getT ρ3 r q = some (.l (ds.map T.d)) ∧ 0 ≤ a ∧ a ≤ c ∧ a ≤ (ds.length : Int) ∧ ds.length + ys.length ≤ sizeLine ∧
  Q (putAt ρ3 r q (.l ((ds.take a.toNat ++ ys ++ ds.drop c.toNat).map T.d)))) E) E) E) : wClip ta tl th x ρ Q E := h
theorem xClipK {ρ : Rho} {Q : Rho → Prop} {r : Nat} {q : List Nat} {ds ys : List PyData} {a c : Int} (g : getT ρ r q = some (.l (ds.map T.d))) (h0 : 0 ≤ a) (hac : a ≤ c) (hal : a ≤ (ds.length : Int)) (hz : ds.length + ys.length ≤ sizeLine) (h : Q (putAt ρ r q (.l ((ds.take a.toNat ++ ys ++ ds.drop c.toNat).map T.d)))) :
    ∃ r' q', ∃ ds ys' : List PyData, ∃ a' c', T.a r q = .a r' q' ∧ PyData.list ys = .list ys' ∧ some a = some a' ∧ some c = some c' ∧ getT ρ r' q' = some (.l (ds.map T.d)) ∧ 0 ≤ a' ∧ a' ≤ c' ∧ a' ≤ (ds.length : Int) ∧ ds.length + ys'.length ≤ sizeLine ∧
  Q (putAt ρ r' q' (.l ((ds.take a'.toNat ++ ys' ++ ds.drop c'.toNat).map T.d))) := ⟨r, q, ds, ys, a, c, rfl, rfl, rfl, rfl, g, h0, hac, hal, hz, h⟩
end
end TX

/-! Defs with defaults. -/
namespace TX
open PySem PySem.Spec L2 PyProof.Rows
section
variable {P : Program} {w : World} {K : PySem.W.Frag} {mg : Str → Option Value} {base : Heap}
theorem _root_.L2.FunD.okG {x qual : Str} {st : Stmt} {dvs : List V} {f : Addr} {fd : FuncData} {N ps : List Str} {k : Nat} {sp : Sp} (F : FunD K x qual (defArgs st) (defBody st) (defScope st) dvs [] f fd) (S : FnScope N ps (defScope st)) (len : ∀ vs H Q E, sp vs H Q E → vs.length = ps.length)
    (hbody : ∀ (cv : Value) (B : Around) (out : List Env) (s : Shared) (H : Hp) (vs : List V) (Q : VK) (E : XK), Room k (B.deeper (envOfC qual (defScope st) s.heap.objs.size f cv)) → B.guards = some [] → sp vs H Q E →
      ∃ t, PSs (cxOf (L2.CX P w) P w K mg base N qual (defScope st) f cv B out s H E) (defBody st) t ∧ t { nx := fun _ H' => Q .non H', rt := Q } (L2.start N vs) H) : FnG P w K mg base (k + 1) f fd ps sp := by
  obtain ⟨oc, od, dV, kV, doc, pm, an, cv, ct, osl, rfl, lk, hcd, _, _⟩ := F.ex
  refine ⟨len, fun B out s H ar us vs Q E room gu e0 bind vals hsp => ?_⟩
  have lenV := len _ _ _ _ hsp
  have kin : K.In s.heap := e0.mod.kin.keeps (fun b o e => (e0.bs b o e).1)
  have lim : s.heap.NoLimit := e0.mod.nolimit.keeps (fun b o e => (e0.bs b o e).1)
  refine codeAny_call_function room.depth (kin _ _ lk) rfl S.co S.gen rfl (PySem.W.codeRec_of kin hcd) (bind _ _ _ _ ?_)
  refine wpAny_newFunctionEnv_cells S.kind (fun ⟨n, v⟩ hy => ?_) fun env he s1 x => ?_
  · rcases S.par n (List.of_mem_zip hy).1 with q | q
    · exact Or.inl q
    · exact Or.inr ⟨q, PySem.W.cellsFrom_some _ _ _ (Or.inl q)⟩
  · subst he
    refine ⟨lim.keeps x.toInCall.keep, codeAny_func ?_⟩
    obtain ⟨t, ht, hq⟩ := hbody cv B out s H vs Q E (room.deeper _) gu hsp
    have J := inv_start (CX := L2.CX P w) (E := E) (cd := cv) S room.hd e0 lenV vals x
    refine wpAny_mono (ht.run [] s1 (L2.start N vs) H _ J hq) (fun fl s2 hs => ?_) fun _ _ z => z
    cases fl with
    | ret u => obtain ⟨v, _, H', J', rv, q⟩ := hs; exact ⟨v, H', J'.os, J'.bare, J'.base, J'.hok, rv, q⟩
    | next => obtain ⟨_, H', J', q⟩ := hs; exact ⟨V.non, H', J'.os, J'.bare, J'.base, J'.hok, rfl, q⟩
    | brk => obtain ⟨_, _, _, q⟩ := hs; exact q.elim
    | cont => obtain ⟨_, _, _, q⟩ := hs; exact q.elim
theorem _root_.L2.FunD.okT {x qual : Str} {st : Stmt} {dvs : List V} {f : Addr} {fd : FuncData} {N ps : List Str} {k np : Nat} {io : List Nat} {S : SpT} (F : FunD K x qual (defArgs st) (defBody st) (defScope st) dvs [] f fd) (Sc : FnScope N ps (defScope st)) (hnp : np = ps.length := by rfl) (hN : np ≤ N.length := by decide)
    (hbody : ∀ (cv : Value) (B : Around) (out : List Env) (s : Shared) (H : Hp) (E : XK), Room k (B.deeper (envOfC qual (defScope st) s.heap.objs.size f cv)) → (B.deeper (envOfC qual (defScope st) s.heap.objs.size f cv)).guards = some [] →
      ∃ tw, LSs (cxOf (L2.CX P w) P w K mg base N qual (defScope st) f cv B out s H E) io (defBody st) tw ∧
        ∀ ts Q Ex, S ts Q Ex → tw { nx := fun ρ => Q (.d .none) ρ, rt := fun t ρ => noAl t = true ∧ Q t ρ, ex := Ex } (rho0 N ts)) : FnG P w K mg base (k + 1) f fd ps (lfSp K np io S) := by
  refine F.okG Sc (fun vs H Q E ⟨O, ts, En, _⟩ => by rw [En.lv, hnp]) fun cv B out s H vs Q E room gu ⟨O, ts, En, hS⟩ => ?_
  obtain ⟨tw, hw, hq⟩ := hbody cv B out s H E room gu
  let C : Ctx := ⟨H, O, N.length, io⟩
  have run := hw.run C (fun cls d _ H => E cls d H) rfl rfl (takes_of rfl rfl rfl rfl) (passes_of rfl)
  refine ⟨_, run, O, rho0 N ts, ?_, ?_⟩
  · have l1 : (L2.start N vs).length = N.length := by unfold L2.start; rw [List.length_append, List.length_map, List.length_replicate, En.lv]; omega
    have l2 : (rho0 N ts).length = N.length := by unfold rho0; rw [List.length_append, List.length_map, List.length_replicate, En.lt]; omega
    exact ⟨fun b o e1 e2 => ⟨e1, rfl⟩, En.nt, fun b r p e => Nat.lt_of_lt_of_le (En.val b r p e).1 hN, En.inj, fun b r p e _ => let ⟨_, _, t, z, h1, h2, h3⟩ := En.val b r p e; ⟨t, z, rho0_of h1, h2, h3⟩, l1, l2,
      fun i t e => let ⟨v, h1, h2⟩ := En.tr i t (rho0_get e); ⟨v, start_of h1, h2⟩, Nat.le_refl _, fun b e => let ⟨o, h, _⟩ := En.nt b (by rw [e]; intro z; cases z); ⟨o, h, e⟩, fun b j p e => ⟨Nat.lt_of_lt_of_le (En.val b j p e).1 hN, e⟩, En.sm, fun b j p e => (En.val b j p e).2.1⟩
  · have fin : ∀ {t : T} {v : V} {σ' : L2.St} {H' : Hp} {O' : Own} {ρ' : Rho} {m : Nat}, (∀ v H' O', Exi K np io vs H O H' O' ρ' → Val K H' O' np v t → Q v H') → Rel K C m σ' H' O' ρ' → Val K H' O' C.N v t → noAl t = true → Q v H' := fun {t v σ' H' O' ρ' m} q R' V' hal => by
      refine q v H' (outL np io C.N O') (exi_of rfl rfl hN En R') ?_
      have gen : ∀ u : T, (Tr K H' O' C.N [] v u ∧ ∀ b p, O' b = .at C.N p → ∃ z, subT u p = some z ∧ isNode z = true) → Tr K H' (outL np io C.N O') np [] v u ∧ ∀ b p, outL np io C.N O' b = .at np p → ∃ z, subT u p = some z ∧ isNode z = true := fun u h =>
        ⟨Tr.move (r' := np) (p0 := []) (p1 := []) (fun b o e1 e2 => ⟨e1, outL_free e2⟩) (fun b o q e1 e2 => ⟨e1, outL_res e2⟩) u [] v h.1, fun b p e => by
          rcases outL_at e with ⟨_, h2⟩ | ⟨h1, _⟩
          · exact h.2 b p h2
          · omega⟩
      cases t with
      | a r p => cases hal
      | _ => exact gen _ V'
    have hq' := hq ts _ _ hS
    refine hw.mono _ _ _ (LeD.mk (fun ρ' q => ?_) (fun t ρ' q => ?_) (fun _ z => False.elim z) (fun _ z => False.elim z) (fun c ρ' q => ?_)) hq'
    · intro σ' H' O' R' F'
      exact fin q R' (R'.val_d .non) rfl
    · intro v σ' H' O' R' F' V'
      exact fin q.2 R' V' q.1
    · intro σ' H' O' R' F'
      refine q H' _ (exi_of rfl rfl hN En R') fun b p e => ?_
      rcases outL_at e with ⟨_, h2⟩ | ⟨h1, _⟩
      · exact absurd (R'.lt b _ p h2) (Nat.lt_irrefl _)
      · omega
end
/-! ### the call, defaults behind -/
inductive Scs : List V → List PyData → Prop
  | nil : Scs [] []
  | cons {v x vs xs} : Sc v x → Scs vs xs → Scs (v :: vs) (x :: xs)
def DfD (P : Program) (w : World) (K : PySem.W.Frag) (mg : Str → Option Value) (base : Heap) (x : Str) (k : Nat) (ps : List Str) (np : Nat) (io : List Nat) (S : SpT) (dts : List PyData) : Prop :=
  ∃ f fd dvs ds, FnG P w K mg base k f fd ps (lfSp K np io S) ∧ mg x = some (.ref f) ∧ PySem.W.keepIn K (.ref f) = true ∧ Binds K fd ps ds ∧ Vals dvs ds ∧ Scs dvs dts
structure FdD (K : PySem.W.Frag) (mg : Str → Option Value) (x : Str) (st : Stmt) (ps : List Str) (dvs : List V) (dts : List PyData) (f : Addr) (fd : FuncData) : Prop where
  F : FunD K x x (defArgs st) (defBody st) (defScope st) dvs [] f fd
  g : mg x = some (.ref f)
  b : ∃ ds, Vals dvs ds ∧ Binds K fd ps ds
  a : ∃ ds, Vals [] ds ∧ Binds K fd ps ds
  s : Scs dvs dts
section
variable {P : Program} {w : World} {K : PySem.W.Frag} {mg : Str → Option Value} {base : Heap} {x : Str} {st : Stmt} {f : Addr} {fd : FuncData} {ps : List Str} {dvs : List V} {dts : List PyData} {k np : Nat} {io : List Nat} {S : SpT}
theorem FdD.dfd (D : FdD K mg x st ps dvs dts f fd) (G : FnG P w K mg base k f fd ps (lfSp K np io S)) : DfD P w K mg base x k ps np io S dts := let ⟨ds, v, b⟩ := D.b; ⟨f, fd, dvs, ds, G, D.g, D.F.kp, b, v, D.s⟩
theorem FdD.df (D : FdD K mg x st ps dvs dts f fd) (G : FnG P w K mg base k f fd ps (lfSp K np io S)) : Df P w K mg base x k ps np io S := by
  obtain ⟨ds, v, b⟩ := D.a
  cases v
  exact ⟨f, fd, G, D.g, D.F.kp, b⟩
theorem funD_mk {qual : Str} {oc : Value} {od an : Option Addr} {osl osl2 : Array (Option Value)} {kV doc pm cdv ct c2 : Value} {T : Addr} {d2 : Option Addr} {its : List Value} {n : Nat} (l : K.lookup f = some ⟨oc, od, .func (PySem.W.fnOf x qual (defArgs st) (defBody st) (defScope st) (.ref T) kV doc pm an cdv ct), osl⟩)
    (c : PySem.W.codeIn K cdv qual = true) (k : PySem.W.keepIn K (.ref f) = true) (lT : K.lookup T = some ⟨c2, d2, .seq its.toArray n, osl2⟩) (ne : dvs ≠ []) (v : Vals dvs its) : FunD K x qual (defArgs st) (defBody st) (defScope st) dvs [] f (PySem.W.fnOf x qual (defArgs st) (defBody st) (defScope st) (.ref T) kV doc pm an cdv ct) :=
  ⟨⟨oc, od, _, kV, doc, pm, an, cdv, ct, osl, rfl, l, c, .inr ⟨ne, T, _, its, n, rfl, lT, rfl, v⟩, .inl rfl⟩, k⟩
end
def wApp (dts : List PyData) (tas : TwA) : TwA := fun ρ Q E => tas ρ (fun ts ρ1 => Q (ts ++ dts.map T.d) ρ1) E
def appK (dts : List PyData) (ts : List T) (Q : List T → Rho → Prop) (ρ : Rho) : Prop := Q (ts ++ dts.map T.d) ρ
theorem xAppD {dts : List PyData} {tas : TwA} {ρ : Rho} {Q : List T → Rho → Prop} {E : ExK} (h : tas ρ (fun ts ρ1 => appK dts ts Q ρ1) E) : wApp dts tas ρ Q E := h
theorem xAppD11 {x : PyData} {t : T} {ρ : Rho} {Q : List T → Rho → Prop} (h : Q [t, .d x] ρ) : appK [x] [t] Q ρ := h
theorem xAppD21 {x : PyData} {t u : T} {ρ : Rho} {Q : List T → Rho → Prop} (h : Q [t, u, .d x] ρ) : appK [x] [t, u] Q ρ := h
theorem ValAll.app {K : PySem.W.Frag} {H : Hp} {O : Own} : ∀ {n : Nat} {vs ws : List V} {ts us : List T}, ValAll K H O n vs ts → ValAll K H O (n + ts.length) ws us → ValAll K H O n (vs ++ ws) (ts ++ us)
  | _, _, _, _, _, .nil, h => by simpa using h
  | n, _, _, _, _, .cons (ts := ts) a b, h => .cons a (ValAll.app b (by rw [List.length_cons] at h; rw [show n + 1 + ts.length = n + (ts.length + 1) by omega]; exact h))
theorem ValAll.scs {K : PySem.W.Frag} {C : Ctx} {m : Nat} {σ : L2.St} {H : Hp} {O : Own} {ρ : Rho} (R : Rel K C m σ H O ρ) : ∀ {dvs : List V} {dts : List PyData}, Scs dvs dts → ∀ n, m ≤ n → ValAll K H O n dvs (dts.map T.d)
  | _, _, .nil, _, _ => .nil
  | _, _, .cons a b, n, h => .cons ((R.up h).val_d a.rp) (ValAll.scs R b (n + 1) (by omega))
section
variable {X : Cx} {k np : Nat} {f : Addr} {fd : FuncData} {ps : List Str} {sp : Sp} {E : L2.St → XK} {x : Str} {p pos : Pos} {e : Expr} {es : List Expr} {t : TA} {io : List Nat} {S : SpT} {tas : TwA} {dvs : List V} {ds : List Value} {dts : List PyData}
theorem run_fnGD {pins : List (Addr × Obj)} {σ : L2.St} {H : Hp} {s : Shared} {Q : VK} {us : List Value} {vs : List V} {E1 : XK} (F : FnG X.prog X.w X.K X.mg X.base k f fd ps sp) (room : Room k X.A) (gu : X.A.guards = some []) (bind : Binds X.K fd ps ds) (dv : Vals dvs ds) (pass : PassesAt (L2.CX X.prog X.w) X σ E1)
    (J : L2.Inv X pins σ H s) (vals : Vals vs us) (q : sp (vs ++ dvs) H Q E1) : wpAny (model X.prog X.w) X.A (call (.ref f) us) (EP X pins σ Q) X.xe s := by
  have va : Vals (vs ++ dvs) (us ++ ds) := Vals.append vals dv
  have lu : (us ++ ds).length = ps.length := va.length.symm.trans (F.len _ _ _ _ q)
  refine wpAny_call (codeAny_mono (F.run X.A X.stack s H ⟨us, []⟩ (us ++ ds) (vs ++ dvs) Q E1 room gu J.env0 (bind s us J.kIn lu) va q) fun r s2 hq => ?_)
  cases r with
  | error err => exact pass pins H s err s2 J hq
  | ok fl => cases fl with
    | ret u => exact J.after hq
    | _ => exact False.elim hq
def tCallGD (dvs : List V) (sp : Sp) (E : L2.St → XK) (t : TA) : TE := fun σ H Q => t σ H fun vs H1 => sp (vs ++ dvs) H1 Q (E σ)
theorem pe_callGD (F : FnG X.prog X.w X.K X.mg X.base k f fd ps sp) (room : Room k X.A) (gu : X.A.guards = some []) (hg : Gl X x) (hm : X.mg x = some (.ref f)) (hk : PySem.W.keepIn X.K (.ref f) = true) (bind : Binds X.K fd ps ds) (dv : Vals dvs ds) (pass : ∀ σ, PassesAt (L2.CX X.prog X.w) X σ (E σ))
    (ha : PA X (e :: es) t) (hdb : (x == ("__debug__" : Str)) = false := by decide) (he : starEach (e :: es) X.env = (false, eval e X.env) :: starEach es X.env := by rfl) (hpl : (backTo pos (starEach es X.env)).any (·.1) = false := by rfl) :
    PE X (.Call (.Name x p) (e :: es) [] pos) (tCallGD dvs sp E t) := ⟨fun pins s σ H Q J h =>
  wpAny_Call_Name_kw (ld_glob J hg hm (PySem.W.callWith_K (h₀ := X.base) J.ok.mod.kin hk (thn (ha.run pos pins s σ H _ J h) fun us s1 ⟨vs, H1, J1, vals, q⟩ => ⟨J1.kIn, run_fnGD F room gu bind dv (pass σ) J1 vals q⟩) he hpl) hdb)⟩
theorem le_callDd {j : Nat} (D : DfD X.prog X.w X.K X.mg X.base x k ps np io S dts) (room : Room j X.A) (hj : k ≤ j) (gu : X.A.guards = some []) (mS : MonSp S) (hg : Gl X x)
    (ha : LA X (e :: es) tas) (hdb : (x == ("__debug__" : Str)) = false := by decide) (he : starEach (e :: es) X.env = (false, eval e X.env) :: starEach es X.env := by rfl) (hpl : (backTo pos (starEach es X.env)).any (·.1) = false := by rfl) :
    LE X (.Call (.Name x p) (e :: es) [] pos) (wCall io np S (wApp dts tas)) := by
  obtain ⟨f, fd, dvs, ds, F, hm, hk, bind, dv, sc⟩ := D
  refine ⟨fun ρ Q Q' E E' h he q => ha.mono ρ _ _ E E' (fun ts ρ1 ⟨vu, us, h1, h2, h3, h4⟩ => ⟨vu, us, h1, h2, h3, mS us _ _ _ _ (fun t ρ' ⟨z1, z2, z3, z4⟩ => ⟨z1, z2, z3, h _ _ z4⟩) (fun c ρ' ⟨z1, z2⟩ => ⟨z1, he _ _ z2⟩) h4⟩) he q,
    fun C W n hC hn tk => (pe_callGD F (room.mono hj) gu hg hm hk bind dv (fun σ => passAt tk σ) (ha.run C W n hC hn tk) hdb he hpl).imp fun σ H Q ⟨O, ρ, R, q⟩ => ⟨O, ρ, R, ha.mono ρ _ _ _ _ (fun ts ρ1 ⟨vu, us, h1, h2, h3, h4⟩ => ?_) (fun _ _ z => z) q⟩⟩
  intro vs0 H1 O1 R0 F1 V0
  have R1 : Rel X.K C (n + (ts ++ dts.map T.d).length) σ H1 O1 ρ1 := R0.up (by rw [List.length_append]; omega)
  have V1 : ValAll X.K H1 O1 n (vs0 ++ dvs) (ts ++ dts.map T.d) := V0.app (ValAll.scs R0 sc _ (Nat.le_refl _))
  refine ⟨inL C.N n io (ts ++ dts.map T.d) vu O1, us, ent_of R1 hn V1 h1 h2 h3, mS us _ _ _ _ (fun t ρ' ⟨z1, z2, z3, z4⟩ => ?_) (fun c ρ' ⟨z1, z2⟩ => ?_) h4⟩
  · intro v H' O' Ex V'
    have B : BkC X.K C n np io (ts ++ dts.map T.d) us (vs0 ++ dvs) vu H1 O1 ρ1 H' O' ρ' := ⟨hn, V1, h1, h2, h3, Ex, z1⟩
    exact z4 v H' _ (B.rel R1) (F1.trans (B.frm R1) (Nat.le_refl _)) (B.val R1 V' z3 z2)
  · intro H' O' Ex _
    have B : BkC X.K C n np io (ts ++ dts.map T.d) us (vs0 ++ dvs) vu H1 O1 ρ1 H' O' ρ' := ⟨hn, V1, h1, h2, h3, Ex, z1⟩
    exact z2 σ H' _ ((B.rel R1).cut (Nat.le_refl _)) (F1.fre.trans ((B.frm R1).fre.trans (fre_cut _)))
end
end TX

/-! Products of which one side is short. -/
namespace TX
open PySem PySem.Spec L2 PyProof.Rows
section
variable {X : Cx} {a b : Expr} {ta tb : TwE} {pos : Pos}
theorem op_mulX : OpR X (binaryOp .Mult) (rI IntMulOk fun i j => .int (i * j)) := opI fun _ _ _ _ _ _ _ hc q => PyProof.Rows.mul_int q hc
theorem le_mulX (ha : LE X a ta) (hb : LE X b tb) : LE X (.BinOp a .Mult b pos) (wOp (fIc IntMulOk (· * ·)) ta tb) := le_op op_mulX (od_Ic _ _) ha hb
end
theorem mulR {i j : Int} (h : j.natAbs < 2 ^ 64) : IntMulOk i j := IntMulOk.of_right (PyProof.Rows.intBits_le h)
end TX

/-! a, b = e1, e2 where a name is a cell: over a tuple. -/
namespace TX
open PySem PySem.Spec L2 PyProof.Rows
theorem relFresh {K : PySem.W.Frag} {C : Ctx} {m : Nat} {σ : L2.St} {H : Hp} {O : Own} {ρ : Rho} {p : Addr} {o : HO} (R : Rel K C m σ H O ρ) (hp : H p = none) :
    Rel K C m σ (L2.upd H p o) O ρ ∧ (∀ n, Frm C.N n H O (L2.upd H p o) O) ∧ ∀ b u, H b = some u → L2.upd H p o b = some u := by
  have of := R.fresh hp
  have keep : ∀ b u, H b = some u → L2.upd H p o b = some u := fun b u e => by rw [upd_ne (ne_of_none e hp)]; exact e
  exact ⟨⟨fun b u e1 e2 => ⟨keep _ _ (R.fr b u e1 e2).1, (R.fr b u e1 e2).2⟩, fun b h => let ⟨u, e, w⟩ := R.nt b h; ⟨u, keep b u e, w⟩, R.lt, R.inj, R.val, R.ln, R.lr,
    fun i t e => let ⟨v, h2, h3⟩ := R.sl i t e; ⟨v, h2, Tr.move (r' := i) (p0 := []) (p1 := []) (fun b u e1 e2 => ⟨keep b u e1, e2⟩) (fun b u q e1 e2 => ⟨keep b u e1, e2⟩) t [] v h3⟩, R.hN, R.fo, R.pz, R.sm⟩,
    fun n => ⟨fun b u e1 e2 => ⟨keep b u e1, e2⟩, fun _ _ _ e _ => e, fun b u r q e1 e2 _ _ => ⟨keep b u e1, e2⟩, fun _ _ _ e _ _ => e⟩, keep⟩
section
variable {X : Cx} {io : List Nat} {a b : Expr} {tas : TwA} {px py pt pt2 pos : Pos} {kt k2 : Nat}
theorem ls_parC {i j : Nat} {x y : Str} (hc : X.calm = true) (hN : X.N.Nodup) (hi : X.N[i]? = some x) (hj : X.N[j]? = some y) (hij : i ≠ j) (hx : Loc X.env.scope x) (hy : Loc X.env.scope y) (ha : LA X [a, b] tas)
    (hw : swappedStores [.Tuple [.Name x px, .Name y py] kt pt] (.Tuple [a, b] k2 pt2) X.env = pure none) (hio : i ∉ io := by decide) (hjo : j ∉ io := by decide)
    (hs : swapsWithSole [.Tuple [.Name x px, .Name y py] kt pt] (.Tuple [a, b] k2 pt2) pos.line X.env = pure false := by rfl)
    (h1 : (assignEach [.Tuple [.Name x px, .Name y py] kt pt] X.env).map (·.2) = [assign (.Tuple [.Name x px, .Name y py] kt pt) X.env] := by rfl)
    (hn : (assignEach [.Name x px, .Name y py] X.env).length = 2 := by rfl) (hst : (assignEach [.Name x px, .Name y py] X.env).findIdx? (·.1) = none := by rfl)
    (he1 : (assignEach [.Name x px, .Name y py] X.env).map (·.2) = assign (.Name x px) X.env :: (assignEach [.Name y py] X.env).map (·.2) := by rfl) (he2 : (assignEach [.Name y py] X.env).map (·.2) = assign (.Name y py) X.env :: (assignEach [] X.env).map (·.2) := by rfl)
    (hfx : X.fn x = true ∨ X.env.scope.names.lookup x = some .local := by first | exact .inl rfl | exact .inr rfl) (hfy : X.fn y = true ∨ X.env.scope.names.lookup y = some .local := by first | exact .inl rfl | exact .inr rfl) :
    LS X io (.Assign [.Tuple [.Name x px, .Name y py] kt pt] (.Tuple [a, b] k2 pt2) pos) (wPar i j tas) := by
  refine ⟨fun D D' ρ l q => ha.mono ρ _ _ _ _ (fun ts ρ1 ⟨t, u, e, h1, h2, q⟩ => ⟨t, u, e, h1, h2, l.nx _ q⟩) l.ex q, fun C W hC hio' tk hp =>
    (ps_asg (pe_tup (ha.run C W C.N hC (Nat.le_refl _) tk)) (pg_tup hc (pgs_cons (pg_name hN hi hx hfx) (pgs_cons (pg_name hN hj hy hfy) pgs_nil he2) he1) hn hst) hs hw h1).imp fun D σ H ⟨O, ρ, R, q⟩ => ?_⟩
  refine ⟨O, ρ, R, ha.mono ρ _ _ _ _ (fun ts ρ1 ⟨t, u, e, h1, h2, q⟩ => ?_) (fun _ _ z => z) q⟩
  subst e
  intro vs H1 O1 R1 F1 V1
  obtain ⟨v, w, rfl, V2, V3⟩ := V1.two
  refine ⟨show (2 : Nat) ≤ sizeLine by decide +kernel, fun p hp => ⟨p, [v, w], rfl, .inl (.inl upd_same), rfl, v, [w], rfl, w, [], rfl, rfl, ?_⟩⟩
  obtain ⟨R0, F0, kp⟩ := relFresh (o := .tup [v, w]) R1 hp
  have V2 := V2.carry2 (Nat.le_refl _) R1.lt R1.nt (F0 _)
  have V3 := V3.carry (Nat.le_succ _) R1.lt R1.nt (F0 _)
  have F1 := F1.trans (F0 C.N) (Nat.le_refl _)
  have li := nlt hC hi
  have lj := nlt hC hj
  obtain ⟨R2, f2, k2'⟩ := relStoreM (m := C.N + 1) R0 (Nat.le_succ _) lj (by rw [hio']; exact hjo) V3 (noAl_ne h2)
  have V4 : Val X.K (L2.upd H1 p (.tup [v, w])) (mvR (C.N + 1) j (dropR j O1)) C.N v t := by
    have gen : ∀ t : T, (Tr X.K (L2.upd H1 p (.tup [v, w])) O1 C.N [] v t ∧ ∀ b p, O1 b = .at C.N p → ∃ z, subT t p = some z ∧ isNode z = true) → Tr X.K (L2.upd H1 p (.tup [v, w])) (mvR (C.N + 1) j (dropR j O1)) C.N [] v t ∧ ∀ b p, mvR (C.N + 1) j (dropR j O1) b = .at C.N p → ∃ z, subT t p = some z ∧ isNode z = true := fun t h =>
      ⟨Tr.move (r' := C.N) (p0 := []) (p1 := []) (fun b o e1 e2 => ⟨e1, (f2 b o e1 e2).2⟩) (fun b o q e1 e2 => ⟨e1, (k2' b _ _ (Nat.le_refl _) (Nat.lt_succ_self _)).mpr e2⟩) t [] v h.1, fun b p e => h.2 b p ((k2' b _ _ (Nat.le_refl _) (Nat.lt_succ_self _)).mp e)⟩
    cases t with
    | a r p => cases h1
    | _ => exact gen _ V2
  obtain ⟨R3, f3, _⟩ := relStoreM (m := C.N) R2 (Nat.le_refl _) li (by rw [hio']; exact hio) V4 (noAl_ne h1)
  rw [List.set_comm _ _ (fun e => hij e.symm)] at R3
  rw [List.set_comm (i := j) (j := i) _ _ (fun e => hij e.symm)] at R3
  exact q _ _ _ R3 ((F1.fre.trans f2).trans f3)
end
end TX

/-! Dicts by comprehensions, nothing but their own names changed. -/
namespace TX
open PySem PySem.Spec L2 PyProof.Rows
section
variable {ρ : Rho} {Q : T → Rho → Prop} {g : TwG} {tt : TwT} {tk tv : TwE} {vs : List Nat}
theorem putD_new {κ : Type} [DecidableEq κ] {kvs : List (κ × PyData)} {k : κ} {x : PyData} (h : ∀ q ∈ kvs, q.1 ≠ k) : putD kvs k x = kvs ++ [(k, x)] := by
  unfold putD
  rw [if_neg]
  rw [List.any_eq_true]
  rintro ⟨q, hq, e⟩
  exact h q hq (of_decide_eq_true e)
theorem put_next {κ : Type} [DecidableEq κ] {xs : List PyData} {k : PyData → κ} {v : PyData → PyData} (nd : (xs.map k).Nodup) {i : Nat} {x : PyData} (e : xs[i]? = some x) :
    putD ((xs.take i).map fun x => (k x, v x)) (k x) (v x) = (xs.take (i + 1)).map fun x => (k x, v x) := by
  rw [putD_new]
  · rw [List.take_succ, e]; simp
  · intro q hq z
    obtain ⟨w, hw, rfl⟩ := List.mem_map.mp hq
    obtain ⟨hi, he⟩ := List.getElem?_eq_some_iff.mp e
    rw [← List.take_append_drop i xs, List.drop_eq_getElem_cons hi, he, List.map_append, List.map_cons] at nd
    exact (List.nodup_append.mp nd).2.2 _ (List.mem_map_of_mem hw) _ List.mem_cons_self z
theorem xDcTN {xs : List PyData} (k : PyData → List Key) (v : PyData → PyData) (hn : noNd ρ vs) (hl : xs.length ≤ 1000000) (nd : (xs.map k).Nodup)
    (step : ∀ x ∈ xs, ∀ (Y : List Key → PyData → Rho → Prop) (Z : Rho → Prop), (∀ ρ6, wipeR ρ6 vs = wipeR ρ vs → Y (k x) (v x) (wipeR ρ6 vs)) →
      g x (wipeR ρ vs) (fun ρ3 => tt ρ3 (fun b ρ4 => if b = true then tk ρ4 (fun t ρ5 => ∃ k, t = .d (tupD k) ∧ tv ρ5 (fun u ρ6 => noNd ρ6 vs ∧ ∃ y, erase u = some y ∧ Y k y (wipeR ρ6 vs)) exN) exN else noNd ρ4 vs ∧ Z (wipeR ρ4 vs)) exN) exN)
    (q : Q (mK2 (xs.map fun x => (k x, v x))) ρ) : dcTK g tt tk tv vs Q xs ρ := by
  refine ⟨hn, hl, fun i acc ρ2 => acc = (xs.take i).map (fun x => (k x, v x)) ∧ ρ2 = wipeR ρ vs, ⟨rfl, rfl⟩, ?_, ?_⟩
  · rintro i x acc ρ2 e ⟨rfl, rfl⟩
    exact step x (List.mem_of_getElem? e) (fun k' y ρ' => putD ((xs.take i).map fun x => (k x, v x)) k' y = (xs.take (i + 1)).map (fun x => (k x, v x)) ∧ ρ' = wipeR ρ vs) (fun ρ' => (xs.take i).map (fun x => (k x, v x)) = (xs.take (i + 1)).map (fun x => (k x, v x)) ∧ ρ' = wipeR ρ vs) (fun ρ6 h => ⟨put_next nd e, h⟩)
  · rintro acc ρ2 ⟨rfl, rfl⟩
    rw [rest_wipe, List.take_length]
    exact q
end
end TX

/-! Texts: split, join, int of a text, a sign in a text, a text walked. -/
namespace TX
open PySem PySem.Spec L2 PyProof.Rows
/-! ### text.split(sep), sep.join(texts) -/
section
variable {X : Cx} {o e i : Expr} {apos cpos p pos : Pos} {ta tb : TwE} {tas : TwA} {tg : Expr}
/-! ### int(text) -/
/-! ### sign in text -/
/-! ### a text walked -/
end
end TX

/-! A list or a tuple, walked. -/
namespace TX
open PySem PySem.Spec L2 PyProof.Rows
section
variable {X : Cx} {tg e : Expr} {ta : TwE}
end
end TX

/-! zip of two tuples. -/
namespace TX
open PySem PySem.Spec L2 PyProof.Rows RZ
section
variable {X : Cx} {a b : Expr} {tas : TwA} {p pos tpos : Pos} {elts : List Expr} {kk : Nat}
end
end TX

/-! A tree of one's own, looked at as data while an expression runs; one's own again behind it. -/
namespace TX
open PySem PySem.Spec L2
section
variable {K : PySem.W.Frag} {C : Ctx} {n m : Nat} {σ : L2.St} {H H' : Hp} {O O' : Own} {ρ : Rho} {i : Nat} {t0 : T} {x : PyData}
theorem Rel.lookD (R : Rel K C n σ H O ρ) (e : ρ[i]? = some (some t0)) (ex : erase t0 = some x) : Rel K (lockZ H (dropR i O) C) n σ H (dropR i O) (ρ.set i (some (.d x))) := by
  have hi : i < ρ.length := (List.getElem?_eq_some_iff.mp e).1
  have hiN := R.slt e
  obtain ⟨v, hv, tr⟩ := R.sl i _ e
  have rp : Rp K (msk (dropR i O) H) v x := Rp.mono (fun b o h => by
    have hb : dropR i O b = .free := by
      unfold vis at h
      split at h
      · rename_i z; exact dropR_free z
      · cases h
      · rename_i r p z
        split at h
        · rename_i y; unfold dropR; rw [z]; simp [y]
        · cases h
    rw [msk_of hb]
    exact vis_le b o h) _ _ (Tr.view t0 [] v x ex tr)
  refine ⟨fun b o e1 e2 => ?_, fun b h => R.nt b fun z => h (dropR_free z), fun b r p h => R.lt b r p (dropR_at.mp h).1, fun x y r p e1 e2 => R.inj x y r p (dropR_at.mp e1).1 (dropR_at.mp e2).1, fun b r p h l => ?_, R.ln, by rw [List.length_set]; exact R.lr, fun j t h => ?_, R.hN, fun b h => ?_, fun b j p h => absurd h lockZ_io, ⟨trivial, fun b j p h => absurd h lockZ_io⟩⟩
  · cases h : dropR i O b with
    | «at» r p => rw [(lockZ_at h).1] at e1; cases e1
    | free => have := lockZ_no (H := H) (C := C) (O := dropR i O) (b := b) (by rw [h]; intro r p z; cases z); rw [this.1] at e1; exact ⟨e1, by rw [this.2, h]⟩
    | foreign => have := lockZ_no (H := H) (C := C) (O := dropR i O) (b := b) (by rw [h]; intro r p z; cases z); rw [this.1] at e1; exact ⟨e1, by rw [this.2, h]⟩
  · obtain ⟨h1, h2⟩ := dropR_at.mp h
    obtain ⟨t, z, g1, g2, g3⟩ := R.val b r p h1 l
    exact ⟨t, z, by rw [List.getElem?_set_ne (fun z => h2 z.symm)]; exact g1, g2, g3⟩
  · rw [set_get hi] at h
    split at h
    · rename_i z; subst z; cases h; exact ⟨_, hv, .d rp⟩
    · rename_i z
      obtain ⟨w, h1, h2⟩ := R.sl j t h
      exact ⟨w, h1, Tr.move (r' := j) (p0 := []) (p1 := []) (fun b o e1 e2 => ⟨e1, dropR_free e2⟩) (fun b o q e1 e2 => ⟨e1, dropR_at.mpr ⟨e2, z⟩⟩) t [] w h2⟩
  · have h1 := dropR_foreign.mp h
    obtain ⟨o, h2, _⟩ := R.nt b (by rw [h1]; intro z; cases z)
    have := lockZ_no (H := H) (C := C) (O := dropR i O) (b := b) (by rw [h]; intro r p z; cases z)
    exact ⟨o, by rw [this.1]; exact h2, by rw [this.2]; exact h⟩
end
end TX

/-! A target that may set more slots. -/
namespace TX
open PySem PySem.Spec L2
theorem LG.wid {X : Cx} {s s' : List Nat} {e : Expr} {tg : TwG} (h : LG X s e tg) (hs : ∀ i ∈ s, i ∈ s') : LG X s' e tg := by
  refine ⟨h.mono, fun C W n hC hn tk => (h.run C W n hC hn tk).imp fun v σ H Q ⟨O, ρ, x, R, rp, q⟩ => ⟨O, ρ, x, R, rp, h.mono _ _ _ _ _ _ (fun ρ' q' => ?_) (fun _ _ z => z) q⟩⟩
  intro σ' H' O' R' F w
  exact q' σ' H' O' R' (F.wid hs) (wipe_wid w hs (R'.ln.trans R.ln.symm))
end TX

/-! x = e1; y = e2, while a tree of one's own at slot i is looked at as data: behind them it is one's own again, and what might be it is forgotten. -/
namespace TX
open PySem PySem.Spec L2
section
variable {K : PySem.W.Frag} {C : Ctx} {n m : Nat} {σ σ' : L2.St} {H H' : Hp} {O O' : Own} {ρ ρ' ρ4 : Rho} {i k1 k2 : Nat} {t0 : T} {x : PyData}
end
section
variable {X : Cx} {rest : List Stmt} {u : TwS} {e1 e2 : Expr} {ta tb : TwE} {p1 p2 q1 q2 : Pos}
end
end TX

/-! dict(pairs with tuple keys), list(d.items()), sum of ints. -/
namespace TX
open PySem PySem.Spec L2 PyProof.Rows
def pairD (p : List Key × PyData) : PyData := .tuple [tupD p.1, p.2]
/-- the pairs at the addresses ps -/
def PairsT (H : Hp) (ps : List Addr) (kvs : List (List Key × V)) : Prop := Paired (fun (p : Addr) (kv : List Key × V) => ∃ b, H p = some (.tup [.ref b, kv.2]) ∧ H b = some (.tup (kv.1.map kV))) ps kvs
section
variable {X : Cx} {pins : List (Addr × Obj)} {σ : L2.St} {H : Hp} {s : Shared}
theorem pairsT_of (I : Inv X pins σ H s) {ps : List Addr} {kvs : List (List Key × V)} (h : PairsT H ps kvs) : ∃ prs : List (List Key × Addr × Value), L2.KT H kvs prs ∧ ps.length = prs.length ∧
    ∀ (j : Nat) (q : List Key × Addr × Value), prs[j]? = some q → ∃ p, ps[j]? = some p ∧ PySem.PairAt s.heap p (.ref q.2.1) q.2.2 := by
  unfold PairsT at h
  induction h with
  | nil => exact ⟨[], .nil, rfl, fun j q e => by simp at e⟩
  | @cons p kv ps kvs h t ih =>
    obtain ⟨prs, r, hl, hp⟩ := ih
    obtain ⟨b, h1, h2⟩ := h
    obtain ⟨_, its, rv, o, e1, e2, n, e3⟩ := (show ObjOk X.prog X.w H s.heap p (.tup [.ref b, kv.2]) from I.hok p _ h1)
    obtain ⟨u, y, ei, ru, ry⟩ := vals2 rv
    subst ei
    cases ru
    refine ⟨(kv.1, b, y) :: prs, .cons ⟨rfl, h2, ry⟩ r, by rw [List.length_cons, List.length_cons, hl], fun j q e => ?_⟩
    cases j with
    | zero =>
      have e' : (kv.1, b, y) = q := Option.some.inj e
      rw [← e']
      exact ⟨p, rfl, .inl ⟨o, e1, e2, n, e3⟩⟩
    | succ j =>
      obtain ⟨p', e1', e2'⟩ := hp j q (by simpa using e)
      exact ⟨p', by simpa using e1', e2'⟩
theorem kt_all {kvs : List (List Key × V)} {prs : List (List Key × Addr × Value)} (r : L2.KT H kvs prs) : ∀ {acc : List (List Key × V)} {xs : List (List Key × Addr × Value)}, L2.KT H acc xs → L2.KT H (kvs.foldl (fun a q => putK a q.1 q.2) acc) (storedAllH xs prs) := by
  unfold L2.KT at r
  induction r with
  | nil => exact fun h => h
  | @cons p q ps qs h t ih =>
    intro acc xs h0
    obtain ⟨h1, h2, h3⟩ := h
    have := KT.put h0 p.1 h2 h3
    exact ih (acc := putK acc p.1 p.2) (xs := storedH xs q.1 q.2.1 q.2.2) (by rw [← h1]; exact this)
def rDictPT : List V → Hp → VK → Prop := fun xs H Q => ∃ (a : Addr) (ps : List Addr) (kvs : List (List Key × V)), xs = [V.ref a] ∧ H a = some (.lst (ps.map V.ref)) ∧ PairsT H ps kvs ∧
  ∀ p, H p = none → Q (.ref p) (L2.upd H p (.dT (kvs.foldl (fun a q => putK a q.1 q.2) [])))
theorem cr_dictPT (hc : X.calm = true) (hu : X.A.units + 64 < cLine) : CallR X (.type "dict") rDictPT := by
  rintro pins s σ H xs us Q I r ⟨a, ps, kvs, rfl, ha, hp, q⟩
  rw [Vals.ref1 r]
  obtain ⟨its, rv, pl, hz⟩ := I.list (.of ha)
  have ei := refs_at rv
  subst ei
  rw [List.length_map] at hz
  obtain ⟨prs, kt, hl, hpr⟩ := pairsT_of I hp
  have P := PySem.PairArg.list (prog := X.prog) (w := X.w) a (ps.map Value.ref).toArray (fun j => ps.getD j 0) (prs.map fun q => (Value.ref q.2.1, q.2.2))
  rw [List.length_map] at P
  have key : ∀ x ∈ prs, (tupleKind (mixKind X.prog X.w)).is s.heap x.1 x.2.1 := by
    have gen : ∀ {l : List (List Key × V)} {m : List (List Key × Addr × Value)}, L2.KT H l m → ∀ x ∈ m, H x.2.1 = some (.tup (x.1.map kV)) := by
      intro l m r
      unfold L2.KT at r
      induction r with
      | nil => intro x hx; cases hx
      | @cons p q ps qs h t ih =>
        intro x hx
        rcases List.mem_cons.mp hx with e | hx
        · rw [e, ← h.1]; exact h.2.1
        · exact ih x hx
    exact fun x hx => key_of I.hok (gen kt x hx)
  refine PySem.call_dict_pairsH (knd := tupleKind (mixKind X.prog X.w)) (ps := prs) P (I.ok.hd hc) (by show X.A.units + 1 + 1 < cLine; omega) ⟨pl, by simp [hl], fun j k v e => ?_⟩ ⟨rfl, fun i k v e => ?_⟩ (fun h' hk x hx => ?_) (by omega) fun h' tk hd' hk => ?_
  · rw [List.getElem?_map] at e
    cases e2 : prs[j]? with
    | none => rw [e2] at e; cases e
    | some z =>
      rw [e2] at e
      cases e
      obtain ⟨p, e3, e4⟩ := hpr j z e2
      have ed : ps.getD j 0 = p := by rw [List.getD_eq_getElem?_getD, e3]; rfl
      simp only [ed]
      exact ⟨by simp [e3], e4⟩
  · unfold PySem.PairRel at e
    rw [List.getElem?_map] at e
    cases e2 : prs[i]? with
    | none => rw [e2] at e; cases e
    | some z => rw [e2] at e; cases e; exact ⟨_, _, rfl, rfl⟩
  · obtain ⟨o, its, n, h1, h2, h3, h4⟩ := (show IsTupleKey (mixKind X.prog X.w) s.heap x.1 x.2.1 from key x hx)
    exact ⟨o, its, n, hk _ _ (Nat.ne_of_lt (Heap.lt_size h1)) (fun z => nomatch z) h1, h2, h3, h4⟩
  · have hm : (s.heap.objs.size == sysModules) = false := beq_eq_false_iff_ne.mpr (Nat.ne_of_gt I.big)
    have kt2 := kt_all kt (acc := []) (xs := []) .nil
    have hlen : (kvs.foldl (fun a q => putK a q.1 q.2) []).length ≤ sizeLine := by
      have z1 := storedAllH_length prs ([] : List (List Key × Addr × Value))
      have z2 := Paired.length kt2
      rw [List.length_nil, Nat.zero_add] at z1
      omega
    obtain ⟨ob, es, ep, hq, h2, h3, h4, _, h5⟩ := hd'
    have hf : H s.heap.objs.size = none := I.hok.fresh (Nat.le_refl _)
    refine ⟨.ref s.heap.objs.size, L2.upd H s.heap.objs.size (.dT (kvs.foldl (fun a q => putK a q.1 q.2) [])), I.laid (t' := tk) (fun b o e => hk b o (fun z => nomatch z) e) (Nat.le_refl _) ⟨hlen, hm, _, kt2.keeps fun c ys ec => ?_, ob, es, ep, hq, h2, h3, h4, h5⟩, rfl, q _ hf⟩
    rw [upd_ne (ne_of_none ec hf)]
    exact ec
end
/-! ### over trees -/
section
variable {K : PySem.W.Frag} {M : Hp}
theorem rp_pairD {v : V} {p : List Key × PyData} (h : Rp K M v (pairD p)) : ∃ a b x, v = .ref a ∧ M a = some (.tup [.ref b, x]) ∧ M b = some (.tup (p.1.map kV)) ∧ Rp K M x p.2 := by
  unfold pairD at h
  cases h with
  | tup h1 h2 =>
    cases h2 with
    | cons r1 r2 =>
      cases r2 with
      | cons r2 r3 =>
        cases r3
        obtain ⟨b, rfl, hb⟩ := rp_tupk r1
        exact ⟨_, b, _, rfl, h1, hb, r2⟩
theorem rp_pairDs : ∀ {vs : List V} {kvs : List (List Key × PyData)}, RpAll K M vs (kvs.map pairD) → ∃ (ps : List Addr) (ws : List (List Key × V)), vs = ps.map V.ref ∧ PairsT M ps ws ∧ KRp K M ws kvs
  | [], [], _ => ⟨[], [], rfl, .nil, .nil⟩
  | _ :: _, [], h => by cases h
  | [], _ :: _, h => by cases h
  | v :: vs, p :: kvs, h => by
    cases h with
    | cons h1 h2 =>
      obtain ⟨a, b, x, rfl, e1, e2, e3⟩ := rp_pairD h1
      obtain ⟨ps, ws, rfl, r1, r2⟩ := rp_pairDs h2
      exact ⟨a :: ps, (p.1, x) :: ws, rfl, .cons ⟨b, e1, e2⟩ r1, .cons e3 r2⟩
theorem krp_fold : ∀ {ws : List (List Key × V)} {kvs : List (List Key × PyData)}, KRp K M ws kvs → ∀ {a : List (List Key × V)} {b : List (List Key × PyData)}, KRp K M a b →
    KRp K M (ws.foldl (fun a q => putK a q.1 q.2) a) (kvs.foldl (fun a q => putD a q.1 q.2) b)
  | _, _, .nil, _, _, h => h
  | _, _, .cons r t, _, _, h => krp_fold t (KRp.put r h)
theorem pairsT_mono {M' : Hp} (k : ∀ b o, M b = some o → M' b = some o) {ps : List Addr} {ws : List (List Key × V)} (h : PairsT M ps ws) : PairsT M' ps ws := Paired.mapP h fun _ _ ⟨b, h1, h2⟩ => ⟨b, k _ _ h1, k _ _ h2⟩
end
def kDictP : KT := fun ts ρ Q => ∃ t, ∃ kvs : List (List Key × PyData), ts = [t] ∧ lsq ρ t = some (kvs.map pairD) ∧ Q (mK2 (kvs.foldl (fun a q => putD a q.1 q.2) [])) ρ
theorem kDictP_mono : MonK kDictP := fun ts ρ Q Q' h ⟨t, kvs, e, e1, q⟩ => ⟨t, kvs, e, e1, h _ _ q⟩
theorem fn_dictP {K : PySem.W.Frag} : FnK K rDictPT kDictP := by
  rintro C n m σ H0 H O0 O ρ ts vs Q hn hm R F V ⟨t, kvs, rfl, e1, q⟩
  obtain ⟨v, rfl, V1⟩ := V.one
  obtain ⟨ad, ws, rfl, h1, h2⟩ := R.lsqV V1 e1
  obtain ⟨ps, wk, rfl, r1, r2⟩ := rp_pairDs h2
  refine ⟨ad, ps, wk, rfl, h1, pairsT_mono msk_le r1, fun p hp => ?_⟩
  obtain ⟨R1, F1, u1⟩ := (R.cut (n := n) hn).alloc (o := .dT (wk.foldl (fun a q => putK a q.1 q.2) [])) hp trivial
  have k := krp_fold r2 (a := []) (b := []) .nil
  have up : ∀ b u, msk O H b = some u → msk (lay n p (cut n O)) (L2.upd H p (.dT (wk.foldl (fun a q => putK a q.1 q.2) []))) b = some u := fun b u z => by
    obtain ⟨z1, z2⟩ := msk_some z
    rw [msk_of (by rw [lay_ne (ne_of_none z2 hp)]; exact cut_free z1), upd_ne (ne_of_none z2 hp)]
    exact z2
  exact q _ _ _ R1 (F.trans ((frm_cut C.N n H O hn).trans F1 (Nat.le_refl _)) (Nat.le_refl _)) ⟨mK2_tr lay_same upd_same (k.mono up), fun b q e => by obtain ⟨rfl, rfl⟩ := u1 b q e; exact ⟨_, rfl, rfl⟩⟩
section
variable {X : Cx} {e : Expr} {tas : TwA} {p pos : Pos}
theorem le_dictP (hc : X.calm = true) (hu : X.A.units + 64 < cLine) (hg : Gl X "dict") (hm : X.mg "dict" = none) (ha : LA X [e] tas) (he : starEach [e] X.env = (false, eval e X.env) :: starEach [] X.env := by rfl) (hpl : (backTo pos (starEach [] X.env)).any (·.1) = false := by rfl) :
    LE X (.Call (.Name "dict" p) [e] [] pos) (wFn kDictP tas) := le_fn (fun t h => pe_callTy (cr_dictPT hc hu) hg hm (by decide +kernel) h (he := he) (hpl := hpl)) kDictP_mono fn_dictP ha
end
theorem fold_put {κ : Type} [DecidableEq κ] : ∀ (kvs acc : List (κ × PyData)), (acc ++ kvs |>.map (·.1)).Nodup → kvs.foldl (fun a q => putD a q.1 q.2) acc = acc ++ kvs
  | [], acc, _ => by simp
  | q :: kvs, acc, h => by
    have hn : (acc.any fun p => decide (p.1 = q.1)) = false := by
      rw [List.any_eq_false]
      intro p hp e
      have e' : p.1 = q.1 := of_decide_eq_true e
      rw [List.map_append, List.map_cons] at h
      exact (List.nodup_append.mp h).2.2 p.1 (List.mem_map_of_mem hp) q.1 List.mem_cons_self e'
    rw [List.foldl_cons, show putD acc q.1 q.2 = acc ++ [q] by unfold putD; rw [if_neg (by rw [hn]; exact Bool.false_ne_true)], fold_put kvs (acc ++ [q]) (by rw [List.append_assoc]; exact h), List.append_assoc]
    rfl
theorem xDictP {ρ : Rho} {Q : T → Rho → Prop} {t : T} {kvs : List (List Key × PyData)} (h : lsq ρ t = some (kvs.map pairD)) (nd : (kvs.map (·.1)).Nodup) (q : Q (mK2 kvs) ρ) : kDictP [t] ρ Q :=
  ⟨t, kvs, rfl, h, by rw [fold_put kvs [] (by simpa using nd)]; exact q⟩
/-! ### sum -/
section
variable {X : Cx} {e : Expr} {tas : TwA} {p pos : Pos}
end
end TX

/-! list(d.items()) of any dict of data. -/
namespace TX
open PySem PySem.Spec L2 PyProof.Rows
section
variable {prog : Program} {w : World} {A : Around} {E : Value → Shared → Prop} {s : Shared} {vw d : Addr} {es : Array DictEntry} {ep : Nat}
/-- what the new list holds, and where its pairs stand -/
def Listed (es : Array DictEntry) (L : Addr) (h : Heap) (as : List Addr) : Prop := as.length = es.size ∧ DT.Made es L h as ∧ ∃ (acc : Array Value) (c : Nat), acc.toList = as.map Value.ref ∧
  h.get? L = some { cls := .type "list", dict := none, data := .seq acc c, slots := #[] }
theorem list_init_items {L : Addr} {R : Result → Shared → Prop} (hh : A.handled = none) (view : s.heap.IsItemsView vw d) (raw : DT.Raw s.heap d es ep) (nv : L ≠ vw) (nd : d ≠ L) (fits : es.size ≤ sizeLine)
    (e0 : s.heap.get? L = some { cls := .type "list", data := .seq #[] })
    (fin : ∀ h' tk as, (∀ b o, b ≠ L → s.heap.get? b = some o → h'.get? b = some o) → Listed es L h' as → R (.ok (.ret .none)) { s with heap := h', toks := tk }) :
    wpAny (model prog w) A.in1 (Builtin.«list.__init__» ⟨[.ref L, .ref vw], []⟩) (fun f s' => match f with
      | .done r => R (.ok r) s'
      | .again c' => c'.quiet = true ∧ codeAny (model prog w) A c' R s') (fun x s' => R (.error x) s') s := by
  show wpAny _ _ (do
    let old ← Builtin.List.listItems (.ref L)
    Builtin.List.listUpdate (.ref L) (fun _ => #[])
    letGo old.toList.reverse
    Builtin.List.listExtendWith (.ref L) (.ref vw) .none) _ _ s
  refine wpAny_bind ?_
  unfold Builtin.List.listItems
  refine wpAny_bind (wpAny_seqItems e0 rfl (wpAny_pure ?_))
  show wpAny _ _ (updateSeq L (fun _ => #[]) >>= fun _ =>
    letGo (#[] : Array Value).toList.reverse >>= fun _ => Builtin.List.listExtendWith (.ref L) (.ref vw) .none) _ _ s
  refine wpAny_bind (wpAny_updateSeq e0 rfl ?_)
  have e1 := Heap.get?_update_self (Obj.mapSeq (fun _ => (#[] : Array Value))) e0 rfl
  have off : ∀ b o, b ≠ L → s.heap.get? b = some o → (s.heap.update L (Obj.mapSeq (fun _ => (#[] : Array Value)))).get? b = some o := fun b o n e => by
    rw [Heap.get?_update_other _ _ (Ne.symm n)]; exact e
  refine wpAny_bind (wpAny_letGo ?_)
  obtain ⟨ov, eov, rv⟩ := view
  refine DT.extI (es := es) (ep := ep) hh ⟨ov, off vw ov nv.symm eov, rv⟩ (raw.at' fun o e => off d o nd e) L nv nd .none _ e1 (fun h' tk acc c as k e2 l m ac => ?_) fits
  exact fin h' tk as (fun b o n e => k b o n (off b o n e)) ⟨l, m.low (Nat.le_of_lt (Heap.lt_size e1)), acc, c, ac, e2⟩
theorem call_list_items {Q : Value → Shared → Prop} (hh : A.handled = none) (view : s.heap.IsItemsView vw d) (raw : DT.Raw s.heap d es ep) (fits : es.size ≤ sizeLine)
    (fin : ∀ h' tk as, (∀ b o, s.heap.get? b = some o → h'.get? b = some o) → Listed es s.heap.objs.size h' as → Q (.ref s.heap.objs.size) { s with heap := h', toks := tk }) :
    wpAny (model prog w) A (call (.type "list") [.ref vw]) Q E s := by
  refine callType_codes (Q₁ := fun x s1 => x = .ref s.heap.objs.size ∧ s1 = { s with heap := s.heap.push { cls := .type "list", data := .seq #[] } })
    PySem.F.called_list (PySem.F.typeCall_list_1 _) PySem.F.entry_list_init (code_list_new _ ⟨rfl, rfl⟩) ?_
  rintro x s1 ⟨rfl, rfl⟩
  have e0 : (s.heap.push { cls := .type "list", data := .seq #[] }).get? s.heap.objs.size = some { cls := .type "list", data := .seq #[] } := Heap.get?_push_size _ rfl
  have lv : vw < s.heap.objs.size := by obtain ⟨_, e, _⟩ := view; exact Heap.lt_size e
  have ld := raw.lt
  obtain ⟨ov, eov, rv⟩ := view
  refine ⟨⟨_, e0, rfl⟩, PySem.F.args_list_init_2 _ _, list_init_items (A := A.in1) hh ⟨ov, Heap.get?_push_of_some _ eov, rv⟩ (raw.push _) (Nat.ne_of_gt lv) (Nat.ne_of_lt ld) fits e0 fun h' tk as k l => ?_⟩
  exact ⟨rfl, fin h' tk as (fun b o e => k b o (Nat.ne_of_lt (Heap.lt_size e)) (Heap.get?_push_of_some _ e)) l⟩
end
/-- the dict at a: its keys as data, its values -/
def DictKV (H : Hp) (a : Addr) (kd : List PyData) (vs : List V) : Prop := (∃ l : List (Key × V), Rd H a (.dK l) ∧ kd = l.map (fun q => keyD q.1) ∧ vs = l.map (·.2)) ∨ ∃ l : List (List Key × V), Rd H a (.dT l) ∧ kd = l.map (fun q => PyData.tuple (q.1.map keyD)) ∧ vs = l.map (·.2)
/-- key and value of each entry -/
def EntKV (es : Array DictEntry) (ws vs : List V) : Prop := ws.length = es.size ∧ vs.length = es.size ∧ ∀ (i : Nat) (e : DictEntry), es[i]? = some e → ∃ k v, ws[i]? = some k ∧ vs[i]? = some v ∧ RelV k e.key ∧ RelV v e.val
section
variable {X : Cx} {pins : List (Addr × Obj)} {σ : L2.St} {H : Hp} {s : Shared} {a : Addr} {kd : List PyData} {vs : List V}
theorem entsAt (I : Inv X pins σ H s) (h : DictKV H a kd vs) : ∃ (es : Array DictEntry) (ep : Nat) (ws : List V), (a == sysModules) = false ∧ DT.Raw s.heap a es ep ∧ es.size ≤ sizeLine ∧ EntKV es ws vs ∧
    ∀ M : Hp, (∀ b xs, H b = some (.tup xs) → M b = some (.tup xs)) → RpAll X.K M ws kd := by
  rcases h with ⟨l, rd, rfl, rfl⟩ | ⟨l, rd, rfl, rfl⟩
  · obtain ⟨z, sm, us, kv, o, es, ep, ho, hx, hd, hk, hp, _⟩ := dk_rd I.hok rd
    have hl : us.length = es.size := by rw [← hp.length]; exact Array.length_toList
    have hl2 : l.length = us.length := Paired.length kv
    refine ⟨es, ep, l.map fun q => kV q.1, sm, ⟨o, ho, hx, hd⟩, by omega, ⟨by rw [List.length_map]; omega, by rw [List.length_map]; omega, fun i e he => ?_⟩, fun M _ => ?_⟩
    · have hi := (Array.getElem?_eq_some_iff.mp he).1
      cases e2 : l[i]? with
      | none => rw [List.getElem?_eq_none_iff] at e2; omega
      | some q =>
        obtain ⟨k, v⟩ := q
        obtain ⟨u, e1, ru⟩ := kv_get kv e2
        obtain ⟨hkey, hval⟩ := hp.get? (i := i) (e := e) (k := k) (v := u) (by rw [Array.getElem?_toList]; exact he) e1
        exact ⟨kV k, v, by rw [List.getElem?_map, e2]; rfl, by rw [List.getElem?_map, e2]; rfl, relV_key hkey, by rw [hval]; exact ru⟩
    · clear rd z kv hl2
      induction l with
      | nil => exact .nil
      | cons q qs ih => exact .cons (rp_kV q.1) ih
  · obtain ⟨z, sm, xs, kt, o, es, ep, ho, hx, hd, he, his, nd⟩ := dt_rd I.hok rd
    have hl : es.size = xs.length := size_of_entries he
    have hl2 : l.length = xs.length := Paired.length kt
    refine ⟨es, ep, (xs.map fun x => x.2.1).map V.ref, sm, ⟨o, ho, hx, hd⟩, by omega, ⟨by rw [List.length_map, List.length_map]; omega, by rw [List.length_map]; omega, fun i e hi => ?_⟩, fun M hM => ?_⟩
    · have hi' := (Array.getElem?_eq_some_iff.mp hi).1
      have q := entry_at he i
      rw [hi] at q
      cases e2 : xs[i]? with
      | none => rw [List.getElem?_eq_none_iff] at e2; omega
      | some x =>
        rw [e2] at q
        have q' : e = entryOfKey (tupleKind (mixKind X.prog X.w)) x := Option.some.inj q
        obtain ⟨y, e3, _, _, r3⟩ := L2.DX.pget kt e2
        rw [q']
        exact ⟨.ref x.2.1, y.2, by rw [List.getElem?_map, List.getElem?_map, e2]; rfl, by rw [List.getElem?_map, e3]; rfl, rfl, r3⟩
    · clear rd z hl2 he his hl hd ho nd
      unfold L2.KT at kt
      induction kt with
      | nil => exact .nil
      | cons h t ih => exact .cons (.tup (hM _ _ h.2.1) (rp_kVs _)) ih
/-- tuples at these addresses -/
def putP : Hp → List Addr → List (V × V) → Hp
  | H, a :: as, q :: qs => putP (L2.upd H a (.tup [q.1, q.2])) as qs
  | H, _, _ => H
theorem putP_off {b : Addr} : ∀ (as : List Addr) (qs : List (V × V)) (H : Hp), b ∉ as → putP H as qs b = H b
  | [], _, _, _ => rfl
  | _ :: _, [], _, _ => rfl
  | c :: as, q :: qs, H, h => by
    unfold putP
    rw [putP_off as qs _ (fun z => h (by simp [z])), upd_ne (fun z => h (by simp [z]))]
theorem putP_at : ∀ (as : List Addr) (qs : List (V × V)) (H : Hp), as.length = qs.length → as.Nodup → ∀ (i : Nat) (b : Addr), as[i]? = some b → ∃ q, qs[i]? = some q ∧ putP H as qs b = some (.tup [q.1, q.2])
  | [], _, _, _, _, i, b, h => by simp at h
  | _ :: _, [], _, h, _, _, _, _ => by cases h
  | c :: as, q :: qs, H, h, hn, 0, b, e => by
    cases e
    exact ⟨q, rfl, by unfold putP; rw [putP_off as qs _ (List.nodup_cons.mp hn).1, upd_same]⟩
  | c :: as, q :: qs, H, h, hn, i + 1, b, e => by
    unfold putP
    exact putP_at as qs _ (Nat.succ.inj h) (List.nodup_cons.mp hn).2 i b e
theorem listed_inv {h' : Heap} {tk : Nat} {es : Array DictEntry} {as : List Addr} {ws : List V} (I : Inv X pins σ H s) (fits : es.size ≤ sizeLine) (kv : EntKV es ws vs)
    (k : ∀ b o, s.heap.get? b = some o → h'.get? b = some o) (m : Listed es s.heap.objs.size h' as) :
    ∃ H' : Hp, (∀ b o, H b = some o → H' b = some o) ∧ H s.heap.objs.size = none ∧ H' s.heap.objs.size = some (.lst (as.map V.ref)) ∧ (∀ (i : Nat) (b : Addr), as[i]? = some b → ∃ q, (ws.zip vs)[i]? = some q ∧ H' b = some (.tup [q.1, q.2])) ∧
      as.length = (ws.zip vs).length ∧ (∀ b, b ∈ as → b ≠ s.heap.objs.size) ∧ Inv X pins σ H' { s with heap := h', toks := tk } := by
  obtain ⟨l1, md, acc, c, eacc, eL⟩ := m
  obtain ⟨k1, k2, k3⟩ := kv
  have zl : (ws.zip vs).length = es.size := by rw [List.length_zip]; omega
  have nd : as.Nodup := md.rise.imp fun h => Nat.ne_of_lt h
  have off : s.heap.objs.size ∉ as := fun z => Nat.lt_irrefl _ (md.above _ z)
  have fr : ∀ b, b ∈ as → H b = none := fun b hb => I.hok.fresh (Nat.le_of_lt (md.above b hb))
  have frL : H s.heap.objs.size = none := I.hok.fresh (Nat.le_refl _)
  have at1 := putP_at as (ws.zip vs) (L2.upd H s.heap.objs.size (.lst (as.map V.ref))) (by omega) nd
  have at0 : ∀ b, b ∉ as → b ≠ s.heap.objs.size → putP (L2.upd H s.heap.objs.size (.lst (as.map V.ref))) as (ws.zip vs) b = H b := fun b h1 h2 => by rw [putP_off _ _ _ h1, upd_ne h2]
  have eL' : putP (L2.upd H s.heap.objs.size (.lst (as.map V.ref))) as (ws.zip vs) s.heap.objs.size = some (.lst (as.map V.ref)) := by rw [putP_off _ _ _ off, upd_same]
  generalize hH' : putP (L2.upd H s.heap.objs.size (.lst (as.map V.ref))) as (ws.zip vs) = H' at at1 at0 eL'
  have up : ∀ b o, H b = some o → H' b = some o := fun b o e => by
    rw [at0 b (fun z => by rw [fr b z] at e; cases e) (fun z => by rw [z, frL] at e; cases e)]; exact e
  refine ⟨H', up, frL, eL', at1, by omega, fun b hb z => off (z ▸ hb), ?_⟩
  refine I.call' (ch := []) rfl ⟨fun b o e _ _ _ => k b o e, fun b o e _ _ _ => ⟨o.slots, k b o e⟩, fun b o e n _ => ?_, fun b o e _ => ⟨o, k b o e⟩, fun b xs e => up b _ e, fun b o u e => up b _ e, fun b ps e => ⟨#[], by rw [up b _ e]; simp⟩⟩ (fun b u e => ?_) I.bare fun b z => by simp at z
  · have hb := Heap.lt_size e
    rw [at0 b (fun z => Nat.lt_asymm hb (md.above b z)) (Nat.ne_of_lt hb)]
    exact n
  · by_cases hb : b ∈ as
    · obtain ⟨i, hi⟩ := List.getElem?_of_mem hb
      obtain ⟨q, e1, e2⟩ := at1 i b hi
      rw [e2] at e
      cases e
      obtain ⟨en, e3, e4⟩ := md.pairs i b hi
      obtain ⟨kk, vv, e5, e6, e7, e8⟩ := k3 i en e3
      rw [List.getElem?_zip_eq_some] at e1
      rw [e1.1] at e5
      rw [e1.2] at e6
      cases e5
      cases e6
      exact ⟨by show 2 ≤ sizeLine; decide, [en.key, en.val], .cons e7 (.cons e8 .nil), ⟨_, e4, rfl, _, rfl⟩⟩
    · by_cases hb2 : b = s.heap.objs.size
      · subst hb2
        rw [eL'] at e
        cases e
        refine ⟨by rw [List.length_map]; omega, acc.toList, c, ?_, by rw [Array.toArray_toList]; exact eL⟩
        rw [eacc]
        exact LiI.vals_refs as
      · rw [at0 b hb hb2] at e
        exact (I.hok b u e).stay (fun d v _ y => k d v y) (fun d y => up d _ y) fun d xs y => up d _ y
def rListI (K : PySem.W.Frag) : V → Hp → VK → Prop := fun x H Q => ∃ (a : Addr) (kd : List PyData) (vs : List V), x = .ref a ∧ DictKV H a kd vs ∧
  ∀ (H' : Hp) (p : Addr) (as : List Addr) (ws : List V), (∀ b o, H b = some o → H' b = some o) → H p = none → H' p = some (.lst (as.map V.ref)) → (∀ (i : Nat) (b : Addr), as[i]? = some b → ∃ q, (ws.zip vs)[i]? = some q ∧ H' b = some (.tup [q.1, q.2])) →
    as.length = (ws.zip vs).length → ws.length = vs.length → (∀ b, b ∈ as → b ≠ p) → (∀ M : Hp, (∀ b xs, H b = some (.tup xs) → M b = some (.tup xs)) → RpAll K M ws kd) → Q (.ref p) H'
theorem pe_listI {e : Expr} {te : TE} {p apos cpos pos : Pos} (hc : X.calm = true) (he : PE X e te) (hg : Gl X "list") (hm : X.mg "list" = none) (hbase : attributeBase e "items" X.env (eval e X.env) = eval e X.env := by rfl) (hline : (apos.endLine == cpos.line) = true := by rfl)
    (hs : starEach [.Call (.Attribute e "items" apos) [] [] cpos] X.env = (false, eval (.Call (.Attribute e "items" apos) [] [] cpos) X.env) :: starEach [] X.env := by rfl) :
    PE X (.Call (.Name "list" p) [.Call (.Attribute e "items" apos) [] [] cpos] [] pos) (fun σ H Q => te σ H fun x H1 => rListI X.K x H1 Q) := by
  refine ⟨fun pins s σ H Q I hq => ?_⟩
  refine wpAny_Call_Name_kw (ld_blt I hg hm PyProof.Rows.boot_list ?_)
  refine PyProof.Rows.callWith_type1 ?_ hs rfl
  rw [hs]
  show wpAny _ _ (spliced ((false, eval (.Call (.Attribute e "items" apos) [] [] cpos) X.env) ::
    backTo pos (starEach [] X.env))) _ _ s
  refine Calls.spliced_cons (wpAny_Call_method (T := "dict") (id := "dict.items") hbase rfl hline F.plainAttrs_dict F.slot_dict_items F.type_dict_items
    (thn (he.run pins s σ H _ I hq) fun u s1 hh => ?_))
  obtain ⟨x, H1, I1, rx, a, kd, vs, ex, hd, q⟩ := hh
  subst ex
  obtain rfl : u = Value.ref a := rx
  obtain ⟨es, ep, ws, sm, raw, fits, kv, km⟩ := entsAt I1 hd
  obtain ⟨o, ho, hx, hdat⟩ := id raw
  have I2 : Inv X pins σ H1 { s1 with heap := s1.heap.push { cls := .type "dict_items", data := .fields #[.ref a] } } := I1.kept (t' := s1.toks) fun b ob q => Heap.get?_push_of_some _ q
  refine ⟨raw.typeIs, ?_, ?_⟩
  · intro o' e'
    cases e'
    exact ⟨o, ho, hx.2.1⟩
  show wpAny _ _ (callWith cpos (.builtin "dict.items") [.ref a] [] []) _ X.xe s1
  refine method_meetsIn F.slot_dict_items F.entry_dict_items rfl (PySem.evalArgs_none ⟨rfl, raw.typeIs, F.args_dict_items_1 _, _, DT.meetsItems sm, raw, ?_⟩)
  refine Calls.spliced_nil ?_
  refine call_list_items (I1.ok.hd hc) ⟨_, Heap.get?_push_size _ rfl, rfl, rfl⟩ (raw.push _) fits fun h' tk as kp ls => ?_
  obtain ⟨H', k1, k2, k3, k4, k5, k6, J⟩ := listed_inv (tk := tk) I2 fits kv kp ls
  exact ⟨.ref _, H', J, rfl, q H' _ as ws k1 k2 k3 k4 k5 (by have := kv.1; have := kv.2.1; omega) k6 km⟩
end
/-! ### over trees -/
/-- more shared objects -/
theorem Rel.more {K : PySem.W.Frag} {C : Ctx} {n : Nat} {σ : L2.St} {H H' : Hp} {O : Own} {ρ : Rho} (R : Rel K C n σ H O ρ) (k : ∀ b o, H b = some o → H' b = some o) : Rel K C n σ H' O ρ :=
  ⟨fun b o e1 e2 => let ⟨z1, z2⟩ := R.fr b o e1 e2; ⟨k b o z1, z2⟩, fun b h => let ⟨o, z1, z2⟩ := R.nt b h; ⟨o, k b o z1, z2⟩, R.lt, R.inj, R.val, R.ln, R.lr, fun i t e => by
    obtain ⟨v, h1, h2⟩ := R.sl i t e
    exact ⟨v, h1, Tr.move (r' := i) (p0 := []) (p1 := []) (fun b o e1 e2 => ⟨k b o e1, e2⟩) (fun b o q e1 e2 => ⟨k b o e1, e2⟩) t [] v h2⟩, R.hN, R.fo, R.pz, R.sm⟩
theorem frm_more {N n : Nat} {H H' : Hp} {O : Own} (k : ∀ b o, H b = some o → H' b = some o) : Frm N n H O H' O := ⟨fun b o e1 e2 => ⟨k b o e1, e2⟩, fun _ _ _ h _ => h, fun b o _ _ e1 e2 _ _ => ⟨k b o e1, e2⟩, fun _ _ _ h _ _ => h⟩
/-- the dict's pairs, as data -/
def dpairs (ρ : Rho) : T → Option (List (PyData × PyData))
  | .a r p => match getT ρ r p with
    | some (.m _ ks ts) => (allD ts).map fun xs => ks.zip xs
    | _ => none
  | .d (.dict ps) => some ps
  | .lk _ ks xs => some (ks.zip xs)
  | .m _ ks ts => (allD ts).map fun xs => ks.zip xs
  | _ => none
theorem kv_tr {K : PySem.W.Frag} {H : Hp} {O : Own} {r : Nat} {p : List Nat} {v : V} {tk : Bool} {ks : List PyData} {ts : List T} {xs : List PyData} (h : Tr K H O r p v (.m tk ks ts)) (e : allD ts = some xs) :
    ∃ a kd vs, v = .ref a ∧ DictKV H a kd vs ∧ RpAll K (msk O H) vs xs ∧ ks.zip xs = kd.zip xs ∧ kd.length = xs.length := by
  have et := allD_eq e
  subst et
  cases h with
  | mk h1 h2 h3 h4 =>
    have h5 := TrAll.data h4
    exact ⟨_, _, _, rfl, .inl ⟨_, .inl h2, rfl, rfl⟩, h5, by rw [h3], by rw [← h5.length]; simp⟩
  | mt h1 h2 h3 h4 =>
    have h5 := TrAll.data h4
    exact ⟨_, _, _, rfl, .inr ⟨_, .inl h2, rfl, rfl⟩, h5, by rw [h3], by rw [← h5.length]; simp⟩
theorem kv_val {K : PySem.W.Frag} {C : Ctx} {n m : Nat} {σ : L2.St} {H : Hp} {O : Own} {ρ : Rho} {t : T} {v : V} {ps : List (PyData × PyData)} (R : Rel K C m σ H O ρ) (V1 : Val K H O n v t) (h : dpairs ρ t = some ps) :
    ∃ a kd vs, v = .ref a ∧ DictKV H a kd vs ∧ RpAll K (msk O H) vs (ps.map (·.2)) ∧ ps.map (·.1) = kd := by
  have fin : ∀ {v : V} {tk : Bool} {ks : List PyData} {ts : List T} {r : Nat} {p : List Nat}, Tr K H O r p v (.m tk ks ts) → ((allD ts).map fun xs => ks.zip xs) = some ps →
      ∃ a kd vs, v = .ref a ∧ DictKV H a kd vs ∧ RpAll K (msk O H) vs (ps.map (·.2)) ∧ ps.map (·.1) = kd := by
    intro v tk ks ts r p tr e
    rw [Option.map_eq_some_iff] at e
    obtain ⟨xs, e1, rfl⟩ := e
    obtain ⟨a, kd, vs, q1, q2, q3, q4, q5⟩ := kv_tr tr e1
    rw [q4]
    exact ⟨a, kd, vs, q1, q2, by rw [zip_snd q5]; exact q3, zip_fst q5⟩
  cases t with
  | a r p =>
    obtain ⟨⟨ad, rfl, e2, _⟩, _⟩ := V1
    have e' : (match getT ρ r p with | some (.m _ ks ts) => (allD ts).map fun xs => ks.zip xs | _ => none) = some ps := h
    split at e'
    · rename_i tk ks ts g
      exact fin (R.alias g rfl e2) e'
    · cases e'
  | d x =>
    cases x with
    | dict ps' =>
      cases h
      have rp := val_d V1
      cases rp with
      | dk h1 h2 h3 => exact ⟨_, _, _, rfl, .inl ⟨_, rd_mono msk_le h1, h2, rfl⟩, h3, rfl⟩
      | dt h1 h2 h3 => exact ⟨_, _, _, rfl, .inr ⟨_, rd_mono msk_le h1, h2, rfl⟩, h3, rfl⟩
    | _ => cases h
  | lk tk ks xs =>
    cases h
    cases V1.1 with
    | lk h1 h2 h3 h4 =>
      have el : ks.length = xs.length := by rw [h3, ← h4.length]; simp
      exact ⟨_, _, _, rfl, .inl ⟨_, .inr ⟨_, h2⟩, h3, rfl⟩, by rw [zip_snd el]; exact h4, zip_fst el⟩
    | lt h1 h2 h3 h4 =>
      have el : ks.length = xs.length := by rw [h3, ← h4.length]; simp
      exact ⟨_, _, _, rfl, .inr ⟨_, .inr ⟨_, h2⟩, h3, rfl⟩, by rw [zip_snd el]; exact h4, zip_fst el⟩
  | m tk ks ts => exact fin V1.1 h
  | _ => cases h
def itP (p : PyData × PyData) : PyData := .tuple [p.1, p.2]
def liK (t : T) (ρ : Rho) (Q : T → Rho → Prop) : Prop := ∃ ps, dpairs ρ t = some ps ∧ Q (.l ((ps.map itP).map T.d)) ρ
def wLi (ta : TwE) : TwE := fun ρ Q E => ta ρ (fun t ρ1 => liK t ρ1 Q) E
theorem rp_itP {K : PySem.W.Frag} {M : Hp} : ∀ {as : List Addr} {ws vs : List V} {ps : List (PyData × PyData)}, as.length = ps.length → (∀ (i : Nat) (b : Addr), as[i]? = some b → ∃ q, (ws.zip vs)[i]? = some q ∧ M b = some (.tup [q.1, q.2])) → RpAll K M ws (ps.map (·.1)) → RpAll K M vs (ps.map (·.2)) → RpAll K M (as.map V.ref) (ps.map itP)
  | [], _, _, [], _, _, _, _ => .nil
  | _ :: _, _, _, [], h, _, _, _ => by cases h
  | [], _, _, _ :: _, h, _, _, _ => by cases h
  | a :: as, _, _, p :: ps, h, k, h1, h2 => by
    cases h1 with
    | cons r1 t1 =>
      cases h2 with
      | cons r2 t2 =>
        obtain ⟨q, e1, e2⟩ := k 0 a rfl
        cases e1
        exact .cons (.tup e2 (.cons r1 (.cons r2 .nil))) (rp_itP (Nat.succ.inj h) (fun i b e => k (i + 1) b e) t1 t2)
section
variable {X : Cx} {e : Expr} {ta : TwE} {p apos cpos pos : Pos}
theorem le_listI (hc : X.calm = true) (hg : Gl X "list") (hm : X.mg "list" = none) (ha : LE X e ta) (hbase : attributeBase e "items" X.env (eval e X.env) = eval e X.env := by rfl) (hline : (apos.endLine == cpos.line) = true := by rfl)
    (hs : starEach [.Call (.Attribute e "items" apos) [] [] cpos] X.env = (false, eval (.Call (.Attribute e "items" apos) [] [] cpos) X.env) :: starEach [] X.env := by rfl) :
    LE X (.Call (.Name "list" p) [.Call (.Attribute e "items" apos) [] [] cpos] [] pos) (wLi ta) := by
  refine ⟨fun ρ Q Q' E E' h he q => ha.mono ρ _ _ E E' (fun t ρ1 ⟨ps, e, q⟩ => ⟨ps, e, h _ _ q⟩) he q, fun C W n hC hn tk => (pe_listI hc (ha.run C W n hC hn tk) hg hm hbase hline hs).imp fun σ H Q ⟨O, ρ, R, q⟩ => ?_⟩
  refine ⟨O, ρ, R, ha.mono ρ _ _ _ _ (fun t ρ1 ⟨ps, e, q⟩ => ?_) (fun _ _ z => z) q⟩
  intro v H1 O1 R1 F1 V1
  obtain ⟨a, kd, vs, rfl, h1, h2, h3⟩ := kv_val R1 V1 e
  refine ⟨a, kd, vs, rfl, h1, fun H' p as ws k1 k2 k3 k4 k5 k6 k7 k8 => ?_⟩
  have hlp : vs.length = ps.length := by rw [h2.length]; simp
  let H2 : Hp := fun b => if b = p then none else H' b
  have np : ∀ b o, H1 b = some o → b ≠ p := fun b o e z => by rw [z, k2] at e; cases e
  have up : ∀ b o, H1 b = some o → H2 b = some o := fun b o e => by
    show (if b = p then none else H' b) = some o
    rw [if_neg (np b o e)]
    exact k1 b o e
  have Rm := (R1.cut (n := n) hn).more up
  have mH : ∀ b o, msk O1 H1 b = some o → msk (cut n O1) H2 b = some o := fun b o z => by
    obtain ⟨z1, z2⟩ := msk_some z
    rw [msk_of (cut_free z1)]
    exact up b o z2
  have frA : ∀ b, b ∈ as → ∀ xs, H' b = some (.tup xs) → msk (cut n O1) H2 b = some (.tup xs) := fun b hb xs hx => by
    have e2 : H2 b = some (.tup xs) := by
      show (if b = p then none else H' b) = _
      rw [if_neg (k7 b hb)]
      exact hx
    have z : cut n O1 b = .free := by
      by_cases z : cut n O1 b = .free
      · exact z
      · obtain ⟨o, q1, q2⟩ := Rm.nt b z
        rw [e2] at q1; cases q1
        exact q2.elim
    rw [msk_of z]
    exact e2
  have rw1 : RpAll X.K (msk (cut n O1) H2) ws (ps.map (·.1)) := by
    rw [h3]
    exact k8 _ fun b xs z => mH b _ (tups_free R1 b xs z)
  have rw2 : RpAll X.K (msk (cut n O1) H2) vs (ps.map (·.2)) := RpAll.mono mH _ _ h2
  have rz := rp_itP (as := as) (by rw [k5, List.length_zip]; omega) (fun i b e => by
    obtain ⟨q, e1, e2⟩ := k4 i b e
    exact ⟨q, e1, frA b (List.mem_of_getElem? e) _ e2⟩) rw1 rw2
  have ep : L2.upd H2 p (.lst (as.map V.ref)) = H' := by
    funext b
    by_cases z : b = p
    · rw [z, upd_same]; exact k3.symm
    · rw [upd_ne z]
      show (if b = p then none else H' b) = _
      rw [if_neg z]
  have := Fin.newL hn Rm ((F1.trans (frm_cut C.N n H1 O1 hn) (Nat.le_refl _)).trans (frm_more up) (Nat.le_refl _)) q rz p (by show (if p = p then none else H' p) = none; rw [if_pos rfl])
  rw [ep] at this
  exact this
end
theorem xLi {ρ : Rho} {Q : T → Rho → Prop} {E : ExK} {ta : TwE} (h : ta ρ (fun t ρ1 => liK t ρ1 Q) E) : wLi ta ρ Q E := h
theorem xLiK {ρ : Rho} {Q : T → Rho → Prop} {t : T} {ps : List (PyData × PyData)} (h : dpairs ρ t = some ps) (q : Q (.l ((ps.map itP).map T.d)) ρ) : liK t ρ Q := ⟨ps, h, q⟩
end TX

/-! for i, (x, y) in enumerate(zip(xs, ys)). -/
namespace TX
open PySem PySem.Spec L2 PyProof.Rows
section
variable {prog : Program} {w : World} {A : Around} {E : Value → Shared → Prop} {s : Shared} {z TI TO i1 i2 a b e : Addr}
end
end TX

/-! for i, (x, y) in enumerate(zip(xs, ys)), over trees. -/
namespace TX
open PySem PySem.Spec L2 PyProof.Rows
/-! ### enumerate(zip(xs, ys)) is made -/
section
variable {prog : Program} {w : World} {A : Around} {E : Value → Shared → Prop} {s : Shared} {z TI TO : Addr}
set_option maxHeartbeats 4000000 in
end
/-! ### over trees -/
section
variable {X : Cx} {a b : Expr} {tas : TwA} {p p2 pos pos2 tpos : Pos} {elts : List Expr} {kk : Nat}
def wIEz (tas : TwA) : TwI := fun ρ Q E => tas ρ (fun ts ρ1 => ∃ t u xs ys, ts = [t, u] ∧ flatL t = some xs ∧ flatL u = some ys ∧ Q (enumD (zipD xs ys)) ρ1) E
end
def iezK (ts : List T) (ρ : Rho) (QI : List PyData → Rho → Prop) : Prop := ∃ t u xs ys, ts = [t, u] ∧ flatL t = some xs ∧ flatL u = some ys ∧ QI (enumD (zipD xs ys)) ρ
theorem xIEz {ρ : Rho} {QI : List PyData → Rho → Prop} {E : ExK} {tas : TwA} (h : tas ρ (fun ts ρ1 => iezK ts ρ1 QI) E) : wIEz tas ρ QI E := h
end TX

namespace TX
open PySem PySem.Spec L2
/-! ### len of a dict -/
def rLenD (K : PySem.W.Frag) : List V → Hp → VK → Prop := fun vs H Q => ∃ a ks, vs = [.ref a] ∧ KeysD H a ks ∧ Q (.int ks.length) H
section
variable {X : Cx} {e : Expr} {tas : TwA} {p pos : Pos}
theorem cr_lenDct : CallR X (.builtin "len") (rLenD X.K) := by
  rintro pins s σ H vs us Q I r ⟨a, ks, rfl, hk, q⟩
  rw [Vals.ref1 r]
  obtain ⟨o, es, ep, ws, sm, ho, hx, hd, hz, hl, hl2, hr, hM⟩ := keysAt I hk
  have hn := line63
  have raw : s.heap.DictRaw a es ep := ⟨o, ho, hx, hd⟩
  refine PyProof.Rows.call_len_slot (n := es.size) raw.typeIs F.slot_dict_len (fun Q' h => call_len_raw sm raw h) (by omega) (by omega) ⟨.int ks.length, H, I.tok _, ⟨s.toks + 1, by rw [hl2]⟩, q⟩
def kLenD : KT := fun ts ρ Q => ∃ t ks, ts = [t] ∧ dkeys ρ t = some ks ∧ Q (.d (.int (ks.length : Nat))) ρ
theorem kLenD_mono : MonK kLenD := fun ts ρ Q Q' h ⟨t, ds, e, e1, q⟩ => ⟨t, ds, e, e1, h _ _ q⟩
theorem fn_lenD {K : PySem.W.Frag} : FnK K (rLenD K) kLenD := by
  rintro C n m σ H0 H O0 O ρ ts vs Q hn hm R F V ⟨t, ks, rfl, e1, q⟩
  obtain ⟨v, rfl, V1⟩ := V.one
  obtain ⟨a, rfl, hk⟩ := keys_val R V1 e1
  exact ⟨a, ks, rfl, hk, Fin.sc hn R F q (.int _)⟩
theorem le_lenD (hg : Gl X "len") (hm : X.mg "len" = none) (ha : LA X [e] tas) (he : starEach [e] X.env = (false, eval e X.env) :: starEach [] X.env := by rfl) (hpl : (backTo pos (starEach [] X.env)).any (·.1) = false := by rfl) :
    LE X (.Call (.Name "len" p) [e] [] pos) (wFn kLenD tas) := le_fn (fun t h => pe_callB cr_lenDct hg hm (by decide +kernel) h (he := he) (hpl := hpl)) kLenD_mono fn_lenD ha
end
theorem xLenD {ρ : Rho} {Q : T → Rho → Prop} {t : T} {ks : List PyData} (h : dkeys ρ t = some ks) (q : Q (.d (.int (ks.length : Nat))) ρ) : kLenD [t] ρ Q := ⟨t, ks, rfl, h, q⟩
end TX

namespace TX
open PySem PySem.Spec L2
/-! ### a slot shared from here on, if it holds something -/
section
variable {X : Cx} {io : List Nat} {st : Stmt} {t : TwS}
end
end TX

/-! A dict display whose keys are tuples and whose values are texts, all written out. -/
namespace TX
open PySem PySem.Spec L2 PyProof.Rows
section
variable {prog : Program} {w : World} {K : Type} [DecidableEq K] {knd : HeapKind prog w K} {A : Around} {E : Value → Shared → Prop} {s : Shared} {env : Env}
theorem dict_walkT {keys : List (Option Expr)} {values : List Expr} {pos : Pos} {Q : Value → Shared → Prop} (hu : knd.room A) (hall : keys.all (·.isSome) = true) (hl : keys.length = values.length) (h0 : keys ≠ []) (hlen : keys.length ≤ 15)
    (h : wpAny (model prog w) A (evalPairs (pairTrees keys values env pos)) (fun vs s₁ => ∃ ps, CarriesH knd s₁.heap vs ps ∧ s₁.heap.DictOfH knd s.heap.objs.size [] ∧
      ∀ h' tk, h'.DictOfH knd s.heap.objs.size (storedAllH [] ps) → Heap.SameBut s.heap.objs.size s₁.heap h' → Q (.ref s.heap.objs.size) { s₁ with heap := h', toks := tk }) E
      { s with heap := s.heap.push { cls := .type "dict", data := .dict #[] } }) :
    wpAny (model prog w) A (eval (.Dict keys values pos) env) Q E s := by
  have hn := pairTrees_length keys values env pos hall hl
  have h0' : pairTrees keys values env pos ≠ [] := fun he => by
    rw [he] at hn
    exact h0 (List.length_eq_zero_iff.mp hn.symm)
  rw [arm_eval_Dict, zip_pairTrees keys values env pos hall hl, dictDisplay_pairs _ h0' (by omega)]
  exact wpAny_bind (wpAny_standAt (wpAny_bind (wpAny_subDictH (knd := knd) (Q := fun d s' => wpAny (model prog w) A (pure (Value.ref d)) Q E s') hu (by omega)
    (wpAny_mono h (fun vs s₁ h₁ => by obtain ⟨ps, hc, hm, hq⟩ := h₁; exact ⟨ps, hc, hm, fun h' tk a b => wpAny_pure (hq h' tk a b)⟩) fun _ _ e => e))))
end
def tCK (k : List Key) : TE := fun _ H Q => ∀ b, H b = none → Q (.ref b) (L2.upd H b (.tup (k.map kV)))
def tCt (kvs : List (List Key × Str)) : List (TE × TE) := kvs.map fun kv => (tCK kv.1, tC (.str kv.2))
def KeysAt (H : Hp) (bs : List Addr) (kvs : List (List Key × Str)) : Prop := Paired (fun (b : Addr) (kv : List Key × Str) => H b = some (.tup (kv.1.map kV))) bs kvs
theorem tp_run : ∀ (kvs : List (List Key × Str)) (σ : L2.St) (H : Hp) (Q : List (V × V) → Hp → Prop),
    (∀ bs H', (∀ b o, H b = some o → H' b = some o) → KeysAt H' bs kvs → (∀ b ∈ bs, H b = none) → Q ((bs.zip kvs).map fun x => (V.ref x.1, V.str x.2.2)) H') → tPairs (tCt kvs) σ H Q
  | [], σ, H, Q, q => q [] H (fun _ _ e => e) .nil (fun b h => by cases h)
  | kv :: kvs, σ, H, Q, q => by
    intro b hb
    refine tp_run kvs σ (L2.upd H b (.tup (kv.1.map kV))) _ fun bs H' k ka kn => ?_
    have k0 : ∀ c o, H c = some o → H' c = some o := fun c o e => k c o (by rw [upd_ne (ne_of_none e hb)]; exact e)
    refine q (b :: bs) H' k0 (.cons (k b _ upd_same) ka) fun c hc => ?_
    rcases List.mem_cons.mp hc with rfl | hc
    · exact hb
    · have := kn c hc
      cases e : H c with
      | none => rfl
      | some o => rw [upd_ne (ne_of_none e hb), e] at this; cases this
section
variable {X : Cx} {pos p1 p2 p3 p4 : Pos}
theorem pe_ck3 {a b c : Int} {j1 j2 j3 ld} : PE X (.Tuple [.Constant (.int a) j1 p1, .Constant (.int b) j2 p2, .Constant (.int c) j3 p3] ld pos) (tCK [.inl a, .inl b, .inl c]) :=
  (pe_tup (pa_cons pe_int (pa_cons pe_int (pa_cons pe_int pa_nil)))).imp fun σ H Q h => ⟨by show 3 ≤ sizeLine; decide, h⟩
def toV (kv : List Key × Str) : List Key × V := (kv.1, .str kv.2)
theorem pe_dctT {keys : List (Option Expr)} {values : List Expr} {kvs : List (List Key × Str)} (hu : X.A.units + 64 < cLine) (h : PPs X pos keys values (tCt kvs)) (hk : keys.length = kvs.length) (hall : keys.all (·.isSome) = true) (hl : keys.length = values.length) (h0 : keys ≠ []) (h15 : keys.length ≤ 15) :
    PE X (.Dict keys values pos) (fun _ H Q => ∀ p H' bs, H p = none → H' p = none → (∀ b o, H b = some o → H' b = some o) → KeysAt H' bs kvs → Q (.ref p) (L2.upd H' p (.dT ((kvs.map toV).foldl (fun a q => putK a q.1 q.2) [])))) := by
  refine ⟨fun pins s σ H Q I q => ?_⟩
  have hn := I.hok.fresh (Nat.le_refl s.heap.objs.size)
  have I1 := I.laid (a := s.heap.objs.size) (o := .dT []) (h' := s.heap.push { cls := .type "dict", data := .dict #[] }) (t' := s.toks) (fun _ _ q => Heap.get?_push_of_some _ q) (Nat.le_refl _) (dt_empty s.heap I.big)
  refine dict_walkT (knd := tupleKind (mixKind X.prog X.w)) (by show X.A.units < cLine; omega) hall hl h0 h15 (thn (h.run pins _ σ _ _ I1 (tp_run kvs σ _ (fun ps H2 => ∃ bs, ps = (bs.zip kvs).map (fun x => (V.ref x.1, V.str x.2.2)) ∧ KeysAt H2 bs kvs ∧ (∀ b o, L2.upd H s.heap.objs.size (.dT []) b = some o → H2 b = some o) ∧ ∀ b ∈ bs, b ≠ s.heap.objs.size) fun bs H' k ka kn => ⟨bs, rfl, ka, k, fun b hb e => by
    have := kn b hb
    rw [e, upd_same] at this
    cases this⟩)) fun ws s2 ⟨ps, H2, I2, rel, bs, eps, ka, k, nb⟩ => ?_)
  subst eps
  have hp2 : H2 s.heap.objs.size = some (.dT []) := k _ _ upd_same
  obtain ⟨z, hd, vs0, r0, dd⟩ := dt_of I2.hok hp2
  have hv0 : vs0 = [] := by
    have := Paired.length r0
    exact List.length_eq_zero_iff.mp (by simpa using this.symm)
  subst hv0
  have main : ∀ {bs : List Addr} {kvs : List (List Key × Str)} {ws : List (Value × Value)}, KeysAt H2 bs kvs → VV ((bs.zip kvs).map fun x => (V.ref x.1, V.str x.2.2)) ws → ∃ xs, CarriesH (tupleKind (mixKind X.prog X.w)) s2.heap ws xs ∧ L2.KT H2 (kvs.map toV) xs := by
    intro bs kvs ws ka
    unfold KeysAt at ka
    induction ka generalizing ws with
    | nil => intro rel; cases rel; exact ⟨[], trivial, .nil⟩
    | @cons b kv bs kvs h t ih =>
      intro rel
      cases rel with
      | @cons a b' as bs' h1 h2 =>
        obtain ⟨xs, c, r⟩ := ih h2
        obtain ⟨r1, r2⟩ := h1
        obtain ⟨u1, u2⟩ := b'
        have e1 : u1 = .ref b := r1
        subst e1
        exact ⟨(kv.1, b, u2) :: xs, ⟨rfl, rfl, key_of I2.hok h, c⟩, .cons ⟨rfl, h, r2⟩ r⟩
  obtain ⟨xs, c, kt⟩ := main ka rel
  refine ⟨xs, c, dd, fun h' tk hd' hs => ?_⟩
  have kt2 := kt_all kt (acc := []) (xs := []) .nil
  have hlen : ((kvs.map toV).foldl (fun a q => putK a q.1 q.2) []).length ≤ sizeLine := by
    have z1 := storedAllH_length xs ([] : List (List Key × Addr × Value))
    have z2 := Paired.length kt2
    have z3 := Paired.length kt
    rw [List.length_nil, Nat.zero_add] at z1
    rw [List.length_map] at z3
    have : 15 ≤ sizeLine := by decide
    omega
  have up : ∀ o, L2.upd H2 s.heap.objs.size o = L2.upd (fun b => if b = s.heap.objs.size then none else H2 b) s.heap.objs.size o := fun o => by
    funext b
    by_cases e : b = s.heap.objs.size
    · subst e; rw [upd_same, upd_same]
    · rw [upd_ne e, upd_ne e, if_neg e]
  have q' := q s.heap.objs.size (fun b => if b = s.heap.objs.size then none else H2 b) bs hn (if_pos rfl) (fun b o e => by
    have ne := ne_of_none e hn
    rw [if_neg ne]
    exact k b o (by rw [upd_ne ne]; exact e)) (by
    have gen : ∀ {bs : List Addr} {kvs : List (List Key × Str)}, KeysAt H2 bs kvs → (∀ b ∈ bs, b ≠ s.heap.objs.size) → KeysAt (fun b => if b = s.heap.objs.size then none else H2 b) bs kvs := by
      intro bs kvs ka
      unfold KeysAt at ka
      induction ka with
      | nil => intro _; exact .nil
      | @cons b kv bs kvs h t ih =>
        intro nb
        exact .cons (by show (if b = s.heap.objs.size then none else H2 b) = _; rw [if_neg (nb b List.mem_cons_self)]; exact h) (ih fun c hc => nb c (List.mem_cons_of_mem _ hc))
    exact gen ka nb)
  rw [← up] at q'
  obtain ⟨ob, es, ep, hq, h2, h3, h4, _, h5⟩ := hd'
  refine ⟨.ref s.heap.objs.size, _, d_write (ob := .dT ((kvs.map toV).foldl (fun a q => putK a q.1 q.2) [])) I2 (by rw [hp2]; exact True.intro) hs ⟨ob, hq⟩ ⟨hlen, hd, _, kt2.keeps fun c ys ec => ?_, ob, es, ep, hq, h2, h3, h4, h5⟩, rfl, q'⟩
  rw [upd_ne (ne_of ec hp2 (fun z => nomatch z))]
  exact ec
def toD (kv : List Key × Str) : List Key × PyData := (kv.1, .str kv.2)
theorem krp_VD {K : PySem.W.Frag} {M : Hp} : ∀ kvs : List (List Key × Str), KRp K M (kvs.map toV) (kvs.map toD)
  | [] => .nil
  | _ :: kvs => .cons (.str _) (krp_VD kvs)
theorem le_dctT {keys : List (Option Expr)} {values : List Expr} {kvs : List (List Key × Str)} (hu : X.A.units + 64 < cLine) (h : PPs X pos keys values (tCt kvs)) (nd : (kvs.map (·.1)).Nodup := by decide) (hk : keys.length = kvs.length := by rfl) (hall : keys.all (·.isSome) = true := by rfl) (hl : keys.length = values.length := by rfl) (h0 : keys ≠ [] := by exact fun z => (nomatch z)) (h15 : keys.length ≤ 15 := by decide) :
    LE X (.Dict keys values pos) (wC (mK2 (kvs.map toD))) := by
  refine ⟨fun ρ Q Q' E E' h _ q => h _ _ q, fun C W n hC hn tk => (pe_dctT hu h hk hall hl h0 h15).imp fun σ H Q ⟨O, ρ, R, q⟩ p H' bs hp hp' k ka => ?_⟩
  have R1 := R.more k
  obtain ⟨R2, F2, u1⟩ := (R1.cut (n := n) hn).alloc (o := .dT ((kvs.map toV).foldl (fun a q => putK a q.1 q.2) [])) hp' trivial
  have F : Frm C.N n H O H' (cut n O) := (frm_more k).trans (frm_cut C.N n H' O hn) (Nat.le_refl _)
  have kr : ∀ M : Hp, KRp X.K M ((kvs.map toV).foldl (fun a q => putK a q.1 q.2) []) (kvs.map toD) := fun M => by
    have k1 : KRp X.K M (kvs.map toV) (kvs.map toD) := krp_VD kvs
    have k2 := krp_fold k1 (a := []) (b := []) .nil
    rw [fold_put (kvs.map toD) [] (by rw [List.nil_append, List.map_map]; exact nd)] at k2
    exact k2
  exact q _ _ _ R2 (F.trans F2 (Nat.le_refl _)) ⟨mK2_tr lay_same upd_same (kr _), fun b q e => by obtain ⟨rfl, rfl⟩ := u1 b q e; exact ⟨_, rfl, rfl⟩⟩
end
end TX

/-! x is True, x is not True: of any thing x. -/
namespace TX
open PySem PySem.Spec L2 PyProof.Rows
section
variable {M : Model} {A : Around} {E : Value → Shared → Prop} {s : Shared} {Q : Value → Shared → Prop}
theorem is_bool_gen {v : Value} {b : Bool} (nb : ∀ i, v ≠ .builtin i) (h : Q (.bool (v == .bool b)) s) : wpAny M A (compareOp .Is v (.bool b)) Q E s := by
  cases v <;> first | exact wpAny_pure h | exact absurd rfl (nb _)
theorem isnot_bool_gen {v : Value} {b : Bool} (nb : ∀ i, v ≠ .builtin i) (h : Q (.bool (!(v == .bool b))) s) : wpAny M A (compareOp .IsNot v (.bool b)) Q E s := by
  cases v <;> first | exact wpAny_pure h | exact absurd rfl (nb _)
end
theorem nbl {x : V} {v : Value} (rx : RelV x v) : ∀ i, v ≠ .builtin i := fun i e => by
  subst e
  cases x <;> first
    | (cases rx; done)
    | (obtain ⟨t, z⟩ := rx; cases z)
section
variable {X : Cx}
theorem op_isX : OpR X (compareOp .Is) (fun x y H Q => ∃ b, y = .bl b ∧ Q (.bl (decide (x = .bl b))) H) := by
  intro pins s σ H x y v u Q I rx ry h
  obtain ⟨b, rfl, q⟩ := h
  cases ry
  refine is_bool_gen (nbl rx) (fin_bl I q ?_)
  cases x <;> first
    | (cases rx; rfl)
    | (obtain ⟨t, rfl⟩ := rx; rfl)
    | (rename_i c; cases rx; cases c <;> cases b <;> rfl)
theorem op_isnX : OpR X (compareOp .IsNot) (fun x y H Q => ∃ b, y = .bl b ∧ Q (.bl (!decide (x = .bl b))) H) := by
  intro pins s σ H x y v u Q I rx ry h
  obtain ⟨b, rfl, q⟩ := h
  cases ry
  refine isnot_bool_gen (nbl rx) (fin_bl I q ?_)
  cases x <;> first
    | (cases rx; rfl)
    | (obtain ⟨t, rfl⟩ := rx; rfl)
    | (rename_i c; cases rx; cases c <;> cases b <;> rfl)
end
def isBd : PyData → Bool → Bool
  | .bool a, b => a == b
  | _, _ => false
def fIsX (neg : Bool) : PyData → PyData → PyData → Prop := fun x y z => ∃ b, y = .bool b ∧ z = .bool (neg != isBd x b)
theorem rp_isbl {K : PySem.W.Frag} {H : Hp} {v : V} {x : PyData} {b : Bool} (h : Rp K H v x) : decide (v = .bl b) = isBd x b := by
  cases h <;> first
    | rfl
    | (rename_i c; cases c <;> cases b <;> rfl)
theorem od_isX {K : PySem.W.Frag} : OpD K (fun x y H Q => ∃ b, y = .bl b ∧ Q (.bl (decide (x = .bl b))) H) (fIsX false) := by
  rintro H v u x y z Q h1 h2 ⟨b, rfl, rfl⟩ q
  refine ⟨b, rp_bool h2, q _ ?_⟩
  rw [rp_isbl h1]
  cases isBd x b <;> exact .bl _
theorem od_isnX {K : PySem.W.Frag} : OpD K (fun x y H Q => ∃ b, y = .bl b ∧ Q (.bl (!decide (x = .bl b))) H) (fIsX true) := by
  rintro H v u x y z Q h1 h2 ⟨b, rfl, rfl⟩ q
  refine ⟨b, rp_bool h2, q _ ?_⟩
  rw [rp_isbl h1]
  cases isBd x b <;> exact .bl _
theorem xIsX {ρ : Rho} {Q : T → Rho → Prop} {t u : T} {x : PyData} {b neg : Bool} (h1 : vw ρ t = some x) (h2 : vw ρ u = some (.bool b)) (q : Q (.d (.bool (neg != isBd x b))) ρ) : opK (fIsX neg) t u ρ Q := ⟨_, _, _, h1, h2, ⟨b, rfl, rfl⟩, q⟩
end TX

namespace LW
open PySem PySem.Spec L2 TX
/-! ### lists of ints and pairs, plainly -/
def leI (a b : Int) : Bool := decide (a ≤ b)
def leP (p q : Int × Int) : Bool := decide (p.1 < q.1 ∨ (p.1 = q.1 ∧ p.2 ≤ q.2))
def pr (p : Int × Int) : PyData := .tuple [.int p.1, .int p.2]
def sI (cs : List Int) : List Int := cs.mergeSort leI
theorem sortI (cs : List Int) : (cs.map PyData.int).mergeSort le0 = (sI cs).map PyData.int :=
  (PySem.W.sort_maps PyData.int fun a _ b _ => (congrFun (congrFun (PySem.W.dataLe_int (fun z : Int => z)) a) b).symm).symm
theorem sI_perm (cs : List Int) : (sI cs).Perm cs := List.mergeSort_perm cs leI
theorem sI_sorted (cs : List Int) (h : cs.Nodup) : (sI cs).Pairwise (· < ·) := by
  have h1 : (sI cs).Pairwise fun a b => leI a b = true := List.pairwise_mergeSort (fun a b c h1 h2 => by simp only [leI, decide_eq_true_eq] at *; omega) (fun a b => by simp only [leI, Bool.or_eq_true, decide_eq_true_eq]; omega) cs
  have h2 : (sI cs).Pairwise (· ≠ ·) := (sI_perm cs).nodup_iff.mpr h
  exact (h1.and h2).imp fun ⟨a, b⟩ => by simp only [leI, decide_eq_true_eq] at a; omega
/-- the first place of y -/
def pos : List Int → Int → Nat
  | [], _ => 0
  | c :: cs, y => if c = y then 0 else pos cs y + 1
theorem pos_at : ∀ {cs : List Int} {y : Int}, y ∈ cs → cs[pos cs y]? = some y
  | c :: cs, y, h => by
    unfold pos
    by_cases e : c = y
    · rw [if_pos e]; simp [e]
    · rw [if_neg e]; simp only [List.getElem?_cons_succ]; exact pos_at ((List.mem_cons.mp h).resolve_left fun z => e z.symm)
theorem pos_no : ∀ {cs : List Int} {y : Int} {m : Nat} {z : Int}, m < pos cs y → cs[m]? = some z → z ≠ y
  | [], _, _, _, h, _ => by simp [pos] at h
  | c :: cs, y, m, z, h, e => by
    unfold pos at h
    by_cases q : c = y
    · rw [if_pos q] at h; omega
    · rw [if_neg q] at h
      cases m with
      | zero => simp at e; subst e; exact q
      | succ m => exact pos_no (cs := cs) (m := m) (Nat.lt_of_succ_lt_succ h) (by simpa using e)
theorem wp_blk {c : Int} {xs : List Int} {p : Int × Int} : p ∈ (xs.filter fun x => decide (x < c)).map (fun x => (x, c)) ↔ p.2 = c ∧ p.1 ∈ xs ∧ p.1 < p.2 := by
  simp only [List.mem_map, List.mem_filter, decide_eq_true_eq]
  constructor
  · rintro ⟨x, ⟨h1, h2⟩, rfl⟩; exact ⟨rfl, h1, h2⟩
  · rintro ⟨h1, h2, h3⟩; exact ⟨p.1, ⟨h2, h1 ▸ h3⟩, by rw [← h1]⟩
/-- the pairs that stand wrong, at each place the smaller ones behind it -/
def wp : List Int → List (Int × Int)
  | [] => []
  | c :: cs => (cs.filter fun x => decide (x < c)).map (fun x => (x, c)) ++ wp cs
theorem wp_mem : ∀ {cs : List Int}, cs.Nodup → ∀ p : Int × Int, p ∈ wp cs ↔ p.1 ∈ cs ∧ p.2 ∈ cs ∧ p.1 < p.2 ∧ pos cs p.2 < pos cs p.1
  | [], _, p => by simp [wp]
  | c :: cs, h, p => by
    rw [List.nodup_cons] at h
    unfold wp
    rw [List.mem_append, wp_blk, wp_mem h.2 p]
    simp only [List.mem_cons, pos]
    have ne : ∀ {x}, x ∈ cs → c ≠ x := fun hx e => h.1 (e ▸ hx)
    constructor
    · rintro (⟨rfl, h2, h3⟩ | ⟨h1, h2, h3, h4⟩)
      · refine ⟨.inr h2, .inl rfl, h3, ?_⟩
        rw [if_pos rfl, if_neg (ne h2)]; omega
      · refine ⟨.inr h1, .inr h2, h3, ?_⟩
        rw [if_neg (ne h1), if_neg (ne h2)]; omega
    · rintro ⟨h1, h2, h3, h4⟩
      rcases h2 with e2 | h2
      · rcases h1 with e1 | h1
        · rw [e1, e2] at h3; omega
        · exact .inl ⟨e2, h1, h3⟩
      · rcases h1 with e1 | h1
        · rw [if_pos e1.symm] at h4; omega
        · rw [if_neg (ne h1), if_neg (ne h2)] at h4
          exact .inr ⟨h1, h2, h3, by omega⟩
theorem nodup_map {α β : Type} {f : α → β} (hf : ∀ a b, f a = f b → a = b) : ∀ {l : List α}, l.Nodup → (l.map f).Nodup := fun {l} h => List.pairwise_map.mpr (h.imp fun hab e => hab (hf _ _ e))
theorem wp_nodup : ∀ {cs : List Int}, cs.Nodup → (wp cs).Nodup
  | [], _ => List.nodup_nil
  | c :: cs, h => by
    have h' := h
    rw [List.nodup_cons] at h
    unfold wp
    rw [List.nodup_append]
    refine ⟨nodup_map (fun a b e => (Prod.mk.inj e).1) (h.2.filter _), wp_nodup h.2, fun p hp q hq e => ?_⟩
    subst e
    have h1 := (wp_blk.mp hp).1
    have h2 := ((wp_mem h.2 p).mp hq).2.1
    exact h.1 (h1 ▸ h2)
theorem wp_len : ∀ cs : List Int, (wp cs).length ≤ cs.length * cs.length
  | [] => Nat.le_refl _
  | c :: cs => by
    unfold wp
    rw [List.length_append, List.length_map, List.length_cons, Nat.succ_mul, Nat.mul_succ]
    have := wp_len cs
    have := List.length_filter_le (fun x => decide (x < c)) cs
    omega
/-- the same by the smaller one, upwards -/
def dp (row : List Int) : List Int → List (Int × Int)
  | [] => []
  | l :: s => (s.filter fun g => decide (pos row g < pos row l)).map (fun g => (l, g)) ++ dp row s
theorem dp_blk {row : List Int} {l : Int} {xs : List Int} {p : Int × Int} : p ∈ (xs.filter fun g => decide (pos row g < pos row l)).map (fun g => (l, g)) ↔ p.1 = l ∧ p.2 ∈ xs ∧ pos row p.2 < pos row p.1 := by
  simp only [List.mem_map, List.mem_filter, decide_eq_true_eq]
  constructor
  · rintro ⟨x, ⟨h1, h2⟩, rfl⟩; exact ⟨rfl, h1, h2⟩
  · rintro ⟨h1, h2, h3⟩; exact ⟨p.2, ⟨h2, h1 ▸ h3⟩, by rw [← h1]⟩
theorem dp_mem {row : List Int} : ∀ {s : List Int}, s.Pairwise (· < ·) → ∀ p : Int × Int, p ∈ dp row s ↔ p.1 ∈ s ∧ p.2 ∈ s ∧ p.1 < p.2 ∧ pos row p.2 < pos row p.1
  | [], _, p => by simp [dp]
  | l :: s, h, p => by
    rw [List.pairwise_cons] at h
    unfold dp
    rw [List.mem_append, dp_blk, dp_mem h.2 p]
    simp only [List.mem_cons]
    constructor
    · rintro (⟨rfl, h2, h3⟩ | ⟨h1, h2, h3, h4⟩)
      · exact ⟨.inl rfl, .inr h2, h.1 _ h2, h3⟩
      · exact ⟨.inr h1, .inr h2, h3, h4⟩
    · rintro ⟨h1, h2, h3, h4⟩
      rcases h1 with e1 | h1
      · rcases h2 with e2 | h2
        · omega
        · exact .inl ⟨e1, h2, h4⟩
      · rcases h2 with e2 | h2
        · have := h.1 _ h1; omega
        · exact .inr ⟨h1, h2, h3, h4⟩
theorem dp_sorted {row : List Int} : ∀ {s : List Int}, s.Pairwise (· < ·) → (dp row s).Pairwise fun p q => p.1 < q.1 ∨ (p.1 = q.1 ∧ p.2 < q.2)
  | [], _ => List.Pairwise.nil
  | l :: s, h => by
    have h' := h
    rw [List.pairwise_cons] at h
    unfold dp
    refine List.pairwise_append.mpr ⟨List.pairwise_map.mpr ((h.2.filter _).imp fun hab => .inr ⟨rfl, hab⟩), dp_sorted h.2, fun p hp q hq => ?_⟩
    have h1 := (dp_blk.mp hp).1
    have h2 := h.1 _ ((dp_mem h.2 q).mp hq).1
    exact .inl (by omega)
theorem dp_len (row : List Int) : ∀ s : List Int, (dp row s).length ≤ s.length * s.length
  | [] => Nat.le_refl _
  | l :: s => by
    unfold dp
    rw [List.length_append, List.length_map, List.length_cons, Nat.succ_mul, Nat.mul_succ]
    have := dp_len row s
    have := List.length_filter_le (fun g => decide (pos row g < pos row l)) s
    omega
/-! ### as data -/
def pairL (ps : List (Int × Int)) : T := .l ((ps.map pr).map T.d)
theorem erase_pairL {ps : List (Int × Int)} : erase (pairL ps) = some (.list (ps.map pr)) := by unfold pairL; simp only [erase, eraseAll_d, Option.map_some]
theorem alike_ints (cs : List Int) : PySem.W.AllAlike (cs.map PyData.int) := fun d h d' h' => by
  obtain ⟨p, _, rfl⟩ := List.mem_map.mp h
  obtain ⟨q, _, rfl⟩ := List.mem_map.mp h'
  rfl
theorem sortable_ints (cs : List Int) : PySem.W.Sortable (cs.map PyData.int) := .inr fun d h => by
  obtain ⟨p, _, rfl⟩ := List.mem_map.mp h
  exact ⟨fun z => (by cases z), fun xs z => (by cases z)⟩
theorem depth_ints (cs : List Int) : ∀ d ∈ cs.map PyData.int, d.depth ≤ 60 := fun d h => by
  obtain ⟨p, _, rfl⟩ := List.mem_map.mp h
  simp [PyData.depth]
theorem canLay_ints : ∀ cs : List Int, PyData.canLayAll0 (cs.map PyData.int) = true
  | [] => rfl
  | c :: cs => by simp only [List.map_cons, PyData.canLayAll0, PyData.canLay0, canLay_ints cs, Bool.and_self]
theorem depthAll_ints : ∀ cs : List Int, PyData.depthAll (cs.map PyData.int) ≤ 1
  | [] => by simp [PyData.depthAll]
  | c :: cs => by
    have := depthAll_ints cs
    simp only [List.map_cons, PyData.depthAll, PyData.depth]; omega
theorem shaped_ints (cs : List Int) : SeqAt.shaped (.list (cs.map PyData.int)) = true := by
  have := depthAll_ints cs
  have e : (PyData.list (cs.map PyData.int)).depth ≤ 64 := by simp only [PyData.depth]; omega
  simp only [SeqAt.shaped, PyData.canLay0, canLay_ints, Bool.true_and, decide_eq_true_eq]
  exact e
theorem cut_from {cs : List Int} {k : Int} (h : 0 ≤ k) : cutD (cs.map PyData.int) (some k) none = (cs.drop k.toNat).map PyData.int := by
  unfold cutD
  rw [List.map_drop]
  have e : HT.sIx (cs.map PyData.int).length 0 (some k) = min k.toNat (cs.map PyData.int).length := by show (if k < 0 then _ else _) = _; rw [if_neg (by omega)]
  rw [e, show HT.sIx (cs.map PyData.int).length (cs.map PyData.int).length none = (cs.map PyData.int).length from rfl]
  generalize cs.map PyData.int = ds
  by_cases q : k.toNat ≤ ds.length
  · rw [Nat.min_eq_left q]; exact List.take_of_length_le (by simp)
  · rw [Nat.min_eq_right (by omega), List.drop_of_length_le (Nat.le_refl _), List.drop_of_length_le (by omega)]; simp
theorem xIdxI {ρ : Rho} {Q : T → Rho → Prop} {t u : T} {cs : List Int} {y : Int} (h1 : vw ρ t = some (.list (cs.map PyData.int))) (h2 : vw ρ u = some (.int y)) (hy : y ∈ cs) (q : Q (.d (.int (pos cs y : Nat))) ρ) : kIdx t [u] ρ Q :=
  ⟨u, _, _, pos cs y, .int y, rfl, h1, h2, shaped_ints cs, rfl, by rw [List.getElem?_map, pos_at hy]; rfl, by simp [eqv_int], fun m z hm hz => by
    rw [List.getElem?_map] at hz
    cases e : cs[m]? with
    | none => rw [e] at hz; cases hz
    | some w => rw [e] at hz; cases hz; rw [eqv_int]; simpa using pos_no hm e, q⟩
/-! ### what a repr asks -/
theorem wt_int {i : Int} (h : i.natAbs < 10 ^ 12) : (PyData.int i).weight ≤ 41 := by
  have := log_le (a := 40) (show i.natAbs < 2 ^ 40 by omega)
  simp only [PyData.weight]
  split <;> omega
theorem shb_int {i : Int} (h : i.natAbs < 10 ^ 12) : (PyData.int i).showable = true := by
  have := log_le (a := 40) (show i.natAbs < 2 ^ 40 by omega)
  simp only [PyData.showable, decide_eq_true_eq]
  omega
def smallP (p : Int × Int) : Prop := p.1.natAbs < 10 ^ 12 ∧ p.2.natAbs < 10 ^ 12
end LW

namespace LW
open PySem PySem.Spec L2 TX
/-! ### triples, plainly -/
abbrev I3 := Int × Int × Int
def leT (p q : I3) : Bool := decide (p.1 < q.1 ∨ (p.1 = q.1 ∧ (p.2.1 < q.2.1 ∨ (p.2.1 = q.2.1 ∧ p.2.2 ≤ q.2.2))))
def tr3 (p : I3) : PyData := .tuple [.int p.1, .int p.2.1, .int p.2.2]
theorem le0_tr (p q : I3) : leT p q = le0 (tr3 p) (tr3 q) := by
  have e : le0 (tr3 p) (tr3 q) = !decide ([q.1, q.2.1, q.2.2] < [p.1, p.2.1, p.2.2]) := by
    rw [← PySem.W.dataLt_ints]; rfl
  rw [e]
  rw [Bool.eq_iff_iff]
  simp only [leT, decide_eq_true_eq, Bool.not_eq_true', decide_eq_false_iff_not, List.cons_lt_cons_iff, List.not_lt_nil, or_false, and_false]
  omega
theorem sortT (ps : List I3) : (ps.map tr3).mergeSort le0 = (ps.mergeSort leT).map tr3 := (PySem.W.sort_maps tr3 fun a _ b _ => le0_tr a b).symm
/-! ### the crossing threes -/
theorem pos_filter {f : Int → Bool} : ∀ {cs : List Int} {x y : Int}, x ∈ cs.filter f → y ∈ cs.filter f → (pos (cs.filter f) y < pos (cs.filter f) x ↔ pos cs y < pos cs x)
  | [], _, _, h, _ => by simp at h
  | c :: cs, x, y, hx, hy => by
    by_cases fc : f c = true
    · rw [List.filter_cons_of_pos fc] at hx hy ⊢
      simp only [pos]
      by_cases e1 : c = y
      · rw [if_pos e1, if_pos e1]
        by_cases e2 : c = x
        · rw [if_pos e2, if_pos e2]
        · rw [if_neg e2, if_neg e2]; omega
      · by_cases e2 : c = x
        · rw [if_neg e1, if_pos e2, if_neg e1, if_pos e2]; omega
        · have hx' := (List.mem_cons.mp hx).resolve_left fun z => e2 z.symm
          have hy' := (List.mem_cons.mp hy).resolve_left fun z => e1 z.symm
          have := pos_filter hx' hy'
          rw [if_neg e1, if_neg e2, if_neg e1, if_neg e2]; omega
    · rw [List.filter_cons_of_neg fc] at hx hy ⊢
      simp only [pos]
      have e1 : c ≠ y := fun e => fc (e ▸ (List.mem_filter.mp hy).2)
      have e2 : c ≠ x := fun e => fc (e ▸ (List.mem_filter.mp hx).2)
      have := pos_filter hx hy
      rw [if_neg e1, if_neg e2]; omega
def wt : List Int → List I3
  | [] => []
  | c :: cs => (wp (cs.filter fun x => decide (x < c))).map (fun p => (p.1, p.2, c)) ++ wt cs
theorem wt_blk {c : Int} {l : List (Int × Int)} {p : I3} : p ∈ l.map (fun p => (p.1, p.2, c)) ↔ (p.1, p.2.1) ∈ l ∧ p.2.2 = c := by
  constructor
  · intro h; obtain ⟨q, hq, rfl⟩ := List.mem_map.mp h; exact ⟨hq, rfl⟩
  · rintro ⟨h1, h2⟩; exact List.mem_map.mpr ⟨_, h1, by rw [← h2]⟩
theorem wt_mem : ∀ {cs : List Int}, cs.Nodup → ∀ p : I3, p ∈ wt cs ↔ (p.1 ∈ cs ∧ p.2.1 ∈ cs ∧ p.2.2 ∈ cs) ∧ p.1 < p.2.1 ∧ p.2.1 < p.2.2 ∧ pos cs p.2.1 < pos cs p.1 ∧ pos cs p.2.2 < pos cs p.2.1
  | [], _, p => by simp [wt]
  | c :: cs, h, p => by
    have h' := h
    rw [List.nodup_cons] at h
    have ne : ∀ {x}, x ∈ cs → c ≠ x := fun hx e => h.1 (e ▸ hx)
    unfold wt
    rw [List.mem_append, wt_blk, wt_mem h.2 p, wp_mem (h.2.filter _)]
    simp only [pos, List.mem_cons]
    constructor
    · rintro (⟨⟨h1, h2, h3, h4⟩, e⟩ | ⟨⟨h1, h2, h3⟩, h4, h5, h6, h7⟩)
      · have a1 := List.mem_filter.mp h1
        have a2 := List.mem_filter.mp h2
        have l1 := of_decide_eq_true a1.2
        have l2 := of_decide_eq_true a2.2
        have pp := (pos_filter h1 h2).mp h4
        refine ⟨⟨.inr a1.1, .inr a2.1, .inl e⟩, h3, by omega, ?_, ?_⟩
        · rw [if_neg (ne a2.1), if_neg (ne a1.1)]; omega
        · rw [if_pos e.symm, if_neg (ne a2.1)]; omega
      · refine ⟨⟨.inr h1, .inr h2, .inr h3⟩, h4, h5, ?_, ?_⟩
        · rw [if_neg (ne h2), if_neg (ne h1)]; omega
        · rw [if_neg (ne h3), if_neg (ne h2)]; omega
    · rintro ⟨⟨h1, h2, h3⟩, h4, h5, h6, h7⟩
      have n1 : p.1 ≠ c := fun e => by rw [if_pos e.symm] at h6; omega
      have n2 : p.2.1 ≠ c := fun e => by rw [if_pos e.symm] at h7; omega
      have m1 := h1.resolve_left n1
      have m2 := h2.resolve_left n2
      rw [if_neg (ne m2), if_neg (ne m1)] at h6
      rcases h3 with e | m3
      · have f1 : p.1 ∈ cs.filter fun x => decide (x < c) := List.mem_filter.mpr ⟨m1, decide_eq_true (by omega)⟩
        have f2 : p.2.1 ∈ cs.filter fun x => decide (x < c) := List.mem_filter.mpr ⟨m2, decide_eq_true (by omega)⟩
        exact .inl ⟨⟨f1, f2, h4, (pos_filter f1 f2).mpr (by omega)⟩, e⟩
      · rw [if_neg (ne m3), if_neg (ne m2)] at h7
        exact .inr ⟨⟨m1, m2, m3⟩, h4, h5, by omega, by omega⟩
theorem wt_nodup : ∀ {cs : List Int}, cs.Nodup → (wt cs).Nodup
  | [], _ => List.nodup_nil
  | c :: cs, h => by
    rw [List.nodup_cons] at h
    unfold wt
    rw [List.nodup_append]
    refine ⟨nodup_map (fun a b e => Prod.ext (Prod.mk.inj e).1 (Prod.mk.inj (Prod.mk.inj e).2).1) (wp_nodup (h.2.filter _)), wt_nodup h.2, fun p hp q hq e => ?_⟩
    subst e
    have h1 := (wt_blk.mp hp).2
    exact h.1 (h1 ▸ ((wt_mem h.2 p).mp hq).1.2.2)
theorem wt_len : ∀ cs : List Int, (wt cs).length ≤ cs.length * (cs.length * cs.length)
  | [] => Nat.le_refl _
  | c :: cs => by
    unfold wt
    rw [List.length_append, List.length_map, List.length_cons]
    have h1 := wt_len cs
    have h2 := wp_len (cs.filter fun x => decide (x < c))
    have h3 := List.length_filter_le (fun x => decide (x < c)) cs
    have h4 : (cs.filter fun x => decide (x < c)).length * (cs.filter fun x => decide (x < c)).length ≤ cs.length * cs.length := Nat.mul_le_mul h3 h3
    have h5 : cs.length * cs.length ≤ (cs.length + 1) * (cs.length + 1) := Nat.mul_le_mul (by omega) (by omega)
    have h6 : cs.length * (cs.length * cs.length) ≤ cs.length * ((cs.length + 1) * (cs.length + 1)) := Nat.mul_le_mul_left _ h5
    rw [Nat.succ_mul]
    omega
/-! ### all threes of a rising row -/
def p2 : List Int → List (Int × Int)
  | [] => []
  | y :: s => s.map (fun z => (y, z)) ++ p2 s
def th : List Int → List I3
  | [] => []
  | x :: s => (p2 s).map (fun p => (x, p.1, p.2)) ++ th s
theorem p2_mem : ∀ {s : List Int}, s.Pairwise (· < ·) → ∀ p : Int × Int, p ∈ p2 s ↔ p.1 ∈ s ∧ p.2 ∈ s ∧ p.1 < p.2
  | [], _, p => by simp [p2]
  | y :: s, h, p => by
    rw [List.pairwise_cons] at h
    unfold p2
    rw [List.mem_append, p2_mem h.2 p, List.mem_map]
    simp only [List.mem_cons]
    constructor
    · rintro (⟨z, hz, rfl⟩ | ⟨h1, h2, h3⟩)
      · exact ⟨.inl rfl, .inr hz, h.1 z hz⟩
      · exact ⟨.inr h1, .inr h2, h3⟩
    · rintro ⟨h1, h2, h3⟩
      rcases h1 with e1 | h1
      · rcases h2 with e2 | h2
        · omega
        · exact .inl ⟨p.2, h2, by rw [← e1]⟩
      · rcases h2 with e2 | h2
        · have := h.1 _ h1; omega
        · exact .inr ⟨h1, h2, h3⟩
theorem p2_sorted : ∀ {s : List Int}, s.Pairwise (· < ·) → (p2 s).Pairwise fun p q => p.1 < q.1 ∨ (p.1 = q.1 ∧ p.2 < q.2)
  | [], _ => List.Pairwise.nil
  | y :: s, h => by
    rw [List.pairwise_cons] at h
    unfold p2
    refine List.pairwise_append.mpr ⟨List.pairwise_map.mpr (h.2.imp fun hab => .inr ⟨rfl, hab⟩), p2_sorted h.2, fun p hp q hq => ?_⟩
    obtain ⟨z, _, rfl⟩ := List.mem_map.mp hp
    exact .inl (h.1 _ ((p2_mem h.2 q).mp hq).1)
theorem th_mem : ∀ {s : List Int}, s.Pairwise (· < ·) → ∀ p : I3, p ∈ th s ↔ (p.1 ∈ s ∧ p.2.1 ∈ s ∧ p.2.2 ∈ s) ∧ p.1 < p.2.1 ∧ p.2.1 < p.2.2
  | [], _, p => by simp [th]
  | x :: s, h, p => by
    rw [List.pairwise_cons] at h
    unfold th
    rw [List.mem_append, th_mem h.2 p, List.mem_map]
    simp only [List.mem_cons]
    constructor
    · rintro (⟨z, hz, rfl⟩ | ⟨⟨h1, h2, h3⟩, h4, h5⟩)
      · obtain ⟨a, b, c⟩ := (p2_mem h.2 z).mp hz
        exact ⟨⟨.inl rfl, .inr a, .inr b⟩, h.1 _ a, c⟩
      · exact ⟨⟨.inr h1, .inr h2, .inr h3⟩, h4, h5⟩
    · rintro ⟨⟨h1, h2, h3⟩, h4, h5⟩
      have a2 : p.2.1 ∈ s := h2.resolve_left fun e => by
        rcases h1 with e1 | h1
        · omega
        · have := h.1 _ h1; omega
      have a3 : p.2.2 ∈ s := h3.resolve_left fun e => by have := h.1 _ a2; omega
      rcases h1 with e1 | h1
      · exact .inl ⟨(p.2.1, p.2.2), (p2_mem h.2 _).mpr ⟨a2, a3, h5⟩, by rw [← e1]⟩
      · exact .inr ⟨⟨h1, a2, a3⟩, h4, h5⟩
def ltT (p q : I3) : Prop := p.1 < q.1 ∨ (p.1 = q.1 ∧ (p.2.1 < q.2.1 ∨ (p.2.1 = q.2.1 ∧ p.2.2 < q.2.2)))
theorem th_sorted : ∀ {s : List Int}, s.Pairwise (· < ·) → (th s).Pairwise ltT
  | [], _ => List.Pairwise.nil
  | x :: s, h => by
    rw [List.pairwise_cons] at h
    unfold th
    refine List.pairwise_append.mpr ⟨List.pairwise_map.mpr ((p2_sorted h.2).imp fun hab => .inr ⟨rfl, hab⟩), th_sorted h.2, fun p hp q hq => ?_⟩
    obtain ⟨z, _, rfl⟩ := List.mem_map.mp hp
    exact .inl (h.1 _ ((th_mem h.2 q).mp hq).1.1)
def dt (row : List Int) : List I3 := (th (sI row)).filter fun p => decide (pos row p.2.2 < pos row p.2.1) && decide (pos row p.2.1 < pos row p.1)
theorem cross_due {cs : List Int} (h : cs.Nodup) : (wt cs).mergeSort leT = dt cs := by
  have hs := sI_sorted cs h
  have d1 : (dt cs).Pairwise ltT := (th_sorted hs).filter _
  have nd : (dt cs).Nodup := d1.imp fun {p q} hpq e => by subst e; unfold ltT at hpq; omega
  refine List.Perm.eq_of_pairwise (le := fun p q => leT p q = true) (fun p q _ _ h1 h2 => ?_) (List.pairwise_mergeSort (fun a b c h1 h2 => ?_) (fun a b => ?_) _) (d1.imp fun {p q} hpq => ?_) ((List.mergeSort_perm _ _).trans ((List.perm_ext_iff_of_nodup (wt_nodup h) nd).mpr fun p => ?_))
  · simp only [leT, decide_eq_true_eq] at h1 h2
    exact Prod.ext (by omega) (Prod.ext (by omega) (by omega))
  · simp only [leT, decide_eq_true_eq] at *; omega
  · simp only [leT, Bool.or_eq_true, decide_eq_true_eq]; omega
  · simp only [leT, decide_eq_true_eq]; unfold ltT at hpq; omega
  · unfold dt
    rw [wt_mem h, List.mem_filter, th_mem hs, (sI_perm cs).mem_iff, (sI_perm cs).mem_iff, (sI_perm cs).mem_iff]
    simp only [Bool.and_eq_true, decide_eq_true_eq]
    constructor
    · rintro ⟨a, b, c, d, e⟩; exact ⟨⟨a, b, c⟩, e, d⟩
    · rintro ⟨⟨a, b, c⟩, e, d⟩; exact ⟨a, b, c, d, e⟩
end LW

namespace LW
open PySem PySem.Spec L2 TX

local macro_rules | `(tactic| trivial) => `(tactic| with_reducible first
  | refine xSeq ?_ | refine xSet ?_ | refine xSetK (by with_unfolding_all rfl) ?_ | refine xNext ?_ | refine xIfS ?_ | refine xDrop ?_ | refine xRet ?_ | refine xAsg ?_ | refine xAsK (by with_unfolding_all rfl) ?_ | refine xSub ?_ | refine xSbK (by with_unfolding_all rfl) (by with_unfolding_all rfl) (by with_unfolding_all rfl) ?_
  | refine xVarD (by with_unfolding_all rfl) ?_ | refine xVarZ (by with_unfolding_all rfl) ?_ | refine xVarN (by with_unfolding_all rfl) (by with_unfolding_all rfl) ?_ | refine xC ?_ | refine xOp ?_ | refine xI (by with_unfolding_all rfl) (by with_unfolding_all rfl) ?_ | refine xB (by with_unfolding_all rfl) (by with_unfolding_all rfl) ?_ | refine xEqI (by with_unfolding_all rfl) (by with_unfolding_all rfl) ?_ | refine xNeI (by with_unfolding_all rfl) (by with_unfolding_all rfl) ?_ | refine xNeg ?_ | refine xNegK ?_
  | refine xIc (by with_unfolding_all rfl) (by with_unfolding_all rfl) (by with_unfolding_all first | omega | exact ⟨by decide, by decide +kernel⟩) ?_
  | refine xT ?_ | refine xTK ?_ | refine xNot ?_ | refine xAnd ?_ | refine xOr ?_ | refine xAndV ?_ | refine xOrV ?_ | refine xNotV ?_ | refine xBK ?_ | refine xIf ?_ | refine xCh ?_ | refine xCh1 (by with_unfolding_all rfl) (by with_unfolding_all rfl) ?_ | refine xCh2 (by with_unfolding_all rfl) (by with_unfolding_all rfl) ?_
  | refine xIx ?_ | refine xIxA (by with_unfolding_all rfl) (by with_unfolding_all rfl) (by with_unfolding_all rfl) ?_ | refine xNil ?_ | refine xCons ?_ | refine xFn ?_ | refine xLst ?_ | refine xLstK (by with_unfolding_all rfl) ?_ | refine xTup ?_ | refine xTupK (by with_unfolding_all rfl) ?_ | refine xLen (by with_unfolding_all rfl) ?_ | refine xMax (by with_unfolding_all rfl) (by with_unfolding_all rfl) ?_ | refine xMin (by with_unfolding_all rfl) (by with_unfolding_all rfl) ?_
  | refine xYes (by with_unfolding_all rfl) ?_ | refine xNo (by with_unfolding_all rfl) ?_ | refine xIs (by with_unfolding_all rfl) (by with_unfolding_all rfl) ?_ | refine xCall ?_ | refine xM ?_ | refine xMA (by with_unfolding_all rfl) ?_ | refine xMD ?_ | refine xLc ?_ | refine xFor ?_ | refine xILst ?_ | refine xILK (by with_unfolding_all rfl) ?_ | refine xIR1 ?_ | refine xIEn ?_ | refine xSl ?_ | refine xNoPart ?_ | refine xPart ?_ | refine xPartK ?_ | refine xRevS ?_ | refine xCat ?_ | refine xLenSet ?_
  | refine xNm (by with_unfolding_all rfl) ?_ | refine xGTup (by with_unfolding_all rfl) ?_ | refine xGsCons ?_ | refine xGsNil ?_ | refine xYesT ?_ | refine xDg1 ?_ | refine xDp1 ?_ | refine xDg2 ?_ | refine xDp2 ?_ | refine xPar ?_ | refine xPaK (by with_unfolding_all rfl) (by with_unfolding_all rfl) ?_ | refine xRevT ?_ | refine xRevTK ?_ | refine xDi1 ?_ | refine xDi2 ?_ | refine xITup ?_ | refine xITupK ?_ | refine xIZip ?_ | refine xIR2 ?_ | refine xIsNK (by with_unfolding_all rfl) ?_ | refine xRev2 ?_ | refine xListR ?_ | refine xSlT ?_ | refine xSlTK ?_ | refine xGt1 ?_ | refine xGt2 ?_ | refine xGtA (by with_unfolding_all rfl) ?_ | refine xGtD ?_ | refine xRep ?_ | refine xDcL ?_ | refine xDc ?_ | refine xDpl ?_ | refine xGe1 ?_ | refine xGe2 ?_ | refine xIe1 ?_ | refine xIe2 ?_ | refine xGLst (by with_unfolding_all rfl) ?_ | refine xIsB (by with_unfolding_all rfl) (by with_unfolding_all rfl) ?_ | refine xVarL (by with_unfolding_all rfl) ?_ | refine xIDc ?_ | refine xIDcK ?_ | refine xLc2 ?_ | refine xGd1 ?_ | refine xGd2 ?_ | refine xGdA (by with_unfolding_all rfl) ?_ | refine xGdD ?_ | refine xDcT ?_ | refine xClip ?_ | refine xAppD ?_ | refine xAppD11 ?_ | refine xAppD21 ?_)

/-! ### the pot -/
def potT (a b c : Int) : T := .l [.d (.int a), .d (.int b), .d (.int c)]
/-- a pot that may be dipped into k times more -/
def Pot (a b c k : Int) : Prop := 0 ≤ a ∧ 0 ≤ b ∧ b < 2 ^ 200 ∧ 0 ≤ c ∧ c + k ≤ 2 ^ 40
/-- the pot of slot 0 behind at most k dips -/
def PotTo (k a b c : Int) (ρ : Rho) : Prop := ∃ a' c', ρ[0]? = some (some (potT a' b c')) ∧ 0 ≤ a' ∧ c ≤ c' ∧ c' ≤ c + k
def S_law_dip : SpT := SpP (fun ts => ∃ a b c m, ts = [potT a b c, .d (.int m)] ∧ Pot a b c 1 ∧ 1 ≤ m ∧ m ≤ 2 ^ 64) fun ts t ρ => ∀ a b c m, ts = [potT a b c, .d (.int m)] → ∃ i, t = .d (.int i) ∧ 0 ≤ i ∧ i < m ∧ PotTo 1 a b c ρ
theorem pot_inj {a b c a' b' c' : Int} (h : potT a b c = potT a' b' c') : a = a' ∧ b = b' ∧ c = c' := by
  unfold potT at h
  simpa only [T.l.injEq, List.cons.injEq, T.d.injEq, PyData.int.injEq, and_true] using h
theorem potn_inj {a b c a' b' c' m m' : Int} (h : [potT a b c, T.d (.int m)] = [potT a' b' c', T.d (.int m')]) : a = a' ∧ b = b' ∧ c = c' ∧ m = m' := by
  simp only [List.cons.injEq, T.d.injEq, PyData.int.injEq, and_true] at h
  obtain ⟨h1, h2, h3⟩ := pot_inj h.1
  exact ⟨h1, h2, h3, h.2⟩
theorem xDip {ρ : Rho} {Q : T → Rho → Prop} {E : ExK} {r : Nat} {a b c m k : Int} (hg : ρ[r]? = some (some (potT a b c))) (hp : Pot a b c k) (hk : 1 ≤ k) (hm : 1 ≤ m) (hm2 : m ≤ 2 ^ 64)
    (q : ∀ i a' c', 0 ≤ i → i < m → Pot a' b c' (k - 1) → c ≤ c' → c' ≤ c + 1 → Q (.d (.int i)) (ρ.set r (some (potT a' b c')))) : caK [0] 2 S_law_dip [.a r [], .d (.int m)] ρ Q E := by
  obtain ⟨h1, h2, h3, h4, h5⟩ := hp
  refine xCaF hg rfl rfl rfl rfl ⟨a, b, c, m, rfl, ⟨h1, h2, h3, h4, by omega⟩, hm, hm2⟩ fun u ρ' h => ?_
  obtain ⟨i, rfl, i0, i1, a', c', e, g1, g2, g3⟩ := h a b c m rfl
  exact ⟨_, e, rfl, rfl, q i a' c' i0 i1 ⟨g1, h2, h3, by omega, by omega⟩ g2 g3⟩
/-! ### cards -/
def intL (cs : List Int) : T := .l ((cs.map PyData.int).map T.d)
def Cards (cs : List Int) : Prop := ∀ c ∈ cs, 0 ≤ c ∧ c ≤ 999999999
def S_law_cards : SpT := SpP (fun ts => ∃ a b c m, ts = [potT a b c, .d (.int m)] ∧ Pot a b c 32 ∧ 1 ≤ m ∧ m ≤ 24) fun ts t ρ => ∀ a b c m, ts = [potT a b c, .d (.int m)] → ∃ cs, t = intL cs ∧ Cards cs ∧ (cs.length : Int) = m ∧ cs.Pairwise (· < ·) ∧ PotTo 32 a b c ρ
theorem erase_intL {cs : List Int} : erase (intL cs) = some (.list (cs.map PyData.int)) := by unfold intL; simp only [erase, eraseAll_d, Option.map_some]
theorem xCards {ρ : Rho} {Q : T → Rho → Prop} {E : ExK} {r : Nat} {a b c m k : Int} (hg : ρ[r]? = some (some (potT a b c))) (hp : Pot a b c k) (hk : 32 ≤ k) (hm : 1 ≤ m) (hm2 : m ≤ 24)
    (q : ∀ cs a' c', Cards cs → (cs.length : Int) = m → cs.Pairwise (· < ·) → Pot a' b c' (k - 32) → c ≤ c' → c' ≤ c + 32 → Q (intL cs) (ρ.set r (some (potT a' b c')))) : caK [0] 2 S_law_cards [.a r [], .d (.int m)] ρ Q E := by
  obtain ⟨h1, h2, h3, h4, h5⟩ := hp
  refine xCaF hg rfl rfl rfl rfl ⟨a, b, c, m, rfl, ⟨h1, h2, h3, h4, by omega⟩, hm, hm2⟩ fun u ρ' h => ?_
  obtain ⟨cs, rfl, i0, i1, i2, a', c', e, g1, g2, g3⟩ := h a b c m rfl
  exact ⟨_, e, rfl, rfl, q cs a' c' i0 i1 i2 ⟨g1, h2, h3, by omega, by omega⟩ g2 g3⟩
/-! ### own lists of ints -/
theorem map_eraseI (cs : List Int) (j : Nat) : (cs.map PyData.int).eraseIdx j = (cs.eraseIdx j).map PyData.int := by
  rw [List.eraseIdx_eq_take_drop_succ, List.eraseIdx_eq_take_drop_succ, List.map_append, List.map_take, List.map_drop]
theorem xPopI {ρ : Rho} {Q : T → Rho → Prop} {r : Nat} {p : List Nat} {cs : List Int} {i : Int} (g : getT ρ r p = some (intL cs)) (h0 : 0 ≤ i) (h1 : i < cs.length) (h2 : cs.length ≤ 100000) (q : ∀ y, cs[i.toNat]? = some y → Q (.d (.int y)) (TX.putAt ρ r p (intL (cs.eraseIdx i.toNat)))) : kPopAt (.a r p) [.d (.int i)] ρ Q := by
  obtain ⟨y, _, e⟩ := at_in' h0 h1
  have := q y e
  unfold intL at this g
  rw [← map_eraseI] at this
  exact xPopAt g h0 (by simp; omega) (by simp; omega) (by rw [List.getElem?_map, e]; rfl) this
theorem xInsI {ρ : Rho} {Q : T → Rho → Prop} {r : Nat} {p : List Nat} {cs : List Int} {i y : Int} (g : getT ρ r p = some (intL cs)) (h0 : 0 ≤ i) (h1 : i ≤ cs.length) (h2 : cs.length ≤ 1000) (q : Q (.d .none) (TX.putAt ρ r p (intL (cs.take i.toNat ++ [y] ++ cs.drop i.toNat)))) : kIns (.a r p) [.d (.int i), .d (.int y)] ρ Q := by
  have e : (cs.take i.toNat ++ [y] ++ cs.drop i.toNat).map PyData.int = (cs.map PyData.int).take i.toNat ++ [PyData.int y] ++ (cs.map PyData.int).drop i.toNat := by simp [List.map_take, List.map_drop]
  unfold intL at q g
  rw [e] at q
  exact xIns g rfl (small1000 (by simp; omega)) h0 (by omega) q
theorem noNd_o {ρ : Rho} {k : Nat} {x : Option PyData} (h : ρ[k]? = some (x.map T.d)) : noNdB ρ k = true := by
  unfold noNdB
  rw [h]
  cases x <;> rfl
/-! ### rows -/
def RowOk (cs : List Int) : Prop := Cards cs ∧ cs.Nodup ∧ 1 ≤ cs.length ∧ cs.length ≤ 24
def S_law_row : SpT := SpP (fun ts => ∃ a b c m, ts = [potT a b c, .d (.int m)] ∧ Pot a b c 64 ∧ 1 ≤ m ∧ m ≤ 24) fun ts t ρ => ∀ a b c m, ts = [potT a b c, .d (.int m)] → ∃ cs, t = intL cs ∧ RowOk cs ∧ PotTo 64 a b c ρ
theorem mS_law_row : MonSp S_law_row := mon_SpP
theorem rowOk_perm {xs ys : List Int} (h : xs.Perm ys) (r : RowOk ys) : RowOk xs := ⟨fun c hc => r.1 c (h.mem_iff.mp hc), h.nodup_iff.mpr r.2.1, by rw [h.length_eq]; exact r.2.2.1, by rw [h.length_eq]; exact r.2.2.2⟩
theorem perm_pop : ∀ {cs : List Int} {j : Nat} {y : Int}, cs[j]? = some y → (y :: cs.eraseIdx j).Perm cs
  | [], _, _, h => by simp at h
  | x :: cs, 0, y, h => by simp at h; subst h; simp
  | x :: cs, j + 1, y, h => by
    rw [List.eraseIdx_cons_succ]
    exact (List.Perm.swap x y _).trans ((perm_pop (j := j) (by simpa using h)).cons x)
theorem len_pop {cs : List Int} {j : Nat} {y : Int} (h : cs[j]? = some y) : (cs.eraseIdx j).length + 1 = cs.length := by
  have := (perm_pop h).length_eq
  simpa using this
abbrev N_law_row : List Str := ["_law_pot_here", "_law_most", "_law_cards_here", "_law_way", "_law_turn", "_law_row_here", "_law_card"]
def w_law_row : TwS := (wSeq (wSet 2 (wCall [0] 2 S_law_cards (wCons (wVar 0) (wCons (wOp (fI (· + ·)) (wC (.d (.int 1))) (wCall [0] 2 S_law_dip (wCons (wVar 0) (wCons (wVar 1) wNil)))) wNil))))
    (wSeq (wSet 3 (wCall [0] 2 S_law_dip (wCons (wVar 0) (wCons (wC (.d (.int 3))) wNil))))
    (wSeq (wIfS (wT (wOp (fEq) (wVar 3) (wC (.d (.int 0))))) (wRet (wLc (wIR1 (wCons (wFn kLen (wCons (wVar 2) wNil)) wNil)) (wNm 4) wYes (wM isLst kPopAt (wVar 2) (wCons (wCall [0] 2 S_law_dip (wCons (wVar 0) (wCons (wFn kLen (wCons (wVar 2) wNil)) wNil))) wNil)) [4])) wNext)
    (wSeq (wSet 5 (wRevS (wVar 2)))
    (wSeq (wFor (wIR1 (wCons (wIx (wLst (wCons (wC (.d (.int 0))) (wCons (wOp (fI (· + ·)) (wC (.d (.int 1))) (wCall [0] 2 S_law_dip (wCons (wVar 0) (wCons (wC (.d (.int 4))) wNil)))) wNil))) (wOp (fI (· - ·)) (wVar 3) (wC (.d (.int 1))))) wNil)) (wNm 4) (wSeq (wSet 6 (wM isLst kPopAt (wVar 5) (wCons (wCall [0] 2 S_law_dip (wCons (wVar 0) (wCons (wFn kLen (wCons (wVar 5) wNil)) wNil))) wNil)))
    (wDrop (wM isLst kIns (wVar 5) (wCons (wCall [0] 2 S_law_dip (wCons (wVar 0) (wCons (wOp (fI (· + ·)) (wFn kLen (wCons (wVar 5) wNil)) (wC (.d (.int 1)))) wNil))) (wCons (wVar 6) wNil))))))
    (wRetV 5))))))
theorem pl_law_row : PlD S_law_row w_law_row N_law_row := by
  rintro ts Q Ex ⟨⟨a, b, c, m, rfl, hp, m1, m2⟩, q⟩
  have fin : ∀ cs a' c' ρ, RowOk cs → ρ[0]? = some (some (potT a' b c')) → 0 ≤ a' → c ≤ c' → c' ≤ c + 64 → Q (intL cs) ρ := fun cs a' c' ρ h e h1 h2 h3 => q _ _ fun a9 b9 c9 m9 e9 => by
    obtain ⟨rfl, rfl, rfl, rfl⟩ := potn_inj e9
    exact ⟨cs, rfl, h, a', c', e, h1, h2, h3⟩
  obtain ⟨_, p2, p3, q4, q5⟩ := id hp
  unfold w_law_row
  repeat trivial
  refine xDip rfl hp (by decide) m1 (by omega) fun i1 a1 c1 i10 i11 hp1 c10 c11 => ?_
  repeat trivial
  refine xCards rfl hp1 (by decide) (by omega) (by omega) fun cs a2 c2 hc hl hs hp2 c20 c21 => ?_
  have ok : RowOk cs := ⟨hc, hs.imp fun h => Int.ne_of_lt h, by omega, by omega⟩
  repeat trivial
  refine xDip rfl hp2 (by decide) (by decide) (by decide) fun i3 a3 c3 i30 i31 hp3 c30 c31 => ?_
  obtain ⟨e31, _, _, e34, e35⟩ := id hp3
  repeat trivial
  refine xIte (fun h => ?_) fun h => ?_
  · repeat trivial
    refine xIRK (by omega) (by simp; omega) ?_
    refine ⟨noNd1 rfl, by rw [range_len]; simp; omega, fun i acc ρ2 => ∃ (a' c' : Int) (out cs' : List Int), ρ2 = [some (potT a' b c'), some (.d (.int m)), some (intL cs'), some (.d (.int i3)), none, none, none] ∧ acc = out.map PyData.int ∧ (out ++ cs').Perm cs ∧ out.length = i ∧ 0 ≤ a' ∧ c3 ≤ c' ∧ c' ≤ c3 + i, ⟨a3, c3, [], cs, rfl, rfl, by simp, rfl, e31, by omega, by omega⟩, ?_, ?_⟩
    · rintro i x acc ρ2 e ⟨a', c', out, cs', rfl, rfl, pm, ol, g1, g2, g3⟩
      obtain ⟨hi, rfl⟩ := range_get e
      have hlen := pm.length_eq
      simp at hlen hi
      repeat trivial
      refine ⟨noNd1 rfl, xYes rfl ?_⟩
      repeat trivial
      refine xDip (k := 1) rfl ⟨g1, p2, p3, by omega, by omega⟩ (by decide) (by simp; omega) (by simp; omega) fun i5 a5 c5 i50 i51 hp5 c50 c51 => ?_
      simp at i51
      repeat trivial
      refine xPopI rfl i50 i51 (by omega) fun y hy => ?_
      refine ⟨noNd1 rfl, _, rfl, a5, c5, out ++ [y], cs'.eraseIdx i5.toNat, ?_, by simp, ?_, by simp; omega, hp5.1, by omega, by omega⟩
      · rfl
      · refine List.Perm.trans ?_ pm
        rw [List.append_assoc]
        exact (perm_pop hy).append_left out
    · rintro acc ρ2 ⟨a', c', out, cs', rfl, rfl, pm, ol, g1, g2, g3⟩
      rw [range_len] at ol g3
      have hlen := pm.length_eq
      simp at hlen ol g3
      have : cs' = [] := List.length_eq_zero_iff.mp (by omega)
      subst this
      rw [List.append_nil] at pm
      exact ⟨rfl, fin out a' c' _ (rowOk_perm pm ok) rfl g1 (by omega) (by omega)⟩
  · have h3 : i3 ≠ 0 := fun z => by subst z; exact absurd h (by decide)
    repeat trivial
    refine xRevK (allD_map _) ?_
    have erev : (List.map PyData.int cs).reverse = cs.reverse.map PyData.int := by rw [List.map_reverse]
    rw [erev]
    repeat trivial
    refine xDip rfl hp3 (by decide) (by decide) (by decide) fun i4 a4 c4 i40 i41 hp4 c40 c41 => ?_
    repeat trivial
    obtain ⟨w, hw, ew⟩ := pickI (cs := [0, 1 + i4]) (i := i3 - 1) (by omega) (by simp; omega)
    have hw' : 0 ≤ w ∧ w ≤ 4 := by simp only [List.mem_cons, List.not_mem_nil, or_false] at hw; omega
    refine xIxL ew ?_
    repeat trivial
    refine xIRK (by omega) (by omega) ?_
    refine xFoK (fun i ρ2 => ∃ (a' c' : Int) (cs' : List Int) (o4 o6 : Option PyData), ρ2 = [some (potT a' b c'), some (.d (.int m)), some (intL cs), some (.d (.int i3)), o4.map T.d, some (intL cs'), o6.map T.d] ∧ cs'.Perm cs ∧ 0 ≤ a' ∧ c4 ≤ c' ∧ c' ≤ c4 + 2 * i) ⟨a4, c4, cs.reverse, none, none, rfl, List.reverse_perm cs, hp4.1, by omega, by omega⟩ ?_ ?_
    · rintro i x ρ2 e ⟨a', c', cs', o4, o6, rfl, pm, g1, g2, g3⟩
      obtain ⟨hi, rfl⟩ := range_get e
      have hlen := pm.length_eq
      refine xNm (noNd_o rfl) ?_
      repeat trivial
      refine xDip (k := 2) rfl ⟨g1, p2, p3, by omega, by omega⟩ (by decide) (by simp; omega) (by simp; omega) fun i5 a5 c5 i50 i51 hp5 c50 c51 => ?_
      simp at i51
      repeat trivial
      refine xPopI rfl i50 i51 (by omega) fun y hy => ?_
      have hl5 := len_pop hy
      repeat trivial
      refine xDip rfl hp5 (by decide) (by simp; omega) (by simp; omega) fun i6 a6 c6 i60 i61 hp6 c60 c61 => ?_
      simp at i61
      repeat trivial
      refine xInsI rfl i60 (by omega) (by omega) ?_
      refine ⟨a6, c6, _, some _, some (.int y), rfl, ?_, hp6.1, by omega, by omega⟩
      refine List.Perm.trans ?_ ((perm_pop hy).trans pm)
      refine List.Perm.trans (List.perm_append_comm.append_right _) ?_
      simp [List.take_append_drop]
    · rintro ρ2 ⟨a', c', cs', o4, o6, rfl, pm, g1, g2, g3⟩
      rw [range_len] at g3
      repeat trivial
      exact xRetV rfl ⟨rfl, fin cs' a' c' _ (rowOk_perm pm ok) rfl g1 (by omega) (by omega)⟩end LW

namespace LW
open PySem PySem.Spec L2 TX

local macro_rules | `(tactic| trivial) => `(tactic| with_reducible first
  | refine xSeq ?_ | refine xSet ?_ | refine xSetK (by with_unfolding_all rfl) ?_ | refine xNext ?_ | refine xIfS ?_ | refine xDrop ?_ | refine xRet ?_ | refine xAsg ?_ | refine xAsK (by with_unfolding_all rfl) ?_ | refine xSub ?_ | refine xSbK (by with_unfolding_all rfl) (by with_unfolding_all rfl) (by with_unfolding_all rfl) ?_
  | refine xVarD (by with_unfolding_all rfl) ?_ | refine xVarZ (by with_unfolding_all rfl) ?_ | refine xVarN (by with_unfolding_all rfl) (by with_unfolding_all rfl) ?_ | refine xC ?_ | refine xOp ?_ | refine xI (by with_unfolding_all rfl) (by with_unfolding_all rfl) ?_ | refine xB (by with_unfolding_all rfl) (by with_unfolding_all rfl) ?_ | refine xEqI (by with_unfolding_all rfl) (by with_unfolding_all rfl) ?_ | refine xNeI (by with_unfolding_all rfl) (by with_unfolding_all rfl) ?_ | refine xNeg ?_ | refine xNegK ?_
  | refine xIc (by with_unfolding_all rfl) (by with_unfolding_all rfl) (by with_unfolding_all first | omega | exact ⟨by decide, by decide +kernel⟩) ?_
  | refine xT ?_ | refine xTK ?_ | refine xNot ?_ | refine xAnd ?_ | refine xOr ?_ | refine xAndV ?_ | refine xOrV ?_ | refine xNotV ?_ | refine xBK ?_ | refine xIf ?_ | refine xCh ?_ | refine xCh1 (by with_unfolding_all rfl) (by with_unfolding_all rfl) ?_ | refine xCh2 (by with_unfolding_all rfl) (by with_unfolding_all rfl) ?_
  | refine xIx ?_ | refine xIxA (by with_unfolding_all rfl) (by with_unfolding_all rfl) (by with_unfolding_all rfl) ?_ | refine xNil ?_ | refine xCons ?_ | refine xFn ?_ | refine xLst ?_ | refine xLstK (by with_unfolding_all rfl) ?_ | refine xTup ?_ | refine xTupK (by with_unfolding_all rfl) ?_ | refine xLen (by with_unfolding_all rfl) ?_ | refine xMax (by with_unfolding_all rfl) (by with_unfolding_all rfl) ?_ | refine xMin (by with_unfolding_all rfl) (by with_unfolding_all rfl) ?_
  | refine xYes (by with_unfolding_all rfl) ?_ | refine xNo (by with_unfolding_all rfl) ?_ | refine xIs (by with_unfolding_all rfl) (by with_unfolding_all rfl) ?_ | refine xCall ?_ | refine xM ?_ | refine xMA (by with_unfolding_all rfl) ?_ | refine xMD ?_ | refine xLc ?_ | refine xFor ?_ | refine xILst ?_ | refine xILK (by with_unfolding_all rfl) ?_ | refine xIR1 ?_ | refine xIEn ?_ | refine xSl ?_ | refine xNoPart ?_ | refine xPart ?_ | refine xPartK ?_ | refine xRevS ?_ | refine xCat ?_ | refine xLenSet ?_
  | refine xNm (by with_unfolding_all rfl) ?_ | refine xGTup (by with_unfolding_all rfl) ?_ | refine xGsCons ?_ | refine xGsNil ?_ | refine xYesT ?_ | refine xDg1 ?_ | refine xDp1 ?_ | refine xDg2 ?_ | refine xDp2 ?_ | refine xPar ?_ | refine xPaK (by with_unfolding_all rfl) (by with_unfolding_all rfl) ?_ | refine xRevT ?_ | refine xRevTK ?_ | refine xDi1 ?_ | refine xDi2 ?_ | refine xITup ?_ | refine xITupK ?_ | refine xIZip ?_ | refine xIR2 ?_ | refine xIsNK (by with_unfolding_all rfl) ?_ | refine xRev2 ?_ | refine xListR ?_ | refine xSlT ?_ | refine xSlTK ?_ | refine xGt1 ?_ | refine xGt2 ?_ | refine xGtA (by with_unfolding_all rfl) ?_ | refine xGtD ?_ | refine xRep ?_ | refine xDcL ?_ | refine xDc ?_ | refine xDpl ?_ | refine xGe1 ?_ | refine xGe2 ?_ | refine xIe1 ?_ | refine xIe2 ?_ | refine xGLst (by with_unfolding_all rfl) ?_ | refine xIsB (by with_unfolding_all rfl) (by with_unfolding_all rfl) ?_ | refine xVarL (by with_unfolding_all rfl) ?_ | refine xIDc ?_ | refine xIDcK ?_ | refine xLc2 ?_ | refine xGd1 ?_ | refine xGd2 ?_ | refine xGdA (by with_unfolding_all rfl) ?_ | refine xGdD ?_ | refine xDcT ?_ | refine xClip ?_ | refine xAppD ?_ | refine xAppD11 ?_ | refine xAppD21 ?_)

/-! ### cards, rows: of anything -/
def rowD (cs : List Int) : T := .d (.list (cs.map PyData.int))
theorem map_int_inj : ∀ {xs ys : List Int}, xs.map PyData.int = ys.map PyData.int → xs = ys
  | [], [], _ => rfl
  | [], _ :: _, h => by cases h
  | _ :: _, [], h => by cases h
  | x :: xs, y :: ys, h => by
    simp only [List.map_cons, List.cons.injEq, PyData.int.injEq] at h
    rw [h.1, map_int_inj h.2]
theorem rowD_inj {xs ys : List Int} (h : rowD xs = rowD ys) : xs = ys := by
  unfold rowD at h
  simp only [T.d.injEq, PyData.list.injEq] at h
  exact map_int_inj h
theorem imm_ints : ∀ ps : List Int, immTs ((ps.map PyData.int).map T.d) = true
  | [] => rfl
  | p :: ps => by
    simp only [List.map_cons, immTs, imm_ints ps, Bool.and_true]
    rfl
def isCardD : PyData → Bool
  | .int i => decide (0 ≤ i) && decide (i ≤ 999999999)
  | _ => false
def intsD : List PyData → List Int
  | [] => []
  | .int i :: r => i :: intsD r
  | _ :: r => intsD r
theorem intsD_map : ∀ cs : List Int, intsD (cs.map PyData.int) = cs
  | [] => rfl
  | c :: cs => by simp only [List.map_cons, intsD, intsD_map cs]
theorem cards_ints : ∀ {ds : List PyData}, ds.all isCardD = true → ds = (intsD ds).map PyData.int ∧ Cards (intsD ds)
  | [], _ => ⟨rfl, fun c h => (by cases h)⟩
  | d :: ds, h => by
    simp only [List.all_cons, Bool.and_eq_true] at h
    obtain ⟨h1, h2⟩ := cards_ints h.2
    cases d with
    | int i =>
      simp only [isCardD, Bool.and_eq_true, decide_eq_true_eq] at h
      refine ⟨by simp only [intsD, List.map_cons]; rw [← h1], fun c hc => ?_⟩
      simp only [intsD, List.mem_cons] at hc
      rcases hc with rfl | hc
      · exact h.1
      · exact h2 c hc
    | _ => simp [isCardD] at h
theorem cards_all {cs : List Int} : (cs.map PyData.int).all isCardD = true ↔ Cards cs := by
  simp only [List.all_map, List.all_eq_true, Function.comp, isCardD, Bool.and_eq_true, decide_eq_true_eq]
  exact ⟨fun h c hc => h c hc, fun h c hc => h c hc⟩
def isRowD : PyData → Bool
  | .list ds => (decide (1 ≤ ds.length) && decide (ds.length ≤ 24)) && (ds.all isCardD && decide (distI (intsD ds) = ds.length))
  | _ => false
theorem met_take (ns : List Int) : ∀ i, i ≤ ns.length → (List.range i).map (fun i => ns.getD i 0) = ns.take i := fun i hi => by
  refine List.ext_getElem? fun j => ?_
  rw [List.getElem?_map]
  by_cases q : j < i
  · rw [List.getElem?_range q, List.getElem?_take_of_lt q]
    have : j < ns.length := by omega
    simp [List.getD, this]
  · rw [List.getElem?_eq_none (by simpa using q), List.getElem?_eq_none (by rw [List.length_take]; omega)]; rfl
theorem met_nodup (ns : List Int) : ∀ i, i ≤ ns.length → (PyProof.Rows.firstMet (fun i => ns.getD i 0) i).length = i → (ns.take i).Nodup
  | 0, _, _ => by simp
  | i + 1, hi, h => by
    have hany := PyProof.Rows.firstMet_any (fun i => ns.getD i 0) i (ns.getD i 0)
    have hle := PyProof.Rows.firstMet_length_le (fun i => ns.getD i 0) i
    rw [PyProof.Rows.firstMet_succ] at h
    unfold PyProof.Rows.step_dedup at h
    split at h
    · omega
    · rename_i no
      rw [List.length_append, List.length_singleton] at h
      have ih := met_nodup ns i (by omega) (by omega)
      rw [met_take ns i (by omega)] at hany
      have hi' : i < ns.length := hi
      rw [List.take_succ, List.getElem?_eq_getElem hi']
      refine List.nodup_append.mpr ⟨ih, by simp, fun a ha b hb e => ?_⟩
      simp at hb
      subst hb
      subst e
      refine no ?_
      rw [hany]
      refine List.any_eq_true.mpr ⟨_, ha, ?_⟩
      simp [List.getD, hi']
theorem distI_nodup {cs : List Int} : distI cs = cs.length ↔ cs.Nodup := by
  constructor
  · intro h
    unfold distI at h
    have := met_nodup cs cs.length (Nat.le_refl _) h
    rwa [List.take_length] at this
  · intro h; unfold distI; rw [RZ.firstMet_nodup h _ (Nat.le_refl _), List.take_length]
theorem isRow_iff {cs : List Int} : isRowD (.list (cs.map PyData.int)) = true ↔ RowOk cs := by
  unfold isRowD RowOk
  simp only [Bool.and_eq_true, decide_eq_true_eq, intsD_map, List.length_map, cards_all, distI_nodup]
  exact ⟨fun ⟨⟨a, b⟩, c, d⟩ => ⟨c, d, a, b⟩, fun ⟨c, d, a, b⟩ => ⟨⟨a, b⟩, c, d⟩⟩
theorem vw_l {ρ : Rho} {ds : List PyData} : vw ρ (.l (ds.map T.d)) = some (.list ds) := by simp only [vw, erase, eraseAll_d, Option.map_some]
def S_is_card : SpT := SpP (fun ts => ∃ x, ts = [.d x]) fun ts t _ => ∀ x, ts = [.d x] → t = .d (.bool (isCardD x))
def S_is_row : SpT := SpP (fun ts => ∃ x, ts = [.d x]) fun ts t _ => ∀ x, ts = [.d x] → t = .d (.bool (isRowD x))
def S_need_row : SpT := SpP (fun ts => ∃ x, ts = [.d x] ∧ isRowD x = true) fun _ t _ => t = .d .none
theorem mS_is_card : MonSp S_is_card := mon_SpP
theorem mS_is_row : MonSp S_is_row := mon_SpP
theorem mS_need_row : MonSp S_need_row := mon_SpP
theorem d1_inj {x y : PyData} (h : [T.d x] = [T.d y]) : x = y := by simpa using h
abbrev N_is_card : List Str := ["thing"]
def w_is_card : TwS := (wRet (wAndV (wFn kIs (wCons (wVar 0) (wCons (wC (.raw (.ty "int"))) wNil))) (wAndV (wNotV (wFn kIs (wCons (wVar 0) (wCons (wC (.raw (.ty "bool"))) wNil)))) (wCh (fB fun i j => decide (i ≤ j)) (fB fun i j => decide (i ≤ j)) (wC (.d (.int 0))) (wVar 0) (wC (.d (.int 999999999)))))))
abbrev N_is_row : List Str := ["thing", "one"]
def w_is_row : TwS := (wSeq (wIfS (wOr (wNot (wT (wFn kIs (wCons (wVar 0) (wCons (wC (.raw (.ty "list"))) wNil))))) (wNot (wT (wCh (fB fun i j => decide (i ≤ j)) (fB fun i j => decide (i ≤ j)) (wC (.d (.int 1))) (wFn kLen (wCons (wVar 0) wNil)) (wC (.d (.int 24))))))) (wRet (wC (.d (.bool false)))) wNext)
    (wRet (wAndV (wFn (k1 fAll) (wCons (wLc (wILst (wVar 0)) (wNm 1) wYes (wCall [] 1 S_is_card (wCons (wVar 1) wNil)) [1]) wNil)) (wOp (fEq) (wLenSet (wVar 0)) (wFn kLen (wCons (wVar 0) wNil))))))
abbrev N_need_row : List Str := ["thing"]
def w_need_row : TwS := (wIfS (wNot (wT (wCall [] 1 S_is_row (wCons (wVar 0) wNil)))) wNever wNext)
theorem pl_is_card : PlD S_is_card w_is_card N_is_card := by
  rintro ts Q Ex ⟨⟨x, rfl⟩, q⟩
  unfold w_is_card
  have fin : ∀ b ρ, b = isCardD x → Q (.d (.bool b)) ρ := fun b ρ e => q _ _ fun y e' => by rw [← d1_inj e', e]
  cases x with
  | int i =>
    repeat trivial
    refine xIte (fun h => ?_) fun h => ?_
    · repeat trivial
      exact ⟨rfl, fin _ _ (by simp only [isCardD, h, Bool.true_and])⟩
    · repeat trivial
      exact ⟨rfl, fin _ _ (by simp only [isCardD, h, Bool.false_and])⟩
  | _ =>
    repeat trivial
    exact ⟨rfl, fin _ _ rfl⟩
theorem xIsCard {ρ : Rho} {Q : T → Rho → Prop} {E : ExK} {x : PyData} (q : Q (.d (.bool (isCardD x))) ρ) : caK [] 1 S_is_card [.d x] ρ Q E :=
  xCaP rfl rfl rfl ⟨x, rfl⟩ fun t ρ' e => by rw [e x rfl]; exact ⟨rfl, q⟩
theorem bools_of (f : PyData → Bool) (ds : List PyData) : ((List.filter (fun _ => true) ds).map fun x => PyData.bool (f x)) = (ds.map f).map PyData.bool := by
  rw [List.filter_eq_self.mpr (fun _ _ => rfl), List.map_map]; rfl
theorem all_of_map (f : PyData → Bool) (ds : List PyData) : (ds.map f).all id = ds.all f := by rw [List.all_map]; rfl
theorem pl_is_row : PlD S_is_row w_is_row N_is_row := by
  rintro ts Q Ex ⟨⟨x, rfl⟩, q⟩
  unfold w_is_row
  have fin : ∀ b ρ, b = isRowD x → Q (.d (.bool b)) ρ := fun b ρ e => q _ _ fun y e' => by rw [← d1_inj e', e]
  cases x with
  | list ds =>
    repeat trivial
    refine xIte (fun h1 => ?_) fun h1 => ?_
    · repeat trivial
      refine xIte (fun h2 => ?_) fun h2 => ?_
      · repeat trivial
        exact ⟨rfl, fin _ _ (by simp only [Bool.not_eq_true'] at h2; have h2' := of_decide_eq_false h2; have : decide (ds.length ≤ 24) = false := decide_eq_false (by omega); simp only [isRowD, this, Bool.and_false, Bool.false_and])⟩
      · have g1 := of_decide_eq_true h1
        have g2 : ds.length ≤ 24 := by simp only [Bool.not_eq_false'] at h2; have := of_decide_eq_true h2; omega
        repeat trivial
        refine xLcM (fun _ => true) (fun x => .bool (isCardD x)) rfl (by omega) (by simp [rho0]) (fun x hx Y Z hY _ => ?_) ?_
        · refine xYesT ⟨noNd1 rfl, xYes rfl ?_⟩
          repeat trivial
          refine xIsCard ?_
          exact ⟨noNd1 rfl, _, rfl, hY rfl⟩
        · rw [bools_of]
          repeat trivial
          refine xAll (bs := ds.map isCardD) vw_l ?_
          rw [all_of_map]
          repeat trivial
          refine xIte (fun h3 => ?_) fun h3 => ?_
          · obtain ⟨e1, e2⟩ := cards_ints h3
            repeat trivial
            refine ⟨intsD ds, by show some (PyData.list ds) = _; rw [← e1], by have := congrArg List.length e1; rw [List.length_map] at this; omega, ?_⟩
            repeat trivial
            refine ⟨rfl, fin _ _ ?_⟩
            simp only [isRowD, h3, Bool.true_and]
            rw [decide_eq_true (show 1 ≤ ds.length by omega), decide_eq_true g2, Bool.true_and, Bool.true_and, Bool.eq_iff_iff]
            simp only [beq_iff_eq, decide_eq_true_eq]
            omega
          · repeat trivial
            exact ⟨rfl, fin _ _ (by simp only [isRowD, h3, Bool.false_and, Bool.and_false])⟩
    · repeat trivial
      exact ⟨rfl, fin _ _ (by have h1' := of_decide_eq_false h1; have : decide (1 ≤ ds.length) = false := decide_eq_false (by omega); simp only [isRowD, this, Bool.false_and])⟩
  | _ =>
    repeat trivial
    exact ⟨rfl, fin _ _ rfl⟩
theorem pl_need_row : PlD S_need_row w_need_row N_need_row := by
  rintro ts Q Ex ⟨⟨x, rfl, h⟩, q⟩
  unfold w_need_row
  repeat trivial
  refine xCaP rfl rfl rfl ⟨x, rfl⟩ fun t ρ' e => ?_
  cases e x rfl
  refine ⟨rfl, ?_⟩
  repeat trivial
  refine xNo (by rw [h]; rfl) ?_
  repeat trivial
  exact q _ _ rfl
theorem eqv_intsB : ∀ cs ds : List Int, PyData.eqvAll (cs.map PyData.int) (ds.map PyData.int) = decide (cs = ds)
  | [], [] => by simp [PyData.eqvAll]
  | [], d :: ds => by simp [PyData.eqvAll]
  | c :: cs, [] => by simp [PyData.eqvAll]
  | c :: cs, d :: ds => by
    simp only [List.map_cons, PyData.eqvAll, eqv_int, eqv_intsB cs ds]
    rw [Bool.eq_iff_iff]; simp
theorem any_int (cs : List Int) (y : Int) : ((cs.map PyData.int).any fun w => PyData.eqv w (.int y)) = decide (y ∈ cs) := by
  rw [Bool.eq_iff_iff]
  simp only [List.any_map, List.any_eq_true, Function.comp, eqv_int, beq_iff_eq, decide_eq_true_eq]
  exact ⟨fun ⟨x, h, e⟩ => e ▸ h, fun h => ⟨y, h, rfl⟩⟩
theorem eqv_prs (p q : Int × Int) : PyData.eqv (pr p) (pr q) = decide (p = q) := by
  rw [Bool.eq_iff_iff]
  obtain ⟨a, b⟩ := p; obtain ⟨c, d⟩ := q
  simp [pr, PyData.eqv, PyData.eqvAll, eqv_int]
theorem canLay_prs : ∀ ps : List (Int × Int), PyData.canLayAll0 (ps.map pr) = true
  | [] => rfl
  | p :: ps => by simp only [List.map_cons, PyData.canLayAll0, pr, PyData.canLay0, canLay_prs ps, Bool.and_self]
theorem depthAll_prs : ∀ ps : List (Int × Int), PyData.depthAll (ps.map pr) ≤ 3
  | [] => by simp [PyData.depthAll]
  | p :: ps => by
    have := depthAll_prs ps
    simp only [List.map_cons, PyData.depthAll, pr, PyData.depth]; omega
theorem shaped_prs (ps : List (Int × Int)) : SeqAt.shaped (.list (ps.map pr)) = true := by
  have := depthAll_prs ps
  have e : (PyData.list (ps.map pr)).depth ≤ 64 := by simp only [PyData.depth]; omega
  simp only [SeqAt.shaped, PyData.canLay0, canLay_prs, Bool.true_and, decide_eq_true_eq]
  exact e
theorem shaped_pr (p : Int × Int) : SeqAt.shaped (pr p) = true := by
  have e : (pr p).depth ≤ 64 := by simp [pr, PyData.depth, PyData.depthAll]
  simp only [SeqAt.shaped, pr, PyData.canLay0, PyData.canLayAll0, Bool.and_self, Bool.true_and]
  exact decide_eq_true e
/-- the eq of two lists of ints -/
theorem xEqL {ρ : Rho} {Q : T → Rho → Prop} {t u : T} {xs ys : List Int} (h1 : vw ρ t = some (.list (xs.map PyData.int))) (h2 : vw ρ u = some (.list (ys.map PyData.int))) (q : Q (.d (.bool (decide (xs = ys)))) ρ) : opK fEq t u ρ Q :=
  xEq h1 h2 (shaped_ints _) (shaped_ints _) (by simp only [PyData.eqv, eqv_intsB]; exact q)
theorem xNeL {ρ : Rho} {Q : T → Rho → Prop} {t u : T} {xs ys : List Int} (h1 : vw ρ t = some (.list (xs.map PyData.int))) (h2 : vw ρ u = some (.list (ys.map PyData.int))) (q : Q (.d (.bool (!decide (xs = ys)))) ρ) : opK fNe t u ρ Q :=
  xNe h1 h2 (shaped_ints _) (shaped_ints _) (by simp only [PyData.eqv, eqv_intsB]; exact q)
theorem bne_f (b : Bool) : (false != b) = b := by cases b <;> rfl
theorem bne_t (b : Bool) : (true != b) = !b := by cases b <;> rfl
theorem xInI {ρ : Rho} {Q : T → Rho → Prop} {t u : T} {xs : List Int} {y : Int} (h1 : vw ρ t = some (.int y)) (h2 : vw ρ u = some (.list (xs.map PyData.int))) (q : Q (.d (.bool (decide (y ∈ xs)))) ρ) : opK (fIn false) t u ρ Q :=
  xIn h1 h2 rfl (shaped_ints _) (by rw [any_int, bne_f]; exact q)
end LW

namespace LW
open PySem PySem.Spec L2 TX
/-! ### exchanges -/
def mayB (cs : List Int) (a b : Int) : Bool := decide (a < b) && (decide (b ∈ cs) && decide ((cs.drop (pos cs b + 1)).take 1 = [a]))
def mayL (cs : List Int) : List Int → Bool
  | [a, b] => mayB cs a b
  | _ => false
def mayD (cs : List Int) : PyData → Bool
  | .tuple ds => decide (ds.length = 2) && (ds.all isCardD && mayL cs (intsD ds))
  | _ => false
def sw (cs : List Int) (a b : Int) : List Int := (cs.set (pos cs b) a).set (pos cs b + 1) b
def swL (cs : List Int) : List Int → List Int
  | [a, b] => sw cs a b
  | _ => cs
def swD (cs : List Int) : PyData → List Int
  | .tuple ds => swL cs (intsD ds)
  | _ => cs
def ledL : List Int → List PyData → Option (List Int)
  | cs, [] => some cs
  | cs, x :: xs => if mayD cs x = true then ledL (swD cs x) xs else none
def ledD (cs : List Int) : PyData → Option (List Int)
  | .list ds => ledL cs ds
  | _ => none
theorem mayD_pair {cs : List Int} {x : PyData} (h : mayD cs x = true) : ∃ a b, x = pr (a, b) ∧ (0 ≤ a ∧ a ≤ 999999999) ∧ (0 ≤ b ∧ b ≤ 999999999) ∧ mayB cs a b = true := by
  cases x with
  | tuple ds =>
    simp only [mayD, Bool.and_eq_true, decide_eq_true_eq] at h
    obtain ⟨h1, h2, h3⟩ := h
    obtain ⟨e, c⟩ := cards_ints h2
    generalize intsD ds = is at *
    subst e
    match is, h1, h3 with
    | [a, b], _, h3 => exact ⟨a, b, rfl, c a (by simp), c b (by simp), h3⟩
  | _ => simp [mayD] at h
theorem mayD_pr {cs : List Int} {a b : Int} : mayD cs (pr (a, b)) = true ↔ ((0 ≤ a ∧ a ≤ 999999999) ∧ (0 ≤ b ∧ b ≤ 999999999)) ∧ mayB cs a b = true := by
  simp [mayD, pr, isCardD, intsD, mayL]
theorem swD_pr {cs : List Int} {a b : Int} : swD cs (pr (a, b)) = sw cs a b := rfl
theorem pos_split : ∀ {cs : List Int} {b : Int}, b ∈ cs → cs = cs.take (pos cs b) ++ b :: cs.drop (pos cs b + 1)
  | c :: cs, b, h => by
    unfold pos
    by_cases e : c = b
    · subst e; simp
    · rw [if_neg e]
      simp only [List.take_succ_cons, List.drop_succ_cons, List.cons_append]
      rw [← pos_split ((List.mem_cons.mp h).resolve_left fun z => e z.symm)]
theorem pos_app {u v : List Int} {b : Int} (h : b ∉ u) : pos (u ++ b :: v) b = u.length := by
  induction u with
  | nil => simp [pos]
  | cons x u ih =>
    simp only [List.cons_append, pos, List.length_cons]
    rw [if_neg fun e => h (by simp [e]), ih fun z => h (List.mem_cons_of_mem _ z)]
theorem may_iff {cs : List Int} {a b : Int} (nd : cs.Nodup) : mayB cs a b = true ↔ a < b ∧ ∃ u v, cs = u ++ b :: a :: v := by
  simp only [mayB, Bool.and_eq_true, decide_eq_true_eq]
  constructor
  · rintro ⟨h1, h2, h3⟩
    refine ⟨h1, cs.take (pos cs b), cs.drop (pos cs b + 2), ?_⟩
    have e := pos_split h2
    cases hd : cs.drop (pos cs b + 1) with
    | nil => rw [hd] at h3; simp at h3
    | cons x r =>
      rw [hd] at h3 e
      simp at h3
      subst h3
      have : cs.drop (pos cs b + 2) = r := by
        rw [show pos cs b + 2 = (pos cs b + 1) + 1 from rfl, ← List.drop_drop, hd]; rfl
      rw [this]; exact e
  · rintro ⟨h1, u, v, rfl⟩
    have nb : b ∉ u := fun h => (List.nodup_append.mp nd).2.2 b h b (by simp) rfl
    refine ⟨h1, by simp, ?_⟩
    rw [pos_app nb, show u.length + 1 = u.length + 1 from rfl, ← List.drop_drop, List.drop_left]
    rfl
theorem sw_eq {u v : List Int} {a b : Int} (h : b ∉ u) : sw (u ++ b :: a :: v) a b = u ++ a :: b :: v := by
  unfold sw
  rw [pos_app h, List.set_append_right _ _ (Nat.le_refl _), Nat.sub_self, List.set_append_right _ _ (by omega), show u.length + 1 - u.length = 1 by omega]
  rfl
theorem sw_perm {cs : List Int} {a b : Int} (nd : cs.Nodup) (h : mayB cs a b = true) : (sw cs a b).Perm cs := by
  obtain ⟨h1, u, v, rfl⟩ := (may_iff nd).mp h
  rw [sw_eq fun h => (List.nodup_append.mp nd).2.2 b h b (by simp) rfl]
  exact (List.Perm.swap b a v).append_left u
theorem may_at {cs : List Int} {a b : Int} (h : mayB cs a b = true) : b ∈ cs ∧ cs[pos cs b]? = some b ∧ cs[pos cs b + 1]? = some a ∧ pos cs b + 1 < cs.length := by
  simp only [mayB, Bool.and_eq_true, decide_eq_true_eq] at h
  have e : cs[pos cs b + 1]? = some a := by
    have := congrArg (fun l : List Int => l[0]?) h.2.2
    simpa using this
  exact ⟨h.2.1, pos_at h.2.1, e, (List.getElem?_eq_some_iff.mp e).1⟩
theorem swD_ok {cs : List Int} {x : PyData} (ok : RowOk cs) (h : mayD cs x = true) : RowOk (swD cs x) := by
  obtain ⟨a, b, rfl, _, _, h⟩ := mayD_pair h
  exact rowOk_perm (sw_perm ok.2.1 h) ok
theorem swD_perm {cs : List Int} {x : PyData} (ok : RowOk cs) (h : mayD cs x = true) : (swD cs x).Perm cs := by
  obtain ⟨a, b, rfl, _, _, h⟩ := mayD_pair h
  exact sw_perm ok.2.1 h
theorem ledL_app : ∀ {xs ys : List PyData} {cs : List Int}, ledL cs (xs ++ ys) = (ledL cs xs).bind fun r => ledL r ys
  | [], ys, cs => rfl
  | x :: xs, ys, cs => by
    simp only [List.cons_append, ledL]
    split
    · exact ledL_app
    · rfl
theorem ledL_pre {xs ys : List PyData} {cs r : List Int} (h : ledL cs (xs ++ ys) = some r) : ∃ s, ledL cs xs = some s ∧ ledL s ys = some r := by
  rw [ledL_app] at h
  cases e : ledL cs xs with
  | none => rw [e] at h; cases h
  | some s => rw [e] at h; exact ⟨s, rfl, h⟩
theorem ledL_ok : ∀ {xs : List PyData} {cs r : List Int}, RowOk cs → ledL cs xs = some r → RowOk r ∧ r.Perm cs
  | [], cs, r, ok, h => by cases h; exact ⟨ok, .refl _⟩
  | x :: xs, cs, r, ok, h => by
    simp only [ledL] at h
    split at h
    · rename_i hm
      obtain ⟨h1, h2⟩ := ledL_ok (swD_ok ok hm) h
      exact ⟨h1, h2.trans (swD_perm ok hm)⟩
    · cases h
theorem ledL_cons {cs r : List Int} {x : PyData} {xs : List PyData} (h : ledL cs (x :: xs) = some r) : mayD cs x = true ∧ ledL (swD cs x) xs = some r := by
  simp only [ledL] at h
  split at h
  · rename_i hm; exact ⟨hm, h⟩
  · cases h
/-- all of a history are pairs of cards of the row -/
theorem ledL_small : ∀ {hs : List (Int × Int)} {cs r : List Int}, RowOk cs → ledL cs (hs.map pr) = some r → ∀ p ∈ hs, smallP p
  | [], _, _, _, _, p, hp => by cases hp
  | q :: hs, cs, r, ok, h, p, hp => by
    obtain ⟨h1, h2⟩ := ledL_cons h
    rcases List.mem_cons.mp hp with rfl | hp
    · obtain ⟨h3, _⟩ := mayD_pr.mp h1
      exact ⟨by omega, by omega⟩
    · exact ledL_small (swD_ok ok h1) h2 p hp
/-! ### what may come next -/
def nx : List Int → List (Int × Int)
  | b :: a :: r => if a < b then (a, b) :: nx (a :: r) else nx (a :: r)
  | _ => []
def nxs (cs : List Int) : List (Int × Int) := (nx cs).mergeSort leP
theorem nx_mem : ∀ {cs : List Int} {p : Int × Int}, p ∈ nx cs ↔ p.1 < p.2 ∧ ∃ u v, cs = u ++ p.2 :: p.1 :: v
  | [], p => by simp [nx]
  | [x], p => by
    simp only [nx, List.not_mem_nil, false_iff, not_and, not_exists]
    intro _ u v e
    have := congrArg List.length e
    simp at this; omega
  | b :: a :: r, (x, y) => by
    have ih := nx_mem (cs := a :: r) (p := (x, y))
    have key : (x, y) ∈ nx (b :: a :: r) ↔ (a < b ∧ x = a ∧ y = b) ∨ (x, y) ∈ nx (a :: r) := by
      simp only [nx]
      split
      · rename_i h; simp [h]
      · rename_i h; simp [h]
    rw [key, ih]
    constructor
    · rintro (⟨h, rfl, rfl⟩ | ⟨h, u, v, e⟩)
      · exact ⟨h, [], r, rfl⟩
      · exact ⟨h, b :: u, v, by simp only at e ⊢; rw [e]; rfl⟩
    · rintro ⟨h, u, v, e⟩
      cases u with
      | nil => simp at e; obtain ⟨rfl, rfl, rfl⟩ := e; exact .inl ⟨h, rfl, rfl⟩
      | cons z u => simp at e; exact .inr ⟨h, u, v, e.2⟩
theorem nxs_mem {cs : List Int} {p : Int × Int} : p ∈ nxs cs ↔ p ∈ nx cs := (List.mergeSort_perm _ leP).mem_iff
theorem may_nxs {cs : List Int} {a b : Int} (ok : RowOk cs) : mayD cs (pr (a, b)) = true ↔ (a, b) ∈ nxs cs := by
  rw [nxs_mem, nx_mem, mayD_pr, may_iff ok.2.1]
  refine ⟨fun h => h.2, fun h => ⟨?_, h⟩⟩
  obtain ⟨_, u, v, e⟩ := h
  simp only at e
  exact ⟨ok.1 a (by rw [e]; simp), ok.1 b (by rw [e]; simp)⟩
def nrf (cs : List Int) : PyData → Bool
  | .int k => decide (cs.getD (k + 1).toNat 0 < cs.getD k.toNat 0)
  | _ => false
def nrg (cs : List Int) : PyData → PyData
  | .int k => PyData.tuple [.int (cs.getD (k + 1).toNat 0), .int (cs.getD k.toNat 0)]
  | y => y
theorem rangeD_succ {lo : Int} {n : Nat} : rangeD lo (n + 1) = .int lo :: rangeD (lo + 1) n := by
  unfold rangeD
  rw [List.range_succ_eq_map, List.map_cons, List.map_map]
  congr 1
  · simp
  · exact List.map_congr_left fun i _ => by simp only [Function.comp]; congr 1; omega
theorem nx_range : ∀ (cs u : List Int), ((rangeD (u.length : Nat) (cs.length - 1)).filter (nrf (u ++ cs))).map (nrg (u ++ cs)) = (nx cs).map pr
  | [], u => rfl
  | [x], u => rfl
  | b :: a :: r, u => by
    have ih := nx_range (a :: r) (u ++ [b])
    have e : u ++ [b] ++ a :: r = u ++ b :: a :: r := by simp
    rw [e] at ih
    have l : ((u ++ [b]).length : Int) = (u.length : Nat) + 1 := by simp
    rw [l] at ih
    have e1 : (u ++ b :: a :: r).getD u.length 0 = b := by simp [List.getD]
    have e2 : (u ++ b :: a :: r).getD (u.length + 1) 0 = a := by simp [List.getD]
    have z1 : ((u.length : Nat) : Int).toNat = u.length := by omega
    have z2 : (((u.length : Nat) : Int) + 1).toNat = u.length + 1 := by omega
    simp only [List.length_cons, Nat.add_sub_cancel] at ih ⊢
    rw [rangeD_succ, List.filter_cons]
    simp only [nrf, z1, z2, e1, e2]
    by_cases h : a < b
    · simp only [h, decide_true, if_true, List.map_cons, nrg, nx, z1, z2, e1, e2]
      rw [ih]; rfl
    · simp only [h, decide_false, nx, Bool.false_eq_true, if_false]
      exact ih
end LW

namespace LW
open PySem PySem.Spec L2 TX

local macro_rules | `(tactic| trivial) => `(tactic| with_reducible first
  | refine xSeq ?_ | refine xSet ?_ | refine xSetK (by with_unfolding_all rfl) ?_ | refine xNext ?_ | refine xIfS ?_ | refine xDrop ?_ | refine xRet ?_ | refine xAsg ?_ | refine xAsK (by with_unfolding_all rfl) ?_ | refine xSub ?_ | refine xSbK (by with_unfolding_all rfl) (by with_unfolding_all rfl) (by with_unfolding_all rfl) ?_
  | refine xVarD (by with_unfolding_all rfl) ?_ | refine xVarZ (by with_unfolding_all rfl) ?_ | refine xVarN (by with_unfolding_all rfl) (by with_unfolding_all rfl) ?_ | refine xC ?_ | refine xOp ?_ | refine xI (by with_unfolding_all rfl) (by with_unfolding_all rfl) ?_ | refine xB (by with_unfolding_all rfl) (by with_unfolding_all rfl) ?_ | refine xEqI (by with_unfolding_all rfl) (by with_unfolding_all rfl) ?_ | refine xNeI (by with_unfolding_all rfl) (by with_unfolding_all rfl) ?_ | refine xNeg ?_ | refine xNegK ?_
  | refine xIc (by with_unfolding_all rfl) (by with_unfolding_all rfl) (by with_unfolding_all first | omega | exact ⟨by decide, by decide +kernel⟩) ?_
  | refine xT ?_ | refine xTK ?_ | refine xNot ?_ | refine xAnd ?_ | refine xOr ?_ | refine xAndV ?_ | refine xOrV ?_ | refine xNotV ?_ | refine xBK ?_ | refine xIf ?_ | refine xCh ?_ | refine xCh1 (by with_unfolding_all rfl) (by with_unfolding_all rfl) ?_ | refine xCh2 (by with_unfolding_all rfl) (by with_unfolding_all rfl) ?_
  | refine xIx ?_ | refine xIxA (by with_unfolding_all rfl) (by with_unfolding_all rfl) (by with_unfolding_all rfl) ?_ | refine xNil ?_ | refine xCons ?_ | refine xFn ?_ | refine xLst ?_ | refine xLstK (by with_unfolding_all rfl) ?_ | refine xTup ?_ | refine xTupK (by with_unfolding_all rfl) ?_ | refine xLen (by with_unfolding_all rfl) ?_ | refine xMax (by with_unfolding_all rfl) (by with_unfolding_all rfl) ?_ | refine xMin (by with_unfolding_all rfl) (by with_unfolding_all rfl) ?_
  | refine xYes (by with_unfolding_all rfl) ?_ | refine xNo (by with_unfolding_all rfl) ?_ | refine xIs (by with_unfolding_all rfl) (by with_unfolding_all rfl) ?_ | refine xCall ?_ | refine xM ?_ | refine xMA (by with_unfolding_all rfl) ?_ | refine xMD ?_ | refine xLc ?_ | refine xFor ?_ | refine xILst ?_ | refine xILK (by with_unfolding_all rfl) ?_ | refine xIR1 ?_ | refine xIEn ?_ | refine xSl ?_ | refine xNoPart ?_ | refine xPart ?_ | refine xPartK ?_ | refine xRevS ?_ | refine xCat ?_ | refine xLenSet ?_
  | refine xNm (by with_unfolding_all rfl) ?_ | refine xGTup (by with_unfolding_all rfl) ?_ | refine xGsCons ?_ | refine xGsNil ?_ | refine xYesT ?_ | refine xDg1 ?_ | refine xDp1 ?_ | refine xDg2 ?_ | refine xDp2 ?_ | refine xPar ?_ | refine xPaK (by with_unfolding_all rfl) (by with_unfolding_all rfl) ?_ | refine xRevT ?_ | refine xRevTK ?_ | refine xDi1 ?_ | refine xDi2 ?_ | refine xITup ?_ | refine xITupK ?_ | refine xIZip ?_ | refine xIR2 ?_ | refine xIsNK (by with_unfolding_all rfl) ?_ | refine xRev2 ?_ | refine xListR ?_ | refine xSlT ?_ | refine xSlTK ?_ | refine xGt1 ?_ | refine xGt2 ?_ | refine xGtA (by with_unfolding_all rfl) ?_ | refine xGtD ?_ | refine xRep ?_ | refine xDcL ?_ | refine xDc ?_ | refine xDpl ?_ | refine xGe1 ?_ | refine xGe2 ?_ | refine xIe1 ?_ | refine xIe2 ?_ | refine xGLst (by with_unfolding_all rfl) ?_ | refine xIsB (by with_unfolding_all rfl) (by with_unfolding_all rfl) ?_ | refine xVarL (by with_unfolding_all rfl) ?_ | refine xIDc ?_ | refine xIDcK ?_ | refine xLc2 ?_ | refine xGd1 ?_ | refine xGd2 ?_ | refine xGdA (by with_unfolding_all rfl) ?_ | refine xGdD ?_ | refine xDcT ?_ | refine xClip ?_ | refine xAppD ?_ | refine xAppD11 ?_ | refine xAppD21 ?_)

/-! ### histories -/
theorem rows2_inj {cs cs' : List Int} {x x' : PyData} (h : [rowD cs, T.d x] = [rowD cs', T.d x']) : cs = cs' ∧ x = x' := by
  simp only [List.cons.injEq, T.d.injEq, and_true] at h
  exact ⟨rowD_inj h.1, h.2⟩
def ledT (cs : List Int) (x : PyData) : T := match ledD cs x with
  | none => .d .none
  | some r => intL r
def S_may_change : SpT := SpP (fun ts => ∃ cs x, ts = [rowD cs, .d x]) fun ts t _ => ∀ cs x, ts = [rowD cs, .d x] → t = .d (.bool (mayD cs x))
def S_led_by : SpT := SpP (fun ts => ∃ cs x, ts = [rowD cs, .d x] ∧ RowOk cs) fun ts t _ => ∀ cs x, ts = [rowD cs, .d x] → t = ledT cs x
def S_is_history : SpT := SpP (fun ts => ∃ cs x, ts = [rowD cs, .d x] ∧ RowOk cs) fun ts t _ => ∀ cs x, ts = [rowD cs, .d x] → t = .d (.bool (ledD cs x).isSome)
def S_need_history : SpT := SpP (fun ts => ∃ cs x, ts = [rowD cs, .d x] ∧ RowOk cs ∧ (ledD cs x).isSome = true) fun ts t _ => t = .d .none
theorem mS_may_change : MonSp S_may_change := mon_SpP
theorem mS_led_by : MonSp S_led_by := mon_SpP
theorem mS_is_history : MonSp S_is_history := mon_SpP
theorem mS_need_history : MonSp S_need_history := mon_SpP
theorem cut_to {cs : List Int} {k : Int} (h : 0 ≤ k) : cutD (cs.map PyData.int) none (some k) = (cs.take k.toNat).map PyData.int := by
  unfold cutD HT.sIx
  simp only
  rw [if_neg (by omega)]
  generalize e : cs.map PyData.int = ds
  rw [List.map_take, e]
  simp only [Nat.min_zero, Nat.zero_min, List.drop_zero, Nat.sub_zero]
  by_cases q : k.toNat ≤ ds.length
  · rw [Nat.min_eq_left q]
  · rw [Nat.min_eq_right (by omega), List.take_of_length_le (Nat.le_refl _), List.take_of_length_le (by omega)]
abbrev N_may_change : List Str := ["row", "thing", "card", "less", "greater"]
def w_may_change : TwS := (wSeq (wIfS (wOr (wNot (wT (wFn kIs (wCons (wVar 1) (wCons (wC (.raw (.ty "tuple"))) wNil))))) (wOr (wT (wOp (fNe) (wFn kLen (wCons (wVar 1) wNil)) (wC (.d (.int 2))))) (wNot (wT (wFn (k1 fAll) (wCons (wLc (wITup (wVar 1)) (wNm 2) wYes (wCall [] 1 S_is_card (wCons (wVar 2) wNil)) [2]) wNil)))))) (wRet (wC (.d (.bool false)))) wNext)
    (wSeq (wAsg (wVar 1) (wGTup 2 (wGsCons (wNm 3) (wGsCons (wNm 4) wGsNil))))
    (wRet (wAndV (wOp (fB fun i j => decide (i < j)) (wVar 3) (wVar 4)) (wAndV (wOp (fIn false) (wVar 4) (wVar 0)) (wOp (fEq) (wSl (wSl (wVar 0) (wPart (wOp (fI (· + ·)) (wM isLst kIdx (wVar 0) (wCons (wVar 4) wNil)) (wC (.d (.int 1))))) wNoPart) wNoPart (wPart (wC (.d (.int 1))))) (wLst (wCons (wVar 3) wNil))))))))
abbrev N_led_by : List Str := ["row", "thing", "found", "pair", "at"]
def w_led_by : TwS := (wSeq (wIfS (wNot (wT (wFn kIs (wCons (wVar 1) (wCons (wC (.raw (.ty "list"))) wNil))))) (wRet (wC (.d .none))) wNext)
    (wSeq (wSet 2 (wFn kList (wCons (wVar 0) wNil)))
    (wSeq (wFor (wILst (wVar 1)) (wNm 3) (wSeq (wIfS (wNot (wT (wCall [] 2 S_may_change (wCons (wVar 2) (wCons (wVar 3) wNil))))) (wRet (wC (.d .none))) wNext)
    (wSeq (wSet 4 (wM isLst kIdx (wVar 2) (wCons (wIx (wVar 3) (wC (.d (.int 1)))) wNil)))
    (wAsg (wTup (wCons (wIx (wVar 2) (wOp (fI (· + ·)) (wVar 4) (wC (.d (.int 1))))) (wCons (wIx (wVar 2) (wVar 4)) wNil))) (wGTup 2 (wGsCons (wSub (wVar 2) (wVar 4)) (wGsCons (wSub (wVar 2) (wOp (fI (· + ·)) (wVar 4) (wC (.d (.int 1))))) wGsNil)))))))
    (wRetV 2))))
abbrev N_is_history : List Str := ["row", "thing"]
def w_is_history : TwS := (wSeq (wDrop (wCall [] 1 S_need_row (wCons (wVar 0) wNil)))
    (wRet (wOp (fIsN true) (wCall [] 2 S_led_by (wCons (wVar 0) (wCons (wVar 1) wNil))) (wC (.d .none)))))
abbrev N_need_history : List Str := ["row", "history"]
def w_need_history : TwS := (wIfS (wNot (wT (wCall [] 2 S_is_history (wCons (wVar 0) (wCons (wVar 1) wNil))))) wNever wNext)
theorem pl_may_change : PlD S_may_change w_may_change N_may_change := by
  rintro ts Q Ex ⟨⟨cs, x, rfl⟩, q⟩
  unfold w_may_change
  have fin : ∀ b ρ, b = mayD cs x → Q (.d (.bool b)) ρ := fun b ρ e => q _ _ fun cs' y e' => by
    obtain ⟨rfl, rfl⟩ := rows2_inj e'
    rw [e]
  cases x with
  | tuple ds =>
    repeat trivial
    refine xIte (fun h1 => ?_) fun h1 => ?_
    · repeat trivial
      exact ⟨rfl, fin _ _ (by simp at h1; have : decide (ds.length = 2) = false := decide_eq_false (by omega); simp only [mayD, this, Bool.false_and])⟩
    · have l2 : ds.length = 2 := by simp at h1; omega
      repeat trivial
      refine xLcM (fun _ => true) (fun x => .bool (isCardD x)) rfl (by omega) (by simp [rho0]) (fun x hx Y Z hY _ => ?_) ?_
      · refine xYesT ⟨noNd1 rfl, xYes rfl ?_⟩
        repeat trivial
        refine xIsCard ?_
        exact ⟨noNd1 rfl, _, rfl, hY rfl⟩
      · rw [bools_of]
        repeat trivial
        refine xAll (bs := ds.map isCardD) vw_l ?_
        rw [all_of_map]
        repeat trivial
        refine xIte (fun h3 => ?_) fun h3 => ?_
        · repeat trivial
          exact ⟨rfl, fin _ _ (by have h3' : ds.all isCardD = false := (by simpa using h3); simp only [mayD, h3', Bool.false_and, Bool.and_false])⟩
        · have h3' : ds.all isCardD = true := by simpa using h3
          obtain ⟨e1, e2⟩ := cards_ints h3'
          generalize hi : intsD ds = is at e1 e2
          subst e1
          rw [List.length_map] at l2
          match is, l2 with
          | [a, b], _ =>
            simp only [List.map_cons, List.map_nil] at h3' fin ⊢
            have fin' : ∀ c ρ, c = mayB cs a b → Q (.d (.bool c)) ρ := fun c ρ e => fin c ρ (by rw [e]; simp only [mayD, h3', Bool.true_and]; rfl)
            repeat trivial
            refine xIte (fun h4 => ?_) fun h4 => ?_
            · repeat trivial
              refine xInI rfl rfl ?_
              repeat trivial
              refine xIte (fun h5 => ?_) fun h5 => ?_
              · have hb : b ∈ cs := of_decide_eq_true h5
                repeat trivial
                refine xIdxI rfl rfl hb ?_
                repeat trivial
                refine xSlK rfl ?_
                rw [cut_from (by omega), show ((pos cs b : Int) + 1).toNat = pos cs b + 1 by omega]
                repeat trivial
                refine xSlK (allD_map _) ?_
                rw [cut_to (by decide)]
                repeat trivial
                refine xEqL (ys := [a]) vw_l vw_l ?_
                exact ⟨rfl, fin' _ _ (by simp only [mayB, h4, h5, Bool.true_and]; rfl)⟩
              · repeat trivial
                exact ⟨rfl, fin' _ _ (by simp only [mayB, h5, Bool.false_and, Bool.and_false])⟩
            · repeat trivial
              exact ⟨rfl, fin' _ _ (by simp only [mayB, h4, Bool.false_and])⟩
  | _ =>
    repeat trivial
    exact ⟨rfl, fin _ _ rfl⟩
theorem xSbI {ρ : Rho} {N : Rho → Prop} {r : Nat} {p : List Nat} {cs : List Int} {i y : Int} (g : getT ρ r p = some (intL cs)) (h0 : 0 ≤ i) (h1 : i < cs.length) (q : N (TX.putAt ρ r p (intL (cs.set i.toNat y)))) : sbK (.int y) (.a r p) (.d (.int i)) ρ N := by
  refine ⟨r, p, cs.map PyData.int, i, i.toNat, rfl, rfl, g, by unfold ixN; rw [if_pos h0, if_pos (by simp; omega)], ?_⟩
  rw [← List.map_set]
  exact q
theorem pl_led_by : PlD S_led_by w_led_by N_led_by := by
  rintro ts Q Ex ⟨⟨cs, x, rfl, ok⟩, q⟩
  unfold w_led_by
  have fin : ∀ t ρ, t = ledT cs x → Q t ρ := fun t ρ e => q _ _ fun cs' y e' => by
    obtain ⟨rfl, rfl⟩ := rows2_inj e'
    rw [e]
  cases x with
  | list ds =>
    repeat trivial
    refine xList rfl ?_
    repeat trivial
    refine xFoK (fun i ρ => ∃ (r : List Int) (o3 o4 : Option PyData), ρ = [some (rowD cs), some (.d (.list ds)), some (intL r), o3.map T.d, o4.map T.d] ∧ RowOk r ∧ ledL r (ds.drop i) = ledL cs ds) ⟨cs, none, none, rfl, ok, rfl⟩ ?_ ?_
    · rintro i x ρ2 e ⟨r, o3, o4, rfl, okr, hr⟩
      obtain ⟨hi, hxi⟩ := List.getElem?_eq_some_iff.mp e
      rw [List.drop_eq_getElem_cons hi, hxi] at hr
      simp only [ledL] at hr
      refine xNm (noNd_o rfl) ?_
      repeat trivial
      refine xCaV (argV rfl rfl erase_intL (argD rfl rfl rfl argNil)) rfl rfl ⟨r, x, rfl⟩ fun u ρ' e => ?_
      cases e r x rfl
      refine ⟨rfl, rfl, ?_⟩
      repeat trivial
      refine xIte (fun h => ?_) fun h => ?_
      · have h' : mayD r x = false := by simpa using h
        rw [h'] at hr
        repeat trivial
        exact ⟨rfl, fin _ _ (by simp only [ledT, ledD, ← hr]; rfl)⟩
      · have h' : mayD r x = true := by simpa using h
        rw [if_pos h'] at hr
        have okr' := swD_ok okr h'
        obtain ⟨a, b, rfl, _, _, hm⟩ := mayD_pair h'
        obtain ⟨m1, m2, m3, m4⟩ := may_at hm
        simp only [pr] at hr ⊢
        repeat trivial
        refine xIxT rfl ?_
        refine xIdxI erase_intL rfl m1 ?_
        repeat trivial
        refine xIxAL rfl (at_of (by omega) (by rw [List.getElem?_map, show ((pos r b : Int) + 1).toNat = pos r b + 1 by omega, m3]; rfl)) ?_
        repeat trivial
        refine xIxAL rfl (at_of (by omega) (by rw [List.getElem?_map, show ((pos r b : Int)).toNat = pos r b by omega, m2]; rfl)) ?_
        repeat trivial
        refine xSbI rfl (by omega) (by omega) ?_
        repeat trivial
        refine xSbI rfl (by omega) (by rw [List.length_set]; omega) ?_
        repeat trivial
        refine ⟨sw r a b, some (pr (a, b)), some (.int (pos r b : Nat)), ?_, okr', hr⟩
        rw [show ((pos r b : Int) + 1).toNat = pos r b + 1 by omega, show ((pos r b : Int)).toNat = pos r b by omega]
        rfl
    · rintro ρ2 ⟨r, o3, o4, rfl, okr, hr⟩
      rw [List.drop_length] at hr
      repeat trivial
      exact xRetV rfl ⟨rfl, fin _ _ (by simp only [ledT, ledD, ← hr]; rfl)⟩
  | _ =>
    repeat trivial
    exact ⟨rfl, fin _ _ rfl⟩
theorem vw_led {ρ : Rho} {cs : List Int} {x : PyData} : vw ρ (ledT cs x) = some (match ledD cs x with | none => .none | some r => .list (r.map PyData.int)) := by
  unfold ledT
  cases ledD cs x with
  | none => rfl
  | some r => exact erase_intL
theorem noAl_led {cs : List Int} {x : PyData} : noAl (ledT cs x) = true := by
  unfold ledT
  cases ledD cs x <;> rfl
theorem xIsRow {ρ : Rho} {Q : T → Rho → Prop} {E : ExK} {cs : List Int} (ok : RowOk cs) (q : Q (.d .none) ρ) : caK [] 1 S_need_row [rowD cs] ρ Q E :=
  xCaP rfl rfl rfl ⟨_, rfl, isRow_iff.mpr ok⟩ fun t ρ' e => by rw [e]; exact ⟨rfl, q⟩
theorem pl_is_history : PlD S_is_history w_is_history N_is_history := by
  rintro ts Q Ex ⟨⟨cs, x, rfl, ok⟩, q⟩
  unfold w_is_history
  repeat trivial
  refine xIsRow ok ?_
  repeat trivial
  refine xCaP rfl rfl rfl ⟨cs, x, rfl, ok⟩ fun t ρ' e => ?_
  cases e cs x rfl
  refine ⟨noAl_led, ?_⟩
  repeat trivial
  refine xIsNK vw_led ?_
  refine ⟨rfl, q _ _ fun cs' y e' => ?_⟩
  obtain ⟨rfl, rfl⟩ := rows2_inj e'
  cases ledD cs x <;> rfl
theorem xIsHist {ρ : Rho} {Q : T → Rho → Prop} {E : ExK} {cs : List Int} {x : PyData} {ts : List T} (ok : RowOk cs) (h : argsF [] ρ false 0 ts = some [rowD cs, .d x]) (ha : apartB ts = true) (q : Q (.d (.bool (ledD cs x).isSome)) ρ) : caK [] 2 S_is_history ts ρ Q E :=
  xCaP h rfl ha ⟨cs, x, rfl, ok⟩ fun t ρ' e => by rw [e cs x rfl]; exact ⟨rfl, q⟩
theorem pl_need_history : PlD S_need_history w_need_history N_need_history := by
  rintro ts Q Ex ⟨⟨cs, x, rfl, ok, h⟩, q⟩
  unfold w_need_history
  repeat trivial
  refine xIsHist ok rfl rfl ?_
  repeat trivial
  refine xNo (by rw [h]; rfl) ?_
  repeat trivial
  exact q _ _ rfl
theorem xNeedHist {ρ : Rho} {Q : T → Rho → Prop} {E : ExK} {cs r : List Int} {x : PyData} (ok : RowOk cs) (h : ledD cs x = some r) (q : Q (.d .none) ρ) : caK [] 2 S_need_history [rowD cs, .d x] ρ Q E :=
  xCaP rfl rfl rfl ⟨cs, x, rfl, ok, by rw [h]; rfl⟩ fun t ρ' e => by rw [e]; exact ⟨rfl, q⟩
theorem xLed {ρ : Rho} {Q : T → Rho → Prop} {E : ExK} {cs r : List Int} {x : PyData} {ts : List T} (ok : RowOk cs) (hr : ledD cs x = some r) (h : argsF [] ρ false 0 ts = some [rowD cs, .d x]) (ha : apartB ts = true) (q : Q (intL r) ρ) : caK [] 2 S_led_by ts ρ Q E :=
  xCaP h rfl ha ⟨cs, x, rfl, ok⟩ fun t ρ' e => by rw [e cs x rfl]; unfold ledT; rw [hr]; exact ⟨rfl, q⟩
end LW

namespace LW
open PySem PySem.Spec L2 TX

local macro_rules | `(tactic| trivial) => `(tactic| with_reducible first
  | refine xSeq ?_ | refine xSet ?_ | refine xSetK (by with_unfolding_all rfl) ?_ | refine xNext ?_ | refine xIfS ?_ | refine xDrop ?_ | refine xRet ?_ | refine xAsg ?_ | refine xAsK (by with_unfolding_all rfl) ?_ | refine xSub ?_ | refine xSbK (by with_unfolding_all rfl) (by with_unfolding_all rfl) (by with_unfolding_all rfl) ?_
  | refine xVarD (by with_unfolding_all rfl) ?_ | refine xVarZ (by with_unfolding_all rfl) ?_ | refine xVarN (by with_unfolding_all rfl) (by with_unfolding_all rfl) ?_ | refine xC ?_ | refine xOp ?_ | refine xI (by with_unfolding_all rfl) (by with_unfolding_all rfl) ?_ | refine xB (by with_unfolding_all rfl) (by with_unfolding_all rfl) ?_ | refine xEqI (by with_unfolding_all rfl) (by with_unfolding_all rfl) ?_ | refine xNeI (by with_unfolding_all rfl) (by with_unfolding_all rfl) ?_ | refine xNeg ?_ | refine xNegK ?_
  | refine xIc (by with_unfolding_all rfl) (by with_unfolding_all rfl) (by with_unfolding_all first | omega | exact ⟨by decide, by decide +kernel⟩) ?_
  | refine xT ?_ | refine xTK ?_ | refine xNot ?_ | refine xAnd ?_ | refine xOr ?_ | refine xAndV ?_ | refine xOrV ?_ | refine xNotV ?_ | refine xBK ?_ | refine xIf ?_ | refine xCh ?_ | refine xCh1 (by with_unfolding_all rfl) (by with_unfolding_all rfl) ?_ | refine xCh2 (by with_unfolding_all rfl) (by with_unfolding_all rfl) ?_
  | refine xIx ?_ | refine xIxA (by with_unfolding_all rfl) (by with_unfolding_all rfl) (by with_unfolding_all rfl) ?_ | refine xNil ?_ | refine xCons ?_ | refine xFn ?_ | refine xLst ?_ | refine xLstK (by with_unfolding_all rfl) ?_ | refine xTup ?_ | refine xTupK (by with_unfolding_all rfl) ?_ | refine xLen (by with_unfolding_all rfl) ?_ | refine xMax (by with_unfolding_all rfl) (by with_unfolding_all rfl) ?_ | refine xMin (by with_unfolding_all rfl) (by with_unfolding_all rfl) ?_
  | refine xYes (by with_unfolding_all rfl) ?_ | refine xNo (by with_unfolding_all rfl) ?_ | refine xIs (by with_unfolding_all rfl) (by with_unfolding_all rfl) ?_ | refine xCall ?_ | refine xM ?_ | refine xMA (by with_unfolding_all rfl) ?_ | refine xMD ?_ | refine xLc ?_ | refine xFor ?_ | refine xILst ?_ | refine xILK (by with_unfolding_all rfl) ?_ | refine xIR1 ?_ | refine xIEn ?_ | refine xSl ?_ | refine xNoPart ?_ | refine xPart ?_ | refine xPartK ?_ | refine xRevS ?_ | refine xCat ?_ | refine xLenSet ?_
  | refine xNm (by with_unfolding_all rfl) ?_ | refine xGTup (by with_unfolding_all rfl) ?_ | refine xGsCons ?_ | refine xGsNil ?_ | refine xYesT ?_ | refine xDg1 ?_ | refine xDp1 ?_ | refine xDg2 ?_ | refine xDp2 ?_ | refine xPar ?_ | refine xPaK (by with_unfolding_all rfl) (by with_unfolding_all rfl) ?_ | refine xRevT ?_ | refine xRevTK ?_ | refine xDi1 ?_ | refine xDi2 ?_ | refine xITup ?_ | refine xITupK ?_ | refine xIZip ?_ | refine xIR2 ?_ | refine xIsNK (by with_unfolding_all rfl) ?_ | refine xRev2 ?_ | refine xListR ?_ | refine xSlT ?_ | refine xSlTK ?_ | refine xGt1 ?_ | refine xGt2 ?_ | refine xGtA (by with_unfolding_all rfl) ?_ | refine xGtD ?_ | refine xRep ?_ | refine xDcL ?_ | refine xDc ?_ | refine xDpl ?_ | refine xGe1 ?_ | refine xGe2 ?_ | refine xIe1 ?_ | refine xIe2 ?_ | refine xGLst (by with_unfolding_all rfl) ?_ | refine xIsB (by with_unfolding_all rfl) (by with_unfolding_all rfl) ?_ | refine xVarL (by with_unfolding_all rfl) ?_ | refine xIDc ?_ | refine xIDcK ?_ | refine xLc2 ?_ | refine xGd1 ?_ | refine xGd2 ?_ | refine xGdA (by with_unfolding_all rfl) ?_ | refine xGdD ?_ | refine xDcT ?_ | refine xClip ?_ | refine xAppD ?_ | refine xAppD11 ?_ | refine xAppD21 ?_ | refine xLi ?_ | refine xIEz ?_)

/-! ### the law's own histories -/
def pairsD (hs : List (Int × Int)) : PyData := .list (hs.map pr)
theorem pairsD_inj {xs ys : List (Int × Int)} (h : pairsD xs = pairsD ys) : xs = ys := by
  unfold pairsD at h
  simp only [PyData.list.injEq] at h
  exact map_inj (fun a b e => by obtain ⟨a1, a2⟩ := a; obtain ⟨b1, b2⟩ := b; simp [pr] at e; simp [e]) h
theorem get_at {cs : List Int} {k : Nat} (h : k < cs.length) : atI (cs.map PyData.int) (k : Nat) = some (.int (cs.getD k 0)) :=
  at_of (by omega) (by rw [List.getElem?_map, show ((k : Nat) : Int).toNat = k by omega, List.getElem?_eq_getElem h]; simp [List.getD, h])
theorem pickD {ds : List PyData} {i : Int} (h0 : 0 ≤ i) (h1 : i < ds.length) : ∃ w ∈ ds, atI ds i = some w := by
  obtain ⟨x, e1, e2⟩ := at_in' h0 h1
  exact ⟨x, List.mem_of_getElem? e2, e1⟩
end LW

namespace LW
open PySem PySem.Spec L2 TX
/-! ### what a repr asks -/
structure Rpr (d : PyData) (w k : Nat) : Prop where
  sh : d.showable = true
  lv : d.leavesShort 60 = true
  wt : d.weight ≤ w
  dp : d.depth ≤ k
structure RprA (d : List PyData) (w k : Nat) : Prop where
  sh : PyData.showableAll d = true
  lv : PyData.leavesShortAll 60 d = true
  wt : PyData.weightAll d ≤ w
  dp : PyData.depthAll d ≤ k
theorem lvs60 {i : Int} (h : i.natAbs < 10 ^ 12) : (PyData.int i).leavesShort 60 = true := by
  simp only [PyData.leavesShort, decide_eq_true_eq]
  exact Nat.le_trans (PyData.shown_int_le h) (by decide)
theorem Rpr.int {i : Int} (h : i.natAbs < 10 ^ 12) : Rpr (.int i) 41 1 := ⟨shb_int h, lvs60 h, wt_int h, by simp [PyData.depth]⟩
theorem Rpr.none : Rpr .none 41 1 := ⟨rfl, by decide +kernel, by simp [PyData.weight], by simp [PyData.depth]⟩
theorem Rpr.bool {b : Bool} : Rpr (.bool b) 41 1 := ⟨rfl, by cases b <;> decide +kernel, by simp [PyData.weight], by simp [PyData.depth]⟩
theorem RprA.mono {d : List PyData} {w k w' : Nat} (h : RprA d w k) (h1 : w ≤ w') : RprA d w' k := ⟨h.sh, h.lv, Nat.le_trans h.wt h1, h.dp⟩
theorem xTupL {ρ : Rho} {Q : T → Rho → Prop} {t : T} {ds : List PyData} (h : lsq ρ t = some ds) (q : Q (.d (.tuple ds)) ρ) : kTup [t] ρ Q := ⟨t, ds, rfl, .inl h, q⟩
theorem RprA.nil {k : Nat} : RprA [] 0 k := ⟨rfl, rfl, Nat.le_refl _, by simp [PyData.depthAll]⟩
theorem RprA.cons {d : PyData} {ds : List PyData} {w w' k : Nat} (h : Rpr d w k) (t : RprA ds w' k) : RprA (d :: ds) (w + 1 + w') k :=
  ⟨by simp only [PyData.showableAll, h.sh, t.sh, Bool.and_self], by simp only [PyData.leavesShortAll, h.lv, t.lv, Bool.and_self], by
    have := h.wt; have := t.wt; simp only [PyData.weightAll]; omega, by
    have := h.dp; have := t.dp; simp only [PyData.depthAll]; omega⟩
theorem Rpr.list {ds : List PyData} {w k : Nat} (h : RprA ds w k) : Rpr (.list ds) w (k + 1) :=
  ⟨by simpa only [PyData.showable] using h.sh, by simpa only [PyData.leavesShort] using h.lv, by simpa only [PyData.weight] using h.wt, by have := h.dp; simp only [PyData.depth]; omega⟩
theorem Rpr.tuple {ds : List PyData} {w k : Nat} (h : RprA ds w k) : Rpr (.tuple ds) w (k + 1) :=
  ⟨by simpa only [PyData.showable] using h.sh, by simpa only [PyData.leavesShort] using h.lv, by simpa only [PyData.weight] using h.wt, by have := h.dp; simp only [PyData.depth]; omega⟩
theorem Rpr.mono {d : PyData} {w k w' k' : Nat} (h : Rpr d w k) (h1 : w ≤ w') (h2 : k ≤ k') : Rpr d w' k' := ⟨h.sh, h.lv, Nat.le_trans h.wt h1, Nat.le_trans h.dp h2⟩
theorem RprA.all {w k : Nat} : ∀ {ds : List PyData}, (∀ d ∈ ds, Rpr d w k) → RprA ds ((w + 1) * ds.length) k
  | [], _ => .nil
  | d :: ds, h => by
    have := RprA.cons (h d List.mem_cons_self) (RprA.all fun x hx => h x (List.mem_cons_of_mem _ hx))
    rw [List.length_cons, Nat.mul_succ, Nat.add_comm]
    exact this
theorem RprA.allN {w k n : Nat} {ds : List PyData} (h : ∀ d ∈ ds, Rpr d w k) (hn : ds.length ≤ n) : RprA ds ((w + 1) * n) k := by
  have := RprA.all h
  exact ⟨this.sh, this.lv, Nat.le_trans this.wt (Nat.mul_le_mul_left _ hn), this.dp⟩
/-- closed data: looked at -/
def chkR (w k : Nat) (x : PyData) : Bool := x.showable && (x.leavesShort 60 && (decide (x.weight ≤ w) && decide (x.depth ≤ k)))
theorem Rpr.of_chk {w k : Nat} {x : PyData} (h : chkR w k x = true) : Rpr x w k := by
  simp only [chkR, Bool.and_eq_true, decide_eq_true_eq] at h
  exact ⟨h.1, h.2.1, h.2.2.1, h.2.2.2⟩
theorem er2 {t : T} {ts : List T} {x : PyData} {xs : List PyData} (h : erase t = some x) (h2 : eraseAll ts = some xs) : eraseAll (t :: ts) = some (x :: xs) := by simp only [eraseAll, h, h2]
theorem er0 : eraseAll [] = some [] := rfl
def repK (t u : T) (ρ : Rho) (Q : T → Rho → Prop) : Prop := ∃ xs k, lsq ρ t = some xs ∧ u = .d (.int k) ∧ -(2 ^ 63) ≤ k ∧ k < 2 ^ 63 ∧ xs.length * k.toNat ≤ sizeLine ∧ Q (.l ((List.replicate k.toNat xs).flatten.map T.d)) ρ
theorem xRep {ρ : Rho} {Q : T → Rho → Prop} {E : ExK} {ta tb : TwE} (h : ta ρ (fun t ρ1 => tb ρ1 (fun u ρ2 => repK t u ρ2 Q) E) E) : wRep ta tb ρ Q E := h
theorem Rpr.str {x : Str} (h : (PyData.str x).leavesShort 60 = true) (hw : (PyData.str x).weight ≤ 41) : Rpr (.str x) 41 1 := ⟨rfl, h, hw, by simp [PyData.depth]⟩
theorem RprA.app {w w' k : Nat} : ∀ {xs ys : List PyData}, RprA xs w k → RprA ys w' k → RprA (xs ++ ys) (w + w') k
  | [], ys, h, t => ⟨t.sh, t.lv, by have := t.wt; simp only [List.nil_append]; omega, t.dp⟩
  | x :: xs, ys, h, t => by
    have h1 := h.sh; have h2 := h.lv; have h3 := h.wt; have h4 := h.dp
    simp only [PyData.showableAll, PyData.leavesShortAll, PyData.weightAll, PyData.depthAll, Bool.and_eq_true] at h1 h2 h3 h4
    have := RprA.app (w := w - (x.weight + 1)) ⟨h1.2, h2.2, by omega, by omega⟩ t
    have r := RprA.cons (⟨h1.1, h2.1, Nat.le_refl _, by omega⟩ : Rpr x x.weight k) this
    exact ⟨r.sh, r.lv, by have := r.wt; simp only [List.cons_append]; omega, r.dp⟩
theorem Rpr.pr {p : Int × Int} (h : smallP p) : Rpr (pr p) 84 2 := .tuple (.cons (.int h.1) (.cons (.int h.2) .nil))
theorem Rpr.row {cs : List Int} (ok : RowOk cs) : Rpr (.list (cs.map PyData.int)) 1008 2 := .list (.allN (n := 24) (w := 41) (fun d hd => by
  obtain ⟨c, hc, rfl⟩ := List.mem_map.mp hd
  have := ok.1 c hc
  exact .int (by omega)) (by simpa using ok.2.2.2))
theorem Rpr.prs {ps : List (Int × Int)} {n : Nat} (h : ∀ p ∈ ps, smallP p) (hn : ps.length ≤ n) : Rpr (.list (ps.map LW.pr)) (85 * n) 3 := .list (.allN (n := n) (fun d hd => by
  obtain ⟨c, hc, rfl⟩ := List.mem_map.mp hd
  exact .pr (h c hc)) (by simpa using hn))
theorem xReprR {ρ : Rho} {Q : T → Rho → Prop} {t : T} {x : PyData} {w k : Nat} (h1 : vw ρ t = some x) (h : Rpr x w k) (q : Q (.d (.str x.shown)) ρ) (hw : w ≤ 250000 := by decide) (hk : k ≤ 60 := by decide) : k1 fRepr [t] ρ Q :=
  xReprD h1 h.sh (by
    have := PyData.shown_le 60 (by decide) x h.lv
    have := h.wt
    have hs : sizeLine = 16777216 := by decide
    omega) (Nat.le_trans h.dp hk) q
end LW

namespace LW
open PySem PySem.Spec L2 TX

local macro_rules | `(tactic| trivial) => `(tactic| with_reducible first
  | refine xSeq ?_ | refine xSet ?_ | refine xSetK (by with_unfolding_all rfl) ?_ | refine xNext ?_ | refine xIfS ?_ | refine xDrop ?_ | refine xRet ?_ | refine xAsg ?_ | refine xAsK (by with_unfolding_all rfl) ?_ | refine xSub ?_ | refine xSbK (by with_unfolding_all rfl) (by with_unfolding_all rfl) (by with_unfolding_all rfl) ?_
  | refine xVarD (by with_unfolding_all rfl) ?_ | refine xVarZ (by with_unfolding_all rfl) ?_ | refine xVarN (by with_unfolding_all rfl) (by with_unfolding_all rfl) ?_ | refine xC ?_ | refine xOp ?_ | refine xI (by with_unfolding_all rfl) (by with_unfolding_all rfl) ?_ | refine xB (by with_unfolding_all rfl) (by with_unfolding_all rfl) ?_ | refine xEqI (by with_unfolding_all rfl) (by with_unfolding_all rfl) ?_ | refine xNeI (by with_unfolding_all rfl) (by with_unfolding_all rfl) ?_ | refine xNeg ?_ | refine xNegK ?_
  | refine xIc (by with_unfolding_all rfl) (by with_unfolding_all rfl) (by with_unfolding_all first | omega | exact ⟨by decide, by decide +kernel⟩) ?_
  | refine xT ?_ | refine xTK ?_ | refine xNot ?_ | refine xAnd ?_ | refine xOr ?_ | refine xAndV ?_ | refine xOrV ?_ | refine xNotV ?_ | refine xBK ?_ | refine xIf ?_ | refine xCh ?_ | refine xCh1 (by with_unfolding_all rfl) (by with_unfolding_all rfl) ?_ | refine xCh2 (by with_unfolding_all rfl) (by with_unfolding_all rfl) ?_
  | refine xIx ?_ | refine xIxA (by with_unfolding_all rfl) (by with_unfolding_all rfl) (by with_unfolding_all rfl) ?_ | refine xNil ?_ | refine xCons ?_ | refine xFn ?_ | refine xLst ?_ | refine xLstK (by with_unfolding_all rfl) ?_ | refine xTup ?_ | refine xTupK (by with_unfolding_all rfl) ?_ | refine xLen (by with_unfolding_all rfl) ?_ | refine xMax (by with_unfolding_all rfl) (by with_unfolding_all rfl) ?_ | refine xMin (by with_unfolding_all rfl) (by with_unfolding_all rfl) ?_
  | refine xYes (by with_unfolding_all rfl) ?_ | refine xNo (by with_unfolding_all rfl) ?_ | refine xIs (by with_unfolding_all rfl) (by with_unfolding_all rfl) ?_ | refine xCall ?_ | refine xM ?_ | refine xMA (by with_unfolding_all rfl) ?_ | refine xMD ?_ | refine xLc ?_ | refine xFor ?_ | refine xILst ?_ | refine xILK (by with_unfolding_all rfl) ?_ | refine xIR1 ?_ | refine xIEn ?_ | refine xSl ?_ | refine xNoPart ?_ | refine xPart ?_ | refine xPartK ?_ | refine xRevS ?_ | refine xCat ?_ | refine xLenSet ?_
  | refine xNm (by with_unfolding_all rfl) ?_ | refine xGTup (by with_unfolding_all rfl) ?_ | refine xGsCons ?_ | refine xGsNil ?_ | refine xYesT ?_ | refine xDg1 ?_ | refine xDp1 ?_ | refine xDg2 ?_ | refine xDp2 ?_ | refine xPar ?_ | refine xPaK (by with_unfolding_all rfl) (by with_unfolding_all rfl) ?_ | refine xRevT ?_ | refine xRevTK ?_ | refine xDi1 ?_ | refine xDi2 ?_ | refine xITup ?_ | refine xITupK ?_ | refine xIZip ?_ | refine xIR2 ?_ | refine xIsNK (by with_unfolding_all rfl) ?_ | refine xRev2 ?_ | refine xListR ?_ | refine xSlT ?_ | refine xSlTK ?_ | refine xGt1 ?_ | refine xGt2 ?_ | refine xGtA (by with_unfolding_all rfl) ?_ | refine xGtD ?_ | refine xRep ?_ | refine xDcL ?_ | refine xDc ?_ | refine xDpl ?_ | refine xGe1 ?_ | refine xGe2 ?_ | refine xIe1 ?_ | refine xIe2 ?_ | refine xGLst (by with_unfolding_all rfl) ?_ | refine xIsB (by with_unfolding_all rfl) (by with_unfolding_all rfl) ?_ | refine xVarL (by with_unfolding_all rfl) ?_ | refine xIDc ?_ | refine xIDcK ?_ | refine xLc2 ?_ | refine xGd1 ?_ | refine xGd2 ?_ | refine xGdA (by with_unfolding_all rfl) ?_ | refine xGdD ?_ | refine xDcT ?_ | refine xClip ?_ | refine xAppD ?_ | refine xAppD11 ?_ | refine xAppD21 ?_ | refine xLi ?_ | refine xIEz ?_)

/-! ### what all laws of rows begin with -/
def S_law : SpT := SpP (fun ts => ∃ ns : List Int, ts = [.fz ns] ∧ ns.length ≤ 63) fun _ t _ => t = .d (.bool true)
theorem mS_law : MonSp S_law := mon_SpP
theorem all_true : ∀ ns : List Int, ns.length ≤ 63 → S_law [.fz ns] (fun t _ => t = .d (.bool true)) fun _ _ => False := fun ns h => ⟨⟨ns, rfl, h⟩, fun _ _ e => e⟩
theorem xRow {ρ : Rho} {Q : T → Rho → Prop} {E : ExK} {r : Nat} {a b c m k : Int} (hg : ρ[r]? = some (some (potT a b c))) (hp : Pot a b c k) (hk : 64 ≤ k) (hm : 1 ≤ m) (hm2 : m ≤ 24)
    (q : ∀ cs a' c', RowOk cs → Pot a' b c' (k - 64) → c ≤ c' → c' ≤ c + 64 → Q (intL cs) (ρ.set r (some (potT a' b c')))) : caK [0] 2 S_law_row [.a r [], .d (.int m)] ρ Q E := by
  obtain ⟨h1, h2, h3, h4, h5⟩ := hp
  refine xCaF hg rfl rfl rfl rfl ⟨a, b, c, m, rfl, ⟨h1, h2, h3, h4, by omega⟩, hm, hm2⟩ fun u ρ' h => ?_
  obtain ⟨cs, rfl, i0, a', c', e, g1, g2, g3⟩ := h a b c m rfl
  exact ⟨_, e, rfl, rfl, q cs a' c' i0 ⟨g1, h2, h3, by omega, by omega⟩ g2 g3⟩
end LW

namespace LW
open PySem PySem.Spec L2 TX
/-! ### who stands ahead of whom, behind exchanges -/
theorem pos_if : ∀ (u w : List Int) (x : Int), pos (u ++ w) x = if x ∈ u then pos u x else u.length + pos w x
  | [], w, x => by simp
  | c :: u, w, x => by
    simp only [List.cons_append, pos, List.length_cons]
    by_cases e : c = x
    · subst e; simp
    · rw [if_neg e, if_neg e, pos_if u w x]
      by_cases h : x ∈ u
      · rw [if_pos h, if_pos (List.mem_cons_of_mem _ h)]
      · rw [if_neg h, if_neg fun z => h ((List.mem_cons.mp z).resolve_left fun z => e z.symm)]; omega
theorem pos_lt {u : List Int} {x : Int} (h : x ∈ u) : pos u x < u.length := (List.getElem?_eq_some_iff.mp (pos_at h)).1
theorem pos_inj {cs : List Int} {x y : Int} (hx : x ∈ cs) (hy : y ∈ cs) (h : pos cs x = pos cs y) : x = y := by
  have a := pos_at hx
  rw [h, pos_at hy] at a
  exact (Option.some.inj a).symm
theorem sw_rt {r : List Int} {a b x y : Int} (nd : r.Nodup) (hm : mayB r a b = true) (hx : x ∈ r) (hy : y ∈ r) (hxy : x < y) : pos (sw r a b) x < pos (sw r a b) y ↔ pos r x < pos r y ∨ (x = a ∧ y = b) := by
  obtain ⟨hab, u, v, rfl⟩ := (may_iff nd).mp hm
  have nb : b ∉ u := fun h => (List.nodup_append.mp nd).2.2 b h b (by simp) rfl
  have na : a ∉ u := fun h => (List.nodup_append.mp nd).2.2 a h a (by simp) rfl
  rw [sw_eq nb, pos_if, pos_if, pos_if, pos_if]
  have lx : x ∈ u → pos u x < u.length := fun h => pos_lt h
  have ly : y ∈ u → pos u y < u.length := fun h => pos_lt h
  have e1 : ∀ z, pos (b :: a :: v) z = if b = z then 0 else if a = z then 1 else pos v z + 2 := fun z => by
    simp only [pos]
    by_cases h1 : b = z
    · simp [h1]
    · by_cases h2 : a = z <;> simp [h1, h2]
  have e2 : ∀ z, pos (a :: b :: v) z = if a = z then 0 else if b = z then 1 else pos v z + 2 := fun z => by
    simp only [pos]
    by_cases h1 : a = z
    · simp [h1]
    · by_cases h2 : b = z <;> simp [h1, h2]
  rw [e1, e1, e2, e2]
  by_cases xu : x ∈ u
  · have xa : x ≠ a := fun z => na (z ▸ xu)
    rw [if_pos xu, if_pos xu]
    by_cases yu : y ∈ u
    · rw [if_pos yu, if_pos yu]; simp [xa]
    · rw [if_neg yu, if_neg yu]
      have := lx xu
      constructor
      · intro _; left; split <;> (try split) <;> omega
      · intro _; split <;> (try split) <;> omega
  · rw [if_neg xu, if_neg xu]
    by_cases yu : y ∈ u
    · have yb : y ≠ b := fun z => nb (z ▸ yu)
      rw [if_pos yu, if_pos yu]
      have := ly yu
      constructor
      · intro h; split at h <;> (try split at h) <;> omega
      · rintro (h | ⟨_, h⟩)
        · split at h <;> (try split at h) <;> omega
        · exact absurd h yb
    · rw [if_neg yu, if_neg yu]
      by_cases h1 : b = x
      · subst h1
        have : ¬ a = y := by omega
        have : ¬ b = y := by omega
        have : ¬ a = b := by omega
        simp [*]
      · by_cases h2 : a = x
        · subst h2
          have : ¬ a = y := by omega
          by_cases h3 : b = y
          · subst h3; simp [*]
          · simp [*]
        · have h2' : ¬ x = a := fun z => h2 z.symm
          by_cases h3 : b = y
          · subst h3
            simp [*]
            by_cases h4 : a = b <;> simp [h4] <;> omega
          · by_cases h4 : a = y
            · subst h4; simp [*]
            · simp [*]
theorem led_rt : ∀ {hs : List (Int × Int)} {cs r : List Int} {x y : Int}, RowOk cs → ledL cs (hs.map pr) = some r → x ∈ cs → y ∈ cs → x < y → (pos r x < pos r y ↔ pos cs x < pos cs y ∨ (x, y) ∈ hs)
  | [], cs, r, x, y, ok, h, hx, hy, hxy => by cases h; simp
  | q :: hs, cs, r, x, y, ok, h, hx, hy, hxy => by
    obtain ⟨h1, h2⟩ := ledL_cons h
    obtain ⟨a, b⟩ := q
    have pm := swD_perm ok h1
    obtain ⟨_, hm⟩ := mayD_pr.mp h1
    have e := sw_rt ok.2.1 hm hx hy hxy
    rw [led_rt (swD_ok ok h1) h2 (pm.mem_iff.mpr hx) (pm.mem_iff.mpr hy) hxy, swD_pr, e]
    simp only [List.mem_cons, Prod.mk.injEq]
    constructor
    · rintro ((h | h) | h)
      · exact .inl h
      · exact .inr (.inl h)
      · exact .inr (.inr h)
    · rintro (h | h | h)
      · exact .inl (.inl h)
      · exact .inl (.inr h)
      · exact .inr h
/-- an exchange, at its time, stands wrong, so it did at first, and it was none ahead -/
theorem hist_at {u v : List (Int × Int)} {cs r : List Int} {a b : Int} (ok : RowOk cs) (h : ledL cs ((u ++ (a, b) :: v).map pr) = some r) : a < b ∧ a ∈ cs ∧ b ∈ cs ∧ pos cs b < pos cs a ∧ (a, b) ∉ u := by
  rw [List.map_append] at h
  obtain ⟨s, h1, h2⟩ := ledL_pre h
  obtain ⟨oks, pm⟩ := ledL_ok ok h1
  obtain ⟨h3, _⟩ := ledL_cons h2
  obtain ⟨_, hm⟩ := mayD_pr.mp h3
  obtain ⟨hab, w, t, e⟩ := (may_iff oks.2.1).mp hm
  have ha : a ∈ s := by rw [e]; simp
  have hb : b ∈ s := by rw [e]; simp
  have nd := oks.2.1
  have wr : ¬ pos s a < pos s b := by
    rw [e] at nd
    have nb : b ∉ w := fun h => (List.nodup_append.mp nd).2.2 b h b (by simp) rfl
    have na : a ∉ w := fun h => (List.nodup_append.mp nd).2.2 a h a (by simp) rfl
    rw [e, pos_if, pos_if, if_neg na, if_neg nb]
    have : ¬ b = a := by omega
    simp [pos, this]
  have ha' := pm.mem_iff.mp ha
  have hb' := pm.mem_iff.mp hb
  rw [led_rt ok h1 ha' hb' hab] at wr
  have ne : pos cs a ≠ pos cs b := fun z => by have := pos_inj ha' hb' z; omega
  exact ⟨hab, ha', hb', by omega, fun z => wr (.inr z)⟩
/-! ### when a pair stands right -/
def pidx : List (Int × Int) → Int × Int → Nat
  | [], _ => 0
  | c :: cs, y => if c = y then 0 else pidx cs y + 1
theorem pidx_at : ∀ {cs : List (Int × Int)} {y : Int × Int}, y ∈ cs → cs[pidx cs y]? = some y
  | c :: cs, y, h => by
    unfold pidx
    by_cases e : c = y
    · rw [if_pos e]; simp [e]
    · rw [if_neg e]; simp only [List.getElem?_cons_succ]; exact pidx_at ((List.mem_cons.mp h).resolve_left fun z => e z.symm)
theorem pidx_no : ∀ {cs : List (Int × Int)} {y : Int × Int} {m : Nat} {z : Int × Int}, m < pidx cs y → cs[m]? = some z → z ≠ y
  | [], _, _, _, h, _ => by simp [pidx] at h
  | c :: cs, y, m, z, h, e => by
    unfold pidx at h
    by_cases q : c = y
    · rw [if_pos q] at h; omega
    · rw [if_neg q] at h
      cases m with
      | zero => simp at e; subst e; exact q
      | succ m => exact pidx_no (cs := cs) (m := m) (Nat.lt_of_succ_lt_succ h) (by simpa using e)
theorem xIdxP {ρ : Rho} {Q : T → Rho → Prop} {t u : T} {cs : List (Int × Int)} {y : Int × Int} (h1 : vw ρ t = some (.list (cs.map pr))) (h2 : vw ρ u = some (pr y)) (hy : y ∈ cs) (q : Q (.d (.int (pidx cs y : Nat))) ρ) : kIdx t [u] ρ Q :=
  ⟨u, _, _, pidx cs y, pr y, rfl, h1, h2, shaped_prs cs, shaped_pr y, by rw [List.getElem?_map, pidx_at hy]; rfl, by rw [eqv_prs]; simp, fun m z hm hz => by
    rw [List.getElem?_map] at hz
    cases e : cs[m]? with
    | none => rw [e] at hz; cases hz
    | some w => rw [e] at hz; cases hz; rw [eqv_prs]; exact decide_eq_false (pidx_no hm e), q⟩
def whenO (cs : List Int) (hs : List (Int × Int)) (p : Int × Int) : Option Int := if pos cs p.1 < pos cs p.2 then some (-1) else if p ∈ hs then some (pidx hs p : Nat) else none
/-! ### what none may be exchanged of, rises -/
theorem nx_nil : ∀ {cs : List Int}, cs.Nodup → nx cs = [] → cs.Pairwise (· < ·)
  | [], _, _ => .nil
  | [x], _, _ => List.pairwise_singleton ..
  | b :: a :: r, nd, h => by
    simp only [nx] at h
    split at h
    · cases h
    · rename_i hab
      have nd' := (List.nodup_cons.mp nd)
      have ih := nx_nil nd'.2 h
      have ne : b ≠ a := fun z => nd'.1 (by simp [z])
      refine List.pairwise_cons.mpr ⟨fun z hz => ?_, ih⟩
      rcases List.mem_cons.mp hz with rfl | hz
      · omega
      · have := (List.pairwise_cons.mp ih).1 z hz
        omega
theorem sorted_pos : ∀ {cs : List Int} {x y : Int}, cs.Pairwise (· < ·) → x ∈ cs → y ∈ cs → x < y → pos cs x < pos cs y
  | c :: cs, x, y, h, hx, hy, hxy => by
    obtain ⟨h1, h2⟩ := List.pairwise_cons.mp h
    unfold pos
    by_cases e : c = x
    · subst e
      have : ¬ c = y := by omega
      rw [if_pos rfl, if_neg this]; omega
    · have hx' := (List.mem_cons.mp hx).resolve_left fun z => e z.symm
      have := h1 x hx'
      have e2 : ¬ c = y := by omega
      have hy' := (List.mem_cons.mp hy).resolve_left fun z => e2 z.symm
      rw [if_neg e, if_neg e2]
      have := sorted_pos h2 hx' hy' hxy
      omega
theorem open_next {cs r : List Int} {hs : List (Int × Int)} {x y : Int} (ok : RowOk cs) (hr : ledL cs (hs.map pr) = some r) (hx : x ∈ cs) (hy : y ∈ cs) (hxy : x < y) (h : whenO cs hs (x, y) = none) : nxs r ≠ [] := by
  intro z
  obtain ⟨okr, pm⟩ := ledL_ok ok hr
  have z' : nx r = [] := by
    have := (List.mergeSort_perm (nx r) leP).length_eq
    rw [show (nx r).mergeSort leP = [] from z] at this
    exact List.length_eq_zero_iff.mp this.symm
  have := sorted_pos (nx_nil okr.2.1 z') (pm.mem_iff.mpr hx) (pm.mem_iff.mpr hy) hxy
  rw [led_rt ok hr hx hy hxy] at this
  unfold whenO at h
  rcases this with t | t
  · rw [if_pos t] at h; cases h
  · split at h
    · cases h
    · first | (rw [if_pos t] at h; cases h) | cases h
/-! ### the first exchange of an outer pair -/
def outer (p : I3) (q : Int × Int) : Bool := decide (q = (p.1, p.2.1)) || decide (q = (p.2.1, p.2.2))
/-- the places of a list's items that pass -/
def dn (f : Int × Int → Bool) : List (Int × Int) → Nat → List Int
  | [], _ => []
  | h :: hs, n => if f h = true then ((n : Nat) : Int) :: dn f hs (n + 1) else dn f hs (n + 1)
end LW

namespace LW
open PySem PySem.Spec L2 TX

local macro_rules | `(tactic| trivial) => `(tactic| with_reducible first
  | refine xSeq ?_ | refine xSet ?_ | refine xSetK (by with_unfolding_all rfl) ?_ | refine xNext ?_ | refine xIfS ?_ | refine xDrop ?_ | refine xRet ?_ | refine xAsg ?_ | refine xAsK (by with_unfolding_all rfl) ?_ | refine xSub ?_ | refine xSbK (by with_unfolding_all rfl) (by with_unfolding_all rfl) (by with_unfolding_all rfl) ?_
  | refine xVarD (by with_unfolding_all rfl) ?_ | refine xVarZ (by with_unfolding_all rfl) ?_ | refine xVarN (by with_unfolding_all rfl) (by with_unfolding_all rfl) ?_ | refine xC ?_ | refine xOp ?_ | refine xI (by with_unfolding_all rfl) (by with_unfolding_all rfl) ?_ | refine xB (by with_unfolding_all rfl) (by with_unfolding_all rfl) ?_ | refine xEqI (by with_unfolding_all rfl) (by with_unfolding_all rfl) ?_ | refine xNeI (by with_unfolding_all rfl) (by with_unfolding_all rfl) ?_ | refine xNeg ?_ | refine xNegK ?_
  | refine xIc (by with_unfolding_all rfl) (by with_unfolding_all rfl) (by with_unfolding_all first | omega | exact ⟨by decide, by decide +kernel⟩) ?_
  | refine xT ?_ | refine xTK ?_ | refine xNot ?_ | refine xAnd ?_ | refine xOr ?_ | refine xAndV ?_ | refine xOrV ?_ | refine xNotV ?_ | refine xBK ?_ | refine xIf ?_ | refine xCh ?_ | refine xCh1 (by with_unfolding_all rfl) (by with_unfolding_all rfl) ?_ | refine xCh2 (by with_unfolding_all rfl) (by with_unfolding_all rfl) ?_
  | refine xIx ?_ | refine xIxA (by with_unfolding_all rfl) (by with_unfolding_all rfl) (by with_unfolding_all rfl) ?_ | refine xNil ?_ | refine xCons ?_ | refine xFn ?_ | refine xLst ?_ | refine xLstK (by with_unfolding_all rfl) ?_ | refine xTup ?_ | refine xTupK (by with_unfolding_all rfl) ?_ | refine xLen (by with_unfolding_all rfl) ?_ | refine xMax (by with_unfolding_all rfl) (by with_unfolding_all rfl) ?_ | refine xMin (by with_unfolding_all rfl) (by with_unfolding_all rfl) ?_
  | refine xYes (by with_unfolding_all rfl) ?_ | refine xNo (by with_unfolding_all rfl) ?_ | refine xIs (by with_unfolding_all rfl) (by with_unfolding_all rfl) ?_ | refine xCall ?_ | refine xM ?_ | refine xMA (by with_unfolding_all rfl) ?_ | refine xMD ?_ | refine xLc ?_ | refine xFor ?_ | refine xILst ?_ | refine xILK (by with_unfolding_all rfl) ?_ | refine xIR1 ?_ | refine xIEn ?_ | refine xSl ?_ | refine xNoPart ?_ | refine xPart ?_ | refine xPartK ?_ | refine xRevS ?_ | refine xCat ?_ | refine xLenSet ?_
  | refine xNm (by with_unfolding_all rfl) ?_ | refine xGTup (by with_unfolding_all rfl) ?_ | refine xGsCons ?_ | refine xGsNil ?_ | refine xYesT ?_ | refine xDg1 ?_ | refine xDp1 ?_ | refine xDg2 ?_ | refine xDp2 ?_ | refine xPar ?_ | refine xPaK (by with_unfolding_all rfl) (by with_unfolding_all rfl) ?_ | refine xRevT ?_ | refine xRevTK ?_ | refine xDi1 ?_ | refine xDi2 ?_ | refine xITup ?_ | refine xITupK ?_ | refine xIZip ?_ | refine xIR2 ?_ | refine xIsNK (by with_unfolding_all rfl) ?_ | refine xRev2 ?_ | refine xListR ?_ | refine xSlT ?_ | refine xSlTK ?_ | refine xGt1 ?_ | refine xGt2 ?_ | refine xGtA (by with_unfolding_all rfl) ?_ | refine xGtD ?_ | refine xRep ?_ | refine xDcL ?_ | refine xDc ?_ | refine xDpl ?_ | refine xGe1 ?_ | refine xGe2 ?_ | refine xIe1 ?_ | refine xIe2 ?_ | refine xGLst (by with_unfolding_all rfl) ?_ | refine xIsB (by with_unfolding_all rfl) (by with_unfolding_all rfl) ?_ | refine xVarL (by with_unfolding_all rfl) ?_ | refine xIDc ?_ | refine xIDcK ?_ | refine xLc2 ?_ | refine xGd1 ?_ | refine xGd2 ?_ | refine xGdA (by with_unfolding_all rfl) ?_ | refine xGdD ?_ | refine xDcT ?_ | refine xClip ?_ | refine xAppD ?_ | refine xAppD11 ?_ | refine xAppD21 ?_ | refine xLi ?_ | refine xIEz ?_)

/-! ### wrong pairs, threes -/
theorem rowD1_inj {xs ys : List Int} (h : [rowD xs] = [rowD ys]) : xs = ys := by
  simp only [List.cons.injEq, and_true] at h
  exact rowD_inj h
theorem wrong_iff {cs : List Int} {p : Int × Int} (ok : RowOk cs) : p ∈ dp cs (sI cs) ↔ p.1 ∈ cs ∧ p.2 ∈ cs ∧ p.1 < p.2 ∧ pos cs p.2 < pos cs p.1 := by
  rw [dp_mem (sI_sorted cs ok.2.1), (sI_perm cs).mem_iff, (sI_perm cs).mem_iff]
end LW

namespace LW
open PySem PySem.Spec L2 TX

local macro_rules | `(tactic| trivial) => `(tactic| with_reducible first
  | refine xSeq ?_ | refine xSet ?_ | refine xSetK (by with_unfolding_all rfl) ?_ | refine xNext ?_ | refine xIfS ?_ | refine xDrop ?_ | refine xRet ?_ | refine xAsg ?_ | refine xAsK (by with_unfolding_all rfl) ?_ | refine xSub ?_ | refine xSbK (by with_unfolding_all rfl) (by with_unfolding_all rfl) (by with_unfolding_all rfl) ?_
  | refine xVarD (by with_unfolding_all rfl) ?_ | refine xVarZ (by with_unfolding_all rfl) ?_ | refine xVarN (by with_unfolding_all rfl) (by with_unfolding_all rfl) ?_ | refine xC ?_ | refine xOp ?_ | refine xI (by with_unfolding_all rfl) (by with_unfolding_all rfl) ?_ | refine xB (by with_unfolding_all rfl) (by with_unfolding_all rfl) ?_ | refine xEqI (by with_unfolding_all rfl) (by with_unfolding_all rfl) ?_ | refine xNeI (by with_unfolding_all rfl) (by with_unfolding_all rfl) ?_ | refine xNeg ?_ | refine xNegK ?_
  | refine xIc (by with_unfolding_all rfl) (by with_unfolding_all rfl) (by with_unfolding_all first | omega | exact ⟨by decide, by decide +kernel⟩) ?_
  | refine xT ?_ | refine xTK ?_ | refine xNot ?_ | refine xAnd ?_ | refine xOr ?_ | refine xAndV ?_ | refine xOrV ?_ | refine xNotV ?_ | refine xBK ?_ | refine xIf ?_ | refine xCh ?_ | refine xCh1 (by with_unfolding_all rfl) (by with_unfolding_all rfl) ?_ | refine xCh2 (by with_unfolding_all rfl) (by with_unfolding_all rfl) ?_
  | refine xIx ?_ | refine xIxA (by with_unfolding_all rfl) (by with_unfolding_all rfl) (by with_unfolding_all rfl) ?_ | refine xNil ?_ | refine xCons ?_ | refine xFn ?_ | refine xLst ?_ | refine xLstK (by with_unfolding_all rfl) ?_ | refine xTup ?_ | refine xTupK (by with_unfolding_all rfl) ?_ | refine xLen (by with_unfolding_all rfl) ?_ | refine xMax (by with_unfolding_all rfl) (by with_unfolding_all rfl) ?_ | refine xMin (by with_unfolding_all rfl) (by with_unfolding_all rfl) ?_
  | refine xYes (by with_unfolding_all rfl) ?_ | refine xNo (by with_unfolding_all rfl) ?_ | refine xIs (by with_unfolding_all rfl) (by with_unfolding_all rfl) ?_ | refine xCall ?_ | refine xM ?_ | refine xMA (by with_unfolding_all rfl) ?_ | refine xMD ?_ | refine xLc ?_ | refine xFor ?_ | refine xILst ?_ | refine xILK (by with_unfolding_all rfl) ?_ | refine xIR1 ?_ | refine xIEn ?_ | refine xSl ?_ | refine xNoPart ?_ | refine xPart ?_ | refine xPartK ?_ | refine xRevS ?_ | refine xCat ?_ | refine xLenSet ?_
  | refine xNm (by with_unfolding_all rfl) ?_ | refine xGTup (by with_unfolding_all rfl) ?_ | refine xGsCons ?_ | refine xGsNil ?_ | refine xYesT ?_ | refine xDg1 ?_ | refine xDp1 ?_ | refine xDg2 ?_ | refine xDp2 ?_ | refine xPar ?_ | refine xPaK (by with_unfolding_all rfl) (by with_unfolding_all rfl) ?_ | refine xRevT ?_ | refine xRevTK ?_ | refine xDi1 ?_ | refine xDi2 ?_ | refine xITup ?_ | refine xITupK ?_ | refine xIZip ?_ | refine xIR2 ?_ | refine xIsNK (by with_unfolding_all rfl) ?_ | refine xRev2 ?_ | refine xListR ?_ | refine xSlT ?_ | refine xSlTK ?_ | refine xGt1 ?_ | refine xGt2 ?_ | refine xGtA (by with_unfolding_all rfl) ?_ | refine xGtD ?_ | refine xRep ?_ | refine xDcL ?_ | refine xDc ?_ | refine xDpl ?_ | refine xGe1 ?_ | refine xGe2 ?_ | refine xIe1 ?_ | refine xIe2 ?_ | refine xGLst (by with_unfolding_all rfl) ?_ | refine xIsB (by with_unfolding_all rfl) (by with_unfolding_all rfl) ?_ | refine xVarL (by with_unfolding_all rfl) ?_ | refine xIDc ?_ | refine xIDcK ?_ | refine xLc2 ?_ | refine xGd1 ?_ | refine xGd2 ?_ | refine xGdA (by with_unfolding_all rfl) ?_ | refine xGdD ?_ | refine xDcT ?_ | refine xClip ?_ | refine xAppD ?_ | refine xAppD11 ?_ | refine xAppD21 ?_ | refine xLi ?_ | refine xIEz ?_)

/-! ### triples as data -/
def tripL (ps : List I3) : T := .l ((ps.map tr3).map T.d)
theorem erase_tripL {ps : List I3} : erase (tripL ps) = some (.list (ps.map tr3)) := by unfold tripL; simp only [erase, eraseAll_d, Option.map_some]
theorem alike_trs (ps : List I3) : PySem.W.AllAlike (ps.map tr3) := fun d h d' h' => by
  obtain ⟨p, _, rfl⟩ := List.mem_map.mp h
  obtain ⟨q, _, rfl⟩ := List.mem_map.mp h'
  rfl
theorem sortable_trs (ps : List I3) : PySem.W.Sortable (ps.map tr3) := .inl fun d h => by
  obtain ⟨p, _, rfl⟩ := List.mem_map.mp h
  exact ⟨_, _, rfl⟩
theorem depth_trs (ps : List I3) : ∀ d ∈ ps.map tr3, d.depth ≤ 60 := fun d h => by
  obtain ⟨p, _, rfl⟩ := List.mem_map.mp h
  simp [tr3, PyData.depth, PyData.depthAll]
theorem imm_trs : ∀ ps : List I3, immTs ((ps.map tr3).map T.d) = true
  | [] => rfl
  | p :: ps => by
    simp only [List.map_cons, immTs, imm_trs ps, Bool.and_true]
    rfl
theorem blk_all (x y : Int) (zs : List Int) : ((List.filter (fun _ => true) (zs.map PyData.int)).map fun z => PyData.tuple [.int x, .int y, z]) = ((zs.map fun z => (y, z)).map fun p => (x, p.1, p.2)).map tr3 := by
  rw [List.filter_eq_self.mpr (fun _ _ => rfl), List.map_map, List.map_map, List.map_map]; rfl
theorem len3 {n : Nat} (h : n ≤ 24) : n * (n * n) ≤ 13824 := Nat.le_trans (Nat.mul_le_mul h (Nat.mul_le_mul h h)) (by decide)
theorem p2_len : ∀ s : List Int, (p2 s).length ≤ s.length * s.length
  | [] => Nat.le_refl _
  | y :: s => by
    unfold p2
    rw [List.length_append, List.length_map, List.length_cons, Nat.succ_mul, Nat.mul_succ]
    have := p2_len s
    omega
theorem th_len : ∀ s : List Int, (th s).length ≤ s.length * (s.length * s.length)
  | [] => Nat.le_refl _
  | x :: s => by
    unfold th
    rw [List.length_append, List.length_map, List.length_cons]
    have h1 := th_len s
    have h2 := p2_len s
    have h5 : s.length * s.length ≤ (s.length + 1) * (s.length + 1) := Nat.mul_le_mul (by omega) (by omega)
    have h6 : s.length * (s.length * s.length) ≤ s.length * ((s.length + 1) * (s.length + 1)) := Nat.mul_le_mul_left _ h5
    rw [Nat.succ_mul]
    omega
theorem lt16k {n : Nat} (h : n ≤ 13824) : n ≤ sizeLine := Nat.le_trans h (by decide)
def S_law_threes : SpT := SpP (fun ts => ∃ cs, ts = [rowD cs] ∧ RowOk cs) fun ts t _ => ∀ cs, ts = [rowD cs] → t = tripL (th (sI cs))
theorem mS_law_threes : MonSp S_law_threes := mon_SpP
abbrev N_law_threes : List Str := ["_law_row_here", "_law_cards_here", "_law_found", "_law_at", "_law_x", "_law_more", "_law_y", "_law_z"]
def w_law_threes : TwS := (wSeq (wSet 1 (wFn kSort (wCons (wVar 0) wNil)))
    (wSeq (wFrz 1 (wSet 2 (wLst wNil)))
    (wSeq (wFor (wIEn (wCons (wVar 1) wNil)) (wGTup 2 (wGsCons (wNm 3) (wGsCons (wNm 4) wGsNil))) (wFor (wIEn (wCons (wSl (wVar 1) (wPart (wOp (fI (· + ·)) (wVar 3) (wC (.d (.int 1))))) wNoPart) wNil)) (wGTup 2 (wGsCons (wNm 5) (wGsCons (wNm 6) wGsNil))) (wDrop (wM isLst kExt (wVar 2) (wCons (wLc (wILst (wSl (wVar 1) (wPart (wOp (fI (· + ·)) (wOp (fI (· + ·)) (wVar 3) (wVar 5)) (wC (.d (.int 2))))) wNoPart)) (wNm 7) wYes (wTup (wCons (wVar 4) (wCons (wVar 6) (wCons (wVar 7) wNil)))) [7]) wNil)))))
    (wRetV 2))))
theorem pl_law_threes : PlD S_law_threes w_law_threes N_law_threes := by
  rintro ts Q Ex ⟨⟨cs, rfl, ok⟩, q⟩
  have sl : (sI cs).length = cs.length := (sI_perm cs).length_eq
  have l24 : (sI cs).length ≤ 24 := by rw [sl]; exact ok.2.2.2
  have wl := Nat.le_trans (th_len (sI cs)) (len3 l24)
  unfold w_law_threes
  repeat trivial
  refine xSort rfl (alike_ints _) (sortable_ints _) (depth_ints _) ?_
  rw [sortI]
  repeat trivial
  refine xFrz rfl (erase_intL (cs := sI cs)) ?_
  repeat trivial
  refine xIEK rfl ?_
  generalize hs : sI cs = s at *
  refine xFoK (fun i ρ => ∃ (fs : List I3) (o3 o4 o5 o6 : Option PyData), ρ = [some (rowD cs), some (rowD s), some (tripL fs), o3.map T.d, o4.map T.d, o5.map T.d, o6.map T.d, none] ∧ fs ++ th (s.drop i) = th s) ⟨[], none, none, none, none, rfl, rfl⟩ ?_ ?_
  · rintro i x ρ2 e ⟨fs, o3, o4, o5, o6, rfl, hf⟩
    obtain ⟨y, e1, rfl⟩ := enumD_get e
    rw [List.getElem?_map] at e1
    cases e2 : s[i]? with
    | none => rw [e2] at e1; cases e1
    | some x =>
      rw [e2] at e1; cases e1
      obtain ⟨hi, hci⟩ := List.getElem?_eq_some_iff.mp e2
      have hd : s.drop i = x :: s.drop (i + 1) := by rw [List.drop_eq_getElem_cons hi, hci]
      rw [hd, show th (x :: s.drop (i + 1)) = (p2 (s.drop (i + 1))).map (fun p => (x, p.1, p.2)) ++ th (s.drop (i + 1)) from rfl] at hf
      have hlen := congrArg List.length hf
      simp only [List.length_append, List.length_map] at hlen
      repeat trivial
      refine xNm (noNd_o rfl) ?_
      repeat trivial
      refine xNm (noNd_o rfl) ?_
      repeat trivial
      refine xSlK rfl ?_
      rw [cut_from (by omega), show ((i : Int) + 1).toNat = i + 1 by omega]
      repeat trivial
      refine xIEK flat_map ?_
      refine xFoK (fun j ρ => ∃ (gs : List I3) (o5 o6 : Option PyData), ρ = [some (rowD cs), some (rowD s), some (tripL gs), some (.d (.int i)), some (.d (.int x)), o5.map T.d, o6.map T.d, none] ∧ gs ++ (p2 (s.drop (i + 1 + j))).map (fun p => (x, p.1, p.2)) = fs ++ (p2 (s.drop (i + 1))).map (fun p => (x, p.1, p.2))) ⟨fs, o5, o6, rfl, rfl⟩ ?_ ?_
      · rintro j x' ρ2 e' ⟨gs, o5, o6, rfl, hg⟩
        obtain ⟨y, e3, rfl⟩ := enumD_get e'
        rw [List.getElem?_map, List.getElem?_drop] at e3
        cases e4 : s[i + 1 + j]? with
        | none => rw [e4] at e3; cases e3
        | some y =>
          rw [e4] at e3; cases e3
          obtain ⟨hj, hcj⟩ := List.getElem?_eq_some_iff.mp e4
          have hdj : s.drop (i + 1 + j) = y :: s.drop (i + 1 + j + 1) := by rw [List.drop_eq_getElem_cons hj, hcj]
          rw [hdj, show p2 (y :: s.drop (i + 1 + j + 1)) = (s.drop (i + 1 + j + 1)).map (fun z => (y, z)) ++ p2 (s.drop (i + 1 + j + 1)) from rfl, List.map_append] at hg
          have hlen2 := congrArg List.length hg
          simp only [List.length_append, List.length_map] at hlen2
          repeat trivial
          refine xNm (noNd_o rfl) ?_
          repeat trivial
          refine xNm (noNd_o rfl) ?_
          repeat trivial
          refine xSlK rfl ?_
          rw [cut_from (by omega), show ((i : Int) + j + 2).toNat = i + 1 + j + 1 by omega]
          refine xILK flat_map ?_
          refine xLcM (fun _ => true) (fun z => .tuple [.int x, .int y, z]) rfl (by simp; omega) (by simp) (fun z hz Y Z hY _ => ?_) ?_
          · obtain ⟨z, hz, rfl⟩ := List.mem_map.mp hz
            refine xYesT ⟨noNd1 rfl, xYes rfl ?_⟩
            repeat trivial
            exact ⟨noNd1 rfl, _, rfl, hY rfl⟩
          · rw [blk_all]
            repeat trivial
            refine xExt rfl (allD_map _) ?_ ⟨gs ++ ((s.drop (i + 1 + j + 1)).map (fun z => (y, z))).map (fun p => (x, p.1, p.2)), some (.int j), some (.int y), ?_, ?_⟩
            · simp only [List.length_map]
              exact lt16k (by simp only [List.length_map] at *; omega)
            · simp [tripL, TX.putAt, putT]
            · rw [List.append_assoc]; exact hg
      · rintro ρ2 ⟨gs, o5, o6, rfl, hg⟩
        rw [List.drop_of_length_le (by simp [enumD]; omega)] at hg
        refine ⟨gs, some (.int i), some (.int x), o5, o6, rfl, ?_⟩
        have hg' : gs = fs ++ (p2 (s.drop (i + 1))).map (fun p => (x, p.1, p.2)) := by simpa [p2] using hg
        rw [hg', List.append_assoc]; exact hf
  · rintro ρ2 ⟨fs, o3, o4, o5, o6, rfl, hf⟩
    have hf' : fs = th s := by
      rw [List.drop_of_length_le (by simp [enumD])] at hf
      simpa [th] using hf
    subst hf'
    repeat trivial
    refine xRetV rfl ⟨rfl, q _ _ fun cs' e => ?_⟩
    cases rowD1_inj e
    rw [hs]
def smallC (p : I3) : Prop := p.1.natAbs < 2 ^ 30 ∧ p.2.1.natAbs < 2 ^ 30 ∧ p.2.2.natAbs < 2 ^ 30
end LW
namespace LW
open PySem PySem.Spec L2 TX

local macro_rules | `(tactic| trivial) => `(tactic| with_reducible first
  | refine xSeq ?_ | refine xSet ?_ | refine xSetK (by with_unfolding_all rfl) ?_ | refine xNext ?_ | refine xIfS ?_ | refine xDrop ?_ | refine xRet ?_ | refine xAsg ?_ | refine xAsK (by with_unfolding_all rfl) ?_ | refine xSub ?_ | refine xSbK (by with_unfolding_all rfl) (by with_unfolding_all rfl) (by with_unfolding_all rfl) ?_
  | refine xVarD (by with_unfolding_all rfl) ?_ | refine xVarZ (by with_unfolding_all rfl) ?_ | refine xVarN (by with_unfolding_all rfl) (by with_unfolding_all rfl) ?_ | refine xC ?_ | refine xOp ?_ | refine xI (by with_unfolding_all rfl) (by with_unfolding_all rfl) ?_ | refine xB (by with_unfolding_all rfl) (by with_unfolding_all rfl) ?_ | refine xEqI (by with_unfolding_all rfl) (by with_unfolding_all rfl) ?_ | refine xNeI (by with_unfolding_all rfl) (by with_unfolding_all rfl) ?_ | refine xNeg ?_ | refine xNegK ?_
  | refine xIc (by with_unfolding_all rfl) (by with_unfolding_all rfl) (by with_unfolding_all first | omega | exact ⟨by decide, by decide +kernel⟩) ?_
  | refine xT ?_ | refine xTK ?_ | refine xNot ?_ | refine xAnd ?_ | refine xOr ?_ | refine xAndV ?_ | refine xOrV ?_ | refine xNotV ?_ | refine xBK ?_ | refine xIf ?_ | refine xCh ?_ | refine xCh1 (by with_unfolding_all rfl) (by with_unfolding_all rfl) ?_ | refine xCh2 (by with_unfolding_all rfl) (by with_unfolding_all rfl) ?_
  | refine xIx ?_ | refine xIxA (by with_unfolding_all rfl) (by with_unfolding_all rfl) (by with_unfolding_all rfl) ?_ | refine xNil ?_ | refine xCons ?_ | refine xFn ?_ | refine xLst ?_ | refine xLstK (by with_unfolding_all rfl) ?_ | refine xTup ?_ | refine xTupK (by with_unfolding_all rfl) ?_ | refine xLen (by with_unfolding_all rfl) ?_ | refine xMax (by with_unfolding_all rfl) (by with_unfolding_all rfl) ?_ | refine xMin (by with_unfolding_all rfl) (by with_unfolding_all rfl) ?_
  | refine xYes (by with_unfolding_all rfl) ?_ | refine xNo (by with_unfolding_all rfl) ?_ | refine xIs (by with_unfolding_all rfl) (by with_unfolding_all rfl) ?_ | refine xCall ?_ | refine xM ?_ | refine xMA (by with_unfolding_all rfl) ?_ | refine xMD ?_ | refine xLc ?_ | refine xFor ?_ | refine xILst ?_ | refine xILK (by with_unfolding_all rfl) ?_ | refine xIR1 ?_ | refine xIEn ?_ | refine xSl ?_ | refine xNoPart ?_ | refine xPart ?_ | refine xPartK ?_ | refine xRevS ?_ | refine xCat ?_ | refine xLenSet ?_
  | refine xNm (by with_unfolding_all rfl) ?_ | refine xGTup (by with_unfolding_all rfl) ?_ | refine xGsCons ?_ | refine xGsNil ?_ | refine xYesT ?_ | refine xDg1 ?_ | refine xDp1 ?_ | refine xDg2 ?_ | refine xDp2 ?_ | refine xPar ?_ | refine xPaK (by with_unfolding_all rfl) (by with_unfolding_all rfl) ?_ | refine xRevT ?_ | refine xRevTK ?_ | refine xDi1 ?_ | refine xDi2 ?_ | refine xITup ?_ | refine xITupK ?_ | refine xIZip ?_ | refine xIR2 ?_ | refine xIsNK (by with_unfolding_all rfl) ?_ | refine xRev2 ?_ | refine xListR ?_ | refine xSlT ?_ | refine xSlTK ?_ | refine xGt1 ?_ | refine xGt2 ?_ | refine xGtA (by with_unfolding_all rfl) ?_ | refine xGtD ?_ | refine xRep ?_ | refine xDcL ?_ | refine xDc ?_ | refine xDpl ?_ | refine xGe1 ?_ | refine xGe2 ?_ | refine xIe1 ?_ | refine xIe2 ?_ | refine xGLst (by with_unfolding_all rfl) ?_ | refine xIsB (by with_unfolding_all rfl) (by with_unfolding_all rfl) ?_ | refine xVarL (by with_unfolding_all rfl) ?_ | refine xIDc ?_ | refine xIDcK ?_ | refine xLc2 ?_ | refine xGd1 ?_ | refine xGd2 ?_ | refine xGdA (by with_unfolding_all rfl) ?_ | refine xGdD ?_ | refine xDcT ?_ | refine xClip ?_ | refine xAppD ?_ | refine xAppD11 ?_ | refine xAppD21 ?_ | refine xLi ?_ | refine xIEz ?_)

/-! ### ways -/
theorem tr3_inj {p q : I3} (h : tr3 p = tr3 q) : p = q := by
  obtain ⟨a, b, c⟩ := p; obtain ⟨d, e, f⟩ := q
  simp [tr3] at h
  simp [h]
end LW

namespace LW
open PySem PySem.Spec L2 TX
/-! ### dicts of pairs -/
end LW

namespace LW
open PySem PySem.Spec L2 TX

local macro_rules | `(tactic| trivial) => `(tactic| with_reducible first
  | refine xSeq ?_ | refine xSet ?_ | refine xSetK (by with_unfolding_all rfl) ?_ | refine xNext ?_ | refine xIfS ?_ | refine xDrop ?_ | refine xRet ?_ | refine xAsg ?_ | refine xAsK (by with_unfolding_all rfl) ?_ | refine xSub ?_ | refine xSbK (by with_unfolding_all rfl) (by with_unfolding_all rfl) (by with_unfolding_all rfl) ?_
  | refine xVarD (by with_unfolding_all rfl) ?_ | refine xVarZ (by with_unfolding_all rfl) ?_ | refine xVarN (by with_unfolding_all rfl) (by with_unfolding_all rfl) ?_ | refine xC ?_ | refine xOp ?_ | refine xI (by with_unfolding_all rfl) (by with_unfolding_all rfl) ?_ | refine xB (by with_unfolding_all rfl) (by with_unfolding_all rfl) ?_ | refine xEqI (by with_unfolding_all rfl) (by with_unfolding_all rfl) ?_ | refine xNeI (by with_unfolding_all rfl) (by with_unfolding_all rfl) ?_ | refine xNeg ?_ | refine xNegK ?_
  | refine xIc (by with_unfolding_all rfl) (by with_unfolding_all rfl) (by with_unfolding_all first | omega | exact ⟨by decide, by decide +kernel⟩) ?_
  | refine xT ?_ | refine xTK ?_ | refine xNot ?_ | refine xAnd ?_ | refine xOr ?_ | refine xAndV ?_ | refine xOrV ?_ | refine xNotV ?_ | refine xBK ?_ | refine xIf ?_ | refine xCh ?_ | refine xCh1 (by with_unfolding_all rfl) (by with_unfolding_all rfl) ?_ | refine xCh2 (by with_unfolding_all rfl) (by with_unfolding_all rfl) ?_
  | refine xIx ?_ | refine xIxA (by with_unfolding_all rfl) (by with_unfolding_all rfl) (by with_unfolding_all rfl) ?_ | refine xNil ?_ | refine xCons ?_ | refine xFn ?_ | refine xLst ?_ | refine xLstK (by with_unfolding_all rfl) ?_ | refine xTup ?_ | refine xTupK (by with_unfolding_all rfl) ?_ | refine xLen (by with_unfolding_all rfl) ?_ | refine xMax (by with_unfolding_all rfl) (by with_unfolding_all rfl) ?_ | refine xMin (by with_unfolding_all rfl) (by with_unfolding_all rfl) ?_
  | refine xYes (by with_unfolding_all rfl) ?_ | refine xNo (by with_unfolding_all rfl) ?_ | refine xIs (by with_unfolding_all rfl) (by with_unfolding_all rfl) ?_ | refine xCall ?_ | refine xM ?_ | refine xMA (by with_unfolding_all rfl) ?_ | refine xMD ?_ | refine xLc ?_ | refine xFor ?_ | refine xILst ?_ | refine xILK (by with_unfolding_all rfl) ?_ | refine xIR1 ?_ | refine xIEn ?_ | refine xSl ?_ | refine xNoPart ?_ | refine xPart ?_ | refine xPartK ?_ | refine xRevS ?_ | refine xCat ?_ | refine xLenSet ?_
  | refine xNm (by with_unfolding_all rfl) ?_ | refine xGTup (by with_unfolding_all rfl) ?_ | refine xGsCons ?_ | refine xGsNil ?_ | refine xYesT ?_ | refine xDg1 ?_ | refine xDp1 ?_ | refine xDg2 ?_ | refine xDp2 ?_ | refine xPar ?_ | refine xPaK (by with_unfolding_all rfl) (by with_unfolding_all rfl) ?_ | refine xRevT ?_ | refine xRevTK ?_ | refine xDi1 ?_ | refine xDi2 ?_ | refine xITup ?_ | refine xITupK ?_ | refine xIZip ?_ | refine xIR2 ?_ | refine xIsNK (by with_unfolding_all rfl) ?_ | refine xRev2 ?_ | refine xListR ?_ | refine xSlT ?_ | refine xSlTK ?_ | refine xGt1 ?_ | refine xGt2 ?_ | refine xGtA (by with_unfolding_all rfl) ?_ | refine xGtD ?_ | refine xRep ?_ | refine xDcL ?_ | refine xDc ?_ | refine xDpl ?_ | refine xGe1 ?_ | refine xGe2 ?_ | refine xIe1 ?_ | refine xIe2 ?_ | refine xGLst (by with_unfolding_all rfl) ?_ | refine xIsB (by with_unfolding_all rfl) (by with_unfolding_all rfl) ?_ | refine xVarL (by with_unfolding_all rfl) ?_ | refine xIDc ?_ | refine xIDcK ?_ | refine xLc2 ?_ | refine xGd1 ?_ | refine xGd2 ?_ | refine xGdA (by with_unfolding_all rfl) ?_ | refine xGdD ?_ | refine xDcT ?_ | refine xClip ?_ | refine xAppD ?_ | refine xAppD11 ?_ | refine xAppD21 ?_ | refine xLi ?_ | refine xIEz ?_)

/-! ### books -/
end LW

namespace LW
open PySem PySem.Spec L2 TX
/-! ### histories in two parts -/
theorem led_nodup {hs : List (Int × Int)} {cs r : List Int} (ok : RowOk cs) (h : ledL cs (hs.map pr) = some r) : hs.Nodup := by
  have key : ∀ n, (hs.take n).Nodup := fun n => by
    induction n with
    | zero => simp
    | succ n ih =>
      rw [List.take_succ]
      cases e : hs[n]? with
      | none => simpa using ih
      | some p =>
        obtain ⟨hn, hpn⟩ := List.getElem?_eq_some_iff.mp e
        obtain ⟨a, b⟩ := p
        have sp : hs = hs.take n ++ (a, b) :: hs.drop (n + 1) := by rw [← hpn, ← List.drop_eq_getElem_cons hn, List.take_append_drop]
        have ex := hist_at (u := hs.take n) (v := hs.drop (n + 1)) ok (by rw [← sp]; exact h)
        refine List.nodup_append.mpr ⟨ih, by simp, fun x hx y hy e => ?_⟩
        simp at hy; subst hy; subst e
        exact ex.2.2.2.2 hx
  have := key hs.length
  rwa [List.take_length] at this
theorem led_wrong {hs : List (Int × Int)} {cs r : List Int} (ok : RowOk cs) (h : ledL cs (hs.map pr) = some r) {p : Int × Int} (hp : p ∈ hs) : p ∈ dp cs (sI cs) := by
  obtain ⟨u, v, rfl⟩ := List.append_of_mem hp
  obtain ⟨a, b⟩ := p
  have ex := hist_at ok h
  exact (wrong_iff ok).mpr ⟨ex.2.1, ex.2.2.1, ex.1, ex.2.2.2.1⟩
theorem led_len {hs : List (Int × Int)} {cs r : List Int} (ok : RowOk cs) (h : ledL cs (hs.map pr) = some r) : hs.length ≤ 576 := by
  have h1 := (led_nodup ok h).length_le_of_subset fun p hp => led_wrong ok h hp
  have h2 := dp_len cs (sI cs)
  have sl : (sI cs).length = cs.length := (sI_perm cs).length_eq
  have l2 : (sI cs).length * (sI cs).length ≤ 24 * 24 := by rw [sl]; exact Nat.mul_le_mul ok.2.2.2 ok.2.2.2
  omega
theorem dp_nodup {cs : List Int} (ok : RowOk cs) : (dp cs (sI cs)).Nodup := (dp_sorted (sI_sorted cs ok.2.1)).imp fun {p q} h e => by
  subst e
  rcases h with h | ⟨_, h⟩ <;> omega
/-- as many pairs stand wrong as exchanges and those that stand wrong behind -/
theorem wrong_count {hs : List (Int × Int)} {cs r : List Int} (ok : RowOk cs) (h : ledL cs (hs.map pr) = some r) : (dp cs (sI cs)).length = hs.length + (dp r (sI r)).length := by
  obtain ⟨okr, pm⟩ := ledL_ok ok h
  rw [← List.length_append]
  refine List.Perm.length_eq ((List.perm_ext_iff_of_nodup (dp_nodup ok) (List.nodup_append.mpr ⟨led_nodup ok h, dp_nodup okr, fun p hp q hq e => ?_⟩)).mpr fun p => ?_)
  · subst e
    have w := (wrong_iff okr).mp hq
    have := (led_rt ok h (pm.mem_iff.mp w.1) (pm.mem_iff.mp w.2.1) w.2.2.1).mpr (.inr hp)
    omega
  · rw [List.mem_append, wrong_iff ok, wrong_iff okr]
    constructor
    · rintro ⟨h1, h2, h3, h4⟩
      have e := led_rt ok h h1 h2 h3
      by_cases z : p ∈ hs
      · exact .inl z
      · refine .inr ⟨pm.mem_iff.mpr h1, pm.mem_iff.mpr h2, h3, ?_⟩
        have : ¬ pos r p.1 < pos r p.2 := fun w => by
          rcases e.mp w with w | w
          · omega
          · exact z w
        have ne : pos r p.1 ≠ pos r p.2 := fun w => by have := pos_inj (pm.mem_iff.mpr h1) (pm.mem_iff.mpr h2) w; omega
        omega
    · rintro (z | ⟨h1, h2, h3, h4⟩)
      · exact (wrong_iff ok).mp (led_wrong ok h z)
      · have h1' := pm.mem_iff.mp h1
        have h2' := pm.mem_iff.mp h2
        have e := led_rt ok h h1' h2' h3
        have : ¬ pos cs p.1 < pos cs p.2 := fun w => by have := e.mpr (.inl w); omega
        have ne : pos cs p.1 ≠ pos cs p.2 := fun w => by have := pos_inj h1' h2' w; omega
        exact ⟨h1', h2', h3, by omega⟩
/-! ### the least first, the greatest -/
theorem whole_some {cs r : List Int} {hs : List (Int × Int)} {x y : Int} (ok : RowOk cs) (hr : ledL cs (hs.map pr) = some r) (nn : nxs r = []) (hx : x ∈ cs) (hy : y ∈ cs) (hxy : x < y) (w : pos cs y < pos cs x) : (x, y) ∈ hs := by
  by_cases z : (x, y) ∈ hs
  · exact z
  · refine absurd nn (open_next ok hr hx hy hxy ?_)
    unfold whenO
    rw [if_neg (by simp only; omega), if_neg z]
end LW

namespace LW
open PySem PySem.Spec L2 TX

local macro_rules | `(tactic| trivial) => `(tactic| with_reducible first
  | refine xSeq ?_ | refine xSet ?_ | refine xSetK (by with_unfolding_all rfl) ?_ | refine xNext ?_ | refine xIfS ?_ | refine xDrop ?_ | refine xRet ?_ | refine xAsg ?_ | refine xAsK (by with_unfolding_all rfl) ?_ | refine xSub ?_ | refine xSbK (by with_unfolding_all rfl) (by with_unfolding_all rfl) (by with_unfolding_all rfl) ?_
  | refine xVarD (by with_unfolding_all rfl) ?_ | refine xVarZ (by with_unfolding_all rfl) ?_ | refine xVarN (by with_unfolding_all rfl) (by with_unfolding_all rfl) ?_ | refine xC ?_ | refine xOp ?_ | refine xI (by with_unfolding_all rfl) (by with_unfolding_all rfl) ?_ | refine xB (by with_unfolding_all rfl) (by with_unfolding_all rfl) ?_ | refine xEqI (by with_unfolding_all rfl) (by with_unfolding_all rfl) ?_ | refine xNeI (by with_unfolding_all rfl) (by with_unfolding_all rfl) ?_ | refine xNeg ?_ | refine xNegK ?_
  | refine xIc (by with_unfolding_all rfl) (by with_unfolding_all rfl) (by with_unfolding_all first | omega | exact ⟨by decide, by decide +kernel⟩) ?_
  | refine xT ?_ | refine xTK ?_ | refine xNot ?_ | refine xAnd ?_ | refine xOr ?_ | refine xAndV ?_ | refine xOrV ?_ | refine xNotV ?_ | refine xBK ?_ | refine xIf ?_ | refine xCh ?_ | refine xCh1 (by with_unfolding_all rfl) (by with_unfolding_all rfl) ?_ | refine xCh2 (by with_unfolding_all rfl) (by with_unfolding_all rfl) ?_
  | refine xIx ?_ | refine xIxA (by with_unfolding_all rfl) (by with_unfolding_all rfl) (by with_unfolding_all rfl) ?_ | refine xNil ?_ | refine xCons ?_ | refine xFn ?_ | refine xLst ?_ | refine xLstK (by with_unfolding_all rfl) ?_ | refine xTup ?_ | refine xTupK (by with_unfolding_all rfl) ?_ | refine xLen (by with_unfolding_all rfl) ?_ | refine xMax (by with_unfolding_all rfl) (by with_unfolding_all rfl) ?_ | refine xMin (by with_unfolding_all rfl) (by with_unfolding_all rfl) ?_
  | refine xYes (by with_unfolding_all rfl) ?_ | refine xNo (by with_unfolding_all rfl) ?_ | refine xIs (by with_unfolding_all rfl) (by with_unfolding_all rfl) ?_ | refine xCall ?_ | refine xM ?_ | refine xMA (by with_unfolding_all rfl) ?_ | refine xMD ?_ | refine xLc ?_ | refine xFor ?_ | refine xILst ?_ | refine xILK (by with_unfolding_all rfl) ?_ | refine xIR1 ?_ | refine xIEn ?_ | refine xSl ?_ | refine xNoPart ?_ | refine xPart ?_ | refine xPartK ?_ | refine xRevS ?_ | refine xCat ?_ | refine xLenSet ?_
  | refine xNm (by with_unfolding_all rfl) ?_ | refine xGTup (by with_unfolding_all rfl) ?_ | refine xGsCons ?_ | refine xGsNil ?_ | refine xYesT ?_ | refine xDg1 ?_ | refine xDp1 ?_ | refine xDg2 ?_ | refine xDp2 ?_ | refine xPar ?_ | refine xPaK (by with_unfolding_all rfl) (by with_unfolding_all rfl) ?_ | refine xRevT ?_ | refine xRevTK ?_ | refine xDi1 ?_ | refine xDi2 ?_ | refine xITup ?_ | refine xITupK ?_ | refine xIZip ?_ | refine xIR2 ?_ | refine xIsNK (by with_unfolding_all rfl) ?_ | refine xRev2 ?_ | refine xListR ?_ | refine xSlT ?_ | refine xSlTK ?_ | refine xGt1 ?_ | refine xGt2 ?_ | refine xGtA (by with_unfolding_all rfl) ?_ | refine xGtD ?_ | refine xRep ?_ | refine xDcL ?_ | refine xDc ?_ | refine xDpl ?_ | refine xGe1 ?_ | refine xGe2 ?_ | refine xIe1 ?_ | refine xIe2 ?_ | refine xGLst (by with_unfolding_all rfl) ?_ | refine xIsB (by with_unfolding_all rfl) (by with_unfolding_all rfl) ?_ | refine xVarL (by with_unfolding_all rfl) ?_ | refine xIDc ?_ | refine xIDcK ?_ | refine xLc2 ?_ | refine xGd1 ?_ | refine xGd2 ?_ | refine xGdA (by with_unfolding_all rfl) ?_ | refine xGdD ?_ | refine xDcT ?_ | refine xClip ?_ | refine xAppD ?_ | refine xAppD11 ?_ | refine xAppD21 ?_ | refine xLi ?_ | refine xIEz ?_)

/-! ### crossing threes, wrong pairs, rows behind -/
def S_crossing_threes : SpT := SpP (fun ts => ∃ cs, ts = [rowD cs] ∧ RowOk cs) fun ts t _ => ∀ cs, ts = [rowD cs] → t = tripL (dt cs)
def S_row_behind : SpT := SpP (fun ts => ∃ cs x r, ts = [rowD cs, .d x] ∧ RowOk cs ∧ ledD cs x = some r) fun ts t _ => ∀ cs x r, ts = [rowD cs, .d x] → ledD cs x = some r → t = intL r
theorem mS_crossing_threes : MonSp S_crossing_threes := mon_SpP
theorem mS_row_behind : MonSp S_row_behind := mon_SpP
abbrev N_crossing_threes : List Str := ["row", "found", "at", "greatest", "later", "card", "place", "middle", "least"]
def w_crossing_threes : TwS := (wSeq (wDrop (wCall [] 1 S_need_row (wCons (wVar 0) wNil)))
    (wSeq (wSet 1 (wLst wNil))
    (wSeq (wFor (wIEn (wCons (wVar 0) wNil)) (wGTup 2 (wGsCons (wNm 2) (wGsCons (wNm 3) wGsNil))) (wSeq (wSet 4 (wLc (wILst (wSl (wVar 0) (wPart (wOp (fI (· + ·)) (wVar 2) (wC (.d (.int 1))))) wNoPart)) (wNm 5) (wT (wOp (fB fun i j => decide (i < j)) (wVar 5) (wVar 3))) (wVar 5) [5]))
    (wFrz 4 (wFor (wIEn (wCons (wVar 4) wNil)) (wGTup 2 (wGsCons (wNm 6) (wGsCons (wNm 7) wGsNil))) (wDrop (wM isLst kExt (wVar 1) (wCons (wLc (wILst (wSl (wVar 4) (wPart (wOp (fI (· + ·)) (wVar 6) (wC (.d (.int 1))))) wNoPart)) (wNm 8) (wT (wOp (fB fun i j => decide (i < j)) (wVar 8) (wVar 7))) (wTup (wCons (wVar 8) (wCons (wVar 7) (wCons (wVar 3) wNil)))) [8]) wNil)))))))
    (wRet (wFn kSort (wCons (wVar 1) wNil))))))
abbrev N_row_behind : List Str := ["row", "history"]
def w_row_behind : TwS := (wSeq (wDrop (wCall [] 2 S_need_history (wCons (wVar 0) (wCons (wVar 1) wNil))))
    (wRet (wCall [] 2 S_led_by (wCons (wVar 0) (wCons (wVar 1) wNil)))))
theorem blk_trip' (c m : Int) (xs : List Int) : ((List.filter (fun x => match x with | .int z => decide (z < m) | _ => false) (xs.map PyData.int)).map fun x => PyData.tuple [x, .int m, .int c]) = (((xs.filter fun x => decide (x < m)).map fun x => (x, m)).map fun p => (p.1, p.2, c)).map tr3 := by
  rw [List.filter_map, List.map_map, List.map_map, List.map_map]; rfl
theorem blk_less' (c : Int) (xs : List Int) : ((List.filter (fun x => match x with | .int z => decide (z < c) | _ => false) (xs.map PyData.int)).map fun x => x) = (xs.filter fun x => decide (x < c)).map PyData.int := by
  rw [List.filter_map, List.map_id']; rfl
theorem pl_crossing_threes : PlD S_crossing_threes w_crossing_threes N_crossing_threes := by
  rintro ts Q Ex ⟨⟨cs, rfl, ok⟩, q⟩
  have wl := Nat.le_trans (wt_len cs) (len3 ok.2.2.2)
  have l24 := ok.2.2.2
  unfold w_crossing_threes
  repeat trivial
  refine xIsRow ok ?_
  repeat trivial
  refine xIEK rfl ?_
  refine xFoK (fun i ρ => ∃ (fs : List I3) (o2 o3 o6 o7 : Option PyData) (x4 : Option T), ρ = [some (rowD cs), some (tripL fs), o2.map T.d, o3.map T.d, x4, none, o6.map T.d, o7.map T.d, none] ∧ fs ++ wt (cs.drop i) = wt cs) ⟨[], none, none, none, none, none, rfl, rfl⟩ ?_ ?_
  · rintro i x ρ2 e ⟨fs, o2, o3, o6, o7, x4, rfl, hf⟩
    obtain ⟨y, e1, rfl⟩ := enumD_get e
    rw [List.getElem?_map] at e1
    cases e2 : cs[i]? with
    | none => rw [e2] at e1; cases e1
    | some c =>
      rw [e2] at e1; cases e1
      obtain ⟨hi, hci⟩ := List.getElem?_eq_some_iff.mp e2
      have hd : cs.drop i = c :: cs.drop (i + 1) := by rw [List.drop_eq_getElem_cons hi, hci]
      rw [hd, show wt (c :: cs.drop (i + 1)) = (wp ((cs.drop (i + 1)).filter fun x => decide (x < c))).map (fun p => (p.1, p.2, c)) ++ wt (cs.drop (i + 1)) from rfl] at hf
      repeat trivial
      refine xNm (noNd_o rfl) ?_
      repeat trivial
      refine xNm (noNd_o rfl) ?_
      repeat trivial
      refine xSlK rfl ?_
      rw [cut_from (by omega), show ((i : Int) + 1).toNat = i + 1 by omega]
      refine xILK flat_map ?_
      refine xLcM (fun x => match x with | .int z => decide (z < c) | _ => false) (fun x => x) rfl (by simp; omega) (by simp) (fun x hx Y Z hY hZ => ?_) ?_
      · obtain ⟨z, hz, rfl⟩ := List.mem_map.mp hx
        repeat trivial
        refine ⟨noNd1 rfl, xIte (fun h => ?_) fun h => hZ h⟩
        repeat trivial
        exact ⟨noNd1 rfl, _, rfl, hY h⟩
      · rw [blk_less']
        generalize hlt : ((cs.drop (i + 1)).filter fun x => decide (x < c)) = lt at hf
        have llt : lt.length ≤ 24 := by
          rw [← hlt]
          have := List.length_filter_le (fun x => decide (x < c)) (cs.drop (i + 1))
          rw [List.length_drop] at this
          omega
        have hlen := congrArg List.length hf
        simp only [List.length_append, List.length_map] at hlen
        repeat trivial
        refine xFrz rfl (erase_intL (cs := lt)) ?_
        repeat trivial
        refine xIEK rfl ?_
        refine xFoK (fun j ρ => ∃ (gs : List I3) (o6 o7 : Option PyData), ρ = [some (rowD cs), some (tripL gs), some (.d (.int i)), some (.d (.int c)), some (rowD lt), none, o6.map T.d, o7.map T.d, none] ∧ gs ++ (wp (lt.drop j)).map (fun p => (p.1, p.2, c)) = fs ++ (wp lt).map (fun p => (p.1, p.2, c))) ⟨fs, o6, o7, rfl, rfl⟩ ?_ ?_
        · rintro j x ρ2 e' ⟨gs, o6, o7, rfl, hg⟩
          obtain ⟨y, e3, rfl⟩ := enumD_get e'
          rw [List.getElem?_map] at e3
          cases e4 : lt[j]? with
          | none => rw [e4] at e3; cases e3
          | some m =>
            rw [e4] at e3; cases e3
            obtain ⟨hj, hcj⟩ := List.getElem?_eq_some_iff.mp e4
            have hdj : lt.drop j = m :: lt.drop (j + 1) := by rw [List.drop_eq_getElem_cons hj, hcj]
            rw [hdj, show wp (m :: lt.drop (j + 1)) = ((lt.drop (j + 1)).filter fun x => decide (x < m)).map (fun x => (x, m)) ++ wp (lt.drop (j + 1)) from rfl, List.map_append] at hg
            have hlen2 := congrArg List.length hg
            simp only [List.length_append, List.length_map] at hlen2
            repeat trivial
            refine xNm (noNd_o rfl) ?_
            repeat trivial
            refine xNm (noNd_o rfl) ?_
            repeat trivial
            refine xSlK rfl ?_
            rw [cut_from (by omega), show ((j : Int) + 1).toNat = j + 1 by omega]
            refine xILK flat_map ?_
            refine xLcM (fun x => match x with | .int z => decide (z < m) | _ => false) (fun x => .tuple [x, .int m, .int c]) rfl (by simp; omega) (by simp) (fun x hx Y Z hY hZ => ?_) ?_
            · obtain ⟨z, hz, rfl⟩ := List.mem_map.mp hx
              repeat trivial
              refine ⟨noNd1 rfl, xIte (fun h => ?_) fun h => hZ h⟩
              repeat trivial
              exact ⟨noNd1 rfl, _, rfl, hY h⟩
            · rw [blk_trip']
              repeat trivial
              refine xExt rfl (allD_map _) ?_ ⟨gs ++ (((lt.drop (j + 1)).filter fun x => decide (x < m)).map (fun x => (x, m))).map (fun p => (p.1, p.2, c)), some (.int j), some (.int m), ?_, ?_⟩
              · simp only [List.length_map]
                exact lt16k (by omega)
              · simp [tripL, TX.putAt, putT]
              · rw [List.append_assoc]; exact hg
        · rintro ρ2 ⟨gs, o6, o7, rfl, hg⟩
          rw [List.drop_of_length_le (by simp [enumD])] at hg
          refine ⟨gs, some (.int i), some (.int c), o6, o7, _, rfl, ?_⟩
          have hg' : gs = fs ++ (wp lt).map (fun p => (p.1, p.2, c)) := by simpa [wp] using hg
          rw [hg', List.append_assoc]; exact hf
  · rintro ρ2 ⟨fs, o2, o3, o6, o7, x4, rfl, hf⟩
    have hf' : fs = wt cs := by
      rw [List.drop_of_length_le (by simp [enumD])] at hf
      simpa [wt] using hf
    subst hf'
    repeat trivial
    refine xSort (allD_map _) (alike_trs _) (sortable_trs _) (depth_trs _) ?_
    rw [sortT, cross_due ok.2.1]
    refine ⟨rfl, q _ _ fun cs' e => ?_⟩
    cases rowD1_inj e
    rfl
theorem pl_row_behind : PlD S_row_behind w_row_behind N_row_behind := by
  rintro ts Q Ex ⟨⟨cs, x, r, rfl, ok, hr⟩, q⟩
  unfold w_row_behind
  repeat trivial
  refine xNeedHist ok hr ?_
  repeat trivial
  refine xLed ok hr rfl rfl ?_
  refine ⟨rfl, q _ _ fun cs' y r' e e2 => ?_⟩
  obtain ⟨rfl, rfl⟩ := rows2_inj e
  rw [hr] at e2; cases e2; rfl
theorem xRowBehind {ρ : Rho} {Q : T → Rho → Prop} {E : ExK} {cs r : List Int} {x : PyData} {ts : List T} (ok : RowOk cs) (hr : ledD cs x = some r) (h : argsF [] ρ false 0 ts = some [rowD cs, .d x]) (ha : apartB ts = true) (q : Q (intL r) ρ) : caK [] 2 S_row_behind ts ρ Q E :=
  xCaP h rfl ha ⟨cs, x, r, rfl, ok, hr⟩ fun t ρ' e => by rw [e cs x r rfl hr]; exact ⟨rfl, q⟩
theorem xCrossing {ρ : Rho} {Q : T → Rho → Prop} {E : ExK} {cs : List Int} (ok : RowOk cs) (q : Q (tripL (dt cs)) ρ) : caK [] 1 S_crossing_threes [rowD cs] ρ Q E :=
  xCaP rfl rfl rfl ⟨cs, rfl, ok⟩ fun t ρ' e => by rw [e cs rfl]; exact ⟨rfl, q⟩
theorem dt_iff {cs : List Int} (h : RowOk cs) {p : I3} : p ∈ dt cs ↔ (p.1 ∈ cs ∧ p.2.1 ∈ cs ∧ p.2.2 ∈ cs) ∧ p.1 < p.2.1 ∧ p.2.1 < p.2.2 ∧ pos cs p.2.1 < pos cs p.1 ∧ pos cs p.2.2 < pos cs p.2.1 := by
  unfold dt
  rw [List.mem_filter, th_mem (sI_sorted cs h.2.1), (sI_perm cs).mem_iff, (sI_perm cs).mem_iff, (sI_perm cs).mem_iff]
  simp only [Bool.and_eq_true, decide_eq_true_eq]
  constructor
  · rintro ⟨⟨a, b, c⟩, d, e⟩; exact ⟨a, b, c, e, d⟩
  · rintro ⟨a, b, c, e, d⟩; exact ⟨⟨a, b, c⟩, d, e⟩
end LW

namespace LW.D
open PySem PySem.Spec L2 TX

local macro_rules | `(tactic| trivial) => `(tactic| with_reducible first
  | refine xSeq ?_ | refine xSet ?_ | refine xSetK (by with_unfolding_all rfl) ?_ | refine xNext ?_ | refine xIfS ?_ | refine xDrop ?_ | refine xRet ?_ | refine xAsg ?_ | refine xAsK (by with_unfolding_all rfl) ?_ | refine xSub ?_ | refine xSbK (by with_unfolding_all rfl) (by with_unfolding_all rfl) (by with_unfolding_all rfl) ?_
  | refine xVarD (by with_unfolding_all rfl) ?_ | refine xVarZ (by with_unfolding_all rfl) ?_ | refine xVarN (by with_unfolding_all rfl) (by with_unfolding_all rfl) ?_ | refine xC ?_ | refine xOp ?_ | refine xI (by with_unfolding_all rfl) (by with_unfolding_all rfl) ?_ | refine xB (by with_unfolding_all rfl) (by with_unfolding_all rfl) ?_ | refine xEqI (by with_unfolding_all rfl) (by with_unfolding_all rfl) ?_ | refine xNeI (by with_unfolding_all rfl) (by with_unfolding_all rfl) ?_ | refine xNeg ?_ | refine xNegK ?_
  | refine xIc (by with_unfolding_all rfl) (by with_unfolding_all rfl) (by with_unfolding_all first | omega | exact ⟨by decide, by decide +kernel⟩) ?_
  | refine xT ?_ | refine xTK ?_ | refine xNot ?_ | refine xAnd ?_ | refine xOr ?_ | refine xAndV ?_ | refine xOrV ?_ | refine xNotV ?_ | refine xBK ?_ | refine xIf ?_ | refine xCh ?_ | refine xCh1 (by with_unfolding_all rfl) (by with_unfolding_all rfl) ?_ | refine xCh2 (by with_unfolding_all rfl) (by with_unfolding_all rfl) ?_
  | refine xIx ?_ | refine xIxA (by with_unfolding_all rfl) (by with_unfolding_all rfl) (by with_unfolding_all rfl) ?_ | refine xNil ?_ | refine xCons ?_ | refine xFn ?_ | refine xLst ?_ | refine xLstK (by with_unfolding_all rfl) ?_ | refine xTup ?_ | refine xTupK (by with_unfolding_all rfl) ?_ | refine xLen (by with_unfolding_all rfl) ?_ | refine xMax (by with_unfolding_all rfl) (by with_unfolding_all rfl) ?_ | refine xMin (by with_unfolding_all rfl) (by with_unfolding_all rfl) ?_
  | refine xYes (by with_unfolding_all rfl) ?_ | refine xNo (by with_unfolding_all rfl) ?_ | refine xIs (by with_unfolding_all rfl) (by with_unfolding_all rfl) ?_ | refine xCall ?_ | refine xM ?_ | refine xMA (by with_unfolding_all rfl) ?_ | refine xMD ?_ | refine xLc ?_ | refine xFor ?_ | refine xILst ?_ | refine xILK (by with_unfolding_all rfl) ?_ | refine xIR1 ?_ | refine xIEn ?_ | refine xSl ?_ | refine xNoPart ?_ | refine xPart ?_ | refine xPartK ?_ | refine xRevS ?_ | refine xCat ?_ | refine xLenSet ?_
  | refine xNm (by with_unfolding_all rfl) ?_ | refine xGTup (by with_unfolding_all rfl) ?_ | refine xGsCons ?_ | refine xGsNil ?_ | refine xYesT ?_ | refine xDg1 ?_ | refine xDp1 ?_ | refine xDg2 ?_ | refine xDp2 ?_ | refine xPar ?_ | refine xPaK (by with_unfolding_all rfl) (by with_unfolding_all rfl) ?_ | refine xRevT ?_ | refine xRevTK ?_ | refine xDi1 ?_ | refine xDi2 ?_ | refine xITup ?_ | refine xITupK ?_ | refine xIZip ?_ | refine xIR2 ?_ | refine xIsNK (by with_unfolding_all rfl) ?_ | refine xRev2 ?_ | refine xListR ?_ | refine xSlT ?_ | refine xSlTK ?_ | refine xGt1 ?_ | refine xGt2 ?_ | refine xGtA (by with_unfolding_all rfl) ?_ | refine xGtD ?_ | refine xRep ?_ | refine xDcL ?_ | refine xDc ?_ | refine xDpl ?_ | refine xGe1 ?_ | refine xGe2 ?_ | refine xIe1 ?_ | refine xIe2 ?_ | refine xGLst (by with_unfolding_all rfl) ?_ | refine xIsB (by with_unfolding_all rfl) (by with_unfolding_all rfl) ?_ | refine xVarL (by with_unfolding_all rfl) ?_ | refine xIDc ?_ | refine xIDcK ?_ | refine xLc2 ?_ | refine xGd1 ?_ | refine xGd2 ?_ | refine xGdA (by with_unfolding_all rfl) ?_ | refine xGdD ?_ | refine xDcT ?_ | refine xClip ?_ | refine xAppD ?_ | refine xAppD11 ?_ | refine xAppD21 ?_ | refine xLi ?_ | refine xIEz ?_)

/-! ### the dish, a row -/
def S_law_dish : SpT := SpP (fun ts => ∃ (ns : List Int) (k : Int), ts = [.fz ns, .d (.int k)] ∧ 0 ≤ k ∧ k ≤ 1000) fun _ t _ => ∃ a b, t = potT a b 0 ∧ Pot a b 0 (2 ^ 40)
def S_law_spoon : SpT := SpP (fun ts => ∃ a b c m, ts = [potT a b c, .d (.int m)] ∧ Pot a b c 1 ∧ 1 ≤ m ∧ m ≤ 2 ^ 64) fun ts t ρ => ∀ a b c m, ts = [potT a b c, .d (.int m)] → ∃ i, t = .d (.int i) ∧ 0 ≤ i ∧ i < m ∧ PotTo 1 a b c ρ
theorem mS_law_dish : MonSp S_law_dish := mon_SpP
theorem mS_law_spoon : MonSp S_law_spoon := mon_SpP
abbrev N_law_dish : List Str := ["_law_script", "_law_k", "_law_cell"]
def w_law_dish : TwS := (wSeq (wSet 2 (wC (.d (.int 0))))
    (wSeq (wIfS (wT (wOp (fB fun i j => decide (i < j)) (wVar 1) (wFn kLen (wCons (wVar 0) wNil)))) (wSet 2 (wIx (wVar 0) (wVar 1))) wNext)
    (wRet (wLst (wCons (wFn (k2 fMax) (wCons (wC (.d (.int 0))) (wCons (wOp (fI (· - ·)) (wFn (k1 fAbs) (wCons (wVar 2) wNil)) (wOp (fIc CPowW (fun i j => i ^ j.toNat)) (wC (.d (.int 10))) (wC (.d (.int 18))))) wNil))) (wCons (wOp (fIc (fun _ j => 0 < j) (· % ·)) (wOp (fI (· + ·)) (wOp (fI (· + ·)) (wOp (fIc IntMulOk (· * ·)) (wVar 2) (wC (.d (.int 31)))) (wOp (fIc IntMulOk (· * ·)) (wVar 1) (wC (.d (.int 7919))))) (wC (.d (.int 5)))) (wOp (fI (· + ·)) (wOp (fIc CPowW (fun i j => i ^ j.toNat)) (wC (.d (.int 10))) (wC (.d (.int 38)))) (wC (.d (.int 133))))) (wCons (wC (.d (.int 0))) wNil)))))))
abbrev N_law_spoon : List Str := ["_law_dish_here", "_law_many", "_law_drawn", "_law_kneaded"]
def w_law_spoon : TwS := (wSeq (wIfS (wT (wOp (fB fun i j => decide (j < i)) (wIx (wVar 0) (wC (.d (.int 0)))) (wC (.d (.int 0))))) (wSeq (wSet 2 (wOp (fIc (fun _ j => 0 < j) (· % ·)) (wIx (wVar 0) (wC (.d (.int 0)))) (wVar 1)))
    (wSeq (wAsg (wOp (fIc CDivW (· / ·)) (wIx (wVar 0) (wC (.d (.int 0)))) (wVar 1)) (wSub (wVar 0) (wC (.d (.int 0)))))
    (wRetV 2))) wNext)
    (wSeq (wAsg (wOp (fI (· + ·)) (wIx (wVar 0) (wC (.d (.int 2)))) (wC (.d (.int 1)))) (wSub (wVar 0) (wC (.d (.int 2)))))
    (wSeq (wSet 3 (wOp (fIc (fun _ j => 0 < j) (· % ·)) (wOp (fIc CPowW (fun i j => i ^ j.toNat)) (wOp (fI (· + ·)) (wIx (wVar 0) (wC (.d (.int 1)))) (wOp (fIc CMulW (· * ·)) (wC (.d (.int 982451653))) (wIx (wVar 0) (wC (.d (.int 2)))))) (wC (.d (.int 3)))) (wOp (fI (· + ·)) (wOp (fIc CPowW (fun i j => i ^ j.toNat)) (wC (.d (.int 10))) (wC (.d (.int 40)))) (wC (.d (.int 121))))))
    (wSeq (wSet 3 (wOp (fIc (fun _ j => 0 < j) (· % ·)) (wOp (fIc CPowW (fun i j => i ^ j.toNat)) (wOp (fI (· + ·)) (wVar 3) (wOp (fIc CMulW (· * ·)) (wC (.d (.int 373587883))) (wIx (wVar 0) (wC (.d (.int 2)))))) (wC (.d (.int 3)))) (wOp (fI (· + ·)) (wOp (fIc CPowW (fun i j => i ^ j.toNat)) (wC (.d (.int 10))) (wC (.d (.int 39)))) (wC (.d (.int 3))))))
    (wRet (wOp (fIc (fun _ j => 0 < j) (· % ·)) (wOp (fIc CDivW (· / ·)) (wVar 3) (wC (.d (.int 1000033)))) (wVar 1)))))))
theorem xAbs {ρ : Rho} {Q : T → Rho → Prop} {t : T} {i : Int} (h1 : vw ρ t = some (.int i)) (q : Q (.d (.int (if i < 0 then -i else i))) ρ) : k1 fAbs [t] ρ Q := ⟨t, _, _, rfl, h1, ⟨i, rfl, rfl⟩, q⟩
theorem pl_law_dish : PlD S_law_dish w_law_dish N_law_dish := by
  rintro ts Q Ex ⟨⟨ns, k, rfl, k0, k1⟩, q⟩
  unfold w_law_dish
  have fin : ∀ c : Int, Q (potT (max 0 ((if c < 0 then -c else c) - 10 ^ (18 : Int).toNat)) ((c * 31 + k * 7919 + 5) % (10 ^ (38 : Int).toNat + 133)) 0) [some (.fz ns), some (.d (.int k)), some (.d (.int c))] := fun c => q _ _ ⟨_, _, rfl, Int.le_max_left _ _, Int.emod_nonneg _ (by decide +kernel), by
    have h1 := Int.emod_lt_of_pos (c * 31 + k * 7919 + 5) (b := 10 ^ (38 : Int).toNat + 133) (by decide +kernel)
    have h2 : (10 : Int) ^ (38 : Int).toNat + 133 ≤ 2 ^ 200 := by decide +kernel
    omega, Int.le_refl _, by decide⟩
  repeat trivial
  refine xIte (fun h => ?_) fun h => ?_
  · have h' : k < ns.length := of_decide_eq_true h
    obtain ⟨c, hc, _⟩ := at_in k0 h'
    repeat trivial
    refine xIxZ hc ?_
    repeat trivial
    refine xAbs rfl ?_
    repeat trivial
    refine xIc rfl rfl (by exact mulR (by decide)) ?_
    repeat trivial
    refine xIc rfl rfl (by exact mulR (by decide)) ?_
    repeat trivial
    refine xIc rfl rfl (by decide +kernel) ?_
    repeat trivial
    exact ⟨rfl, fin c⟩
  · repeat trivial
    refine xAbs rfl ?_
    repeat trivial
    refine xIc rfl rfl (by exact mulR (by decide)) ?_
    repeat trivial
    refine xIc rfl rfl (by exact mulR (by decide)) ?_
    repeat trivial
    refine xIc rfl rfl (by decide +kernel) ?_
    repeat trivial
    exact ⟨rfl, fin 0⟩
theorem pl_law_spoon : PlD S_law_spoon w_law_spoon N_law_spoon := by
  rintro ts Q Ex ⟨⟨a, b, c, m, rfl, ⟨a0, b0, b1, c0, c1⟩, m1, m2⟩, q⟩
  unfold w_law_spoon
  repeat trivial
  refine xIte (fun h => ?_) fun h => ?_
  · repeat trivial
    refine xIc rfl rfl (cdiv64 (by omega) m2) ?_
    repeat trivial
    refine xRetV rfl ⟨rfl, q _ _ fun a' b' c' m' e => ?_⟩
    obtain ⟨rfl, rfl, rfl, rfl⟩ := potn_inj e
    exact ⟨_, rfl, Int.emod_nonneg _ (by omega), Int.emod_lt_of_pos _ (by omega), _, _, rfl, Int.ediv_nonneg a0 (by omega), Int.le_refl _, by omega⟩
  · repeat trivial
    refine xIc rfl rfl (cmul 31 42 (by decide) (by omega)) ?_
    repeat trivial
    refine xIc rfl rfl (cpow 201 (by omega) (by decide) (by decide)) ?_
    repeat trivial
    refine xIc rfl rfl (by decide +kernel) ?_
    repeat trivial
    refine xIc rfl rfl (cmul 31 42 (by decide) (by omega)) ?_
    repeat trivial
    generalize hz : ((b + 982451653 * (c + 1)) ^ (3 : Int).toNat % (10 ^ (40 : Int).toNat + 121)) = z
    have z0 : 0 ≤ z := hz ▸ Int.emod_nonneg _ (by decide +kernel)
    have z1 : z < 2 ^ 180 := hz ▸ Int.lt_of_lt_of_le (Int.emod_lt_of_pos _ (by decide +kernel)) (by decide +kernel)
    refine xIc rfl rfl (cpow 201 (by omega) (by decide) (by decide)) ?_
    repeat trivial
    refine xIc rfl rfl (by decide +kernel) ?_
    repeat trivial
    refine ⟨rfl, q _ _ fun a' b' c' m' e => ?_⟩
    obtain ⟨rfl, rfl, rfl, rfl⟩ := potn_inj e
    exact ⟨_, rfl, Int.emod_nonneg _ (by omega), Int.emod_lt_of_pos _ (by omega), _, _, rfl, a0, by omega, Int.le_refl _⟩
theorem xSpoon {ρ : Rho} {Q : T → Rho → Prop} {E : ExK} {r : Nat} {a b c m k : Int} (hg : ρ[r]? = some (some (potT a b c))) (hp : Pot a b c k) (hk : 1 ≤ k) (hm : 1 ≤ m) (hm2 : m ≤ 2 ^ 64)
    (q : ∀ i a' c', 0 ≤ i → i < m → Pot a' b c' (k - 1) → c ≤ c' → c' ≤ c + 1 → Q (.d (.int i)) (ρ.set r (some (potT a' b c')))) : caK [0] 2 S_law_spoon [.a r [], .d (.int m)] ρ Q E := by
  obtain ⟨h1, h2, h3, h4, h5⟩ := hp
  refine xCaF hg rfl rfl rfl rfl ⟨a, b, c, m, rfl, ⟨h1, h2, h3, h4, by omega⟩, hm, hm2⟩ fun u ρ' h => ?_
  obtain ⟨i, rfl, i0, i1, a', c', e, g1, g2, g3⟩ := h a b c m rfl
  exact ⟨_, e, rfl, rfl, q i a' c' i0 i1 ⟨g1, h2, h3, by omega, by omega⟩ g2 g3⟩
/-! cards by kind -/
def cdF (kd k : Int) : Int := if kd = 0 then k else if kd = 1 then 7 * k * k + 3 else 999999999 - k
theorem cdF_inj {kd j k : Int} (h0 : 0 ≤ j) (h1 : j < k) : cdF kd j ≠ cdF kd k := by
  unfold cdF
  split
  · omega
  · split
    · have : 7 * j * j < 7 * k * k := by
        have h2 : j * j < k * k := Int.lt_of_le_of_lt (Int.mul_le_mul_of_nonneg_right (Int.le_of_lt h1) h0) (Int.mul_lt_mul_of_pos_left h1 (by omega))
        rw [Int.mul_assoc, Int.mul_assoc]
        omega
      omega
    · omega
theorem cdF_card {kd k : Int} (h0 : 0 ≤ k) (h1 : k < 24) : 0 ≤ cdF kd k ∧ cdF kd k ≤ 999999999 := by
  unfold cdF
  split
  · omega
  · split
    · have h2 : 0 ≤ k * k := Int.mul_nonneg h0 h0
      have h3 : k * k ≤ 24 * 24 := Int.mul_le_mul (Int.le_of_lt h1) (Int.le_of_lt h1) h0 (by decide)
      rw [Int.mul_assoc]
      omega
    · omega
def cdL (kd : Int) (n : Nat) : List Int := (List.range n).map fun k => cdF kd (k : Nat)
theorem cdL_len {kd : Int} {n : Nat} : (cdL kd n).length = n := by unfold cdL; simp
theorem cdL_ok {kd : Int} {n : Nat} (h1 : 1 ≤ n) (h2 : n ≤ 24) : RowOk (cdL kd n) := by
  refine ⟨fun c hc => ?_, ?_, by rw [cdL_len]; exact h1, by rw [cdL_len]; exact h2⟩
  · obtain ⟨k, hk, rfl⟩ := List.mem_map.mp hc
    have := List.mem_range.mp hk
    exact cdF_card (by omega) (by omega)
  · unfold cdL
    refine List.pairwise_map.mpr ((List.pairwise_lt_range (n := n)).imp_of_mem fun {a b} ha hb h => ?_)
    exact cdF_inj (by omega) (by omega)
theorem clip_perm (cs : List Int) (a : Nat) : (cs.take a ++ ((cs.drop a).take 2).reverse ++ cs.drop (a + 2)).Perm cs := by
  refine ((((cs.drop a).take 2).reverse_perm.append_left _).append_right _).trans ?_
  rw [List.append_assoc, ← List.drop_drop, List.take_append_drop, List.take_append_drop]
theorem ends_perm (cs : List Int) (k : Nat) (h : k ≤ cs.length) : (cs.reverse.take k ++ cs.take (cs.length - k)).Perm cs := by
  rw [List.take_reverse]
  refine ((List.reverse_perm _).append_right _).trans ?_
  refine List.perm_append_comm.trans ?_
  rw [List.take_append_drop]
theorem cut_two {α : Type} {ds : List α} {i : Int} (h0 : 0 ≤ i) (h1 : i < ds.length) : cutD ds (some i) (some (i + 2)) = (ds.drop i.toNat).take 2 := by
  obtain ⟨k, rfl⟩ := Int.eq_ofNat_of_zero_le h0
  rw [Int.toNat_natCast]
  unfold cutD
  rw [HT.sIx_nat, show ((k : Int) + 2) = ((k + 2 : Nat) : Int) by omega, HT.sIx_nat, Nat.min_eq_left (show k ≤ ds.length by omega)]
  by_cases q : k + 2 ≤ ds.length
  · rw [Nat.min_eq_left q, show k + 2 - k = 2 by omega]
  · rw [Nat.min_eq_right (by omega), List.take_of_length_le (by simp), List.take_of_length_le (by simp; omega)]
theorem er_l (ds : List PyData) : erase (.l (ds.map T.d)) = some (.list ds) := by simp only [erase, eraseAll_d, Option.map_some]
def S_law_row : SpT := SpP (fun ts => ∃ a b c m, ts = [potT a b c, .d (.int m)] ∧ Pot a b c 64 ∧ 1 ≤ m ∧ m ≤ 24) fun ts t ρ => ∀ a b c m, ts = [potT a b c, .d (.int m)] → ∃ cs, t = intL cs ∧ RowOk cs ∧ (cs.length : Int) ≤ m ∧ PotTo 64 a b c ρ
theorem mS_law_row : MonSp S_law_row := mon_SpP
abbrev N_law_row : List Str := ["_law_dish_here", "_law_most", "_law_many", "_law_kind", "_law_cards", "_law_k", "_law_way", "_law_turn", "_law_at"]
def w_law_row : TwS := (wSeq (wSet 2 (wOp (fI (· + ·)) (wC (.d (.int 1))) (wCall [0] 2 S_law_spoon (wCons (wVar 0) (wCons (wVar 1) wNil)))))
    (wSeq (wSet 3 (wCall [0] 2 S_law_spoon (wCons (wVar 0) (wCons (wC (.d (.int 3))) wNil))))
    (wSeq (wSet 4 (wLc (wIR1 (wCons (wVar 2) wNil)) (wNm 5) wYes (wIx (wLst (wCons (wVar 5) (wCons (wOp (fI (· + ·)) (wOp (fIc CMulW (· * ·)) (wOp (fIc CMulW (· * ·)) (wC (.d (.int 7))) (wVar 5)) (wVar 5)) (wC (.d (.int 3)))) (wCons (wOp (fI (· - ·)) (wC (.d (.int 999999999))) (wVar 5)) wNil)))) (wVar 3)) [5]))
    (wSeq (wSet 6 (wCall [0] 2 S_law_spoon (wCons (wVar 0) (wCons (wC (.d (.int 4))) wNil))))
    (wSeq (wIfS (wT (wOp (fB fun i j => decide (i < j)) (wVar 6) (wC (.d (.int 2))))) (wSeq (wDrop (wM isLst kRev (wVar 4) wNil))
    (wSeq (wFor (wIR1 (wCons (wOp (fIc CMulW (· * ·)) (wCall [0] 2 S_law_spoon (wCons (wVar 0) (wCons (wOp (fI (· + ·)) (wVar 2) (wC (.d (.int 1)))) wNil))) (wVar 6)) wNil)) (wNm 7) (wSeq (wSet 8 (wCall [0] 2 S_law_spoon (wCons (wVar 0) (wCons (wVar 2) wNil))))
    (wAsg (wRevS (wSl (wVar 4) (wPart (wVar 8)) (wPart (wOp (fI (· + ·)) (wVar 8) (wC (.d (.int 2))))))) (wClip (wVar 4) (wPart (wVar 8)) (wPart (wOp (fI (· + ·)) (wVar 8) (wC (.d (.int 2)))))))))
    (wRetV 4))) wNext)
    (wSeq (wIfS (wT (wOp (fEq) (wVar 6) (wC (.d (.int 2))))) (wRet (wLc (wIR1 (wCons (wVar 2) wNil)) (wNm 5) wYes (wM isLst kPopAt (wVar 4) (wCons (wCall [0] 2 S_law_spoon (wCons (wVar 0) (wCons (wFn kLen (wCons (wVar 4) wNil)) wNil))) wNil)) [5])) wNext)
    (wRet (wCat (wSl (wRevS (wVar 4)) wNoPart (wPart (wOp (fI (· + ·)) (wOp (fIc CDivW (· / ·)) (wVar 2) (wC (.d (.int 2)))) (wC (.d (.int 1)))))) (wSl (wVar 4) wNoPart (wPart (wOp (fI (· - ·)) (wOp (fI (· - ·)) (wVar 2) (wOp (fIc CDivW (· / ·)) (wVar 2) (wC (.d (.int 2))))) (wC (.d (.int 1))))))))))))))
theorem pl_law_row : PlD S_law_row w_law_row N_law_row := by
  rintro ts Q Ex ⟨⟨a, b, c, m, rfl, hp, m1, m2⟩, q⟩
  have fin : ∀ cs a' c' ρ, RowOk cs → (cs.length : Int) ≤ m → ρ[0]? = some (some (potT a' b c')) → 0 ≤ a' → c ≤ c' → c' ≤ c + 64 → Q (intL cs) ρ := fun cs a' c' ρ h hl e h1 h2 h3 => q _ _ fun a9 b9 c9 m9 e9 => by
    obtain ⟨rfl, rfl, rfl, rfl⟩ := potn_inj e9
    exact ⟨cs, rfl, h, hl, a', c', e, h1, h2, h3⟩
  obtain ⟨_, p2, p3, q4, q5⟩ := id hp
  unfold w_law_row
  repeat trivial
  refine xSpoon rfl hp (by decide) m1 (by omega) fun i1 a1 c1 i10 i11 hp1 c10 c11 => ?_
  repeat trivial
  refine xSpoon rfl hp1 (by decide) (by decide) (by decide) fun kd a2 c2 i20 i21 hp2 c20 c21 => ?_
  repeat trivial
  refine xIRK (by omega) (by omega) ?_
  have kd3 : ∀ k : Int, atI ([PyData.int k, .int (7 * k * k + 3), .int (999999999 - k)]) kd = some (.int (cdF kd k)) := fun k => by
    have h : kd = 0 ∨ kd = 1 ∨ kd = 2 := by omega
    rcases h with rfl | rfl | rfl <;> rfl
  have n1 : (1 + i1).toNat = (i1.toNat + 1) := by omega
  refine xLcM (fun _ => true) (fun x => match x with | .int z => .int (cdF kd z) | y => y) rfl (by rw [range_len]; omega) (by simp [rho0]) (fun x hx Y Z hY _ => ?_) ?_
  · obtain ⟨j, hj⟩ := List.mem_iff_getElem?.mp hx
    obtain ⟨hj1, rfl⟩ := range_get hj
    refine xYesT ⟨noNd1 rfl, xYes rfl ?_⟩
    repeat trivial
    refine xIc rfl rfl (cmul 20 20 (by decide) (by omega)) ?_
    repeat trivial
    refine xIc rfl rfl (cmul 20 20 (by omega) (by omega)) ?_
    repeat trivial
    refine xIxL (kd3 _) ?_
    exact ⟨noNd1 rfl, _, rfl, hY rfl⟩
  have ecd : ((List.filter (fun _ => true) (rangeD 0 (1 + i1).toNat)).map fun x => match x with | .int z => PyData.int (cdF kd z) | y => y) = (cdL kd (1 + i1).toNat).map PyData.int := by
    rw [List.filter_eq_self.mpr (fun _ _ => rfl)]
    unfold rangeD cdL
    rw [List.map_map, List.map_map]
    refine List.map_congr_left fun k _ => ?_
    show PyData.int (cdF kd (0 + (k : Nat))) = PyData.int (cdF kd (k : Nat))
    rw [Int.zero_add]
  rw [ecd]
  have ok : RowOk (cdL kd (1 + i1).toNat) := cdL_ok (by omega) (by omega)
  have cl : (cdL kd (1 + i1).toNat).length = (1 + i1).toNat := cdL_len
  generalize cdL kd (1 + i1).toNat = cs at ok cl
  clear ecd
  repeat trivial
  refine xSpoon rfl hp2 (by decide) (by decide) (by decide) fun wy a3 c3 i30 i31 hp3 c30 c31 => ?_
  obtain ⟨e31, _, _, e34, e35⟩ := id hp3
  repeat trivial
  refine xIte (fun h => ?_) fun h => ?_
  · have wy2 : wy < 2 := of_decide_eq_true h
    repeat trivial
    refine xRev rfl ?_
    repeat trivial
    refine xSpoon rfl hp3 (by decide) (by omega) (by omega) fun i4 a4 c4 i40 i41 hp4 c40 c41 => ?_
    repeat trivial
    refine xIc rfl rfl (cmul 20 20 (by omega) (by omega)) ?_
    repeat trivial
    have mlt : 0 ≤ i4 * wy ∧ i4 * wy ≤ 24 := by
      have h : wy = 0 ∨ wy = 1 := by omega
      rcases h with rfl | rfl
      · omega
      · omega
    refine xIRK (by omega) (by omega) ?_
    refine xFoK (fun i ρ2 => ∃ (a' c' : Int) (cs' : List Int) (o5 o7 o8 : Option PyData), ρ2 = [some (potT a' b c'), some (.d (.int m)), some (.d (.int (1 + i1))), some (.d (.int kd)), some (intL cs'), o5.map T.d, some (.d (.int wy)), o7.map T.d, o8.map T.d] ∧ cs'.Perm cs ∧ 0 ≤ a' ∧ c4 ≤ c' ∧ c' ≤ c4 + i) ⟨a4, c4, cs.reverse, none, none, none, by simp [intL, TX.putAt, putT, rho0], List.reverse_perm cs, hp4.1, by omega, by omega⟩ ?_ ?_
    · rintro i x ρ2 e ⟨a', c', cs', o5, o7, o8, rfl, pm, g1, g2, g3⟩
      obtain ⟨hi, rfl⟩ := range_get e
      have hlen := pm.length_eq
      refine xNm (noNd_o rfl) ?_
      repeat trivial
      refine xSpoon (k := 2) rfl ⟨g1, p2, p3, by omega, by omega⟩ (by decide) (by omega) (by omega) fun i5 a5 c5 i50 i51 hp5 c50 c51 => ?_
      repeat trivial
      have li5 : i5 < (cs'.map PyData.int).length := by simp; omega
      refine xSlK (allD_map _) ?_
      refine xRevK (allD_map _) ?_
      rw [cut_two i50 li5]
      refine xAsK (er_l _) ?_
      repeat trivial
      refine xClipK rfl i50 (by omega) (by omega) (by simp; exact Nat.le_of_lt (small1000 (by omega))) ?_
      refine ⟨a5, c5, cs'.take i5.toNat ++ ((cs'.drop i5.toNat).take 2).reverse ++ cs'.drop (i5.toNat + 2), o5, some (.int (0 + (i : Nat))), some (.int i5), ?_, (clip_perm cs' i5.toNat).trans pm, hp5.1, by omega, by omega⟩
      rw [show (i5 + 2).toNat = i5.toNat + 2 by omega]
      simp [intL, TX.putAt, putT, List.map_take, List.map_drop, List.map_reverse, List.map_append]
    · rintro ρ2 ⟨a', c', cs', o5, o7, o8, rfl, pm, g1, g2, g3⟩
      rw [range_len] at g3
      repeat trivial
      exact xRetV rfl ⟨rfl, fin cs' a' c' _ (rowOk_perm pm ok) (by rw [pm.length_eq, cl]; omega) rfl g1 (by omega) (by omega)⟩
  · have wy2 : ¬ wy < 2 := of_decide_eq_false h
    repeat trivial
    refine xIte (fun h2 => ?_) fun h2 => ?_
    · repeat trivial
      refine xIRK (by omega) (by omega) ?_
      refine ⟨noNd1 rfl, by rw [range_len]; omega, fun i acc ρ2 => ∃ (a' c' : Int) (out cs' : List Int), ρ2 = [some (potT a' b c'), some (.d (.int m)), some (.d (.int (1 + i1))), some (.d (.int kd)), some (intL cs'), none, some (.d (.int wy)), none, none] ∧ acc = out.map PyData.int ∧ (out ++ cs').Perm cs ∧ out.length = i ∧ 0 ≤ a' ∧ c3 ≤ c' ∧ c' ≤ c3 + i, ⟨a3, c3, [], cs, rfl, rfl, by simp, rfl, e31, by omega, by omega⟩, ?_, ?_⟩
      · rintro i x acc ρ2 e ⟨a', c', out, cs', rfl, rfl, pm, ol, g1, g2, g3⟩
        obtain ⟨hi, rfl⟩ := range_get e
        have hlen := pm.length_eq
        simp at hlen
        repeat trivial
        refine ⟨noNd1 rfl, xYes rfl ?_⟩
        repeat trivial
        refine xSpoon (k := 1) rfl ⟨g1, p2, p3, by omega, by omega⟩ (by decide) (by simp; omega) (by simp; omega) fun i5 a5 c5 i50 i51 hp5 c50 c51 => ?_
        simp at i51
        repeat trivial
        refine xPopI rfl i50 i51 (by omega) fun y hy => ?_
        refine ⟨noNd1 rfl, _, rfl, a5, c5, out ++ [y], cs'.eraseIdx i5.toNat, ?_, by simp, ?_, by simp; omega, hp5.1, by omega, by omega⟩
        · rfl
        · refine List.Perm.trans ?_ pm
          rw [List.append_assoc]
          exact (perm_pop hy).append_left out
      · rintro acc ρ2 ⟨a', c', out, cs', rfl, rfl, pm, ol, g1, g2, g3⟩
        rw [range_len] at ol g3
        have hlen := pm.length_eq
        simp at hlen
        have : cs' = [] := List.length_eq_zero_iff.mp (by omega)
        subst this
        rw [List.append_nil] at pm
        exact ⟨rfl, fin out a' c' _ (rowOk_perm pm ok) (by omega) rfl g1 (by omega) (by omega)⟩
    · repeat trivial
      refine xRevK (allD_map _) ?_
      rw [← List.map_reverse]
      repeat trivial
      refine xSlK (allD_map _) ?_
      rw [cut_to (by omega)]
      repeat trivial
      refine xSlK (allD_map _) ?_
      rw [cut_to (by omega)]
      have ek : (1 + i1 - (1 + i1) / 2 - 1).toNat = cs.length - ((1 + i1) / 2 + 1).toNat := by omega
      refine xCatK (allD_map _) (allD_map _) (by simp; exact Nat.le_of_lt (small1000 (by omega))) ?_
      rw [← List.map_append, ek]
      have pm := ends_perm cs ((1 + i1) / 2 + 1).toNat (by omega)
      exact ⟨rfl, fin _ a3 c3 _ (rowOk_perm pm ok) (by rw [pm.length_eq]; omega) rfl e31 (by omega) (by omega)⟩
theorem xRow {ρ : Rho} {Q : T → Rho → Prop} {E : ExK} {r : Nat} {a b c m k : Int} (hg : ρ[r]? = some (some (potT a b c))) (hp : Pot a b c k) (hk : 64 ≤ k) (hm : 1 ≤ m) (hm2 : m ≤ 24)
    (q : ∀ cs a' c', RowOk cs → (cs.length : Int) ≤ m → Pot a' b c' (k - 64) → c ≤ c' → c' ≤ c + 64 → Q (intL cs) (ρ.set r (some (potT a' b c')))) : caK [0] 2 S_law_row [.a r [], .d (.int m)] ρ Q E := by
  obtain ⟨h1, h2, h3, h4, h5⟩ := hp
  refine xCaF hg rfl rfl rfl rfl ⟨a, b, c, m, rfl, ⟨h1, h2, h3, h4, by omega⟩, hm, hm2⟩ fun u ρ' h => ?_
  obtain ⟨cs, rfl, i0, i1, a', c', e, g1, g2, g3⟩ := h a b c m rfl
  exact ⟨_, e, rfl, rfl, q cs a' c' i0 i1 ⟨g1, h2, h3, by omega, by omega⟩ g2 g3⟩
end LW.D

namespace LW.D
open PySem PySem.Spec L2 TX

local macro_rules | `(tactic| trivial) => `(tactic| with_reducible first
  | refine xSeq ?_ | refine xSet ?_ | refine xSetK (by with_unfolding_all rfl) ?_ | refine xNext ?_ | refine xIfS ?_ | refine xDrop ?_ | refine xRet ?_ | refine xAsg ?_ | refine xAsK (by with_unfolding_all rfl) ?_ | refine xSub ?_ | refine xSbK (by with_unfolding_all rfl) (by with_unfolding_all rfl) (by with_unfolding_all rfl) ?_
  | refine xVarD (by with_unfolding_all rfl) ?_ | refine xVarZ (by with_unfolding_all rfl) ?_ | refine xVarN (by with_unfolding_all rfl) (by with_unfolding_all rfl) ?_ | refine xC ?_ | refine xOp ?_ | refine xI (by with_unfolding_all rfl) (by with_unfolding_all rfl) ?_ | refine xB (by with_unfolding_all rfl) (by with_unfolding_all rfl) ?_ | refine xEqI (by with_unfolding_all rfl) (by with_unfolding_all rfl) ?_ | refine xNeI (by with_unfolding_all rfl) (by with_unfolding_all rfl) ?_ | refine xNeg ?_ | refine xNegK ?_
  | refine xIc (by with_unfolding_all rfl) (by with_unfolding_all rfl) (by with_unfolding_all first | omega | exact ⟨by decide, by decide +kernel⟩) ?_
  | refine xT ?_ | refine xTK ?_ | refine xNot ?_ | refine xAnd ?_ | refine xOr ?_ | refine xAndV ?_ | refine xOrV ?_ | refine xNotV ?_ | refine xBK ?_ | refine xIf ?_ | refine xCh ?_ | refine xCh1 (by with_unfolding_all rfl) (by with_unfolding_all rfl) ?_ | refine xCh2 (by with_unfolding_all rfl) (by with_unfolding_all rfl) ?_
  | refine xIx ?_ | refine xIxA (by with_unfolding_all rfl) (by with_unfolding_all rfl) (by with_unfolding_all rfl) ?_ | refine xNil ?_ | refine xCons ?_ | refine xFn ?_ | refine xLst ?_ | refine xLstK (by with_unfolding_all rfl) ?_ | refine xTup ?_ | refine xTupK (by with_unfolding_all rfl) ?_ | refine xLen (by with_unfolding_all rfl) ?_ | refine xMax (by with_unfolding_all rfl) (by with_unfolding_all rfl) ?_ | refine xMin (by with_unfolding_all rfl) (by with_unfolding_all rfl) ?_
  | refine xYes (by with_unfolding_all rfl) ?_ | refine xNo (by with_unfolding_all rfl) ?_ | refine xIs (by with_unfolding_all rfl) (by with_unfolding_all rfl) ?_ | refine xCall ?_ | refine xM ?_ | refine xMA (by with_unfolding_all rfl) ?_ | refine xMD ?_ | refine xLc ?_ | refine xFor ?_ | refine xILst ?_ | refine xILK (by with_unfolding_all rfl) ?_ | refine xIR1 ?_ | refine xIEn ?_ | refine xSl ?_ | refine xNoPart ?_ | refine xPart ?_ | refine xPartK ?_ | refine xRevS ?_ | refine xCat ?_ | refine xLenSet ?_
  | refine xNm (by with_unfolding_all rfl) ?_ | refine xGTup (by with_unfolding_all rfl) ?_ | refine xGsCons ?_ | refine xGsNil ?_ | refine xYesT ?_ | refine xDg1 ?_ | refine xDp1 ?_ | refine xDg2 ?_ | refine xDp2 ?_ | refine xPar ?_ | refine xPaK (by with_unfolding_all rfl) (by with_unfolding_all rfl) ?_ | refine xRevT ?_ | refine xRevTK ?_ | refine xDi1 ?_ | refine xDi2 ?_ | refine xITup ?_ | refine xITupK ?_ | refine xIZip ?_ | refine xIR2 ?_ | refine xIsNK (by with_unfolding_all rfl) ?_ | refine xRev2 ?_ | refine xListR ?_ | refine xSlT ?_ | refine xSlTK ?_ | refine xGt1 ?_ | refine xGt2 ?_ | refine xGtA (by with_unfolding_all rfl) ?_ | refine xGtD ?_ | refine xRep ?_ | refine xDcL ?_ | refine xDc ?_ | refine xDpl ?_ | refine xGe1 ?_ | refine xGe2 ?_ | refine xIe1 ?_ | refine xIe2 ?_ | refine xGLst (by with_unfolding_all rfl) ?_ | refine xIsB (by with_unfolding_all rfl) (by with_unfolding_all rfl) ?_ | refine xVarL (by with_unfolding_all rfl) ?_ | refine xIDc ?_ | refine xIDcK ?_ | refine xLc2 ?_ | refine xGd1 ?_ | refine xGd2 ?_ | refine xGdA (by with_unfolding_all rfl) ?_ | refine xGdD ?_ | refine xDcT ?_ | refine xClip ?_ | refine xAppD ?_ | refine xAppD11 ?_ | refine xAppD21 ?_ | refine xLi ?_ | refine xIEz ?_)

/-! ### the law's threes, whole histories, ways -/
def crF (cs : List Int) (p : I3) : Bool := decide (pos cs p.2.2 < pos cs p.2.1) && decide (pos cs p.2.1 < pos cs p.1)
theorem dt_eq (cs : List Int) : dt cs = (th (sI cs)).filter (crF cs) := rfl
theorem blk_cr (cs : List Int) (x y : Int) (zs : List Int) : ((p2 (y :: zs)).map fun p => (x, p.1, p.2)).filter (crF cs) = (if pos cs y < pos cs x then (zs.filter fun z => decide (pos cs z < pos cs y)).map (fun z => ((x, y, z) : I3)) else []) ++ ((p2 zs).map fun p => (x, p.1, p.2)).filter (crF cs) := by
  rw [show p2 (y :: zs) = zs.map (fun z => (y, z)) ++ p2 zs from rfl, List.map_append, List.filter_append]
  congr 1
  rw [List.map_map, List.filter_map]
  by_cases h : pos cs y < pos cs x
  · rw [if_pos h]
    congr 1
    refine List.filter_congr fun z _ => ?_
    simp [crF, h]
  · rw [if_neg h, List.filter_eq_nil_iff.mpr fun z _ => by simp [crF, h]]
    rfl
theorem blk_data (cs : List Int) (x y : Int) (zs : List Int) : ((List.filter (fun z => match z with | .int w => decide (pos cs w < pos cs y) | _ => false) (zs.map PyData.int)).map fun z => PyData.tuple [.int x, .int y, z]) = ((zs.filter fun z => decide (pos cs z < pos cs y)).map (fun z => ((x, y, z) : I3))).map tr3 := by
  rw [List.filter_map, List.map_map, List.map_map]; rfl
def S_law_threes : SpT := SpP (fun ts => ∃ cs, ts = [rowD cs] ∧ RowOk cs) fun ts t _ => ∀ cs, ts = [rowD cs] → t = tripL (dt cs)
theorem mS_law_threes : MonSp S_law_threes := mon_SpP
abbrev N_law_threes : List Str := ["_law_row_here", "_law_found", "_law_cards", "_law_at", "_law_x", "_law_to", "_law_y", "_law_z"]
def w_law_threes : TwS := (wSeq (wSet 1 (wLst wNil))
    (wSeq (wSet 2 (wFn kSort (wCons (wVar 0) wNil)))
    (wSeq (wFrz 2 (wFor (wIEn (wCons (wVar 2) wNil)) (wGTup 2 (wGsCons (wNm 3) (wGsCons (wNm 4) wGsNil))) (wFor (wIEn (wCons (wSl (wVar 2) (wPart (wOp (fI (· + ·)) (wVar 3) (wC (.d (.int 1))))) wNoPart) wNil)) (wGTup 2 (wGsCons (wNm 5) (wGsCons (wNm 6) wGsNil))) (wIfS (wT (wOp (fB fun i j => decide (i < j)) (wM isLst kIdx (wVar 0) (wCons (wVar 6) wNil)) (wM isLst kIdx (wVar 0) (wCons (wVar 4) wNil)))) (wDrop (wM isLst kExt (wVar 1) (wCons (wLc (wILst (wSl (wVar 2) (wPart (wOp (fI (· + ·)) (wOp (fI (· + ·)) (wVar 3) (wVar 5)) (wC (.d (.int 2))))) wNoPart)) (wNm 7) (wT (wOp (fB fun i j => decide (i < j)) (wM isLst kIdx (wVar 0) (wCons (wVar 7) wNil)) (wM isLst kIdx (wVar 0) (wCons (wVar 6) wNil)))) (wTup (wCons (wVar 4) (wCons (wVar 6) (wCons (wVar 7) wNil)))) [7]) wNil))) wNext))))
    (wRetV 1))))
theorem pl_law_threes : PlD S_law_threes w_law_threes N_law_threes := by
  rintro ts Q Ex ⟨⟨cs, rfl, ok⟩, q⟩
  have sl : (sI cs).length = cs.length := (sI_perm cs).length_eq
  have l24 : (sI cs).length ≤ 24 := by rw [sl]; exact ok.2.2.2
  have wl := Nat.le_trans (th_len (sI cs)) (len3 l24)
  have sm : ∀ z ∈ sI cs, z ∈ cs := fun z h => (sI_perm cs).mem_iff.mp h
  unfold w_law_threes
  repeat trivial
  refine xSort rfl (alike_ints _) (sortable_ints _) (depth_ints _) ?_
  rw [sortI]
  repeat trivial
  refine xFrz rfl (erase_intL (cs := sI cs)) ?_
  repeat trivial
  refine xIEK rfl ?_
  have fin : Q (tripL ((th (sI cs)).filter (crF cs))) = Q (tripL (dt cs)) := rfl
  generalize hs : sI cs = s at *
  have tl : ((th s).filter (crF cs)).length ≤ 13824 := Nat.le_trans (List.length_filter_le _ _) wl
  refine xFoK (fun i ρ => ∃ (fs : List I3) (o3 o4 o5 o6 : Option PyData), ρ = [some (rowD cs), some (tripL fs), some (rowD s), o3.map T.d, o4.map T.d, o5.map T.d, o6.map T.d, none] ∧ fs ++ (th (s.drop i)).filter (crF cs) = (th s).filter (crF cs)) ⟨[], none, none, none, none, rfl, rfl⟩ ?_ ?_
  · rintro i x ρ2 e ⟨fs, o3, o4, o5, o6, rfl, hf⟩
    obtain ⟨y, e1, rfl⟩ := enumD_get e
    rw [List.getElem?_map] at e1
    cases e2 : s[i]? with
    | none => rw [e2] at e1; cases e1
    | some x =>
      rw [e2] at e1; cases e1
      obtain ⟨hi, hci⟩ := List.getElem?_eq_some_iff.mp e2
      have hx : x ∈ cs := sm x (List.mem_of_getElem? e2)
      have hd : s.drop i = x :: s.drop (i + 1) := by rw [List.drop_eq_getElem_cons hi, hci]
      rw [hd, show th (x :: s.drop (i + 1)) = (p2 (s.drop (i + 1))).map (fun p => (x, p.1, p.2)) ++ th (s.drop (i + 1)) from rfl, List.filter_append] at hf
      have hlen := congrArg List.length hf
      simp only [List.length_append] at hlen
      repeat trivial
      refine xNm (noNd_o rfl) ?_
      repeat trivial
      refine xNm (noNd_o rfl) ?_
      repeat trivial
      refine xSlK rfl ?_
      rw [cut_from (by omega), show ((i : Int) + 1).toNat = i + 1 by omega]
      repeat trivial
      refine xIEK flat_map ?_
      refine xFoK (fun j ρ => ∃ (gs : List I3) (o5 o6 : Option PyData), ρ = [some (rowD cs), some (tripL gs), some (rowD s), some (.d (.int i)), some (.d (.int x)), o5.map T.d, o6.map T.d, none] ∧ gs ++ ((p2 (s.drop (i + 1 + j))).map (fun p => (x, p.1, p.2))).filter (crF cs) = fs ++ ((p2 (s.drop (i + 1))).map (fun p => (x, p.1, p.2))).filter (crF cs)) ⟨fs, o5, o6, rfl, rfl⟩ ?_ ?_
      · rintro j x' ρ2 e' ⟨gs, o5, o6, rfl, hg⟩
        obtain ⟨y, e3, rfl⟩ := enumD_get e'
        rw [List.getElem?_map, List.getElem?_drop] at e3
        cases e4 : s[i + 1 + j]? with
        | none => rw [e4] at e3; cases e3
        | some y =>
          rw [e4] at e3; cases e3
          obtain ⟨hj, hcj⟩ := List.getElem?_eq_some_iff.mp e4
          have hy : y ∈ cs := sm y (List.mem_of_getElem? e4)
          have hdj : s.drop (i + 1 + j) = y :: s.drop (i + 1 + j + 1) := by rw [List.drop_eq_getElem_cons hj, hcj]
          rw [hdj, blk_cr] at hg
          have hlen2 := congrArg List.length hg
          simp only [List.length_append] at hlen2
          repeat trivial
          refine xNm (noNd_o rfl) ?_
          repeat trivial
          refine xNm (noNd_o rfl) ?_
          repeat trivial
          refine xIdxI rfl rfl hy ?_
          repeat trivial
          refine xIdxI rfl rfl hx ?_
          repeat trivial
          refine xIte (fun h => ?_) fun h => ?_
          · have h' : pos cs y < pos cs x := by have := of_decide_eq_true h; omega
            rw [if_pos h'] at hg hlen2
            repeat trivial
            refine xSlK rfl ?_
            rw [cut_from (by omega), show ((i : Int) + j + 2).toNat = i + 1 + j + 1 by omega]
            refine xILK flat_map ?_
            refine xLcM (fun z => match z with | .int w => decide (pos cs w < pos cs y) | _ => false) (fun z => .tuple [.int x, .int y, z]) rfl (by simp; omega) (by simp) (fun z hz Y Z hY hZ => ?_) ?_
            · obtain ⟨z, hz2, rfl⟩ := List.mem_map.mp hz
              have hzc : z ∈ cs := sm z (List.mem_of_mem_drop hz2)
              repeat trivial
              refine xIdxI rfl rfl hzc ?_
              repeat trivial
              refine xIdxI rfl rfl hy ?_
              repeat trivial
              refine ⟨noNd1 rfl, xIte (fun h => ?_) fun h => hZ ?_⟩
              · repeat trivial
                refine ⟨noNd1 rfl, _, rfl, hY ?_⟩
                have := of_decide_eq_true h
                exact decide_eq_true (by omega)
              · have := of_decide_eq_false h
                exact decide_eq_false (by omega)
            · rw [blk_data]
              repeat trivial
              refine xExt rfl (allD_map _) ?_ ⟨gs ++ ((s.drop (i + 1 + j + 1)).filter fun z => decide (pos cs z < pos cs y)).map (fun z => ((x, y, z) : I3)), some (.int j), some (.int y), ?_, ?_⟩
              · simp only [List.length_map]
                exact lt16k (by simp only [List.length_map] at *; omega)
              · simp [tripL, TX.putAt, putT]
              · rw [List.append_assoc]; exact hg
          · have h' : ¬ pos cs y < pos cs x := by have := of_decide_eq_false h; omega
            rw [if_neg h', List.nil_append] at hg
            repeat trivial
            exact ⟨gs, some (.int j), some (.int y), rfl, hg⟩
      · rintro ρ2 ⟨gs, o5, o6, rfl, hg⟩
        rw [List.drop_of_length_le (by simp [enumD]; omega)] at hg
        refine ⟨gs, some (.int i), some (.int x), o5, o6, rfl, ?_⟩
        have hg' : gs = fs ++ ((p2 (s.drop (i + 1))).map (fun p => (x, p.1, p.2))).filter (crF cs) := by simpa [p2] using hg
        rw [hg', List.append_assoc]; exact hf
  · rintro ρ2 ⟨fs, o3, o4, o5, o6, rfl, hf⟩
    have hf' : fs = (th s).filter (crF cs) := by
      rw [List.drop_of_length_le (by simp [enumD])] at hf
      simpa [th] using hf
    subst hf'
    repeat trivial
    refine xRetV rfl ⟨rfl, ?_⟩
    rw [fin]
    exact q _ _ fun cs' e => by cases rowD1_inj e; rfl
theorem xThrees {ρ : Rho} {Q : T → Rho → Prop} {E : ExK} {cs : List Int} {ts : List T} {vu : Bool} (ok : RowOk cs) (h : argsF [] ρ vu 0 ts = some [rowD cs]) (ha : apartB ts = true) (q : Q (tripL (dt cs)) ρ) : caK [] 1 S_law_threes ts ρ Q E := by
  cases vu with
  | false => exact xCaP h rfl ha ⟨cs, rfl, ok⟩ fun t ρ' e => by rw [e cs rfl]; exact ⟨rfl, q⟩
  | true => exact xCaV h rfl ha ⟨cs, rfl, ok⟩ fun t ρ' e => by rw [e cs rfl]; exact ⟨by unfold tripL immT; exact imm_trs _, rfl, q⟩
end LW.D

namespace LW.D
open PySem PySem.Spec L2 TX

local macro_rules | `(tactic| trivial) => `(tactic| with_reducible first
  | refine xSeq ?_ | refine xSet ?_ | refine xSetK (by with_unfolding_all rfl) ?_ | refine xNext ?_ | refine xIfS ?_ | refine xDrop ?_ | refine xRet ?_ | refine xAsg ?_ | refine xAsK (by with_unfolding_all rfl) ?_ | refine xSub ?_ | refine xSbK (by with_unfolding_all rfl) (by with_unfolding_all rfl) (by with_unfolding_all rfl) ?_
  | refine xVarD (by with_unfolding_all rfl) ?_ | refine xVarZ (by with_unfolding_all rfl) ?_ | refine xVarN (by with_unfolding_all rfl) (by with_unfolding_all rfl) ?_ | refine xC ?_ | refine xOp ?_ | refine xI (by with_unfolding_all rfl) (by with_unfolding_all rfl) ?_ | refine xB (by with_unfolding_all rfl) (by with_unfolding_all rfl) ?_ | refine xEqI (by with_unfolding_all rfl) (by with_unfolding_all rfl) ?_ | refine xNeI (by with_unfolding_all rfl) (by with_unfolding_all rfl) ?_ | refine xNeg ?_ | refine xNegK ?_
  | refine xIc (by with_unfolding_all rfl) (by with_unfolding_all rfl) (by with_unfolding_all first | omega | exact ⟨by decide, by decide +kernel⟩) ?_
  | refine xT ?_ | refine xTK ?_ | refine xNot ?_ | refine xAnd ?_ | refine xOr ?_ | refine xAndV ?_ | refine xOrV ?_ | refine xNotV ?_ | refine xBK ?_ | refine xIf ?_ | refine xCh ?_ | refine xCh1 (by with_unfolding_all rfl) (by with_unfolding_all rfl) ?_ | refine xCh2 (by with_unfolding_all rfl) (by with_unfolding_all rfl) ?_
  | refine xIx ?_ | refine xIxA (by with_unfolding_all rfl) (by with_unfolding_all rfl) (by with_unfolding_all rfl) ?_ | refine xNil ?_ | refine xCons ?_ | refine xFn ?_ | refine xLst ?_ | refine xLstK (by with_unfolding_all rfl) ?_ | refine xTup ?_ | refine xTupK (by with_unfolding_all rfl) ?_ | refine xLen (by with_unfolding_all rfl) ?_ | refine xMax (by with_unfolding_all rfl) (by with_unfolding_all rfl) ?_ | refine xMin (by with_unfolding_all rfl) (by with_unfolding_all rfl) ?_
  | refine xYes (by with_unfolding_all rfl) ?_ | refine xNo (by with_unfolding_all rfl) ?_ | refine xIs (by with_unfolding_all rfl) (by with_unfolding_all rfl) ?_ | refine xCall ?_ | refine xM ?_ | refine xMA (by with_unfolding_all rfl) ?_ | refine xMD ?_ | refine xLc ?_ | refine xFor ?_ | refine xILst ?_ | refine xILK (by with_unfolding_all rfl) ?_ | refine xIR1 ?_ | refine xIEn ?_ | refine xSl ?_ | refine xNoPart ?_ | refine xPart ?_ | refine xPartK ?_ | refine xRevS ?_ | refine xCat ?_ | refine xLenSet ?_
  | refine xNm (by with_unfolding_all rfl) ?_ | refine xGTup (by with_unfolding_all rfl) ?_ | refine xGsCons ?_ | refine xGsNil ?_ | refine xYesT ?_ | refine xDg1 ?_ | refine xDp1 ?_ | refine xDg2 ?_ | refine xDp2 ?_ | refine xPar ?_ | refine xPaK (by with_unfolding_all rfl) (by with_unfolding_all rfl) ?_ | refine xRevT ?_ | refine xRevTK ?_ | refine xDi1 ?_ | refine xDi2 ?_ | refine xITup ?_ | refine xITupK ?_ | refine xIZip ?_ | refine xIR2 ?_ | refine xIsNK (by with_unfolding_all rfl) ?_ | refine xRev2 ?_ | refine xListR ?_ | refine xSlT ?_ | refine xSlTK ?_ | refine xGt1 ?_ | refine xGt2 ?_ | refine xGtA (by with_unfolding_all rfl) ?_ | refine xGtD ?_ | refine xRep ?_ | refine xDcL ?_ | refine xDc ?_ | refine xDpl ?_ | refine xGe1 ?_ | refine xGe2 ?_ | refine xIe1 ?_ | refine xIe2 ?_ | refine xGLst (by with_unfolding_all rfl) ?_ | refine xIsB (by with_unfolding_all rfl) (by with_unfolding_all rfl) ?_ | refine xVarL (by with_unfolding_all rfl) ?_ | refine xIDc ?_ | refine xIDcK ?_ | refine xLc2 ?_ | refine xGd1 ?_ | refine xGd2 ?_ | refine xGdA (by with_unfolding_all rfl) ?_ | refine xGdD ?_ | refine xDcT ?_ | refine xClip ?_ | refine xAppD ?_ | refine xAppD11 ?_ | refine xAppD21 ?_ | refine xLi ?_ | refine xIEz ?_)

/-! ### whole histories -/
def Whole (cs : List Int) (hs : List (Int × Int)) : Prop := ledL cs (hs.map pr) = some (sI cs)
theorem swap_at {r : List Int} {k : Nat} (ok : RowOk r) (h : k + 1 < r.length) (hd : r.getD (k + 1) 0 < r.getD k 0) :
    mayD r (pr (r.getD (k + 1) 0, r.getD k 0)) = true ∧ swD r (pr (r.getD (k + 1) 0, r.getD k 0)) = r.take k ++ [r.getD (k + 1) 0, r.getD k 0] ++ r.drop (k + 2) := by
  have hk : k < r.length := by omega
  have e1 : r.getD k 0 = r[k] := by rw [List.getD_eq_getElem?_getD, List.getElem?_eq_getElem hk]; rfl
  have e2 : r.getD (k + 1) 0 = r[k + 1] := by rw [List.getD_eq_getElem?_getD, List.getElem?_eq_getElem h]; rfl
  rw [e1, e2] at hd ⊢
  have sp : r = r.take k ++ r[k] :: r[k + 1] :: r.drop (k + 2) := by
    conv => lhs; rw [← List.take_append_drop k r, List.drop_eq_getElem_cons hk, List.drop_eq_getElem_cons h]
  have c1 := ok.1 _ (List.getElem_mem hk)
  have c2 := ok.1 _ (List.getElem_mem h)
  have nb : r[k] ∉ r.take k := fun z => by
    have nd : (r.take k ++ r[k] :: r[k + 1] :: r.drop (k + 2)).Nodup := by rw [← sp]; exact ok.2.1
    exact (List.nodup_append.mp nd).2.2 _ z _ List.mem_cons_self rfl
  refine ⟨mayD_pr.mpr ⟨⟨by omega, by omega⟩, (may_iff ok.2.1).mpr ⟨hd, _, _, sp⟩⟩, ?_⟩
  rw [swD_pr]
  have := sw_eq (u := r.take k) (v := r.drop (k + 2)) (a := r[k + 1]) (b := r[k]) nb
  rw [← sp] at this
  rw [this]
  simp
theorem sorted_of_nx : ∀ {r : List Int}, nx r = [] → r.Nodup → r.Pairwise (· < ·)
  | [], _, _ => List.Pairwise.nil
  | [x], _, _ => List.pairwise_singleton ..
  | b :: a :: r, h, nd => by
    unfold nx at h
    by_cases c : a < b
    · rw [if_pos c] at h; cases h
    · rw [if_neg c] at h
      have nd2 := List.nodup_cons.mp nd
      have ih := sorted_of_nx h nd2.2
      have hba : b < a := by
        have : b ≠ a := fun e => nd2.1 (by rw [e]; exact List.mem_cons_self)
        omega
      rw [List.pairwise_cons]
      refine ⟨fun z hz => ?_, ih⟩
      rcases List.mem_cons.mp hz with rfl | hz
      · exact hba
      · have := (List.pairwise_cons.mp ih).1 z hz
        omega
theorem whole_of {cs r : List Int} {hs : List (Int × Int)} (ok : RowOk cs) (h : ledL cs (hs.map pr) = some r) (n : nx r = []) : Whole cs hs := by
  obtain ⟨okr, pm⟩ := ledL_ok ok h
  unfold Whole
  rw [h]
  congr 1
  exact List.Perm.eq_of_pairwise (le := fun a b => a < b) (fun a b _ _ h1 h2 => by omega) (sorted_of_nx n okr.2.1) (sI_sorted cs ok.2.1) (pm.trans (sI_perm cs).symm)
theorem nx_of_long {cs r : List Int} {hs : List (Int × Int)} (ok : RowOk cs) (h : ledL cs (hs.map pr) = some r) (l : cs.length * cs.length ≤ hs.length) : nx r = [] := by
  have wc := wrong_count ok h
  have dl := dp_len cs (sI cs)
  have sl : (sI cs).length = cs.length := (sI_perm cs).length_eq
  rw [sl] at dl
  have z : dp r (sI r) = [] := List.length_eq_zero_iff.mp (by omega)
  obtain ⟨okr, _⟩ := ledL_ok ok h
  refine List.eq_nil_iff_forall_not_mem.mpr fun p hp => ?_
  obtain ⟨h1, u, v, e⟩ := nx_mem.mp hp
  have : p ∈ dp r (sI r) := (wrong_iff okr).mpr (by
    have nd := okr.2.1
    have n2 : p.2 ∉ u := fun z => by rw [e] at nd; exact (List.nodup_append.mp nd).2.2 _ z _ (by simp) rfl
    have n1 : p.1 ∉ u := fun z => by rw [e] at nd; exact (List.nodup_append.mp nd).2.2 _ z _ (by simp) rfl
    refine ⟨by rw [e]; simp, by rw [e]; simp, h1, ?_⟩
    have ne : p.2 ≠ p.1 := by omega
    rw [e, pos_app n2, pos_if, if_neg n1]
    simp [pos, ne])
  rw [z] at this
  cases this
def sp (r : List Int) : List Int := ((List.range (r.length - 1)).filter fun i => decide (r.getD (i + 1) 0 < r.getD i 0)).map fun i => ((i : Nat) : Int)
theorem sp_data (r : List Int) : ((List.filter (nrf r) (rangeD 0 (r.length - 1))).map fun x => x) = (sp r).map PyData.int := by
  unfold sp rangeD
  rw [List.map_id', List.filter_map, List.map_map]
  congr 1
  · funext i; simp
  · refine List.filter_congr fun i _ => ?_
    simp only [Function.comp, nrf, Int.zero_add, Int.toNat_natCast]
    rw [show ((i : Nat) : Int) + 1 = ((i + 1 : Nat) : Int) by omega, Int.toNat_natCast]
theorem sp_mem {r : List Int} {w : Int} (h : w ∈ sp r) : ∃ k : Nat, w = k ∧ k + 1 < r.length ∧ r.getD (k + 1) 0 < r.getD k 0 := by
  obtain ⟨i, hi, rfl⟩ := List.mem_map.mp h
  obtain ⟨h1, h2⟩ := List.mem_filter.mp hi
  have := List.mem_range.mp h1
  exact ⟨i, rfl, by omega, of_decide_eq_true h2⟩
theorem sp_len (r : List Int) : (sp r).length ≤ r.length := by
  unfold sp
  rw [List.length_map]
  exact Nat.le_trans (List.length_filter_le _ _) (by simp)
theorem sp_nil {r : List Int} (h : sp r = []) : nx r = [] := by
  have e := nx_range r []
  simp only [List.nil_append, List.length_nil, Int.ofNat_zero, Int.natCast_zero] at e
  have s := sp_data r
  rw [h, List.map_id', List.map_nil] at s
  rw [s] at e
  exact List.map_eq_nil_iff.mp e.symm
theorem led_snoc {cs r : List Int} {hs : List (Int × Int)} {p : Int × Int} (h : ledL cs (hs.map pr) = some r) (m : mayD r (pr p) = true) : ledL cs ((hs ++ [p]).map pr) = some (swD r (pr p)) := by
  rw [List.map_append, ledL_app, h]
  simp only [Option.bind_some, List.map_cons, List.map_nil, ledL]
  rw [if_pos m]
def S_law_gone : SpT := SpP (fun ts => ∃ a b c cs, ts = [potT a b c, rowD cs] ∧ Pot a b c 600 ∧ RowOk cs) fun ts t ρ => ∀ a b c cs, ts = [potT a b c, rowD cs] → ∃ hs, t = pairL hs ∧ Whole cs hs ∧ PotTo 600 a b c ρ
theorem mS_law_gone : MonSp S_law_gone := mon_SpP
def ol (o : Option (List PyData)) : Option T := o.map fun ds => .l (ds.map T.d)
abbrev N_law_gone : List Str := ["_law_dish_here", "_law_row_here", "_law_here", "_law_found", "_law_turn", "_law_spots", "_law_at"]
def w_law_gone : TwS := (wSeq (wPar 2 3 (wCons (wFn kList (wCons (wVar 1) wNil)) (wCons (wLst wNil) wNil)))
    (wSeq (wFor (wIR1 (wCons (wOp (fIc CMulW (· * ·)) (wFn kLen (wCons (wVar 1) wNil)) (wFn kLen (wCons (wVar 1) wNil))) wNil)) (wNm 4) (wSeq (wSet 5 (wLc (wIR1 (wCons (wOp (fI (· - ·)) (wFn kLen (wCons (wVar 2) wNil)) (wC (.d (.int 1)))) wNil)) (wNm 6) (wT (wOp (fB fun i j => decide (j < i)) (wIx (wVar 2) (wVar 6)) (wIx (wVar 2) (wOp (fI (· + ·)) (wVar 6) (wC (.d (.int 1))))))) (wVar 6) [6]))
    (wIfS (wT (wOp (fNe) (wVar 5) (wLst wNil))) (wSeq (wSet 6 (wIx (wVar 5) (wCall [0] 2 S_law_spoon (wCons (wVar 0) (wCons (wFn kLen (wCons (wVar 5) wNil)) wNil)))))
    (wSeq (wDrop (wM isLst kApp (wVar 3) (wCons (wTup (wCons (wIx (wVar 2) (wOp (fI (· + ·)) (wVar 6) (wC (.d (.int 1))))) (wCons (wIx (wVar 2) (wVar 6)) wNil))) wNil)))
    (wAsg (wLst (wCons (wIx (wVar 2) (wOp (fI (· + ·)) (wVar 6) (wC (.d (.int 1))))) (wCons (wIx (wVar 2) (wVar 6)) wNil))) (wClip (wVar 2) (wPart (wVar 6)) (wPart (wOp (fI (· + ·)) (wVar 6) (wC (.d (.int 2))))))))) wNext)))
    (wRetV 3)))
theorem pl_law_gone : PlD S_law_gone w_law_gone N_law_gone := by
  rintro ts Q Ex ⟨⟨a, b, c, cs, rfl, hp, ok⟩, q⟩
  have l24 := ok.2.2.2
  have l576 : cs.length * cs.length ≤ 24 * 24 := Nat.mul_le_mul l24 l24
  obtain ⟨p1, p2, p3, p4, p5⟩ := id hp
  unfold w_law_gone
  repeat trivial
  refine xList rfl ?_
  repeat trivial
  refine xIc rfl rfl (cmul 20 20 (by simp; omega) (by simp; omega)) ?_
  repeat trivial
  have eI : ((cs.map PyData.int).length : Int) * ((cs.map PyData.int).length : Int) = ((cs.length * cs.length : Nat) : Int) := by simp
  rw [eI]
  refine xIRK (by omega) (by omega) ?_
  rw [Int.toNat_natCast]
  refine xFoK (fun i ρ2 => ∃ (a' c' : Int) (r : List Int) (hs : List (Int × Int)) (o4 o6 : Option PyData) (o5 : Option (List PyData)), ρ2 = [some (potT a' b c'), some (rowD cs), some (intL r), some (pairL hs), o4.map T.d, ol o5, o6.map T.d] ∧ 0 ≤ a' ∧ c ≤ c' ∧ c' ≤ c + i ∧ ledL cs (hs.map pr) = some r ∧ (i ≤ hs.length ∨ nx r = [])) ⟨a, c, cs, [], none, none, none, rfl, p1, by omega, by omega, rfl, .inl (Nat.zero_le _)⟩ ?_ ?_
  · rintro i x ρ2 e ⟨a', c', r, hs, o4, o6, o5, rfl, g1, g2, g3, led, st⟩
    obtain ⟨hi, rfl⟩ := range_get e
    obtain ⟨okr, pm⟩ := ledL_ok ok led
    have lr := pm.length_eq
    have hl := led_len ok led
    refine xNm (noNd_o rfl) ?_
    repeat trivial
    refine xIRK (by simp; omega) (by simp; omega) ?_
    rw [show ((((r.map PyData.int).map T.d).length : Int) - 1).toNat = r.length - 1 by rw [List.length_map, List.length_map]; omega]
    refine xLcM (nrf r) (fun x => x) (noNd_o rfl) (by rw [range_len]; omega) (by simp) (fun x hx Y Z hY hZ => ?_) ?_
    · obtain ⟨k, hk⟩ := List.getElem?_of_mem hx
      obtain ⟨hk, rfl⟩ := range_get hk
      have z1 : (0 + (k : Nat) : Int) = (k : Nat) := by omega
      rw [z1] at hY hZ ⊢
      have z2 : (((k : Nat) : Int) + 1).toNat = k + 1 := by omega
      have z3 : (((k : Nat) : Int)).toNat = k := by omega
      simp only [nrf, z2, z3] at hY hZ
      repeat trivial
      refine xIxAL rfl (get_at (by omega)) ?_
      repeat trivial
      refine xIxAL rfl (by rw [show ((k : Nat) : Int) + 1 = ((k + 1 : Nat) : Int) by omega]; exact get_at (by omega)) ?_
      repeat trivial
      refine ⟨noNd1 rfl, xIte (fun h => ?_) fun h => hZ h⟩
      repeat trivial
      exact ⟨noNd1 rfl, _, rfl, hY h⟩
    rw [sp_data]
    have sl := sp_len r
    repeat trivial
    refine xNeL (by exact er_l _) (show vw _ (.l []) = some (.list (([] : List Int).map PyData.int)) from rfl) ?_
    repeat trivial
    refine xIte (fun h2 => ?_) fun h2 => ?_
    · have ne : sp r ≠ [] := by simpa using h2
      have nl : 0 < (sp r).length := List.length_pos_iff.mpr ne
      repeat trivial
      refine xSpoon (k := 1) rfl ⟨g1, p2, p3, by omega, by omega⟩ (by decide) (by simp; omega) (by simp; omega) fun i5 a5 c5 i50 i51 hp5 c50 c51 => ?_
      obtain ⟨w, hw, ew⟩ := pickI (cs := sp r) i50 (by simpa using i51)
      obtain ⟨k, rfl, hk, hd⟩ := sp_mem hw
      obtain ⟨may, swe⟩ := swap_at okr hk hd
      refine xIxAL rfl ew ?_
      repeat trivial
      have k1 : ((k : Nat) : Int) + 1 = ((k + 1 : Nat) : Int) := by omega
      refine xIxAL rfl (by rw [k1]; exact get_at hk) ?_
      repeat trivial
      refine xIxAL rfl (get_at (by omega)) ?_
      repeat trivial
      refine xApp (ds := hs.map pr) rfl rfl (small1000 (by simp; omega)) ?_
      repeat trivial
      refine xIxAL rfl (by rw [k1]; exact get_at hk) ?_
      repeat trivial
      refine xIxAL rfl (get_at (by omega)) ?_
      repeat trivial
      refine xClipK (ds := r.map PyData.int) rfl (by omega) (by omega) (by simp; omega) (by simp; exact Nat.le_of_lt (small1000 (by omega))) ?_
      refine ⟨a5, c5, swD r (pr (r.getD (k + 1) 0, r.getD k 0)), hs ++ [(r.getD (k + 1) 0, r.getD k 0)], some (.int (0 + (i : Nat))), some (.int (k : Nat)), some ((sp r).map PyData.int), ?_, hp5.1, by omega, by omega, led_snoc led may, ?_⟩
      · rw [swe, show (((k : Nat) : Int) + 2).toNat = k + 2 by omega, Int.toNat_natCast]
        simp [intL, pairL, ol, TX.putAt, putT, List.map_take, List.map_drop, List.map_append, pr]
      · rcases st with st | st
        · exact .inl (by rw [List.length_append, List.length_singleton]; omega)
        · exfalso
          have := (may_nxs okr).mp may
          rw [nxs_mem, st] at this
          cases this
    · have e0 : sp r = [] := by simpa using h2
      repeat trivial
      exact ⟨a', c', r, hs, some (.int (0 + (i : Nat))), o6, some ((sp r).map PyData.int), rfl, g1, g2, by omega, led, .inr (sp_nil e0)⟩
  · rintro ρ2 ⟨a', c', r, hs, o4, o6, o5, rfl, g1, g2, g3, led, st⟩
    rw [range_len] at g3 st
    repeat trivial
    refine xRetV rfl ⟨rfl, q _ _ fun a9 b9 c9 cs9 e9 => ?_⟩
    simp only [List.cons.injEq, and_true] at e9
    obtain ⟨rfl, rfl, rfl⟩ := pot_inj e9.1
    cases rowD_inj e9.2
    refine ⟨hs, rfl, whole_of ok led ?_, a', c', rfl, g1, g2, by omega⟩
    rcases st with st | st
    · exact nx_of_long ok led st
    · exact st
end LW.D

namespace LW.D
open PySem PySem.Spec L2 TX

local macro_rules | `(tactic| trivial) => `(tactic| with_reducible first
  | refine xSeq ?_ | refine xSet ?_ | refine xSetK (by with_unfolding_all rfl) ?_ | refine xNext ?_ | refine xIfS ?_ | refine xDrop ?_ | refine xRet ?_ | refine xAsg ?_ | refine xAsK (by with_unfolding_all rfl) ?_ | refine xSub ?_ | refine xSbK (by with_unfolding_all rfl) (by with_unfolding_all rfl) (by with_unfolding_all rfl) ?_
  | refine xVarD (by with_unfolding_all rfl) ?_ | refine xVarZ (by with_unfolding_all rfl) ?_ | refine xVarN (by with_unfolding_all rfl) (by with_unfolding_all rfl) ?_ | refine xC ?_ | refine xOp ?_ | refine xI (by with_unfolding_all rfl) (by with_unfolding_all rfl) ?_ | refine xB (by with_unfolding_all rfl) (by with_unfolding_all rfl) ?_ | refine xEqI (by with_unfolding_all rfl) (by with_unfolding_all rfl) ?_ | refine xNeI (by with_unfolding_all rfl) (by with_unfolding_all rfl) ?_ | refine xNeg ?_ | refine xNegK ?_
  | refine xIc (by with_unfolding_all rfl) (by with_unfolding_all rfl) (by with_unfolding_all first | omega | exact ⟨by decide, by decide +kernel⟩) ?_
  | refine xT ?_ | refine xTK ?_ | refine xNot ?_ | refine xAnd ?_ | refine xOr ?_ | refine xAndV ?_ | refine xOrV ?_ | refine xNotV ?_ | refine xBK ?_ | refine xIf ?_ | refine xCh ?_ | refine xCh1 (by with_unfolding_all rfl) (by with_unfolding_all rfl) ?_ | refine xCh2 (by with_unfolding_all rfl) (by with_unfolding_all rfl) ?_
  | refine xIx ?_ | refine xIxA (by with_unfolding_all rfl) (by with_unfolding_all rfl) (by with_unfolding_all rfl) ?_ | refine xNil ?_ | refine xCons ?_ | refine xFn ?_ | refine xLst ?_ | refine xLstK (by with_unfolding_all rfl) ?_ | refine xTup ?_ | refine xTupK (by with_unfolding_all rfl) ?_ | refine xLen (by with_unfolding_all rfl) ?_ | refine xMax (by with_unfolding_all rfl) (by with_unfolding_all rfl) ?_ | refine xMin (by with_unfolding_all rfl) (by with_unfolding_all rfl) ?_
  | refine xYes (by with_unfolding_all rfl) ?_ | refine xNo (by with_unfolding_all rfl) ?_ | refine xIs (by with_unfolding_all rfl) (by with_unfolding_all rfl) ?_ | refine xCall ?_ | refine xM ?_ | refine xMA (by with_unfolding_all rfl) ?_ | refine xMD ?_ | refine xLc ?_ | refine xFor ?_ | refine xILst ?_ | refine xILK (by with_unfolding_all rfl) ?_ | refine xIR1 ?_ | refine xIEn ?_ | refine xSl ?_ | refine xNoPart ?_ | refine xPart ?_ | refine xPartK ?_ | refine xRevS ?_ | refine xCat ?_ | refine xLenSet ?_
  | refine xNm (by with_unfolding_all rfl) ?_ | refine xGTup (by with_unfolding_all rfl) ?_ | refine xGsCons ?_ | refine xGsNil ?_ | refine xYesT ?_ | refine xDg1 ?_ | refine xDp1 ?_ | refine xDg2 ?_ | refine xDp2 ?_ | refine xPar ?_ | refine xPaK (by with_unfolding_all rfl) (by with_unfolding_all rfl) ?_ | refine xRevT ?_ | refine xRevTK ?_ | refine xDi1 ?_ | refine xDi2 ?_ | refine xITup ?_ | refine xITupK ?_ | refine xIZip ?_ | refine xIR2 ?_ | refine xIsNK (by with_unfolding_all rfl) ?_ | refine xRev2 ?_ | refine xListR ?_ | refine xSlT ?_ | refine xSlTK ?_ | refine xGt1 ?_ | refine xGt2 ?_ | refine xGtA (by with_unfolding_all rfl) ?_ | refine xGtD ?_ | refine xRep ?_ | refine xDcL ?_ | refine xDc ?_ | refine xDpl ?_ | refine xGe1 ?_ | refine xGe2 ?_ | refine xIe1 ?_ | refine xIe2 ?_ | refine xGLst (by with_unfolding_all rfl) ?_ | refine xIsB (by with_unfolding_all rfl) (by with_unfolding_all rfl) ?_ | refine xVarL (by with_unfolding_all rfl) ?_ | refine xIDc ?_ | refine xIDcK ?_ | refine xLc2 ?_ | refine xGd1 ?_ | refine xGd2 ?_ | refine xGdA (by with_unfolding_all rfl) ?_ | refine xGdD ?_ | refine xDcT ?_ | refine xClip ?_ | refine xAppD ?_ | refine xAppD11 ?_ | refine xAppD21 ?_ | refine xLi ?_ | refine xIEz ?_)

/-! ### the ways of a whole history -/
def lowS : Str := "low"
def highS : Str := "high"
def k3 (p : I3) : List Key := [.inl p.1, .inl p.2.1, .inl p.2.2]
def telKV (ws : List (I3 × Str)) : List (List Key × PyData) := ws.map fun p => (k3 p.1, .str p.2)
def telD (ws : List (I3 × Str)) : PyData := .dict (ws.map fun p => (tr3 p.1, .str p.2))
theorem k3_inj {p q : I3} (h : k3 p = k3 q) : p = q := by
  obtain ⟨a, b, c⟩ := p
  obtain ⟨a', b', c'⟩ := q
  simp only [k3, List.cons.injEq, Sum.inl.injEq, and_true] at h
  obtain ⟨rfl, rfl, rfl⟩ := h
  rfl
theorem putD_new {κ : Type} [DecidableEq κ] {kvs : List (κ × PyData)} {k : κ} {x : PyData} (h : ∀ q ∈ kvs, q.1 ≠ k) : putD kvs k x = kvs ++ [(k, x)] := by
  unfold putD
  rw [if_neg]
  rw [List.any_eq_true]
  rintro ⟨q, hq, e⟩
  exact h q hq (of_decide_eq_true e)
theorem dt_pair {cs : List Int} (ok : RowOk cs) : (dt cs).Pairwise ltT := (th_sorted (sI_sorted cs ok.2.1)).filter _
theorem ltT_ne {p q : I3} (h : ltT p q) : p ≠ q := fun e => by subst e; unfold ltT at h; omega
theorem dt_nodup {cs : List Int} (ok : RowOk cs) : (dt cs).Nodup := (dt_pair ok).imp fun h => ltT_ne h
def wayH (hs : List (Int × Int)) (p : I3) : Str := if pidx hs (p.1, p.2.1) < pidx hs (p.2.1, p.2.2) then lowS else highS
def tellOf (cs : List Int) (hs : List (Int × Int)) : List (I3 × Str) := (dt cs).map fun p => (p, wayH hs p)
theorem nx_sorted : ∀ {r : List Int}, r.Pairwise (· < ·) → nx r = []
  | [], _ => rfl
  | [x], _ => rfl
  | b :: a :: r, h => by
    have h2 := List.pairwise_cons.mp h
    unfold nx
    rw [if_neg (by have := h2.1 a List.mem_cons_self; omega)]
    exact nx_sorted h2.2
theorem whole_mem {cs : List Int} {hs : List (Int × Int)} (ok : RowOk cs) (w : Whole cs hs) {x y : Int} (hx : x ∈ cs) (hy : y ∈ cs) (hxy : x < y) (h : pos cs y < pos cs x) : (x, y) ∈ hs := by
  refine whole_some ok w ?_ hx hy hxy h
  unfold nxs
  rw [nx_sorted (sI_sorted cs ok.2.1), List.mergeSort_nil]
theorem whole_outer {cs : List Int} {hs : List (Int × Int)} (ok : RowOk cs) (w : Whole cs hs) {p : I3} (h : p ∈ dt cs) : (p.1, p.2.1) ∈ hs ∧ (p.2.1, p.2.2) ∈ hs := by
  obtain ⟨⟨h1, h2, h3⟩, l1, l2, w1, w2⟩ := (dt_iff ok).mp h
  exact ⟨whole_mem ok w h1 h2 l1 w1, whole_mem ok w h2 h3 l2 w2⟩
theorem dt_len {cs : List Int} (ok : RowOk cs) : (dt cs).length ≤ 13824 := by
  have sl : (sI cs).length = cs.length := (sI_perm cs).length_eq
  exact Nat.le_trans (List.length_filter_le _ _) (Nat.le_trans (th_len (sI cs)) (len3 (by rw [sl]; exact ok.2.2.2)))
theorem xIntB {ρ : Rho} {Q : T → Rho → Prop} {t : T} {b : Bool} (h1 : vw ρ t = some (.bool b)) (q : Q (.d (.int (if b then 1 else 0))) ρ) : k1 fInt [t] ρ Q := ⟨t, _, _, rfl, h1, .inr ⟨b, rfl, rfl⟩, q⟩
def S_law_ways : SpT := SpP (fun ts => ∃ cs hs, ts = [rowD cs, .d (pairsD hs)] ∧ RowOk cs ∧ Whole cs hs) fun ts t _ => ∀ cs hs, ts = [rowD cs, .d (pairsD hs)] → t = mK2 (telKV (tellOf cs hs))
theorem mS_law_ways : MonSp S_law_ways := mon_SpP
abbrev N_law_ways : List Str := ["_law_row_here", "_law_done", "_law_found", "_law_x", "_law_y", "_law_z"]
def w_law_ways : TwS := (wSeq (wSet 2 (wC (mK2 [])))
    (wSeq (wFor (wILst (wCall [] 1 S_law_threes (wCons (wVar 0) wNil))) (wGTup 3 (wGsCons (wNm 3) (wGsCons (wNm 4) (wGsCons (wNm 5) wGsNil)))) (wAsg (wIx (wLst (wCons (wC (.d (.str "high"))) (wCons (wC (.d (.str "low"))) wNil))) (wFn (k1 fInt) (wCons (wOp (fB fun i j => decide (i < j)) (wM isLst kIdx (wVar 1) (wCons (wTup (wCons (wVar 3) (wCons (wVar 4) wNil))) wNil)) (wM isLst kIdx (wVar 1) (wCons (wTup (wCons (wVar 4) (wCons (wVar 5) wNil))) wNil))) wNil))) (wDp2 (wVar 2) (wTup (wCons (wVar 3) (wCons (wVar 4) (wCons (wVar 5) wNil)))))))
    (wRetV 2)))
theorem pl_law_ways : PlD S_law_ways w_law_ways N_law_ways := by
  rintro ts Q Ex ⟨⟨cs, hs, rfl, ok, wh⟩, q⟩
  have dl := dt_len ok
  unfold w_law_ways
  repeat trivial
  refine xThrees (vu := true) ok rfl rfl ?_
  repeat trivial
  refine xILK flat_map ?_
  refine xFoK (fun i ρ2 => ∃ (o3 o4 o5 : Option PyData), ρ2 = [some (rowD cs), some (.d (pairsD hs)), some (mK2 (telKV ((tellOf cs hs).take i))), o3.map T.d, o4.map T.d, o5.map T.d]) ⟨none, none, none, rfl⟩ ?_ ?_
  · rintro i x ρ2 e ⟨o3, o4, o5, rfl⟩
    rw [List.getElem?_map] at e
    cases e2 : (dt cs)[i]? with
    | none => rw [e2] at e; cases e
    | some p =>
      rw [e2] at e; cases e
      obtain ⟨hi, hp⟩ := List.getElem?_eq_some_iff.mp e2
      obtain ⟨m1, m2⟩ := whole_outer ok wh (List.mem_of_getElem? e2)
      have tk : (tellOf cs hs).take (i + 1) = (tellOf cs hs).take i ++ [(p, wayH hs p)] := by
        unfold tellOf
        rw [List.take_succ, List.getElem?_map, e2]; rfl
      have nk : ∀ q ∈ telKV ((tellOf cs hs).take i), q.1 ≠ k3 p := fun q hq z => by
        unfold telKV tellOf at hq
        obtain ⟨w, hw, rfl⟩ := List.mem_map.mp hq
        rw [← List.map_take] at hw
        obtain ⟨p', hp', rfl⟩ := List.mem_map.mp hw
        have := k3_inj z
        subst this
        have nd := dt_nodup ok
        rw [← List.take_append_drop i (dt cs), List.drop_eq_getElem_cons hi, hp] at nd
        exact (List.nodup_append.mp nd).2.2 _ hp' _ List.mem_cons_self rfl
      unfold tr3
      repeat trivial
      refine xNm (noNd_o rfl) ?_
      repeat trivial
      refine xNm (noNd_o rfl) ?_
      repeat trivial
      refine xNm (noNd_o rfl) ?_
      repeat trivial
      refine xIdxP rfl rfl m1 ?_
      repeat trivial
      refine xIdxP rfl rfl m2 ?_
      repeat trivial
      refine xIntB rfl ?_
      refine xIxL (x := .str (wayH hs p)) ?_ ?_
      · unfold wayH
        by_cases h : pidx hs (p.1, p.2.1) < pidx hs (p.2.1, p.2.2)
        · have h' : pidx hs (p.1, p.2.1) < pidx hs p.2 := h
          rw [if_pos h, decide_eq_true (by omega)]; rfl
        · have h' : ¬ pidx hs (p.1, p.2.1) < pidx hs p.2 := h
          rw [if_neg h, decide_eq_false (by omega)]; rfl
      repeat trivial
      refine xDpK2 (k := k3 p) rfl rfl ?_ ?_
      · unfold telKV tellOf
        rw [List.length_map, ← List.map_take, List.length_map]
        exact Nat.lt_of_le_of_lt (List.length_take_le _ _) (Nat.lt_of_lt_of_le (show i < 13825 by omega) (by decide))
      · rw [putD_new nk, tk]
        refine ⟨some (.int p.1), some (.int p.2.1), some (.int p.2.2), ?_⟩
        unfold telKV
        rw [List.map_append]
        rfl
  · rintro ρ2 ⟨o3, o4, o5, rfl⟩
    have e : (tellOf cs hs).take ((dt cs).map tr3).length = tellOf cs hs := List.take_of_length_le (by unfold tellOf; simp)
    rw [e]
    repeat trivial
    refine xRetV rfl ⟨rfl, q _ _ fun cs' hs' e9 => ?_⟩
    simp only [List.cons.injEq, T.d.injEq, and_true] at e9
    cases rowD_inj e9.1
    cases pairsD_inj e9.2
    rfl
end LW.D

namespace LW.D
open PySem PySem.Spec L2 TX

local macro_rules | `(tactic| trivial) => `(tactic| with_reducible first
  | refine xSeq ?_ | refine xSet ?_ | refine xSetK (by with_unfolding_all rfl) ?_ | refine xNext ?_ | refine xIfS ?_ | refine xDrop ?_ | refine xRet ?_ | refine xAsg ?_ | refine xAsK (by with_unfolding_all rfl) ?_ | refine xSub ?_ | refine xSbK (by with_unfolding_all rfl) (by with_unfolding_all rfl) (by with_unfolding_all rfl) ?_
  | refine xVarD (by with_unfolding_all rfl) ?_ | refine xVarZ (by with_unfolding_all rfl) ?_ | refine xVarN (by with_unfolding_all rfl) (by with_unfolding_all rfl) ?_ | refine xC ?_ | refine xOp ?_ | refine xI (by with_unfolding_all rfl) (by with_unfolding_all rfl) ?_ | refine xB (by with_unfolding_all rfl) (by with_unfolding_all rfl) ?_ | refine xEqI (by with_unfolding_all rfl) (by with_unfolding_all rfl) ?_ | refine xNeI (by with_unfolding_all rfl) (by with_unfolding_all rfl) ?_ | refine xNeg ?_ | refine xNegK ?_
  | refine xIc (by with_unfolding_all rfl) (by with_unfolding_all rfl) (by with_unfolding_all first | omega | exact ⟨by decide, by decide +kernel⟩) ?_
  | refine xT ?_ | refine xTK ?_ | refine xNot ?_ | refine xAnd ?_ | refine xOr ?_ | refine xAndV ?_ | refine xOrV ?_ | refine xNotV ?_ | refine xBK ?_ | refine xIf ?_ | refine xCh ?_ | refine xCh1 (by with_unfolding_all rfl) (by with_unfolding_all rfl) ?_ | refine xCh2 (by with_unfolding_all rfl) (by with_unfolding_all rfl) ?_
  | refine xIx ?_ | refine xIxA (by with_unfolding_all rfl) (by with_unfolding_all rfl) (by with_unfolding_all rfl) ?_ | refine xNil ?_ | refine xCons ?_ | refine xFn ?_ | refine xLst ?_ | refine xLstK (by with_unfolding_all rfl) ?_ | refine xTup ?_ | refine xTupK (by with_unfolding_all rfl) ?_ | refine xLen (by with_unfolding_all rfl) ?_ | refine xMax (by with_unfolding_all rfl) (by with_unfolding_all rfl) ?_ | refine xMin (by with_unfolding_all rfl) (by with_unfolding_all rfl) ?_
  | refine xYes (by with_unfolding_all rfl) ?_ | refine xNo (by with_unfolding_all rfl) ?_ | refine xIs (by with_unfolding_all rfl) (by with_unfolding_all rfl) ?_ | refine xCall ?_ | refine xM ?_ | refine xMA (by with_unfolding_all rfl) ?_ | refine xMD ?_ | refine xLc ?_ | refine xFor ?_ | refine xILst ?_ | refine xILK (by with_unfolding_all rfl) ?_ | refine xIR1 ?_ | refine xIEn ?_ | refine xSl ?_ | refine xNoPart ?_ | refine xPart ?_ | refine xPartK ?_ | refine xRevS ?_ | refine xCat ?_ | refine xLenSet ?_
  | refine xNm (by with_unfolding_all rfl) ?_ | refine xGTup (by with_unfolding_all rfl) ?_ | refine xGsCons ?_ | refine xGsNil ?_ | refine xYesT ?_ | refine xDg1 ?_ | refine xDp1 ?_ | refine xDg2 ?_ | refine xDp2 ?_ | refine xPar ?_ | refine xPaK (by with_unfolding_all rfl) (by with_unfolding_all rfl) ?_ | refine xRevT ?_ | refine xRevTK ?_ | refine xDi1 ?_ | refine xDi2 ?_ | refine xITup ?_ | refine xITupK ?_ | refine xIZip ?_ | refine xIR2 ?_ | refine xIsNK (by with_unfolding_all rfl) ?_ | refine xRev2 ?_ | refine xListR ?_ | refine xSlT ?_ | refine xSlTK ?_ | refine xGt1 ?_ | refine xGt2 ?_ | refine xGtA (by with_unfolding_all rfl) ?_ | refine xGtD ?_ | refine xRep ?_ | refine xDcL ?_ | refine xDc ?_ | refine xDpl ?_ | refine xGe1 ?_ | refine xGe2 ?_ | refine xIe1 ?_ | refine xIe2 ?_ | refine xGLst (by with_unfolding_all rfl) ?_ | refine xIsB (by with_unfolding_all rfl) (by with_unfolding_all rfl) ?_ | refine xVarL (by with_unfolding_all rfl) ?_ | refine xIDc ?_ | refine xIDcK ?_ | refine xLc2 ?_ | refine xGd1 ?_ | refine xGd2 ?_ | refine xGdA (by with_unfolding_all rfl) ?_ | refine xGdD ?_ | refine xDcT ?_ | refine xClip ?_ | refine xAppD ?_ | refine xAppD11 ?_ | refine xAppD21 ?_ | refine xLi ?_ | refine xIEz ?_)

/-! ### spots, ways by a row alone -/
def S_need_few : SpT := SpP (fun ts => ∃ cs m, ts = [rowD cs, .d (.int m)] ∧ RowOk cs ∧ (cs.length : Int) ≤ m) fun _ t _ => t = .d .none
theorem mS_need_few : MonSp S_need_few := mon_SpP
def vOf : PyData → PyData
  | .tuple [i, _] => i
  | y => y
abbrev N_need_few : List Str := ["row", "most"]
def w_need_few : TwS := (wSeq (wDrop (wCall [] 1 S_need_row (wCons (wVar 0) wNil)))
    (wIfS (wT (wOp (fB fun i j => decide (j < i)) (wFn kLen (wCons (wVar 0) wNil)) (wVar 1))) wNever wNext))
theorem pl_need_few : PlD S_need_few w_need_few N_need_few := by
  rintro ts Q Ex ⟨⟨cs, m, rfl, ok, hl⟩, q⟩
  unfold w_need_few
  repeat trivial
  refine xIsRow ok ?_
  repeat trivial
  refine xIte (fun h => ?_) fun h => ?_
  · have := of_decide_eq_true h
    simp at this
    omega
  · repeat trivial
    exact q _ _ rfl
theorem tr3_inj {p q : I3} (h : tr3 p = tr3 q) : p = q := by
  obtain ⟨a, b, c⟩ := p
  obtain ⟨a', b', c'⟩ := q
  simp only [tr3, PyData.tuple.injEq, List.cons.injEq, PyData.int.injEq, and_true] at h
  obtain ⟨rfl, rfl, rfl⟩ := h
  rfl
end LW.D

namespace LW.D
open PySem PySem.Spec L2 TX

local macro_rules | `(tactic| trivial) => `(tactic| with_reducible first
  | refine xSeq ?_ | refine xSet ?_ | refine xSetK (by with_unfolding_all rfl) ?_ | refine xNext ?_ | refine xIfS ?_ | refine xDrop ?_ | refine xRet ?_ | refine xAsg ?_ | refine xAsK (by with_unfolding_all rfl) ?_ | refine xSub ?_ | refine xSbK (by with_unfolding_all rfl) (by with_unfolding_all rfl) (by with_unfolding_all rfl) ?_
  | refine xVarD (by with_unfolding_all rfl) ?_ | refine xVarZ (by with_unfolding_all rfl) ?_ | refine xVarN (by with_unfolding_all rfl) (by with_unfolding_all rfl) ?_ | refine xC ?_ | refine xOp ?_ | refine xI (by with_unfolding_all rfl) (by with_unfolding_all rfl) ?_ | refine xB (by with_unfolding_all rfl) (by with_unfolding_all rfl) ?_ | refine xEqI (by with_unfolding_all rfl) (by with_unfolding_all rfl) ?_ | refine xNeI (by with_unfolding_all rfl) (by with_unfolding_all rfl) ?_ | refine xNeg ?_ | refine xNegK ?_
  | refine xIc (by with_unfolding_all rfl) (by with_unfolding_all rfl) (by with_unfolding_all first | omega | exact ⟨by decide, by decide +kernel⟩) ?_
  | refine xT ?_ | refine xTK ?_ | refine xNot ?_ | refine xAnd ?_ | refine xOr ?_ | refine xAndV ?_ | refine xOrV ?_ | refine xNotV ?_ | refine xBK ?_ | refine xIf ?_ | refine xCh ?_ | refine xCh1 (by with_unfolding_all rfl) (by with_unfolding_all rfl) ?_ | refine xCh2 (by with_unfolding_all rfl) (by with_unfolding_all rfl) ?_
  | refine xIx ?_ | refine xIxA (by with_unfolding_all rfl) (by with_unfolding_all rfl) (by with_unfolding_all rfl) ?_ | refine xNil ?_ | refine xCons ?_ | refine xFn ?_ | refine xLst ?_ | refine xLstK (by with_unfolding_all rfl) ?_ | refine xTup ?_ | refine xTupK (by with_unfolding_all rfl) ?_ | refine xLen (by with_unfolding_all rfl) ?_ | refine xMax (by with_unfolding_all rfl) (by with_unfolding_all rfl) ?_ | refine xMin (by with_unfolding_all rfl) (by with_unfolding_all rfl) ?_
  | refine xYes (by with_unfolding_all rfl) ?_ | refine xNo (by with_unfolding_all rfl) ?_ | refine xIs (by with_unfolding_all rfl) (by with_unfolding_all rfl) ?_ | refine xCall ?_ | refine xM ?_ | refine xMA (by with_unfolding_all rfl) ?_ | refine xMD ?_ | refine xLc ?_ | refine xFor ?_ | refine xILst ?_ | refine xILK (by with_unfolding_all rfl) ?_ | refine xIR1 ?_ | refine xIEn ?_ | refine xSl ?_ | refine xNoPart ?_ | refine xPart ?_ | refine xPartK ?_ | refine xRevS ?_ | refine xCat ?_ | refine xLenSet ?_
  | refine xNm (by with_unfolding_all rfl) ?_ | refine xGTup (by with_unfolding_all rfl) ?_ | refine xGsCons ?_ | refine xGsNil ?_ | refine xYesT ?_ | refine xDg1 ?_ | refine xDp1 ?_ | refine xDg2 ?_ | refine xDp2 ?_ | refine xPar ?_ | refine xPaK (by with_unfolding_all rfl) (by with_unfolding_all rfl) ?_ | refine xRevT ?_ | refine xRevTK ?_ | refine xDi1 ?_ | refine xDi2 ?_ | refine xITup ?_ | refine xITupK ?_ | refine xIZip ?_ | refine xIR2 ?_ | refine xIsNK (by with_unfolding_all rfl) ?_ | refine xRev2 ?_ | refine xListR ?_ | refine xSlT ?_ | refine xSlTK ?_ | refine xGt1 ?_ | refine xGt2 ?_ | refine xGtA (by with_unfolding_all rfl) ?_ | refine xGtD ?_ | refine xRep ?_ | refine xDcL ?_ | refine xDc ?_ | refine xDpl ?_ | refine xGe1 ?_ | refine xGe2 ?_ | refine xIe1 ?_ | refine xIe2 ?_ | refine xGLst (by with_unfolding_all rfl) ?_ | refine xIsB (by with_unfolding_all rfl) (by with_unfolding_all rfl) ?_ | refine xVarL (by with_unfolding_all rfl) ?_ | refine xIDc ?_ | refine xIDcK ?_ | refine xLc2 ?_ | refine xGd1 ?_ | refine xGd2 ?_ | refine xGdA (by with_unfolding_all rfl) ?_ | refine xGdD ?_ | refine xDcT ?_ | refine xClip ?_ | refine xAppD ?_ | refine xAppD11 ?_ | refine xAppD21 ?_ | refine xLi ?_ | refine xIEz ?_)

/-! ### tellings -/
def telPs (ws : List (I3 × Str)) : List (PyData × PyData) := ws.map fun p => (tr3 p.1, .str p.2)
theorem telD_eq (ws : List (I3 × Str)) : telD ws = .dict (telPs ws) := rfl
theorem tel_keys (ws : List (I3 × Str)) : (telPs ws).map (·.1) = (ws.map (·.1)).map tr3 := by unfold telPs; rw [List.map_map, List.map_map]; rfl
theorem tel_kv (ws : List (I3 × Str)) : telPs ws = (telKV ws).map fun p => (tupD p.1, p.2) := by unfold telPs telKV; rw [List.map_map]; rfl
theorem tel_inj {ws ws' : List (I3 × Str)} (h : telD ws = telD ws') : ws = ws' := by
  unfold telD at h
  rw [PyData.dict.injEq] at h
  induction ws generalizing ws' with
  | nil =>
    cases ws' with
    | nil => rfl
    | cons _ _ => cases h
  | cons p ws ih =>
    cases ws' with
    | nil => cases h
    | cons p' ws' =>
      simp only [List.map_cons, List.cons.injEq, Prod.mk.injEq, PyData.str.injEq] at h
      obtain ⟨⟨h1, h2⟩, h3⟩ := h
      have e : p = p' := Prod.ext (tr3_inj h1) h2
      rw [e, ih h3]
theorem shaped_str {z : Str} (h : PyData.strOk z = true) : SeqAt.shaped (.str z) = true := by simp [SeqAt.shaped, PyData.canLay0, PyData.depth, h]
def okWay (z : Str) : Bool := lowS == z || highS == z
def isTel (cs : List Int) (ws : List (I3 × Str)) : Bool := decide ((ws.map (·.1)).mergeSort leT = dt cs) && ws.all fun p => okWay p.2
def S_is_telling_of : SpT := SpP (fun ts => ∃ cs ws, ts = [rowD cs, .d (telD ws)] ∧ RowOk cs ∧ ws.length ≤ 1000 ∧ (ws.map (·.1)).Nodup ∧ ∀ p ∈ ws, PyData.strOk p.2 = true) fun ts t _ => ∀ cs ws, ts = [rowD cs, .d (telD ws)] → t = .d (.bool (isTel cs ws))
def S_need_telling : SpT := SpP (fun ts => ∃ cs ws, ts = [rowD cs, .d (telD ws)] ∧ RowOk cs ∧ cs.length ≤ 10 ∧ ws.length ≤ 1000 ∧ (ws.map (·.1)).Nodup ∧ isTel cs ws = true) fun _ t _ => t = .d .none
theorem mS_is_telling_of : MonSp S_is_telling_of := mon_SpP
theorem mS_need_telling : MonSp S_need_telling := mon_SpP
theorem nlks_d : ∀ ds : List PyData, nlks (ds.map T.d) = true
  | [] => rfl
  | d :: ds => by simp only [List.map_cons, nlks, nlk, nlks_d ds, Bool.and_self]
theorem nlk_l (ds : List PyData) : nlk (.l (ds.map T.d)) = true := by simp only [nlk]; exact nlks_d ds
theorem bools_c (b : Bool) (ds : List PyData) : ((List.filter (fun _ => true) ds).map fun _ => PyData.bool b) = (ds.map fun _ => b).map PyData.bool := by
  rw [List.filter_eq_self.mpr (fun _ _ => rfl), List.map_map]; rfl
theorem all_const (ds : List PyData) : (ds.map fun _ => true).all id = true := by rw [List.all_map]; simp
theorem eqv_trs (p q : I3) : PyData.eqv (tr3 p) (tr3 q) = decide (p = q) := by
  rw [Bool.eq_iff_iff]
  obtain ⟨a, b, c⟩ := p; obtain ⟨d, e, f⟩ := q
  simp [tr3, PyData.eqv, PyData.eqvAll, eqv_int]
theorem canLay_trs : ∀ ps : List I3, PyData.canLayAll0 (ps.map tr3) = true
  | [] => rfl
  | p :: ps => by simp only [List.map_cons, PyData.canLayAll0, tr3, PyData.canLay0, canLay_trs ps, Bool.and_self]
theorem depthAll_trs : ∀ ps : List I3, PyData.depthAll (ps.map tr3) ≤ 3
  | [] => by simp [PyData.depthAll]
  | p :: ps => by
    have := depthAll_trs ps
    simp only [List.map_cons, PyData.depthAll, tr3, PyData.depth]; omega
theorem shaped_trs (ps : List I3) : SeqAt.shaped (.list (ps.map tr3)) = true := by
  have := depthAll_trs ps
  have e : (PyData.list (ps.map tr3)).depth ≤ 64 := by simp only [PyData.depth]; omega
  simp only [SeqAt.shaped, PyData.canLay0, canLay_trs, Bool.true_and, decide_eq_true_eq]
  exact e
theorem eqv_trsA : ∀ ps qs : List I3, PyData.eqvAll (ps.map tr3) (qs.map tr3) = decide (ps = qs)
  | [], [] => by simp [PyData.eqvAll]
  | [], _ :: _ => by simp [PyData.eqvAll]
  | _ :: _, [] => by simp [PyData.eqvAll]
  | p :: ps, q :: qs => by
    simp only [List.map_cons, PyData.eqvAll, eqv_trs, eqv_trsA ps qs, List.cons.injEq]
    rw [Bool.eq_iff_iff]
    simp
theorem xNeTr {ρ : Rho} {Q : T → Rho → Prop} {t u : T} {xs ys : List I3} (h1 : vw ρ t = some (.list (xs.map tr3))) (h2 : vw ρ u = some (.list (ys.map tr3))) (q : Q (.d (.bool (!decide (xs = ys)))) ρ) : opK fNe t u ρ Q :=
  xNe h1 h2 (shaped_trs _) (shaped_trs _) (by simp only [PyData.eqv, eqv_trsA]; exact q)
def tupOf : PyData → List PyData
  | .tuple ds => ds
  | _ => []
def cards3 (p : I3) : List Bool := [isCardD (.int p.1), isCardD (.int p.2.1), isCardD (.int p.2.2)]
theorem two_cards (ks : List I3) : (ks.map tr3).flatMap (F2 (fun _ => true) tupOf (fun _ _ => true) fun _ y => .bool (isCardD y)) = (ks.flatMap cards3).map PyData.bool := by
  induction ks with
  | nil => rfl
  | cons k ks ih =>
    rw [List.map_cons, List.flatMap_cons, List.flatMap_cons, List.map_append, ih]
    rfl
def lookI (ws : List (I3 × Str)) (p : I3) : Option Str := (ws.find? fun q => decide (q.1 = p)).map (·.2)
theorem lookI_mem : ∀ {ws : List (I3 × Str)} {p : I3 × Str}, (ws.map (·.1)).Nodup → p ∈ ws → lookI ws p.1 = some p.2
  | w :: ws, p, nd, h => by
    unfold lookI
    rw [List.find?_cons]
    by_cases e : w.1 = p.1
    · rw [decide_eq_true e]
      rcases List.mem_cons.mp h with rfl | h
      · rfl
      · exact absurd (show w.1 ∈ ws.map (·.1) by rw [e]; exact List.mem_map_of_mem (f := fun x : I3 × Str => x.1) h) (List.nodup_cons.mp nd).1
    · rw [decide_eq_false e]
      exact lookI_mem (List.nodup_cons.mp nd).2 ((List.mem_cons.mp h).resolve_left fun z => e (z ▸ rfl))
theorem look_tel (ws : List (I3 × Str)) (p : I3) : lookD (telKV ws) (k3 p) = (lookI ws p).map PyData.str := by
  unfold lookD lookI telKV
  rw [List.find?_map, Option.map_map, Option.map_map]
  congr 1
  refine congrArg (fun f => List.find? f ws) (funext fun q => ?_)
  exact decide_eq_decide.mpr ⟨fun h => k3_inj h, fun h => by show k3 q.1 = k3 p; rw [h]⟩
def okAt (ws : List (I3 × Str)) : PyData → PyData
  | .tuple [.int a, .int b, .int c] => .bool (okWay ((lookI ws (a, b, c)).getD ""))
  | y => y
theorem keys_cards {cs : List Int} {ks : List I3} (ok : RowOk cs) (h : ks.mergeSort leT = dt cs) : (ks.flatMap cards3).all id = true := by
  rw [List.all_eq_true]
  intro b hb
  obtain ⟨p, hp, hb⟩ := List.mem_flatMap.mp hb
  have hp' : p ∈ dt cs := h ▸ (List.mergeSort_perm ks leT).mem_iff.mpr hp
  obtain ⟨⟨m1, m2, m3⟩, _⟩ := (dt_iff ok).mp hp'
  have c1 := ok.1 _ m1
  have c2 := ok.1 _ m2
  have c3 := ok.1 _ m3
  have cc : ∀ z : Int, (0 ≤ z ∧ z ≤ 999999999) → isCardD (.int z) = true := fun z hz => by
    simp only [isCardD, Bool.and_eq_true, decide_eq_true_eq]
    omega
  simp only [cards3, List.mem_cons, List.not_mem_nil, or_false] at hb
  rcases hb with rfl | rfl | rfl
  · exact cc _ c1
  · exact cc _ c2
  · exact cc _ c3
theorem ok_ways {ws : List (I3 × Str)} (nd : (ws.map (·.1)).Nodup) : (((ws.map (·.1)).map tr3).map (okAt ws)) = (ws.map fun p => okWay p.2).map PyData.bool := by
  rw [List.map_map, List.map_map, List.map_map]
  refine List.map_congr_left fun p hp => ?_
  show PyData.bool (okWay ((lookI ws (p.1.1, p.1.2.1, p.1.2.2)).getD "")) = _
  rw [show (p.1.1, p.1.2.1, p.1.2.2) = p.1 from rfl, lookI_mem nd hp]
  rfl
theorem xDgL {ρ : Rho} {Q : T → Rho → Prop} {tk : Bool} {ws : List (I3 × Str)} {p : I3} {z : Str} (h : lookI ws p = some z) (q : Q (.d (.str z)) ρ) : dgK2 (.lk tk ((telPs ws).map (·.1)) ((telPs ws).map (·.2))) (.d (tr3 p)) ρ Q :=
  ⟨telKV ws, k3 p, .str z, .inr ⟨(fun e => by
    have : ws = [] := List.map_eq_nil_iff.mp e
    subst this; cases h), by rw [← tel_kv]; exact asD_lkd⟩, rfl, by rw [look_tel, h]; rfl, q⟩
abbrev N_is_telling_of : List Str := ["row", "thing", "three", "card"]
def w_is_telling_of : TwS := (wSeq (wIfS (wOr (wNot (wT (wFn kIs (wCons (wVar 1) (wCons (wC (.raw (.ty "dict"))) wNil))))) (wNot (wT (wFn (k1 fAll) (wCons (wLk 1 (wLc (wIDc (wVar 1)) (wNm 2) wYes (wFn kIs (wCons (wVar 2) (wCons (wC (.raw (.ty "tuple"))) wNil))) [2])) wNil))))) (wRet (wC (.d (.bool false)))) wNext)
    (wSeq (wIfS (wNot (wT (wFn (k1 fAll) (wCons (wLk 1 (wLc2 (wIDc (wVar 1)) (wNm 2) wYes (wITup (wVar 2)) (wNm 3) wYes (wCall [] 1 S_is_card (wCons (wVar 3) wNil)) [2, 3] [3])) wNil)))) (wRet (wC (.d (.bool false)))) wNext)
    (wSeq (wIfS (wT (wOp (fNe) (wFn kSortD (wCons (wVar 1) wNil)) (wCall [] 1 S_crossing_threes (wCons (wVar 0) wNil)))) (wRet (wC (.d (.bool false)))) wNext)
    (wRet (wFn (k1 fAll) (wCons (wLk 1 (wLc (wIDc (wVar 1)) (wNm 2) wYes (wAndV (wFn kIs (wCons (wDg2 (wVar 1) (wVar 2)) (wCons (wC (.raw (.ty "str"))) wNil))) (wOp (fInT false) (wDg2 (wVar 1) (wVar 2)) (wTup (wCons (wC (.d (.str "low"))) (wCons (wC (.d (.str "high"))) wNil))))) [2])) wNil))))))
abbrev N_need_telling : List Str := ["row", "telling"]
def w_need_telling : TwS := (wSeq (wDrop (wCall [] 2 S_need_few (wApp [PyData.int 10] (wCons (wVar 0) wNil))))
    (wIfS (wNot (wT (wCall [] 2 S_is_telling_of (wCons (wVar 0) (wCons (wVar 1) wNil))))) wNever wNext))
theorem pl_is_telling_of : PlD S_is_telling_of w_is_telling_of N_is_telling_of := by
  rintro ts Q Ex ⟨⟨cs, ws, rfl, ok, wl, nd, so⟩, q⟩
  have kl : ((telPs ws).map (·.1)).length = ws.length := by unfold telPs; simp
  have kd : ∀ x ∈ (telPs ws).map (·.1), ∃ p ∈ ws, x = tr3 p.1 := fun x hx => by
    rw [tel_keys] at hx
    obtain ⟨p, hp, rfl⟩ := List.mem_map.mp hx
    obtain ⟨w, hw, rfl⟩ := List.mem_map.mp hp
    exact ⟨w, hw, rfl⟩
  have fin : ∀ b ρ, b = isTel cs ws → Q (.d (.bool b)) ρ := fun b ρ e => q _ _ fun cs' ws' e' => by
    simp only [List.cons.injEq, T.d.injEq, and_true] at e'
    cases rowD_inj e'.1
    cases tel_inj e'.2
    rw [e]
  rw [telD_eq]
  unfold w_is_telling_of
  repeat trivial
  refine xLk rfl rfl fun tk => ?_
  unfold lkd
  repeat trivial
  refine xLcM (fun _ => true) (fun _ => .bool true) rfl (by rw [kl]; omega) (by simp [rho0]) (fun x hx Y Z hY _ => ?_) ?_
  · obtain ⟨p, _, rfl⟩ := kd x hx
    refine xYesT ⟨noNd1 rfl, xYes rfl ?_⟩
    unfold tr3
    repeat trivial
    exact ⟨noNd1 rfl, _, rfl, hY rfl⟩
  rw [bools_c]
  refine ⟨nlk_l _, xLkB rfl rfl ?_⟩
  repeat trivial
  refine xAll vw_l ?_
  rw [all_const]
  repeat trivial
  refine xLk rfl rfl fun tk => ?_
  unfold lkd
  repeat trivial
  refine xLc2N (fun _ => true) tupOf (fun _ _ => true) (fun _ y => .bool (isCardD y)) (noNd_all rfl) (by rw [kl]; exact wl) (fun x hx W Z hW _ => ?_) ?_
  · obtain ⟨p, _, rfl⟩ := kd x hx
    repeat trivial
    refine xITupK (ds := tupOf (tr3 p.1)) ?_
    refine hW rfl _ (by rfl) (by exact noNd_all rfl) ⟨by exact noNd_all rfl, by unfold tr3 tupOf; simp, fun y hy Y Z hY _ => ?_⟩
    refine xNm rfl ?_
    refine xYesT ⟨noNd_all rfl, xYes rfl ?_⟩
    repeat trivial
    refine xIsCard ?_
    exact ⟨noNd_all rfl, _, rfl, hY rfl _ (by rfl)⟩
  have e2 : ((telPs ws).map (·.1)).flatMap (F2 (fun _ => true) tupOf (fun _ _ => true) fun _ y => .bool (isCardD y)) = ((ws.map (·.1)).flatMap cards3).map PyData.bool := by rw [tel_keys, two_cards]
  rw [e2]
  refine ⟨nlk_l _, xLkB rfl rfl ?_⟩
  repeat trivial
  refine xAll vw_l ?_
  repeat trivial
  refine xIte (fun h1 => ?_) fun h1 => ?_
  · repeat trivial
    refine ⟨rfl, fin _ _ ?_⟩
    unfold isTel
    rw [decide_eq_false (fun e => by rw [keys_cards ok e] at h1; cases h1)]
    rfl
  repeat trivial
  refine xSortD (ks := (ws.map (·.1)).map tr3) (congrArg some (tel_keys ws)) (alike_trs _) (sortable_trs _) (depth_trs _) ?_
  rw [sortT]
  repeat trivial
  refine xCrossing ok ?_
  repeat trivial
  refine xNeTr vw_l erase_tripL ?_
  repeat trivial
  refine xIte (fun h2 => ?_) fun h2 => ?_
  · repeat trivial
    refine ⟨rfl, fin _ _ ?_⟩
    unfold isTel
    rw [decide_eq_false (by simpa using h2)]
    rfl
  have e2 : (ws.map (·.1)).mergeSort leT = dt cs := by simpa using h2
  repeat trivial
  refine xLk rfl rfl fun tk => ?_
  unfold lkd
  repeat trivial
  refine xLcM (fun _ => true) (okAt ws) rfl (by rw [kl]; omega) (by simp [rho0]) (fun x hx Y Z hY _ => ?_) ?_
  · obtain ⟨p, hp, rfl⟩ := kd x hx
    have lk := lookI_mem nd hp
    refine xYesT ⟨noNd1 rfl, xYes rfl ?_⟩
    repeat trivial
    refine xDgL lk ?_
    repeat trivial
    refine xDgL lk ?_
    repeat trivial
    refine xInT rfl rfl (shaped_str (so p hp)) (by decide +kernel) ?_
    have eo : okAt ws (tr3 p.1) = .bool (false != ([PyData.str (Str.ofString "low"), PyData.str (Str.ofString "high")].any fun w => PyData.eqv w (.str p.2))) := by
      show PyData.bool (okWay ((lookI ws (p.1.1, p.1.2.1, p.1.2.2)).getD "")) = _
      rw [show (p.1.1, p.1.2.1, p.1.2.2) = p.1 from rfl, lk, bne_f]
      simp only [List.any_cons, List.any_nil, Bool.or_false, eqv_str]
      rfl
    exact ⟨noNd1 rfl, _, rfl, by rw [← eo]; exact hY rfl⟩
  have e3 : ((List.filter (fun _ => true) ((telPs ws).map (·.1))).map (okAt ws)) = (ws.map fun p => okWay p.2).map PyData.bool := by
    rw [List.filter_eq_self.mpr (fun _ _ => rfl), tel_keys, ok_ways nd]
  rw [e3]
  refine ⟨nlk_l _, xLkB rfl rfl ?_⟩
  repeat trivial
  refine xAll vw_l ?_
  refine ⟨rfl, fin _ _ ?_⟩
  unfold isTel
  rw [decide_eq_true e2, Bool.true_and, List.all_map]
  rfl
theorem tel_ok {cs : List Int} {ws : List (I3 × Str)} (h : isTel cs ws = true) : ∀ p ∈ ws, PyData.strOk p.2 = true := fun p hp => by
  unfold isTel at h
  rw [Bool.and_eq_true, List.all_eq_true] at h
  have := h.2 p hp
  unfold okWay at this
  rw [Bool.or_eq_true, beq_iff_eq, beq_iff_eq] at this
  rcases this with e | e <;> rw [← e] <;> decide +kernel
theorem xIsTel {ρ : Rho} {Q : T → Rho → Prop} {E : ExK} {cs : List Int} {ws : List (I3 × Str)} (ok : RowOk cs) (wl : ws.length ≤ 1000) (nd : (ws.map (·.1)).Nodup) (so : ∀ p ∈ ws, PyData.strOk p.2 = true) (q : Q (.d (.bool (isTel cs ws))) ρ) : caK [] 2 S_is_telling_of [rowD cs, .d (telD ws)] ρ Q E :=
  xCaP rfl rfl rfl ⟨cs, ws, rfl, ok, wl, nd, so⟩ fun t ρ' e => by rw [e cs ws rfl]; exact ⟨rfl, q⟩
theorem xNeedFew {ρ : Rho} {Q : T → Rho → Prop} {E : ExK} {cs : List Int} {m : Int} (ok : RowOk cs) (h : (cs.length : Int) ≤ m) (q : Q (.d .none) ρ) : caK [] 2 S_need_few [rowD cs, .d (.int m)] ρ Q E :=
  xCaP rfl rfl rfl ⟨cs, m, rfl, ok, h⟩ fun t ρ' e => by rw [e]; exact ⟨rfl, q⟩
theorem pl_need_telling : PlD S_need_telling w_need_telling N_need_telling := by
  rintro ts Q Ex ⟨⟨cs, ws, rfl, ok, cl, wl, nd, h⟩, q⟩
  unfold w_need_telling
  repeat trivial
  refine xNeedFew ok (by omega) ?_
  repeat trivial
  refine xIsTel ok wl nd (tel_ok h) ?_
  rw [h]
  repeat trivial
  exact q _ _ rfl
end LW.D

namespace LW.D
open PySem PySem.Spec L2 TX

local macro_rules | `(tactic| trivial) => `(tactic| with_reducible first
  | refine xSeq ?_ | refine xSet ?_ | refine xSetK (by with_unfolding_all rfl) ?_ | refine xNext ?_ | refine xIfS ?_ | refine xDrop ?_ | refine xRet ?_ | refine xAsg ?_ | refine xAsK (by with_unfolding_all rfl) ?_ | refine xSub ?_ | refine xSbK (by with_unfolding_all rfl) (by with_unfolding_all rfl) (by with_unfolding_all rfl) ?_
  | refine xVarD (by with_unfolding_all rfl) ?_ | refine xVarZ (by with_unfolding_all rfl) ?_ | refine xVarN (by with_unfolding_all rfl) (by with_unfolding_all rfl) ?_ | refine xC ?_ | refine xOp ?_ | refine xI (by with_unfolding_all rfl) (by with_unfolding_all rfl) ?_ | refine xB (by with_unfolding_all rfl) (by with_unfolding_all rfl) ?_ | refine xEqI (by with_unfolding_all rfl) (by with_unfolding_all rfl) ?_ | refine xNeI (by with_unfolding_all rfl) (by with_unfolding_all rfl) ?_ | refine xNeg ?_ | refine xNegK ?_
  | refine xIc (by with_unfolding_all rfl) (by with_unfolding_all rfl) (by with_unfolding_all first | omega | exact ⟨by decide, by decide +kernel⟩) ?_
  | refine xT ?_ | refine xTK ?_ | refine xNot ?_ | refine xAnd ?_ | refine xOr ?_ | refine xAndV ?_ | refine xOrV ?_ | refine xNotV ?_ | refine xBK ?_ | refine xIf ?_ | refine xCh ?_ | refine xCh1 (by with_unfolding_all rfl) (by with_unfolding_all rfl) ?_ | refine xCh2 (by with_unfolding_all rfl) (by with_unfolding_all rfl) ?_
  | refine xIx ?_ | refine xIxA (by with_unfolding_all rfl) (by with_unfolding_all rfl) (by with_unfolding_all rfl) ?_ | refine xNil ?_ | refine xCons ?_ | refine xFn ?_ | refine xLst ?_ | refine xLstK (by with_unfolding_all rfl) ?_ | refine xTup ?_ | refine xTupK (by with_unfolding_all rfl) ?_ | refine xLen (by with_unfolding_all rfl) ?_ | refine xMax (by with_unfolding_all rfl) (by with_unfolding_all rfl) ?_ | refine xMin (by with_unfolding_all rfl) (by with_unfolding_all rfl) ?_
  | refine xYes (by with_unfolding_all rfl) ?_ | refine xNo (by with_unfolding_all rfl) ?_ | refine xIs (by with_unfolding_all rfl) (by with_unfolding_all rfl) ?_ | refine xCall ?_ | refine xM ?_ | refine xMA (by with_unfolding_all rfl) ?_ | refine xMD ?_ | refine xLc ?_ | refine xFor ?_ | refine xILst ?_ | refine xILK (by with_unfolding_all rfl) ?_ | refine xIR1 ?_ | refine xIEn ?_ | refine xSl ?_ | refine xNoPart ?_ | refine xPart ?_ | refine xPartK ?_ | refine xRevS ?_ | refine xCat ?_ | refine xLenSet ?_
  | refine xNm (by with_unfolding_all rfl) ?_ | refine xGTup (by with_unfolding_all rfl) ?_ | refine xGsCons ?_ | refine xGsNil ?_ | refine xYesT ?_ | refine xDg1 ?_ | refine xDp1 ?_ | refine xDg2 ?_ | refine xDp2 ?_ | refine xPar ?_ | refine xPaK (by with_unfolding_all rfl) (by with_unfolding_all rfl) ?_ | refine xRevT ?_ | refine xRevTK ?_ | refine xDi1 ?_ | refine xDi2 ?_ | refine xITup ?_ | refine xITupK ?_ | refine xIZip ?_ | refine xIR2 ?_ | refine xIsNK (by with_unfolding_all rfl) ?_ | refine xRev2 ?_ | refine xListR ?_ | refine xSlT ?_ | refine xSlTK ?_ | refine xGt1 ?_ | refine xGt2 ?_ | refine xGtA (by with_unfolding_all rfl) ?_ | refine xGtD ?_ | refine xRep ?_ | refine xDcL ?_ | refine xDc ?_ | refine xDpl ?_ | refine xGe1 ?_ | refine xGe2 ?_ | refine xIe1 ?_ | refine xIe2 ?_ | refine xGLst (by with_unfolding_all rfl) ?_ | refine xIsB (by with_unfolding_all rfl) (by with_unfolding_all rfl) ?_ | refine xVarL (by with_unfolding_all rfl) ?_ | refine xIDc ?_ | refine xIDcK ?_ | refine xLc2 ?_ | refine xGd1 ?_ | refine xGd2 ?_ | refine xGdA (by with_unfolding_all rfl) ?_ | refine xGdD ?_ | refine xDcT ?_ | refine xClip ?_ | refine xAppD ?_ | refine xAppD11 ?_ | refine xAppD21 ?_ | refine xLi ?_ | refine xIEz ?_)

/-! ### fours -/
def ld (s : List Int) : PyData := .list (s.map PyData.int)
def td (s : List Int) : PyData := .tuple (s.map PyData.int)
theorem flatMap_len {α β : Type} (f : α → List β) (m : Nat) : ∀ l : List α, (∀ a ∈ l, (f a).length ≤ m) → (l.flatMap f).length ≤ l.length * m
  | [], _ => by simp
  | a :: l, h => by
    have ih := flatMap_len f m l fun x hx => h x (List.mem_cons_of_mem _ hx)
    have h1 := h a List.mem_cons_self
    rw [List.flatMap_cons, List.length_append, List.length_cons, Nat.succ_mul]
    omega
/-! ### ways along a four -/
theorem lookI_in : ∀ {ws : List (I3 × Str)} {p : I3} {z : Str}, lookI ws p = some z → ∃ q ∈ ws, q.1 = p ∧ q.2 = z := fun {ws p z} h => by
  unfold lookI at h
  cases e : ws.find? (fun q => decide (q.1 = p)) with
  | none => rw [e] at h; cases h
  | some q =>
    rw [e] at h
    cases h
    exact ⟨q, List.mem_of_find?_eq_some e, of_decide_eq_true (by simpa using List.find?_some e), rfl⟩
theorem atFrame {P : Rho → Prop} {ρ ρ' : Rho} (e : ρ = ρ') (h : P ρ') : P ρ := e ▸ h
end LW.D

namespace LW.D
open PySem PySem.Spec L2 TX

local macro_rules | `(tactic| trivial) => `(tactic| with_reducible first
  | refine xSeq ?_ | refine xSet ?_ | refine xSetK (by with_unfolding_all rfl) ?_ | refine xNext ?_ | refine xIfS ?_ | refine xDrop ?_ | refine xRet ?_ | refine xAsg ?_ | refine xAsK (by with_unfolding_all rfl) ?_ | refine xSub ?_ | refine xSbK (by with_unfolding_all rfl) (by with_unfolding_all rfl) (by with_unfolding_all rfl) ?_
  | refine xVarD (by with_unfolding_all rfl) ?_ | refine xVarZ (by with_unfolding_all rfl) ?_ | refine xVarN (by with_unfolding_all rfl) (by with_unfolding_all rfl) ?_ | refine xC ?_ | refine xOp ?_ | refine xI (by with_unfolding_all rfl) (by with_unfolding_all rfl) ?_ | refine xB (by with_unfolding_all rfl) (by with_unfolding_all rfl) ?_ | refine xEqI (by with_unfolding_all rfl) (by with_unfolding_all rfl) ?_ | refine xNeI (by with_unfolding_all rfl) (by with_unfolding_all rfl) ?_ | refine xNeg ?_ | refine xNegK ?_
  | refine xIc (by with_unfolding_all rfl) (by with_unfolding_all rfl) (by with_unfolding_all first | omega | exact ⟨by decide, by decide +kernel⟩) ?_
  | refine xT ?_ | refine xTK ?_ | refine xNot ?_ | refine xAnd ?_ | refine xOr ?_ | refine xAndV ?_ | refine xOrV ?_ | refine xNotV ?_ | refine xBK ?_ | refine xIf ?_ | refine xCh ?_ | refine xCh1 (by with_unfolding_all rfl) (by with_unfolding_all rfl) ?_ | refine xCh2 (by with_unfolding_all rfl) (by with_unfolding_all rfl) ?_
  | refine xIx ?_ | refine xIxA (by with_unfolding_all rfl) (by with_unfolding_all rfl) (by with_unfolding_all rfl) ?_ | refine xNil ?_ | refine xCons ?_ | refine xFn ?_ | refine xLst ?_ | refine xLstK (by with_unfolding_all rfl) ?_ | refine xTup ?_ | refine xTupK (by with_unfolding_all rfl) ?_ | refine xLen (by with_unfolding_all rfl) ?_ | refine xMax (by with_unfolding_all rfl) (by with_unfolding_all rfl) ?_ | refine xMin (by with_unfolding_all rfl) (by with_unfolding_all rfl) ?_
  | refine xYes (by with_unfolding_all rfl) ?_ | refine xNo (by with_unfolding_all rfl) ?_ | refine xIs (by with_unfolding_all rfl) (by with_unfolding_all rfl) ?_ | refine xCall ?_ | refine xM ?_ | refine xMA (by with_unfolding_all rfl) ?_ | refine xMD ?_ | refine xLc ?_ | refine xFor ?_ | refine xILst ?_ | refine xILK (by with_unfolding_all rfl) ?_ | refine xIR1 ?_ | refine xIEn ?_ | refine xSl ?_ | refine xNoPart ?_ | refine xPart ?_ | refine xPartK ?_ | refine xRevS ?_ | refine xCat ?_ | refine xLenSet ?_
  | refine xNm (by with_unfolding_all rfl) ?_ | refine xGTup (by with_unfolding_all rfl) ?_ | refine xGsCons ?_ | refine xGsNil ?_ | refine xYesT ?_ | refine xDg1 ?_ | refine xDp1 ?_ | refine xDg2 ?_ | refine xDp2 ?_ | refine xPar ?_ | refine xPaK (by with_unfolding_all rfl) (by with_unfolding_all rfl) ?_ | refine xRevT ?_ | refine xRevTK ?_ | refine xDi1 ?_ | refine xDi2 ?_ | refine xITup ?_ | refine xITupK ?_ | refine xIZip ?_ | refine xIR2 ?_ | refine xIsNK (by with_unfolding_all rfl) ?_ | refine xRev2 ?_ | refine xListR ?_ | refine xSlT ?_ | refine xSlTK ?_ | refine xGt1 ?_ | refine xGt2 ?_ | refine xGtA (by with_unfolding_all rfl) ?_ | refine xGtD ?_ | refine xRep ?_ | refine xDcL ?_ | refine xDc ?_ | refine xDpl ?_ | refine xGe1 ?_ | refine xGe2 ?_ | refine xIe1 ?_ | refine xIe2 ?_ | refine xGLst (by with_unfolding_all rfl) ?_ | refine xIsB (by with_unfolding_all rfl) (by with_unfolding_all rfl) ?_ | refine xVarL (by with_unfolding_all rfl) ?_ | refine xIDc ?_ | refine xIDcK ?_ | refine xLc2 ?_ | refine xGd1 ?_ | refine xGd2 ?_ | refine xGdA (by with_unfolding_all rfl) ?_ | refine xGdD ?_ | refine xDcT ?_ | refine xClip ?_ | refine xAppD ?_ | refine xAppD11 ?_ | refine xAppD21 ?_ | refine xLi ?_ | refine xIEz ?_)

/-! ### the least four that bars; the telling of a whole history -/
end LW.D

namespace LW.D
open PySem PySem.Spec L2 TX

local macro_rules | `(tactic| trivial) => `(tactic| with_reducible first
  | refine xSeq ?_ | refine xSet ?_ | refine xSetK (by with_unfolding_all rfl) ?_ | refine xNext ?_ | refine xIfS ?_ | refine xDrop ?_ | refine xRet ?_ | refine xAsg ?_ | refine xAsK (by with_unfolding_all rfl) ?_ | refine xSub ?_ | refine xSbK (by with_unfolding_all rfl) (by with_unfolding_all rfl) (by with_unfolding_all rfl) ?_
  | refine xVarD (by with_unfolding_all rfl) ?_ | refine xVarZ (by with_unfolding_all rfl) ?_ | refine xVarN (by with_unfolding_all rfl) (by with_unfolding_all rfl) ?_ | refine xC ?_ | refine xOp ?_ | refine xI (by with_unfolding_all rfl) (by with_unfolding_all rfl) ?_ | refine xB (by with_unfolding_all rfl) (by with_unfolding_all rfl) ?_ | refine xEqI (by with_unfolding_all rfl) (by with_unfolding_all rfl) ?_ | refine xNeI (by with_unfolding_all rfl) (by with_unfolding_all rfl) ?_ | refine xNeg ?_ | refine xNegK ?_
  | refine xIc (by with_unfolding_all rfl) (by with_unfolding_all rfl) (by with_unfolding_all first | omega | exact ⟨by decide, by decide +kernel⟩) ?_
  | refine xT ?_ | refine xTK ?_ | refine xNot ?_ | refine xAnd ?_ | refine xOr ?_ | refine xAndV ?_ | refine xOrV ?_ | refine xNotV ?_ | refine xBK ?_ | refine xIf ?_ | refine xCh ?_ | refine xCh1 (by with_unfolding_all rfl) (by with_unfolding_all rfl) ?_ | refine xCh2 (by with_unfolding_all rfl) (by with_unfolding_all rfl) ?_
  | refine xIx ?_ | refine xIxA (by with_unfolding_all rfl) (by with_unfolding_all rfl) (by with_unfolding_all rfl) ?_ | refine xNil ?_ | refine xCons ?_ | refine xFn ?_ | refine xLst ?_ | refine xLstK (by with_unfolding_all rfl) ?_ | refine xTup ?_ | refine xTupK (by with_unfolding_all rfl) ?_ | refine xLen (by with_unfolding_all rfl) ?_ | refine xMax (by with_unfolding_all rfl) (by with_unfolding_all rfl) ?_ | refine xMin (by with_unfolding_all rfl) (by with_unfolding_all rfl) ?_
  | refine xYes (by with_unfolding_all rfl) ?_ | refine xNo (by with_unfolding_all rfl) ?_ | refine xIs (by with_unfolding_all rfl) (by with_unfolding_all rfl) ?_ | refine xCall ?_ | refine xM ?_ | refine xMA (by with_unfolding_all rfl) ?_ | refine xMD ?_ | refine xLc ?_ | refine xFor ?_ | refine xILst ?_ | refine xILK (by with_unfolding_all rfl) ?_ | refine xIR1 ?_ | refine xIEn ?_ | refine xSl ?_ | refine xNoPart ?_ | refine xPart ?_ | refine xPartK ?_ | refine xRevS ?_ | refine xCat ?_ | refine xLenSet ?_
  | refine xNm (by with_unfolding_all rfl) ?_ | refine xGTup (by with_unfolding_all rfl) ?_ | refine xGsCons ?_ | refine xGsNil ?_ | refine xYesT ?_ | refine xDg1 ?_ | refine xDp1 ?_ | refine xDg2 ?_ | refine xDp2 ?_ | refine xPar ?_ | refine xPaK (by with_unfolding_all rfl) (by with_unfolding_all rfl) ?_ | refine xRevT ?_ | refine xRevTK ?_ | refine xDi1 ?_ | refine xDi2 ?_ | refine xITup ?_ | refine xITupK ?_ | refine xIZip ?_ | refine xIR2 ?_ | refine xIsNK (by with_unfolding_all rfl) ?_ | refine xRev2 ?_ | refine xListR ?_ | refine xSlT ?_ | refine xSlTK ?_ | refine xGt1 ?_ | refine xGt2 ?_ | refine xGtA (by with_unfolding_all rfl) ?_ | refine xGtD ?_ | refine xRep ?_ | refine xDcL ?_ | refine xDc ?_ | refine xDpl ?_ | refine xGe1 ?_ | refine xGe2 ?_ | refine xIe1 ?_ | refine xIe2 ?_ | refine xGLst (by with_unfolding_all rfl) ?_ | refine xIsB (by with_unfolding_all rfl) (by with_unfolding_all rfl) ?_ | refine xVarL (by with_unfolding_all rfl) ?_ | refine xIDc ?_ | refine xIDcK ?_ | refine xLc2 ?_ | refine xGd1 ?_ | refine xGd2 ?_ | refine xGdA (by with_unfolding_all rfl) ?_ | refine xGdD ?_ | refine xDcT ?_ | refine xClip ?_ | refine xAppD ?_ | refine xAppD11 ?_ | refine xAppD21 ?_ | refine xLi ?_ | refine xIEz ?_)

/-! ### the telling of a whole history -/
def S_telling_of_done : SpT := SpP (fun ts => ∃ cs hs, ts = [rowD cs, .d (pairsD hs)] ∧ RowOk cs ∧ Whole cs hs) fun ts t _ => ∀ cs hs, ts = [rowD cs, .d (pairsD hs)] → t = mK2 (telKV (tellOf cs hs))
theorem mS_telling_of_done : MonSp S_telling_of_done := mon_SpP
theorem rh_inj {cs cs' : List Int} {hs hs' : List (Int × Int)} (e : [rowD cs, T.d (pairsD hs)] = [rowD cs', T.d (pairsD hs')]) : cs = cs' ∧ hs = hs' := by
  simp only [List.cons.injEq, T.d.injEq, and_true] at e
  exact ⟨rowD_inj e.1, pairsD_inj e.2⟩
def k2p (p : Int × Int) : List Key := [.inl p.1, .inl p.2]
theorem k2p_inj {p q : Int × Int} (h : k2p p = k2p q) : p = q := by
  simp only [k2p, List.cons.injEq, Sum.inl.injEq, and_true] at h
  exact Prod.ext h.1 h.2
def nmKV (hs : List (Int × Int)) : List (List Key × PyData) := hs.zipIdx.map fun p => (k2p p.1, .int (p.2 : Nat))
def kPr : PyData → List Key
  | .tuple [_, .tuple [.int a, .int b]] => k2p (a, b)
  | _ => []
theorem nm_look : ∀ (hs : List (Int × Int)) (n : Nat) {p : Int × Int}, p ∈ hs → lookD ((hs.zipIdx n).map fun p => (k2p p.1, PyData.int (p.2 : Nat))) (k2p p) = some (.int ((n + pidx hs p : Nat) : Int))
  | c :: hs, n, p, h => by
    unfold lookD
    rw [List.zipIdx_cons, List.map_cons, List.find?_cons]
    by_cases e : c = p
    · subst e
      simp [pidx]
    · have h' : p ∈ hs := (List.mem_cons.mp h).resolve_left fun z => e z.symm
      have ih := nm_look hs (n + 1) h'
      unfold lookD at ih
      rw [show decide ((k2p c, PyData.int (n : Nat)).1 = k2p p) = false from decide_eq_false (fun z => e (k2p_inj z))]
      simp only [pidx, if_neg e]
      rw [ih]
      congr 3
      omega
theorem nm_at {hs : List (Int × Int)} {p : Int × Int} (h : p ∈ hs) : lookD (nmKV hs) (k2p p) = some (.int (pidx hs p : Nat)) := by
  have := nm_look hs 0 h
  rw [Nat.zero_add] at this
  exact this
theorem nm_enum (hs : List (Int × Int)) : (enumD (hs.map pr)).map (fun x => (kPr x, vOf x)) = nmKV hs := by
  unfold nmKV enumD
  rw [List.zipIdx_map]
  simp only [List.map_map]
  refine List.map_congr_left fun p _ => ?_
  rfl
theorem nm_keys {hs : List (Int × Int)} (nd : hs.Nodup) : ((enumD (hs.map pr)).map kPr).Nodup := by
  have e : (enumD (hs.map pr)).map kPr = hs.map k2p := by
    have := congrArg (List.map Prod.fst) (nm_enum hs)
    rw [List.map_map] at this
    rw [show (Prod.fst ∘ fun x => (kPr x, vOf x)) = kPr from rfl] at this
    rw [this]
    unfold nmKV
    rw [List.map_map, show (Prod.fst ∘ fun p : (Int × Int) × Nat => (k2p p.1, PyData.int (p.2 : Nat))) = k2p ∘ Prod.fst from rfl, ← List.map_map, List.zipIdx_map_fst]
  rw [e]
  exact List.pairwise_map.mpr (nd.imp fun h z => h (k2p_inj z))
def kTr : PyData → List Key
  | .tuple [.int a, .int b, .int c] => k3 (a, b, c)
  | _ => []
def wTr (hs : List (Int × Int)) : PyData → PyData
  | .tuple [.int a, .int b, .int c] => .str (wayH hs (a, b, c))
  | y => y
theorem tell_map (cs : List Int) (hs : List (Int × Int)) : ((dt cs).map tr3).map (fun x => (kTr x, wTr hs x)) = telKV (tellOf cs hs) := by
  unfold telKV tellOf
  rw [List.map_map, List.map_map]
  rfl
theorem tr_keys {cs : List Int} (ok : RowOk cs) : (((dt cs).map tr3).map kTr).Nodup := by
  rw [List.map_map]
  exact List.pairwise_map.mpr ((dt_nodup ok).imp fun h z => h (k3_inj z))
abbrev N_telling_of_done : List Str := ["row", "done", "numbers", "number", "pair", "x", "y", "z"]
def w_telling_of_done : TwS := (wSeq (wSet 2 (wDcT (wIEn (wCons (wVar 1) wNil)) (wGTup 2 (wGsCons (wNm 3) (wGsCons (wNm 4) wGsNil))) wYes (wVar 4) (wVar 3) [3, 4]))
    (wRet (wDcT (wILst (wCall [] 1 S_crossing_threes (wCons (wVar 0) wNil))) (wGTup 3 (wGsCons (wNm 5) (wGsCons (wNm 6) (wGsCons (wNm 7) wGsNil)))) wYes (wTup (wCons (wVar 5) (wCons (wVar 6) (wCons (wVar 7) wNil)))) (wIf (wT (wOp (fB fun i j => decide (i < j)) (wDg2 (wVar 2) (wTup (wCons (wVar 5) (wCons (wVar 6) wNil)))) (wDg2 (wVar 2) (wTup (wCons (wVar 6) (wCons (wVar 7) wNil)))))) (wC (.d (.str "low"))) (wC (.d (.str "high")))) [5, 6, 7])))
theorem pl_telling_of_done : PlD S_telling_of_done w_telling_of_done N_telling_of_done := by
  rintro ts Q Ex ⟨⟨cs, hs, rfl, ok, wh⟩, q⟩
  have hl := led_len ok wh
  have nd := led_nodup ok wh
  have dl := dt_len ok
  unfold w_telling_of_done
  repeat trivial
  refine xIEK rfl ?_
  refine xDcTN kPr vOf (noNd_all rfl) (by simp [enumD]; omega) (nm_keys nd) (fun x hx Y Z hY => ?_) ?_
  · obtain ⟨i, hi⟩ := List.getElem?_of_mem hx
    obtain ⟨y, e1, rfl⟩ := enumD_get hi
    rw [List.getElem?_map] at e1
    cases e2 : hs[i]? with
    | none => rw [e2] at e1; cases e1
    | some p =>
      rw [e2] at e1; cases e1
      repeat trivial
      refine ⟨k2p p, rfl, ?_⟩
      repeat trivial
      exact ⟨noNd_all rfl, _, rfl, hY _ rfl⟩
  rw [nm_enum]
  repeat trivial
  refine xCrossing ok ?_
  repeat trivial
  refine xILK flat_map ?_
  refine xDcTN kTr (wTr hs) (noNd_all rfl) (by simp; exact Nat.le_trans dl (by decide)) (tr_keys ok) (fun x hx Y Z hY => ?_) ?_
  · obtain ⟨p, hp, rfl⟩ := List.mem_map.mp hx
    obtain ⟨m1, m2⟩ := whole_outer ok wh hp
    have hw : ∀ (z : Str) (ρ6 : Rho), z = wayH hs p → wipeR ρ6 [5, 6, 7] = _ → Y (k3 p) (.str z) (wipeR ρ6 [5, 6, 7]) := fun z ρ6 e h => by rw [e]; exact hY ρ6 h
    unfold tr3
    repeat trivial
    refine ⟨k3 p, rfl, ?_⟩
    repeat trivial
    refine xDgK2 (kvs := nmKV hs) (k := k2p (p.1, p.2.1)) rfl rfl (nm_at m1) ?_
    repeat trivial
    refine xDgK2 (kvs := nmKV hs) (k := k2p (p.2.1, p.2.2)) rfl rfl (nm_at m2) ?_
    repeat trivial
    refine xIte (fun h => ?_) fun h => ?_
    · have h' := of_decide_eq_true h
      repeat trivial
      refine ⟨noNd_all rfl, _, rfl, hw _ _ ?_ (by rfl)⟩
      unfold wayH
      rw [if_pos (by omega)]
      rfl
    · have h' := of_decide_eq_false h
      repeat trivial
      refine ⟨noNd_all rfl, _, rfl, hw _ _ ?_ (by rfl)⟩
      unfold wayH
      rw [if_neg (by omega)]
      rfl
  rw [tell_map]
  refine ⟨rfl, q _ _ fun cs' hs' e => ?_⟩
  obtain ⟨rfl, rfl⟩ := rh_inj e
  rfl
end LW.D

namespace LW.D
open PySem PySem.Spec L2 TX

/-! ### no four bars the telling of a whole history -/
section
variable {cs : List Int} {hs : List (Int × Int)} (ok : RowOk cs) (wh : Whole cs hs)
include ok wh
end
theorem tell_keys (cs : List Int) (hs : List (Int × Int)) : (tellOf cs hs).map (·.1) = dt cs := by
  unfold tellOf
  rw [List.map_map]
  exact List.map_id' _
theorem tell_isTel {cs : List Int} (hs : List (Int × Int)) (ok : RowOk cs) : isTel cs (tellOf cs hs) = true := by
  unfold isTel
  rw [tell_keys, Bool.and_eq_true, decide_eq_true_eq, List.all_eq_true]
  refine ⟨?_, fun p hp => ?_⟩
  · exact List.mergeSort_of_pairwise ((dt_pair ok).imp fun {p q} h => by
      unfold ltT at h
      simp only [leT, decide_eq_true_eq]
      omega)
  · obtain ⟨q, _, rfl⟩ := List.mem_map.mp hp
    show okWay (wayH hs q) = true
    unfold wayH
    split <;> decide +kernel
end LW.D

namespace LW.D
open PySem PySem.Spec L2 TX
/-! ### which choices of ways have a history -/
/-- l and g stand next to one another, g ahead, and no three wants another exchange ahead of theirs -/
structure Sink (cs : List Int) (t : I3 → Bool) (l g : Int) : Prop where
  ml : l ∈ cs
  mg : g ∈ cs
  lt : l < g
  wr : pos cs g < pos cs l
  near : ∀ k ∈ cs, ¬ (pos cs g < pos cs k ∧ pos cs k < pos cs l)
  up : ∀ k ∈ cs, g < k → pos cs k < pos cs g → t (l, g, k) = true
  dn : ∀ k ∈ cs, k < l → pos cs l < pos cs k → t (k, l, g) = false
/-- when pairs are exchanged: -1 for those that stand right at first -/
structure Tms (cs : List Int) (t : I3 → Bool) (τ : Int → Int → Int) : Prop where
  r : ∀ x y, x ∈ cs → y ∈ cs → x < y → pos cs x < pos cs y → τ x y = -1
  w : ∀ x y, x ∈ cs → y ∈ cs → x < y → pos cs y < pos cs x → 0 ≤ τ x y
  b : ∀ x y z, x ∈ cs → y ∈ cs → z ∈ cs → x < y → y < z → (τ x z ≤ τ x y ∨ τ x z ≤ τ y z) ∧ (τ x y ≤ τ x z ∨ τ y z ≤ τ x z)
  i : ∀ x y u v, x ∈ cs → y ∈ cs → u ∈ cs → v ∈ cs → x < y → u < v → pos cs y < pos cs x → pos cs v < pos cs u → τ x y = τ u v → x = u ∧ y = v
  c : ∀ x y z, x ∈ cs → y ∈ cs → z ∈ cs → x < y → y < z → pos cs y < pos cs x → pos cs z < pos cs y → (τ x y < τ y z ↔ t (x, y, z) = true)
/-! ### a row without one of its cards -/
abbrev dl (cs : List Int) (n : Int) : List Int := cs.filter fun c => decide (c ≠ n)
theorem low_ne_high : (lowS : Str) ≠ highS := by decide
end LW.D

namespace LW.D
open PySem PySem.Spec L2 TX
/-- the pairs behind the greatest card, n, that it meets low -/
structure Lo (cs : List Int) (t : I3 → Bool) (n x y : Int) : Prop where
  mx : x ∈ dl cs n
  my : y ∈ dl cs n
  lt : x < y
  bn : pos cs n < pos cs y
  wr : pos cs y < pos cs x
  lo : t (x, y, n) = true
section
variable {cs : List Int} {t : I3 → Bool} {n : Int} {τ : Int → Int → Int}
end
end LW.D

namespace LW.D
open PySem PySem.Spec L2 TX
/-! ### one exchange -/
section
variable {cs : List Int} {t : I3 → Bool} {l g : Int}
end
/-! ### all choices that no four bars have a history -/
/-! ### all low, all high -/
end LW.D

namespace LW.D
open PySem PySem.Spec L2 TX
/-! ### tellings as choices of ways; a whole history built exchange by exchange -/
section
variable {cs : List Int} {ws : List (I3 × Str)}
theorem tel_kmem (h : isTel cs ws = true) (p : I3) : p ∈ ws.map (·.1) ↔ p ∈ dt cs := by
  unfold isTel at h
  rw [Bool.and_eq_true, decide_eq_true_eq] at h
  rw [← h.1]
  exact (List.mergeSort_perm _ leT).mem_iff.symm
end
/-! ### tellings in another order -/
theorem lookI_perm {ws ws' : List (I3 × Str)} (nd : (ws.map (·.1)).Nodup) (pm : ws'.Perm ws) (p : I3) : lookI ws' p = lookI ws p := by
  have nd' : (ws'.map (·.1)).Nodup := (pm.map _).nodup_iff.mpr nd
  cases e : lookI ws p with
  | some z =>
    obtain ⟨q, hq, rfl, rfl⟩ := lookI_in e
    exact lookI_mem nd' (pm.mem_iff.mpr hq)
  | none =>
    cases e2 : lookI ws' p with
    | none => rfl
    | some z =>
      obtain ⟨q, hq, rfl, rfl⟩ := lookI_in e2
      rw [lookI_mem nd (pm.mem_iff.mp hq)] at e
      cases e
theorem sortT_perm {ks ks' : List I3} (pm : ks'.Perm ks) : ks'.mergeSort leT = ks.mergeSort leT := by
  have tr : ∀ a b c : I3, leT a b = true → leT b c = true → leT a c = true := fun a b c h1 h2 => by simp only [leT, decide_eq_true_eq] at *; omega
  have tt : ∀ a b : I3, (leT a b || leT b a) = true := fun a b => by simp only [leT, Bool.or_eq_true, decide_eq_true_eq]; omega
  refine List.Perm.eq_of_pairwise (le := fun p q => leT p q = true) (fun p q _ _ h1 h2 => ?_) (List.pairwise_mergeSort tr tt _) (List.pairwise_mergeSort tr tt _) ((List.mergeSort_perm _ _).trans (pm.trans (List.mergeSort_perm _ _).symm))
  simp only [leT, decide_eq_true_eq] at h1 h2
  obtain ⟨a, b, c⟩ := p
  obtain ⟨a', b', c'⟩ := q
  simp only [Prod.mk.injEq] at *
  omega
theorem isTel_perm {cs : List Int} {ws ws' : List (I3 × Str)} (pm : ws'.Perm ws) (h : isTel cs ws = true) : isTel cs ws' = true := by
  unfold isTel at *
  rw [Bool.and_eq_true, decide_eq_true_eq, List.all_eq_true] at *
  exact ⟨by rw [sortT_perm (pm.map (·.1))]; exact h.1, fun p hp => h.2 p (pm.mem_iff.mp hp)⟩
/-! ### building -/
def s3 (l g c : Int) : I3 := if c < l then (c, l, g) else if c < g then (l, c, g) else (l, g, c)
section
variable {cs : List Int} {ws : List (I3 × Str)} {l g : Int}
end
end LW.D

namespace LW.D
open PySem PySem.Spec L2 TX

local macro_rules | `(tactic| trivial) => `(tactic| with_reducible first
  | refine xSeq ?_ | refine xSet ?_ | refine xSetK (by with_unfolding_all rfl) ?_ | refine xNext ?_ | refine xIfS ?_ | refine xDrop ?_ | refine xRet ?_ | refine xAsg ?_ | refine xAsK (by with_unfolding_all rfl) ?_ | refine xSub ?_ | refine xSbK (by with_unfolding_all rfl) (by with_unfolding_all rfl) (by with_unfolding_all rfl) ?_
  | refine xVarD (by with_unfolding_all rfl) ?_ | refine xVarZ (by with_unfolding_all rfl) ?_ | refine xVarN (by with_unfolding_all rfl) (by with_unfolding_all rfl) ?_ | refine xC ?_ | refine xOp ?_ | refine xI (by with_unfolding_all rfl) (by with_unfolding_all rfl) ?_ | refine xB (by with_unfolding_all rfl) (by with_unfolding_all rfl) ?_ | refine xEqI (by with_unfolding_all rfl) (by with_unfolding_all rfl) ?_ | refine xNeI (by with_unfolding_all rfl) (by with_unfolding_all rfl) ?_ | refine xNeg ?_ | refine xNegK ?_
  | refine xIc (by with_unfolding_all rfl) (by with_unfolding_all rfl) (by with_unfolding_all first | omega | exact ⟨by decide, by decide +kernel⟩) ?_
  | refine xT ?_ | refine xTK ?_ | refine xNot ?_ | refine xAnd ?_ | refine xOr ?_ | refine xAndV ?_ | refine xOrV ?_ | refine xNotV ?_ | refine xBK ?_ | refine xIf ?_ | refine xCh ?_ | refine xCh1 (by with_unfolding_all rfl) (by with_unfolding_all rfl) ?_ | refine xCh2 (by with_unfolding_all rfl) (by with_unfolding_all rfl) ?_
  | refine xIx ?_ | refine xIxA (by with_unfolding_all rfl) (by with_unfolding_all rfl) (by with_unfolding_all rfl) ?_ | refine xNil ?_ | refine xCons ?_ | refine xFn ?_ | refine xLst ?_ | refine xLstK (by with_unfolding_all rfl) ?_ | refine xTup ?_ | refine xTupK (by with_unfolding_all rfl) ?_ | refine xLen (by with_unfolding_all rfl) ?_ | refine xMax (by with_unfolding_all rfl) (by with_unfolding_all rfl) ?_ | refine xMin (by with_unfolding_all rfl) (by with_unfolding_all rfl) ?_
  | refine xYes (by with_unfolding_all rfl) ?_ | refine xNo (by with_unfolding_all rfl) ?_ | refine xIs (by with_unfolding_all rfl) (by with_unfolding_all rfl) ?_ | refine xCall ?_ | refine xM ?_ | refine xMA (by with_unfolding_all rfl) ?_ | refine xMD ?_ | refine xLc ?_ | refine xFor ?_ | refine xILst ?_ | refine xILK (by with_unfolding_all rfl) ?_ | refine xIR1 ?_ | refine xIEn ?_ | refine xSl ?_ | refine xNoPart ?_ | refine xPart ?_ | refine xPartK ?_ | refine xRevS ?_ | refine xCat ?_ | refine xLenSet ?_
  | refine xNm (by with_unfolding_all rfl) ?_ | refine xGTup (by with_unfolding_all rfl) ?_ | refine xGsCons ?_ | refine xGsNil ?_ | refine xYesT ?_ | refine xDg1 ?_ | refine xDp1 ?_ | refine xDg2 ?_ | refine xDp2 ?_ | refine xPar ?_ | refine xPaK (by with_unfolding_all rfl) (by with_unfolding_all rfl) ?_ | refine xRevT ?_ | refine xRevTK ?_ | refine xDi1 ?_ | refine xDi2 ?_ | refine xITup ?_ | refine xITupK ?_ | refine xIZip ?_ | refine xIR2 ?_ | refine xIsNK (by with_unfolding_all rfl) ?_ | refine xRev2 ?_ | refine xListR ?_ | refine xSlT ?_ | refine xSlTK ?_ | refine xGt1 ?_ | refine xGt2 ?_ | refine xGtA (by with_unfolding_all rfl) ?_ | refine xGtD ?_ | refine xRep ?_ | refine xDcL ?_ | refine xDc ?_ | refine xDpl ?_ | refine xGe1 ?_ | refine xGe2 ?_ | refine xIe1 ?_ | refine xIe2 ?_ | refine xGLst (by with_unfolding_all rfl) ?_ | refine xIsB (by with_unfolding_all rfl) (by with_unfolding_all rfl) ?_ | refine xVarL (by with_unfolding_all rfl) ?_ | refine xIDc ?_ | refine xIDcK ?_ | refine xLc2 ?_ | refine xGd1 ?_ | refine xGd2 ?_ | refine xGdA (by with_unfolding_all rfl) ?_ | refine xGdD ?_ | refine xDcT ?_ | refine xClip ?_ | refine xAppD ?_ | refine xAppD11 ?_ | refine xAppD21 ?_ | refine xLi ?_ | refine xIEz ?_)

/-! ### a telling in another order -/
def S_law_stirred : SpT := SpP (fun ts => ∃ a b c ws, ts = [potT a b c, .d (telD ws)] ∧ Pot a b c 1000 ∧ ws.length ≤ 1000 ∧ (ws.map (·.1)).Nodup) fun ts t ρ => ∀ a b c ws, ts = [potT a b c, .d (telD ws)] → ∃ ws', t = mK2 (telKV ws') ∧ ws'.Perm ws ∧ PotTo 1000 a b c ρ
theorem mS_law_stirred : MonSp S_law_stirred := mon_SpP
def kwD (ws : List (I3 × Str)) : PyData → PyData
  | .tuple [.int a, .int b, .int c] => .tuple [.tuple [.int a, .int b, .int c], .str ((lookI ws (a, b, c)).getD "")]
  | y => y
def kw (ws : List (I3 × Str)) (p : I3) : I3 × Str := (p, (lookI ws p).getD "")
theorem kw_data (ws : List (I3 × Str)) (ps : List I3) : (List.filter (fun _ => true) (ps.map tr3)).map (kwD ws) = (telKV (ps.map (kw ws))).map pairD := by
  rw [List.filter_eq_self.mpr (fun _ _ => rfl)]
  unfold telKV
  rw [List.map_map, List.map_map, List.map_map]
  rfl
theorem kw_map {ws : List (I3 × Str)} (nd : (ws.map (·.1)).Nodup) : (ws.map (·.1)).map (kw ws) = ws := by
  rw [List.map_map]
  conv => rhs; rw [← List.map_id ws]
  refine List.map_congr_left fun p hp => ?_
  show (p.1, (lookI ws p.1).getD "") = p
  rw [lookI_mem nd hp]; rfl
theorem telKV_keys (ws : List (I3 × Str)) : (telKV ws).map (·.1) = (ws.map (·.1)).map k3 := by unfold telKV; rw [List.map_map, List.map_map]; rfl
theorem telKV_nd {ws : List (I3 × Str)} (nd : (ws.map (·.1)).Nodup) : ((telKV ws).map (·.1)).Nodup := by
  rw [telKV_keys]
  exact List.pairwise_map.mpr (nd.imp fun h z => h (k3_inj z))
theorem xDgTel' {ρ : Rho} {Q : T → Rho → Prop} {ws : List (I3 × Str)} {p : I3} {z : Str} {u : T} (e : vw ρ u = some (tr3 p)) (h : lookI ws p = some z) (q : Q (.d (.str z)) ρ) : dgK2 (.d (telD ws)) u ρ Q :=
  ⟨telKV ws, k3 p, .str z, .inr ⟨(fun e => by
    have : ws = [] := List.map_eq_nil_iff.mp e
    subst this; cases h), by rw [← tel_kv]; rfl⟩, e, by rw [look_tel, h]; rfl, q⟩
theorem eraseIdx_mapA {α β : Type} (f : α → β) : ∀ (l : List α) (k : Nat), (l.map f).eraseIdx k = (l.eraseIdx k).map f
  | [], _ => rfl
  | _ :: _, 0 => rfl
  | a :: l, k + 1 => by simp only [List.map_cons, List.eraseIdx_cons_succ, eraseIdx_mapA f l k]
theorem perm_popA {α : Type} : ∀ {cs : List α} {j : Nat} {y : α}, cs[j]? = some y → (y :: cs.eraseIdx j).Perm cs
  | c :: cs, 0, y, h => by cases h; exact .refl _
  | c :: cs, j + 1, y, h => by
    rw [List.eraseIdx_cons_succ]
    exact (List.Perm.swap ..).trans ((perm_popA (cs := cs) (by simpa using h)).cons c)
abbrev N_law_stirred : List Str := ["_law_dish_here", "_law_ways_here", "_law_left", "_law_three", "_law_k"]
def w_law_stirred : TwS := (wSeq (wSet 2 (wFn kSortD (wCons (wVar 1) wNil)))
    (wRet (wFn kDictP (wCons (wLc (wILst (wLc (wIR1 (wCons (wFn kLenD (wCons (wVar 1) wNil)) wNil)) (wNm 4) wYes (wM isLst kPopAt (wVar 2) (wCons (wCall [0] 2 S_law_spoon (wCons (wVar 0) (wCons (wFn kLen (wCons (wVar 2) wNil)) wNil))) wNil)) [4])) (wNm 3) wYes (wTup (wCons (wVar 3) (wCons (wDg2 (wVar 1) (wVar 3)) wNil))) [3]) wNil))))
theorem pl_law_stirred : PlD S_law_stirred w_law_stirred N_law_stirred := by
  rintro ts Q Ex ⟨⟨a, b, c, ws, rfl, hp, wl, nd⟩, q⟩
  have fin : ∀ ws' a' c' ρ, ws'.Perm ws → ρ[0]? = some (some (potT a' b c')) → 0 ≤ a' → c ≤ c' → c' ≤ c + 1000 → Q (mK2 (telKV ws')) ρ := fun ws' a' c' ρ pm e h1 h2 h3 => q _ _ fun a9 b9 c9 ws9 e9 => by
    simp only [List.cons.injEq, T.d.injEq, and_true] at e9
    obtain ⟨rfl, rfl, rfl⟩ := pot_inj e9.1
    cases tel_inj e9.2
    exact ⟨ws', rfl, pm, a', c', e, h1, h2, h3⟩
  obtain ⟨p1, p2, p3, p4, p5⟩ := id hp
  unfold w_law_stirred
  repeat trivial
  refine xSortD (ks := (ws.map fun x : I3 × Str => x.1).map tr3) (show dkeys _ (.d (telD ws)) = _ from congrArg some (tel_keys ws)) (alike_trs _) (sortable_trs _) (depth_trs _) ?_
  rw [sortT]
  repeat trivial
  refine xLenD (ks := (ws.map fun x : I3 × Str => x.1).map tr3) (show dkeys _ (.d (telD ws)) = _ from congrArg some (tel_keys ws)) ?_
  repeat trivial
  rw [List.length_map, List.length_map]
  refine xIRK (by omega) (by omega) ?_
  refine ⟨noNd1 rfl, by rw [range_len]; omega, fun i acc ρ2 => ∃ (a' c' : Int) (out left : List I3), ρ2 = [some (potT a' b c'), some (.d (telD ws)), some (.l ((left.map tr3).map T.d)), none, none] ∧ acc = out.map tr3 ∧ (out ++ left).Perm (ws.map fun x : I3 × Str => x.1) ∧ out.length = i ∧ 0 ≤ a' ∧ c ≤ c' ∧ c' ≤ c + i, ⟨a, c, [], (ws.map fun x : I3 × Str => x.1).mergeSort leT, rfl, rfl, List.mergeSort_perm (ws.map fun x : I3 × Str => x.1) leT, rfl, p1, by omega, by omega⟩, ?_, ?_⟩
  · rintro i x acc ρ2 e ⟨a', c', out, left, rfl, rfl, pm, ol, g1, g2, g3⟩
    obtain ⟨hi, rfl⟩ := range_get e
    have hlen := pm.length_eq
    simp at hlen
    have hi' : i < ws.length := by omega
    repeat trivial
    refine ⟨noNd1 rfl, xYes rfl ?_⟩
    repeat trivial
    refine xSpoon (k := 1) rfl ⟨g1, p2, p3, by omega, by omega⟩ (by decide) (by simp; omega) (by simp; omega) fun i5 a5 c5 i50 i51 hp5 c50 c51 => ?_
    simp at i51
    repeat trivial
    obtain ⟨y, hy⟩ : ∃ y, left[i5.toNat]? = some y := ⟨_, List.getElem?_eq_getElem (by omega)⟩
    refine xPopAt (ds := left.map tr3) (y := tr3 y) rfl i50 (by simp; omega) (by simp; omega) (by rw [List.getElem?_map, hy]; rfl) ?_
    refine ⟨noNd1 rfl, _, rfl, a5, c5, out ++ [y], left.eraseIdx i5.toNat, ?_, by simp, ?_, by simp; omega, hp5.1, by omega, by omega⟩
    · rw [show (left.map tr3).eraseIdx i5.toNat = (left.eraseIdx i5.toNat).map tr3 from (eraseIdx_mapA ..)]; rfl
    · refine List.Perm.trans ?_ pm
      rw [List.append_assoc]
      exact (perm_popA hy).append_left out
  · rintro acc ρ2 ⟨a', c', out, left, rfl, rfl, pm, ol, g1, g2, g3⟩
    rw [range_len] at ol g3
    have hlen := pm.length_eq
    simp at hlen
    have : left = [] := List.length_eq_zero_iff.mp (by omega)
    subst this
    rw [List.append_nil] at pm
    refine xILK flat_map ?_
    refine xLcM (fun _ => true) (kwD ws) rfl (by simp; omega) (by simp [restR]) (fun x hx Y Z hY _ => ?_) ?_
    · obtain ⟨p, hp, rfl⟩ := List.mem_map.mp hx
      obtain ⟨q, hq, rfl⟩ := List.mem_map.mp (pm.mem_iff.mp hp)
      have lk := lookI_mem nd hq
      refine xYesT ⟨noNd1 rfl, xYes rfl ?_⟩
      repeat trivial
      refine xDgTel' rfl lk ?_
      repeat trivial
      refine ⟨noNd1 rfl, _, rfl, ?_⟩
      have e : PyData.tuple [tr3 q.1, .str q.2] = kwD ws (tr3 q.1) := by
        show _ = PyData.tuple [_, .str ((lookI ws q.1).getD "")]
        rw [lk]; rfl
      rw [e]
      exact hY rfl
    · rw [kw_data]
      repeat trivial
      have pm2 : (out.map (kw ws)).Perm ws := (pm.map (kw ws)).trans (by rw [kw_map nd])
      refine xDictP (kvs := telKV (out.map (kw ws))) (allD_map _) (telKV_nd ((pm2.map _).nodup_iff.mpr nd)) ?_
      refine ⟨rfl, fin _ a' c' _ pm2 rfl g1 (by omega) (by omega)⟩
theorem xStirred {ρ : Rho} {Q : T → Rho → Prop} {E : ExK} {r : Nat} {a b c k : Int} {ws : List (I3 × Str)} {u : T} (hg : ρ[r]? = some (some (potT a b c))) (hu : argsF [0] ρ false 1 [u] = some [.d (telD ws)]) (ha : apartB [.a r [], u] = true) (hp : Pot a b c k) (hk : 1000 ≤ k) (wl : ws.length ≤ 1000) (nd : (ws.map (·.1)).Nodup)
    (q : ∀ ws' a' c', ws'.Perm ws → Pot a' b c' (k - 1000) → c ≤ c' → c' ≤ c + 1000 → Q (mK2 (telKV ws')) (ρ.set r (some (potT a' b c')))) : caK [0] 2 S_law_stirred [.a r [], u] ρ Q E := by
  obtain ⟨h1, h2, h3, h4, h5⟩ := hp
  refine xCaF hg rfl hu rfl ha ⟨a, b, c, ws, rfl, ⟨h1, h2, h3, h4, by omega⟩, wl, nd⟩ fun v ρ' h => ?_
  obtain ⟨ws', rfl, pm, a', c', e, g1, g2, g3⟩ := h a b c ws rfl
  exact ⟨_, e, rfl, rfl, q ws' a' c' pm ⟨g1, h2, h3, by omega, by omega⟩ g2 g3⟩
end LW.D

namespace LW.D
open PySem PySem.Spec L2 TX

local macro_rules | `(tactic| trivial) => `(tactic| with_reducible first
  | refine xSeq ?_ | refine xSet ?_ | refine xSetK (by with_unfolding_all rfl) ?_ | refine xNext ?_ | refine xIfS ?_ | refine xDrop ?_ | refine xRet ?_ | refine xAsg ?_ | refine xAsK (by with_unfolding_all rfl) ?_ | refine xSub ?_ | refine xSbK (by with_unfolding_all rfl) (by with_unfolding_all rfl) (by with_unfolding_all rfl) ?_
  | refine xVarD (by with_unfolding_all rfl) ?_ | refine xVarZ (by with_unfolding_all rfl) ?_ | refine xVarN (by with_unfolding_all rfl) (by with_unfolding_all rfl) ?_ | refine xC ?_ | refine xOp ?_ | refine xI (by with_unfolding_all rfl) (by with_unfolding_all rfl) ?_ | refine xB (by with_unfolding_all rfl) (by with_unfolding_all rfl) ?_ | refine xEqI (by with_unfolding_all rfl) (by with_unfolding_all rfl) ?_ | refine xNeI (by with_unfolding_all rfl) (by with_unfolding_all rfl) ?_ | refine xNeg ?_ | refine xNegK ?_
  | refine xIc (by with_unfolding_all rfl) (by with_unfolding_all rfl) (by with_unfolding_all first | omega | exact ⟨by decide, by decide +kernel⟩) ?_
  | refine xT ?_ | refine xTK ?_ | refine xNot ?_ | refine xAnd ?_ | refine xOr ?_ | refine xAndV ?_ | refine xOrV ?_ | refine xNotV ?_ | refine xBK ?_ | refine xIf ?_ | refine xCh ?_ | refine xCh1 (by with_unfolding_all rfl) (by with_unfolding_all rfl) ?_ | refine xCh2 (by with_unfolding_all rfl) (by with_unfolding_all rfl) ?_
  | refine xIx ?_ | refine xIxA (by with_unfolding_all rfl) (by with_unfolding_all rfl) (by with_unfolding_all rfl) ?_ | refine xNil ?_ | refine xCons ?_ | refine xFn ?_ | refine xLst ?_ | refine xLstK (by with_unfolding_all rfl) ?_ | refine xTup ?_ | refine xTupK (by with_unfolding_all rfl) ?_ | refine xLen (by with_unfolding_all rfl) ?_ | refine xMax (by with_unfolding_all rfl) (by with_unfolding_all rfl) ?_ | refine xMin (by with_unfolding_all rfl) (by with_unfolding_all rfl) ?_
  | refine xYes (by with_unfolding_all rfl) ?_ | refine xNo (by with_unfolding_all rfl) ?_ | refine xIs (by with_unfolding_all rfl) (by with_unfolding_all rfl) ?_ | refine xCall ?_ | refine xM ?_ | refine xMA (by with_unfolding_all rfl) ?_ | refine xMD ?_ | refine xLc ?_ | refine xFor ?_ | refine xILst ?_ | refine xILK (by with_unfolding_all rfl) ?_ | refine xIR1 ?_ | refine xIEn ?_ | refine xSl ?_ | refine xNoPart ?_ | refine xPart ?_ | refine xPartK ?_ | refine xRevS ?_ | refine xCat ?_ | refine xLenSet ?_
  | refine xNm (by with_unfolding_all rfl) ?_ | refine xGTup (by with_unfolding_all rfl) ?_ | refine xGsCons ?_ | refine xGsNil ?_ | refine xYesT ?_ | refine xDg1 ?_ | refine xDp1 ?_ | refine xDg2 ?_ | refine xDp2 ?_ | refine xPar ?_ | refine xPaK (by with_unfolding_all rfl) (by with_unfolding_all rfl) ?_ | refine xRevT ?_ | refine xRevTK ?_ | refine xDi1 ?_ | refine xDi2 ?_ | refine xITup ?_ | refine xITupK ?_ | refine xIZip ?_ | refine xIR2 ?_ | refine xIsNK (by with_unfolding_all rfl) ?_ | refine xRev2 ?_ | refine xListR ?_ | refine xSlT ?_ | refine xSlTK ?_ | refine xGt1 ?_ | refine xGt2 ?_ | refine xGtA (by with_unfolding_all rfl) ?_ | refine xGtD ?_ | refine xRep ?_ | refine xDcL ?_ | refine xDc ?_ | refine xDpl ?_ | refine xGe1 ?_ | refine xGe2 ?_ | refine xIe1 ?_ | refine xIe2 ?_ | refine xGLst (by with_unfolding_all rfl) ?_ | refine xIsB (by with_unfolding_all rfl) (by with_unfolding_all rfl) ?_ | refine xVarL (by with_unfolding_all rfl) ?_ | refine xIDc ?_ | refine xIDcK ?_ | refine xLc2 ?_ | refine xGd1 ?_ | refine xGd2 ?_ | refine xGdA (by with_unfolding_all rfl) ?_ | refine xGdD ?_ | refine xDcT ?_ | refine xClip ?_ | refine xAppD ?_ | refine xAppD11 ?_ | refine xAppD21 ?_ | refine xLi ?_ | refine xIEz ?_)

/-! ### following a history in the law -/
def folT (o : Option (List Int)) : T := match o with
  | none => .d .none
  | some r => intL r
def S_law_follows : SpT := SpP (fun ts => ∃ cs hs, ts = [rowD cs, .d (pairsD hs)] ∧ RowOk cs ∧ (∀ p ∈ hs, p.1 ∈ cs ∧ p.2 ∈ cs)) fun ts t _ => ∀ cs hs, ts = [rowD cs, .d (pairsD hs)] → t = folT (ledL cs (hs.map pr))
theorem mS_law_follows : MonSp S_law_follows := mon_SpP
theorem may_two {r : List Int} {l g : Int} (hg : g ∈ r) : mayB r l g = true ↔ l < g ∧ (r.drop (pos r g)).take 2 = [g, l] := by
  have e : r.drop (pos r g) = g :: r.drop (pos r g + 1) := by
    have h := pos_lt hg
    rw [List.drop_eq_getElem_cons h]
    congr 1
    exact (List.getElem?_eq_some_iff.mp (pos_at hg)).2
  unfold mayB
  rw [e, Bool.and_eq_true, Bool.and_eq_true, decide_eq_true_eq, decide_eq_true_eq, decide_eq_true_eq, List.take_succ_cons]
  simp [hg]
abbrev N_law_follows : List Str := ["_law_row_here", "_law_done", "_law_here", "_law_less", "_law_great", "_law_at"]
def w_law_follows : TwS := (wSeq (wSet 2 (wFn kList (wCons (wVar 0) wNil)))
    (wSeq (wFor (wILst (wVar 1)) (wGTup 2 (wGsCons (wNm 3) (wGsCons (wNm 4) wGsNil))) (wSeq (wSet 5 (wM isLst kIdx (wVar 2) (wCons (wVar 4) wNil)))
    (wSeq (wIfS (wOr (wNot (wT (wOp (fB fun i j => decide (i < j)) (wVar 3) (wVar 4)))) (wT (wOp (fNe) (wSl (wVar 2) (wPart (wVar 5)) (wPart (wOp (fI (· + ·)) (wVar 5) (wC (.d (.int 2)))))) (wLst (wCons (wVar 4) (wCons (wVar 3) wNil)))))) (wRet (wC (.d .none))) wNext)
    (wAsg (wLst (wCons (wVar 3) (wCons (wVar 4) wNil))) (wClip (wVar 2) (wPart (wVar 5)) (wPart (wOp (fI (· + ·)) (wVar 5) (wC (.d (.int 2))))))))))
    (wRetV 2)))
theorem pl_law_follows : PlD S_law_follows w_law_follows N_law_follows := by
  rintro ts Q Ex ⟨⟨cs, hs, rfl, ok, mem⟩, q⟩
  have fin : ∀ t ρ, t = folT (ledL cs (hs.map pr)) → Q t ρ := fun t ρ e => q _ _ fun cs' hs' e' => by
    obtain ⟨rfl, rfl⟩ := rh_inj e'
    exact e
  unfold w_law_follows
  repeat trivial
  refine xList rfl ?_
  repeat trivial
  refine xFoK (fun i ρ => ∃ (r : List Int) (o3 o4 o5 : Option PyData), ρ = [some (rowD cs), some (.d (pairsD hs)), some (intL r), o3.map T.d, o4.map T.d, o5.map T.d] ∧ RowOk r ∧ r.Perm cs ∧ ledL r ((hs.map pr).drop i) = ledL cs (hs.map pr)) ⟨cs, none, none, none, rfl, ok, .refl _, rfl⟩ ?_ ?_
  · rintro i x ρ2 e ⟨r, o3, o4, o5, rfl, okr, pm, hr⟩
    obtain ⟨hi, hxi⟩ := List.getElem?_eq_some_iff.mp e
    rw [List.drop_eq_getElem_cons hi, hxi] at hr
    obtain ⟨⟨l, g⟩, hp, rfl⟩ := List.mem_map.mp (List.mem_of_getElem? e)
    obtain ⟨ml, mg⟩ := mem _ hp
    have ml' := pm.mem_iff.mpr ml
    have mg' := pm.mem_iff.mpr mg
    have lp := pos_lt mg'
    have c1 := okr.1 l ml'
    have c2 := okr.1 g mg'
    have l24 := okr.2.2.2
    have mt := may_two (l := l) mg'
    have non : mayB r l g = false → folT (ledL cs (hs.map pr)) = .d .none := fun h => by
      rw [← hr]
      unfold ledL
      rw [if_neg (fun z => by have := (mayD_pr.mp z).2; rw [h] at this; cases this)]
      rfl
    unfold pr
    repeat trivial
    refine xNm (noNd_o rfl) ?_
    repeat trivial
    refine xNm (noNd_o rfl) ?_
    repeat trivial
    refine xIdxI erase_intL rfl mg' ?_
    repeat trivial
    refine xIte (fun h => ?_) fun h => ?_
    · have h' : ¬ l < g := by simpa using h
      repeat trivial
      refine ⟨rfl, fin _ _ (non ?_).symm⟩
      exact Bool.eq_false_iff.mpr fun z => h' (mt.mp z).1
    · have h' : l < g := by simpa using h
      repeat trivial
      refine xSlK (ds := r.map PyData.int) (allD_map _) ?_
      rw [cut_two (by omega) (by simp; omega), Int.toNat_natCast, ← List.map_drop, ← List.map_take]
      repeat trivial
      refine xNeL (xs := (r.drop (pos r g)).take 2) (ys := [g, l]) vw_l rfl ?_
      repeat trivial
      refine xIte (fun h2 => ?_) fun h2 => ?_
      · repeat trivial
        refine ⟨rfl, fin _ _ (non ?_).symm⟩
        exact Bool.eq_false_iff.mpr fun z => by rw [decide_eq_true (mt.mp z).2] at h2; cases h2
      · have may : mayB r l g = true := mt.mpr ⟨h', by simpa using h2⟩
        repeat trivial
        refine xClipK (ds := r.map PyData.int) rfl (by omega) (by omega) (by rw [List.length_map]; omega) (by simp; exact Nat.le_of_lt (small1000 (by omega))) ?_
        obtain ⟨u, v, er⟩ := ((may_iff okr.2.1).mp may).2
        have nb : g ∉ u := fun z => by
          have nd := okr.2.1
          rw [er] at nd
          exact (List.nodup_append.mp nd).2.2 _ z _ List.mem_cons_self rfl
        have pu : pos r g = u.length := by
          rw [er, pos_app nb]
        have es : sw r l g = r.take (pos r g) ++ [l, g] ++ r.drop (pos r g + 2) := by
          rw [pu]
          conv => lhs; rw [er]
          rw [sw_eq nb, er]
          simp
        have md : mayD r (pr (l, g)) = true := mayD_pr.mpr ⟨⟨c1, c2⟩, may⟩
        have hr2 : ledL (sw r l g) ((hs.map pr).drop (i + 1)) = ledL cs (hs.map pr) := by
          rw [← hr]
          conv => rhs; unfold ledL
          rw [if_pos md, swD_pr]
        refine ⟨sw r l g, some (.int l), some (.int g), some (.int (pos r g : Nat)), ?_, swD_ok okr md, (sw_perm okr.2.1 may).trans pm, hr2⟩
        rw [es, show (((pos r g : Nat) : Int) + 2).toNat = pos r g + 2 by omega, Int.toNat_natCast]
        simp [intL, TX.putAt, putT, List.map_take, List.map_drop, List.map_append]
  · rintro ρ2 ⟨r, o3, o4, o5, rfl, okr, pm, hr⟩
    rw [List.drop_of_length_le (Nat.le_refl _)] at hr
    repeat trivial
    refine xRetV rfl ⟨rfl, fin _ _ ?_⟩
    rw [← hr]
    rfl
theorem imm_fol (o : Option (List Int)) : immT (folT o) = true := by
  unfold folT
  split
  · rfl
  · unfold intL immT; exact imm_ints _
theorem xFollows {ρ : Rho} {Q : T → Rho → Prop} {E : ExK} {ts : List T} {vu : Bool} {cs : List Int} {hs : List (Int × Int)} (ok : RowOk cs) (mem : ∀ p ∈ hs, p.1 ∈ cs ∧ p.2 ∈ cs) (h : argsF [] ρ vu 0 ts = some [rowD cs, .d (pairsD hs)]) (ha : apartB ts = true) (q : Q (folT (ledL cs (hs.map pr))) ρ) : caK [] 2 S_law_follows ts ρ Q E := by
  cases vu with
  | false => exact xCaP h rfl ha ⟨cs, hs, rfl, ok, mem⟩ fun t ρ' e => by rw [e cs hs rfl]; exact ⟨by unfold folT; split <;> rfl, q⟩
  | true => exact xCaV h rfl ha ⟨cs, hs, rfl, ok, mem⟩ fun t ρ' e => by rw [e cs hs rfl]; exact ⟨imm_fol _, by unfold folT; split <;> rfl, q⟩
end LW.D

namespace LW.D
open PySem PySem.Spec L2 TX

/-! ### steps of the laws' own defs -/
theorem xDish {ρ : Rho} {Q : T → Rho → Prop} {E : ExK} {ns : List Int} {k : Int} (h0 : 0 ≤ k) (h1 : k ≤ 1000) (q : ∀ a b, Pot a b 0 (2 ^ 40) → Q (potT a b 0) ρ) : caK [] 2 S_law_dish [.fz ns, .d (.int k)] ρ Q E :=
  xCaP rfl rfl rfl ⟨ns, k, rfl, h0, h1⟩ fun t ρ' ⟨a, b, e, hp⟩ => by subst e; exact ⟨rfl, q a b hp⟩
theorem xGone {ρ : Rho} {Q : T → Rho → Prop} {E : ExK} {r : Nat} {a b c k : Int} {cs : List Int} (hg : ρ[r]? = some (some (potT a b c))) (hp : Pot a b c k) (hk : 600 ≤ k) (ok : RowOk cs)
    (q : ∀ hs a' c', Whole cs hs → Pot a' b c' (k - 600) → c ≤ c' → c' ≤ c + 600 → Q (pairL hs) (ρ.set r (some (potT a' b c')))) : caK [0] 2 S_law_gone [.a r [], rowD cs] ρ Q E := by
  obtain ⟨h1, h2, h3, h4, h5⟩ := hp
  refine xCaF hg rfl rfl rfl rfl ⟨a, b, c, cs, rfl, ⟨h1, h2, h3, h4, by omega⟩, ok⟩ fun u ρ' h => ?_
  obtain ⟨hs, rfl, i0, a', c', e, g1, g2, g3⟩ := h a b c cs rfl
  exact ⟨_, e, rfl, rfl, q hs a' c' i0 ⟨g1, h2, h3, by omega, by omega⟩ g2 g3⟩
theorem erase_mK2 (kvs : List (List Key × PyData)) : erase (mK2 kvs) = some (.dict (kvs.map fun p => (tupD p.1, p.2))) := by
  unfold mK2
  simp only [erase, eraseAll_d, Option.map_some]
  rw [List.zip_map']
theorem erase_tel (ws : List (I3 × Str)) : erase (mK2 (telKV ws)) = some (.dict (telPs ws)) := by rw [erase_mK2, ← tel_kv]
theorem imm_strsQ : ∀ zs : List Str, immTs ((zs.map PyData.str).map T.d) = true
  | [] => rfl
  | z :: zs => by
    simp only [List.map_cons, immTs, imm_strsQ zs, Bool.and_true]
    rfl
theorem imm_telQ (ws : List (I3 × Str)) : immT (mK2 (telKV ws)) = true := by
  unfold mK2 immT
  have e : ((telKV ws).map (fun x => x.2)).map T.d = ((ws.map (·.2)).map PyData.str).map T.d := by
    unfold telKV
    rw [List.map_map, List.map_map, List.map_map, List.map_map]
    rfl
  rw [e]
  exact imm_strsQ _
theorem xWays {ρ : Rho} {Q : T → Rho → Prop} {E : ExK} {ts : List T} {vu : Bool} {cs : List Int} {hs : List (Int × Int)} (ok : RowOk cs) (wh : Whole cs hs) (h : argsF [] ρ vu 0 ts = some [rowD cs, .d (pairsD hs)]) (ha : apartB ts = true) (q : Q (mK2 (telKV (tellOf cs hs))) ρ) : caK [] 2 S_law_ways ts ρ Q E := by
  cases vu with
  | false => exact xCaP h rfl ha ⟨cs, hs, rfl, ok, wh⟩ fun t ρ' e => by rw [e cs hs rfl]; exact ⟨rfl, q⟩
  | true => exact xCaV h rfl ha ⟨cs, hs, rfl, ok, wh⟩ fun t ρ' e => by rw [e cs hs rfl]; exact ⟨imm_telQ _, rfl, q⟩
theorem whole_len {cs : List Int} {hs : List (Int × Int)} (ok : RowOk cs) (cl : cs.length ≤ 10) (wh : Whole cs hs) : hs.length ≤ 100 := by
  have wc := wrong_count ok wh
  have dl := dp_len cs (sI cs)
  have sl : (sI cs).length = cs.length := (sI_perm cs).length_eq
  rw [sl] at dl
  have := Nat.mul_le_mul cl cl
  omega
theorem dt_len10 {cs : List Int} (cl : cs.length ≤ 10) : (dt cs).length ≤ 1000 := by
  have sl : (sI cs).length = cs.length := (sI_perm cs).length_eq
  have h := Nat.le_trans (List.length_filter_le (crF cs) _) (th_len (sI cs))
  rw [sl] at h
  exact Nat.le_trans h (Nat.mul_le_mul cl (Nat.mul_le_mul cl cl))
theorem tell_len {cs : List Int} {hs : List (Int × Int)} (cl : cs.length ≤ 10) : (tellOf cs hs).length ≤ 1000 := by
  have := congrArg List.length (tell_keys cs hs)
  rw [List.length_map] at this
  rw [this]
  exact dt_len10 cl
theorem shaped_tel {ws : List (I3 × Str)} (so : ∀ p ∈ ws, PyData.strOk p.2 = true) : ∀ p ∈ telPs ws, SeqAt.shaped p.2 = true := fun p hp => by
  obtain ⟨w, hw, rfl⟩ := List.mem_map.mp hp
  exact shaped_str (so w hw)
theorem find_telO (ws : List (I3 × Str)) (p : I3) : (telPs ws).find? (fun q => PyData.eqv q.1 (tr3 p)) = (lookI ws p).map fun z => (tr3 p, .str z) := by
  induction ws with
  | nil => rfl
  | cons w ws ih =>
    unfold telPs lookI at *
    rw [List.map_cons, List.find?_cons, List.find?_cons, show PyData.eqv (tr3 w.1, PyData.str w.2).1 (tr3 p) = decide (w.1 = p) from eqv_trs _ _]
    by_cases e : w.1 = p
    · rw [decide_eq_true e]
      simp only [Option.map_some]
      rw [e]
    · rw [decide_eq_false e]
      exact ih
theorem okP_tel (ws : List (I3 × Str)) (p : I3 × Str) : okP (telPs ws) (tr3 p.1, .str p.2) = decide (lookI ws p.1 = some p.2) := by
  unfold okP
  simp only
  rw [find_telO]
  cases e : lookI ws p.1 with
  | none => rfl
  | some z =>
    simp only [Option.map_some, eqv_str]
    rw [Bool.eq_iff_iff, beq_iff_eq, decide_eq_true_eq]
    constructor
    · rintro rfl; rfl
    · intro h; cases h; rfl
theorem nd_len {α : Type} [DecidableEq α] : ∀ {l m : List α}, l.Nodup → l ⊆ m → l.length ≤ m.length
  | [], _, _, _ => Nat.zero_le _
  | a :: l, m, nd, h => by
    obtain ⟨h1, h2⟩ := List.nodup_cons.mp nd
    have ma : a ∈ m := h List.mem_cons_self
    have := nd_len (m := m.erase a) h2 fun x hx => (List.mem_erase_of_ne (show x ≠ a from fun e => h1 (e ▸ hx))).mpr (h (List.mem_cons_of_mem _ hx))
    rw [List.length_erase_of_mem ma] at this
    have := List.length_pos_of_mem ma
    rw [List.length_cons]
    omega
theorem nd_perm {α : Type} [DecidableEq α] {l m : List α} (h1 : l.Nodup) (h2 : m.Nodup) (s : l ⊆ m) (hl : m.length ≤ l.length) : l.Perm m := by
  refine (List.perm_ext_iff_of_nodup h1 h2).mpr fun x => ⟨fun h => s h, fun h => ?_⟩
  by_cases c : x ∈ l
  · exact c
  · have := nd_len (l := x :: l) (m := m) (List.nodup_cons.mpr ⟨c, h1⟩) fun y hy => by
      rcases List.mem_cons.mp hy with rfl | hy
      · exact h
      · exact s hy
    rw [List.length_cons] at this
    omega
/-- two tellings are equal dicts just where they are the same but for their order -/
theorem dEq_tel {ws ws' : List (I3 × Str)} (nd : (ws.map (·.1)).Nodup) (nd' : (ws'.map (·.1)).Nodup) : dEq (telPs ws) (telPs ws') = true ↔ ws.Perm ws' := by
  have nn : ∀ {l : List (I3 × Str)}, (l.map (·.1)).Nodup → l.Nodup := fun {l} h => (List.pairwise_map.mp h).imp fun h e => h (by rw [e])
  have key : ∀ p ∈ ws, (lookI ws' p.1 = some p.2 ↔ p ∈ ws') := fun p _ => ⟨fun h => by
    obtain ⟨q, hq, e1, e2⟩ := lookI_in h
    have : q = p := Prod.ext e1 e2
    exact this ▸ hq, fun h => lookI_mem nd' h⟩
  unfold dEq
  rw [Bool.and_eq_true, beq_iff_eq, List.all_eq_true]
  constructor
  · rintro ⟨h1, h2⟩
    have sub : ws ⊆ ws' := fun p hp => by
      have := h2 (tr3 p.1, .str p.2) (List.mem_map.mpr ⟨p, hp, rfl⟩)
      rw [okP_tel, decide_eq_true_eq] at this
      exact (key p hp).mp this
    have hl : ws.length = ws'.length := by simpa [telPs] using h1
    exact nd_perm (nn nd) (nn nd') sub (by omega)
  · intro pm
    refine ⟨by simpa [telPs] using pm.length_eq, fun q hq => ?_⟩
    obtain ⟨p, hp, rfl⟩ := List.mem_map.mp hq
    rw [okP_tel, decide_eq_true_eq]
    exact (key p hp).mpr (pm.mem_iff.mp hp)
theorem dEq_telB {ws ws' : List (I3 × Str)} (nd : (ws.map (·.1)).Nodup) (nd' : (ws'.map (·.1)).Nodup) (pm : ws.Perm ws') : dEq (telPs ws) (telPs ws') = true := (dEq_tel nd nd').mpr pm
theorem tk_tel {ws ws' : List (I3 × Str)} (h : (telPs ws).length = (telPs ws').length) : tkD (telPs ws) = tkD (telPs ws') := by
  match ws, ws', h with
  | [], [], _ => rfl
  | _ :: _, _ :: _, _ => rfl
theorem rprKv {w k : Nat} : ∀ {ps : List (PyData × PyData)}, (∀ p ∈ ps, Rpr p.1 w k ∧ Rpr p.2 41 1) → 1 ≤ k → PyData.showableKv ps = true ∧ PyData.leavesShortKv 60 ps = true ∧ PyData.weightKv ps ≤ (w + 43) * ps.length ∧ PyData.depthKv ps ≤ k
  | [], _, _ => ⟨rfl, rfl, Nat.le_refl _, by simp [PyData.depthKv]⟩
  | (a, b) :: ps, h, hk => by
    obtain ⟨h1, h2⟩ := h (a, b) List.mem_cons_self
    obtain ⟨i1, i2, i3, i4⟩ := rprKv (fun p hp => h p (List.mem_cons_of_mem _ hp)) hk
    have w1 := h1.wt
    have w2 := h2.wt
    have d1 := h1.dp
    have d2 := h2.dp
    simp only [PyData.showableKv, PyData.leavesShortKv, PyData.weightKv, PyData.depthKv, List.length_cons, Nat.mul_succ]
    refine ⟨by rw [h1.sh, h2.sh, i1]; rfl, by rw [h1.lv, h2.lv, i2]; rfl, by simp only at w1 w2; omega, by simp only at d1 d2; omega⟩
theorem rprTr {p : I3} (h : smallC p) : Rpr (tr3 p) 126 2 := .tuple (.cons (.int (by unfold smallC at h; omega)) (.cons (.int (by unfold smallC at h; omega)) (.cons (.int (by unfold smallC at h; omega)) .nil)))
theorem rprWay {z : Str} (h : okWay z = true) : Rpr (.str z) 41 1 := by
  unfold okWay at h
  rw [Bool.or_eq_true, beq_iff_eq, beq_iff_eq] at h
  rcases h with rfl | rfl <;> exact .str (by decide +kernel) (by decide +kernel)
theorem tel_small {cs : List Int} {ws : List (I3 × Str)} (ok : RowOk cs) (it : isTel cs ws = true) : ∀ p ∈ ws, smallC p.1 ∧ okWay p.2 = true := fun p hp => by
  obtain ⟨⟨m1, m2, m3⟩, _⟩ := (dt_iff ok).mp ((tel_kmem it p.1).mp (List.mem_map_of_mem (f := fun x : I3 × Str => x.1) hp))
  have c1 := ok.1 _ m1
  have c2 := ok.1 _ m2
  have c3 := ok.1 _ m3
  unfold isTel at it
  rw [Bool.and_eq_true, List.all_eq_true] at it
  exact ⟨by unfold smallC; omega, it.2 p hp⟩
theorem rprTel {ws : List (I3 × Str)} (h : ∀ p ∈ ws, smallC p.1 ∧ okWay p.2 = true) (hl : ws.length ≤ 1000) : Rpr (telD ws) 169000 3 := by
  obtain ⟨h1, h2, h3, h4⟩ := rprKv (w := 126) (k := 2) (ps := telPs ws) (fun p hp => by
    obtain ⟨q, hq, rfl⟩ := List.mem_map.mp hp
    exact ⟨rprTr (h q hq).1, rprWay (h q hq).2⟩) (by decide)
  have hl' : (telPs ws).length ≤ 1000 := by unfold telPs; rw [List.length_map]; exact hl
  have := Nat.mul_le_mul_left (126 + 43) hl'
  rw [telD_eq]
  exact ⟨by simpa only [PyData.showable] using h1, by simpa only [PyData.leavesShort] using h2, by simp only [PyData.weight]; omega, by simp only [PyData.depth]; omega⟩
/-! ### all threes one way -/
end LW.D

namespace LW.D
open PySem PySem.Spec L2 TX

local macro_rules | `(tactic| trivial) => `(tactic| with_reducible first
  | refine xSeq ?_ | refine xSet ?_ | refine xSetK (by with_unfolding_all rfl) ?_ | refine xNext ?_ | refine xIfS ?_ | refine xDrop ?_ | refine xRet ?_ | refine xAsg ?_ | refine xAsK (by with_unfolding_all rfl) ?_ | refine xSub ?_ | refine xSbK (by with_unfolding_all rfl) (by with_unfolding_all rfl) (by with_unfolding_all rfl) ?_
  | refine xVarD (by with_unfolding_all rfl) ?_ | refine xVarZ (by with_unfolding_all rfl) ?_ | refine xVarN (by with_unfolding_all rfl) (by with_unfolding_all rfl) ?_ | refine xC ?_ | refine xOp ?_ | refine xI (by with_unfolding_all rfl) (by with_unfolding_all rfl) ?_ | refine xB (by with_unfolding_all rfl) (by with_unfolding_all rfl) ?_ | refine xEqI (by with_unfolding_all rfl) (by with_unfolding_all rfl) ?_ | refine xNeI (by with_unfolding_all rfl) (by with_unfolding_all rfl) ?_ | refine xNeg ?_ | refine xNegK ?_
  | refine xIc (by with_unfolding_all rfl) (by with_unfolding_all rfl) (by with_unfolding_all first | omega | exact ⟨by decide, by decide +kernel⟩) ?_
  | refine xT ?_ | refine xTK ?_ | refine xNot ?_ | refine xAnd ?_ | refine xOr ?_ | refine xAndV ?_ | refine xOrV ?_ | refine xNotV ?_ | refine xBK ?_ | refine xIf ?_ | refine xCh ?_ | refine xCh1 (by with_unfolding_all rfl) (by with_unfolding_all rfl) ?_ | refine xCh2 (by with_unfolding_all rfl) (by with_unfolding_all rfl) ?_
  | refine xIx ?_ | refine xIxA (by with_unfolding_all rfl) (by with_unfolding_all rfl) (by with_unfolding_all rfl) ?_ | refine xNil ?_ | refine xCons ?_ | refine xFn ?_ | refine xLst ?_ | refine xLstK (by with_unfolding_all rfl) ?_ | refine xTup ?_ | refine xTupK (by with_unfolding_all rfl) ?_ | refine xLen (by with_unfolding_all rfl) ?_ | refine xMax (by with_unfolding_all rfl) (by with_unfolding_all rfl) ?_ | refine xMin (by with_unfolding_all rfl) (by with_unfolding_all rfl) ?_
  | refine xYes (by with_unfolding_all rfl) ?_ | refine xNo (by with_unfolding_all rfl) ?_ | refine xIs (by with_unfolding_all rfl) (by with_unfolding_all rfl) ?_ | refine xCall ?_ | refine xM ?_ | refine xMA (by with_unfolding_all rfl) ?_ | refine xMD ?_ | refine xLc ?_ | refine xFor ?_ | refine xILst ?_ | refine xILK (by with_unfolding_all rfl) ?_ | refine xIR1 ?_ | refine xIEn ?_ | refine xSl ?_ | refine xNoPart ?_ | refine xPart ?_ | refine xPartK ?_ | refine xRevS ?_ | refine xCat ?_ | refine xLenSet ?_
  | refine xNm (by with_unfolding_all rfl) ?_ | refine xGTup (by with_unfolding_all rfl) ?_ | refine xGsCons ?_ | refine xGsNil ?_ | refine xYesT ?_ | refine xDg1 ?_ | refine xDp1 ?_ | refine xDg2 ?_ | refine xDp2 ?_ | refine xPar ?_ | refine xPaK (by with_unfolding_all rfl) (by with_unfolding_all rfl) ?_ | refine xRevT ?_ | refine xRevTK ?_ | refine xDi1 ?_ | refine xDi2 ?_ | refine xITup ?_ | refine xITupK ?_ | refine xIZip ?_ | refine xIR2 ?_ | refine xIsNK (by with_unfolding_all rfl) ?_ | refine xRev2 ?_ | refine xListR ?_ | refine xSlT ?_ | refine xSlTK ?_ | refine xGt1 ?_ | refine xGt2 ?_ | refine xGtA (by with_unfolding_all rfl) ?_ | refine xGtD ?_ | refine xRep ?_ | refine xDcL ?_ | refine xDc ?_ | refine xDpl ?_ | refine xGe1 ?_ | refine xGe2 ?_ | refine xIe1 ?_ | refine xIe2 ?_ | refine xGLst (by with_unfolding_all rfl) ?_ | refine xIsB (by with_unfolding_all rfl) (by with_unfolding_all rfl) ?_ | refine xVarL (by with_unfolding_all rfl) ?_ | refine xIDc ?_ | refine xIDcK ?_ | refine xLc2 ?_ | refine xGd1 ?_ | refine xGd2 ?_ | refine xGdA (by with_unfolding_all rfl) ?_ | refine xGdD ?_ | refine xDcT ?_ | refine xClip ?_ | refine xAppD ?_ | refine xAppD11 ?_ | refine xAppD21 ?_ | refine xLi ?_ | refine xIEz ?_)

/-! ### histories of tellings, judged -/
def S_is_whole_history : SpT := SpP (fun ts => ∃ cs x, ts = [rowD cs, .d x] ∧ RowOk cs) fun ts t _ => ∀ cs x, ts = [rowD cs, .d x] → t = .d (.bool (decide (ledD cs x = some (sI cs))))
def unp : PyData → Int × Int
  | .tuple [.int a, .int b] => (a, b)
  | _ => (0, 0)
def hsOf : PyData → List (Int × Int)
  | .list ds => ds.map unp
  | _ => []
def hisB (cs : List Int) (ws : List (I3 × Str)) (x : PyData) : Bool := decide (ledD cs x = some (sI cs)) && dEq (telPs (tellOf cs (hsOf x))) (telPs ws)
def S_is_history_for : SpT := SpP (fun ts => ∃ cs ws x, ts = [rowD cs, .d (telD ws), .d x] ∧ RowOk cs ∧ cs.length ≤ 10 ∧ ws.length ≤ 1000 ∧ (ws.map (·.1)).Nodup ∧ isTel cs ws = true) fun ts t _ => ∀ cs ws x, ts = [rowD cs, .d (telD ws), .d x] → t = .d (.bool (hisB cs ws x))
theorem mS_is_whole_history : MonSp S_is_whole_history := mon_SpP
theorem mS_is_history_for : MonSp S_is_history_for := mon_SpP
theorem led_prs : ∀ {ds : List PyData} {cs r : List Int}, ledL cs ds = some r → ds = (ds.map unp).map pr
  | [], _, _, _ => rfl
  | x :: ds, cs, r, h => by
    obtain ⟨h1, h2⟩ := ledL_cons h
    obtain ⟨a, b, rfl, _⟩ := mayD_pair h1
    have ih := led_prs h2
    simp only [List.map_cons]
    rw [← ih]
    rfl
theorem led_his {cs r : List Int} {x : PyData} (h : ledD cs x = some r) : x = pairsD (hsOf x) ∧ ledL cs ((hsOf x).map pr) = some r := by
  cases x with
  | list ds =>
    have h' : ledL cs ds = some r := h
    have e := led_prs h'
    refine ⟨?_, ?_⟩
    · show PyData.list ds = .list ((ds.map unp).map pr)
      rw [← e]
    · show ledL cs ((ds.map unp).map pr) = some r
      rw [← e]; exact h'
  | _ => cases h
abbrev N_is_whole_history : List Str := ["row", "thing"]
def w_is_whole_history : TwS := (wRet (wAndV (wCall [] 2 S_is_history (wCons (wVar 0) (wCons (wVar 1) wNil))) (wOp (fEq) (wCall [] 2 S_row_behind (wCons (wVar 0) (wCons (wVar 1) wNil))) (wFn kSort (wCons (wVar 0) wNil)))))
abbrev N_is_history_for : List Str := ["row", "telling", "thing"]
def w_is_history_for : TwS := (wSeq (wDrop (wCall [] 2 S_need_telling (wCons (wVar 0) (wCons (wVar 1) wNil))))
    (wRet (wAndV (wCall [] 2 S_is_whole_history (wCons (wVar 0) (wCons (wVar 2) wNil))) (wOp (fEqD) (wCall [] 2 S_telling_of_done (wCons (wVar 0) (wCons (wVar 2) wNil))) (wVar 1)))))
theorem pl_is_whole_history : PlD S_is_whole_history w_is_whole_history N_is_whole_history := by
  rintro ts Q Ex ⟨⟨cs, x, rfl, ok⟩, q⟩
  have fin : ∀ b ρ, b = decide (ledD cs x = some (sI cs)) → Q (.d (.bool b)) ρ := fun b ρ e => q _ _ fun cs' x' e' => by
    simp only [List.cons.injEq, T.d.injEq, and_true] at e'
    cases rowD_inj e'.1
    cases e'.2
    rw [e]
  unfold w_is_whole_history
  repeat trivial
  refine xIsHist ok rfl rfl ?_
  cases hr : ledD cs x with
  | none =>
    repeat trivial
    exact ⟨rfl, fin _ _ (by rw [hr]; rfl)⟩
  | some r =>
    repeat trivial
    refine xRowBehind ok hr rfl rfl ?_
    repeat trivial
    refine xSort rfl (alike_ints _) (sortable_ints _) (depth_ints _) ?_
    rw [sortI]
    repeat trivial
    refine xEqL (xs := r) (ys := sI cs) erase_intL vw_l ?_
    repeat trivial
    refine ⟨rfl, fin _ _ ?_⟩
    rw [hr, Bool.eq_iff_iff]
    simp
theorem pl_is_history_for : PlD S_is_history_for w_is_history_for N_is_history_for := by
  rintro ts Q Ex ⟨⟨cs, ws, x, rfl, ok, cl, wl, nd, it⟩, q⟩
  have fin : ∀ b ρ, b = hisB cs ws x → Q (.d (.bool b)) ρ := fun b ρ e => q _ _ fun cs' ws' x' e' => by
    simp only [List.cons.injEq, T.d.injEq, and_true] at e'
    cases rowD_inj e'.1
    cases tel_inj e'.2.1
    cases e'.2.2
    rw [e]
  unfold w_is_history_for
  repeat trivial
  refine xCaP rfl rfl rfl ⟨cs, ws, rfl, ok, cl, wl, nd, it⟩ fun t ρ' e => ?_
  rw [e]
  refine ⟨rfl, ?_⟩
  repeat trivial
  refine xCaP rfl rfl rfl ⟨cs, x, rfl, ok⟩ fun t ρ' e => ?_
  rw [e cs x rfl]
  refine ⟨rfl, ?_⟩
  repeat trivial
  refine xIte (fun h => ?_) fun h => ?_
  · have h' := of_decide_eq_true h
    obtain ⟨ex, wh⟩ := led_his h'
    repeat trivial
    refine xCaP (us := [rowD cs, .d (pairsD (hsOf x))]) (by rw [← ex]; rfl) rfl rfl ⟨cs, hsOf x, rfl, ok, wh⟩ fun t ρ' e => ?_
    rw [e cs _ rfl]
    refine ⟨rfl, ?_⟩
    repeat trivial
    refine xEqD (ps := telPs (tellOf cs (hsOf x))) (qs := telPs ws) (erase_tel _) rfl (shaped_tel (tel_ok (tell_isTel _ ok))) (shaped_tel (tel_ok it)) (fun h => tk_tel h) ?_
    refine ⟨rfl, fin _ _ ?_⟩
    unfold hisB
    rw [h, Bool.true_and]
  · repeat trivial
    refine ⟨rfl, fin _ _ ?_⟩
    unfold hisB
    rw [h, Bool.false_and]
theorem xHisFor {ρ : Rho} {Q : T → Rho → Prop} {E : ExK} {ts : List T} {vu : Bool} {cs : List Int} {ws : List (I3 × Str)} {x : PyData} (ok : RowOk cs) (cl : cs.length ≤ 10) (wl : ws.length ≤ 1000) (nd : (ws.map (·.1)).Nodup) (it : isTel cs ws = true) (h : argsF [] ρ vu 0 ts = some [rowD cs, .d (telD ws), .d x]) (ha : apartB ts = true) (q : Q (.d (.bool (hisB cs ws x))) ρ) : caK [] 3 S_is_history_for ts ρ Q E := by
  cases vu with
  | false => exact xCaP h rfl ha ⟨cs, ws, x, rfl, ok, cl, wl, nd, it⟩ fun t ρ' e => by rw [e cs ws x rfl]; exact ⟨rfl, q⟩
  | true => exact xCaV h rfl ha ⟨cs, ws, x, rfl, ok, cl, wl, nd, it⟩ fun t ρ' e => by rw [e cs ws x rfl]; exact ⟨rfl, rfl, q⟩
end LW.D

namespace LW.D
open PySem PySem.Spec L2 TX

local macro_rules | `(tactic| trivial) => `(tactic| with_reducible first
  | refine xSeq ?_ | refine xSet ?_ | refine xSetK (by with_unfolding_all rfl) ?_ | refine xNext ?_ | refine xIfS ?_ | refine xDrop ?_ | refine xRet ?_ | refine xAsg ?_ | refine xAsK (by with_unfolding_all rfl) ?_ | refine xSub ?_ | refine xSbK (by with_unfolding_all rfl) (by with_unfolding_all rfl) (by with_unfolding_all rfl) ?_
  | refine xVarD (by with_unfolding_all rfl) ?_ | refine xVarZ (by with_unfolding_all rfl) ?_ | refine xVarN (by with_unfolding_all rfl) (by with_unfolding_all rfl) ?_ | refine xC ?_ | refine xOp ?_ | refine xI (by with_unfolding_all rfl) (by with_unfolding_all rfl) ?_ | refine xB (by with_unfolding_all rfl) (by with_unfolding_all rfl) ?_ | refine xEqI (by with_unfolding_all rfl) (by with_unfolding_all rfl) ?_ | refine xNeI (by with_unfolding_all rfl) (by with_unfolding_all rfl) ?_ | refine xNeg ?_ | refine xNegK ?_
  | refine xIc (by with_unfolding_all rfl) (by with_unfolding_all rfl) (by with_unfolding_all first | omega | exact ⟨by decide, by decide +kernel⟩) ?_
  | refine xT ?_ | refine xTK ?_ | refine xNot ?_ | refine xAnd ?_ | refine xOr ?_ | refine xAndV ?_ | refine xOrV ?_ | refine xNotV ?_ | refine xBK ?_ | refine xIf ?_ | refine xCh ?_ | refine xCh1 (by with_unfolding_all rfl) (by with_unfolding_all rfl) ?_ | refine xCh2 (by with_unfolding_all rfl) (by with_unfolding_all rfl) ?_
  | refine xIx ?_ | refine xIxA (by with_unfolding_all rfl) (by with_unfolding_all rfl) (by with_unfolding_all rfl) ?_ | refine xNil ?_ | refine xCons ?_ | refine xFn ?_ | refine xLst ?_ | refine xLstK (by with_unfolding_all rfl) ?_ | refine xTup ?_ | refine xTupK (by with_unfolding_all rfl) ?_ | refine xLen (by with_unfolding_all rfl) ?_ | refine xMax (by with_unfolding_all rfl) (by with_unfolding_all rfl) ?_ | refine xMin (by with_unfolding_all rfl) (by with_unfolding_all rfl) ?_
  | refine xYes (by with_unfolding_all rfl) ?_ | refine xNo (by with_unfolding_all rfl) ?_ | refine xIs (by with_unfolding_all rfl) (by with_unfolding_all rfl) ?_ | refine xCall ?_ | refine xM ?_ | refine xMA (by with_unfolding_all rfl) ?_ | refine xMD ?_ | refine xLc ?_ | refine xFor ?_ | refine xILst ?_ | refine xILK (by with_unfolding_all rfl) ?_ | refine xIR1 ?_ | refine xIEn ?_ | refine xSl ?_ | refine xNoPart ?_ | refine xPart ?_ | refine xPartK ?_ | refine xRevS ?_ | refine xCat ?_ | refine xLenSet ?_
  | refine xNm (by with_unfolding_all rfl) ?_ | refine xGTup (by with_unfolding_all rfl) ?_ | refine xGsCons ?_ | refine xGsNil ?_ | refine xYesT ?_ | refine xDg1 ?_ | refine xDp1 ?_ | refine xDg2 ?_ | refine xDp2 ?_ | refine xPar ?_ | refine xPaK (by with_unfolding_all rfl) (by with_unfolding_all rfl) ?_ | refine xRevT ?_ | refine xRevTK ?_ | refine xDi1 ?_ | refine xDi2 ?_ | refine xITup ?_ | refine xITupK ?_ | refine xIZip ?_ | refine xIR2 ?_ | refine xIsNK (by with_unfolding_all rfl) ?_ | refine xRev2 ?_ | refine xListR ?_ | refine xSlT ?_ | refine xSlTK ?_ | refine xGt1 ?_ | refine xGt2 ?_ | refine xGtA (by with_unfolding_all rfl) ?_ | refine xGtD ?_ | refine xRep ?_ | refine xDcL ?_ | refine xDc ?_ | refine xDpl ?_ | refine xGe1 ?_ | refine xGe2 ?_ | refine xIe1 ?_ | refine xIe2 ?_ | refine xGLst (by with_unfolding_all rfl) ?_ | refine xIsB (by with_unfolding_all rfl) (by with_unfolding_all rfl) ?_ | refine xVarL (by with_unfolding_all rfl) ?_ | refine xIDc ?_ | refine xIDcK ?_ | refine xLc2 ?_ | refine xGd1 ?_ | refine xGd2 ?_ | refine xGdA (by with_unfolding_all rfl) ?_ | refine xGdD ?_ | refine xDcT ?_ | refine xClip ?_ | refine xAppD ?_ | refine xAppD11 ?_ | refine xAppD21 ?_ | refine xLi ?_ | refine xIEz ?_)

/-! ### the law's own look at a history of a telling -/
def OddC (c : PyData) : Prop := (∃ i : Int, c = .int i) ∨ c = .bool true
def OddE (d : PyData) : Prop := (∃ es, d = .tuple es ∧ es.length ≤ 2 ∧ ∀ c ∈ es, OddC c) ∨ d = .none ∨ (∃ s, d = .str s) ∨ ∃ es, d = .list es
def Thg (x : PyData) : Prop := (∃ ds, x = .list ds ∧ ds.length ≤ 1000 ∧ ∀ d ∈ ds, OddE d) ∨ x = .none ∨ x = .int 0 ∨ (∃ s, x = .str s) ∨ (∃ es, x = .tuple es) ∨ x = .dict []
def S_law_due : SpT := SpP (fun ts => ∃ cs ws x, ts = [rowD cs, .d (telD ws), .d x] ∧ RowOk cs ∧ (ws.map (·.1)).Nodup ∧ isTel cs ws = true ∧ Thg x) fun ts t _ => ∀ cs ws x, ts = [rowD cs, .d (telD ws), .d x] → t = .d (.bool (hisB cs ws x))
theorem mS_law_due : MonSp S_law_due := mon_SpP
theorem led_mem : ∀ {ds : List PyData} {cs r : List Int}, RowOk cs → ledL cs ds = some r → ∀ d ∈ ds, ∃ a b, d = .tuple [.int a, .int b] ∧ a ∈ cs ∧ b ∈ cs
  | [], _, _, _, _, d, hd => by cases hd
  | x :: ds, cs, r, ok, h, d, hd => by
    obtain ⟨h1, h2⟩ := ledL_cons h
    obtain ⟨a, b, rfl, _, _, hm⟩ := mayD_pair h1
    obtain ⟨_, u, v, e⟩ := (may_iff ok.2.1).mp hm
    rcases List.mem_cons.mp hd with rfl | hd
    · exact ⟨a, b, rfl, by rw [e]; simp, by rw [e]; simp⟩
    · have ok2 := swD_ok ok h1
      obtain ⟨c, d', e1, e2, e3⟩ := led_mem ok2 h2 d hd
      have pm : (swD cs (pr (a, b))).Perm cs := by rw [swD_pr]; exact sw_perm ok.2.1 hm
      exact ⟨c, d', e1, pm.mem_iff.mp e2, pm.mem_iff.mp e3⟩
theorem his_no {cs : List Int} {ws : List (I3 × Str)} {ds : List PyData} (ok : RowOk cs) {d : PyData} (hd : d ∈ ds) (h : ¬ ∃ a b, d = .tuple [.int a, .int b] ∧ a ∈ cs ∧ b ∈ cs) : hisB cs ws (.list ds) = false := by
  unfold hisB
  rw [decide_eq_false (p := ledD cs (.list ds) = some (sI cs)) (fun e => h (led_mem ok (show ledL cs ds = some _ from e) d hd)), Bool.false_and]
def badC (cs : List Int) : PyData → Bool
  | .int i => !decide (i ∈ cs)
  | _ => true
theorem any_intB (cs : List Int) (i : Int) : ((cs.map PyData.int).any fun w => PyData.eqv w (.int i)) = decide (i ∈ cs) := by
  rw [Bool.eq_iff_iff]
  simp [eqv_int]
theorem odd_shaped : ∀ es : List PyData, (∀ c ∈ es, OddC c) → PyData.canLayAll0 es = true ∧ PyData.depthAll es ≤ 3
  | [], _ => ⟨rfl, by simp [PyData.depthAll]⟩
  | c :: es, h => by
    obtain ⟨h1, h2⟩ := odd_shaped es fun x hx => h x (List.mem_cons_of_mem _ hx)
    rcases h c List.mem_cons_self with ⟨i, rfl⟩ | rfl
    · exact ⟨by simp only [PyData.canLayAll0, PyData.canLay0, h1, Bool.and_self], by simp only [PyData.depthAll, PyData.depth]; omega⟩
    · exact ⟨by simp only [PyData.canLayAll0, PyData.canLay0, h1, Bool.and_self], by simp only [PyData.depthAll, PyData.depth]; omega⟩
theorem odd_shapedL {es : List PyData} (h : ∀ c ∈ es, OddC c) : SeqAt.shaped (.list es) = true := by
  obtain ⟨h1, h2⟩ := odd_shaped es h
  have e : (PyData.list es).depth ≤ 64 := by simp only [PyData.depth]; omega
  simp only [SeqAt.shaped, PyData.canLay0, h1, Bool.true_and, decide_eq_true_eq]
  exact e
theorem eqv_nilB (es : List PyData) : PyData.eqv (.list es) (.list []) = decide (es = []) := by cases es <;> simp [PyData.eqv, PyData.eqvAll]
abbrev N_law_due : List Str := ["_law_row_here", "_law_ways_here", "_law_thing", "_law_pair", "_law_card"]
def w_law_due : TwS := (wSeq (wIfS (wNot (wT (wFn kIs (wCons (wVar 2) (wCons (wC (.raw (.ty "list"))) wNil))))) (wRet (wC (.d (.bool false)))) wNext)
    (wSeq (wFor (wILst (wVar 2)) (wNm 3) (wSeq (wIfS (wOr (wNot (wT (wFn kIs (wCons (wVar 3) (wCons (wC (.raw (.ty "tuple"))) wNil))))) (wT (wOp (fNe) (wFn kLen (wCons (wVar 3) wNil)) (wC (.d (.int 2)))))) (wRet (wC (.d (.bool false)))) wNext)
    (wIfS (wT (wOp (fNe) (wLc (wITup (wVar 3)) (wNm 4) (wOr (wNot (wT (wFn kIs (wCons (wVar 4) (wCons (wC (.raw (.ty "int"))) wNil))))) (wOr (wT (wOp (fIsX false) (wVar 4) (wC (.d (.bool true))))) (wT (wOp (fIn true) (wVar 4) (wVar 0))))) (wVar 4) [4]) (wLst wNil))) (wRet (wC (.d (.bool false)))) wNext)))
    (wRet (wAndV (wOp (fEq) (wCall [] 2 S_law_follows (wCons (wVar 0) (wCons (wVar 2) wNil))) (wFn kSort (wCons (wVar 0) wNil))) (wOp (fEqD) (wCall [] 2 S_law_ways (wCons (wVar 0) (wCons (wVar 2) wNil))) (wVar 1))))))
theorem pl_law_due : PlD S_law_due w_law_due N_law_due := by
  rintro ts Q Ex ⟨⟨cs, ws, x, rfl, ok, nd, it, th⟩, q⟩
  have fin : ∀ b ρ, b = hisB cs ws x → Q (.d (.bool b)) ρ := fun b ρ e => q _ _ fun cs' ws' x' e' => by
    simp only [List.cons.injEq, T.d.injEq, and_true] at e'
    cases rowD_inj e'.1
    cases tel_inj e'.2.1
    cases e'.2.2
    rw [e]
  unfold w_law_due
  rcases th with ⟨ds, rfl, dl, hds⟩ | rfl | rfl | ⟨s, rfl⟩ | ⟨es, rfl⟩ | rfl
  · repeat trivial
    refine xFoK (fun i ρ => ∃ (o3 : Option PyData), ρ = [some (rowD cs), some (.d (telD ws)), some (.d (.list ds)), o3.map T.d, none] ∧ ∀ d ∈ ds.take i, ∃ p : Int × Int, d = pr p ∧ p.1 ∈ cs ∧ p.2 ∈ cs) ⟨none, rfl, fun d h => by cases h⟩ ?_ ?_
    · rintro i d ρ2 e ⟨o3, rfl, hb⟩
      have hd := List.mem_of_getElem? e
      have tk : ds.take (i + 1) = ds.take i ++ [d] := by rw [List.take_succ, e]; rfl
      have no : (¬ ∃ a b, d = .tuple [.int a, .int b] ∧ a ∈ cs ∧ b ∈ cs) → ∀ ρ, Q (.d (.bool false)) ρ := fun h ρ => fin _ _ (his_no ok hd h).symm
      refine xNm (noNd_o rfl) ?_
      rcases hds d hd with ⟨es, rfl, el, hes⟩ | rfl | ⟨s, rfl⟩ | ⟨es, rfl⟩
      · repeat trivial
        refine xIte (fun h => ?_) fun h => ?_
        · repeat trivial
          refine ⟨rfl, no (fun ⟨a, b, e1, _⟩ => ?_) _⟩
          cases e1
          simp at h
        · have el2 : es.length = 2 := by
            simp at h
            omega
          repeat trivial
          refine xLcM (badC cs) (fun z => z) rfl (by omega) (by simp) (fun c hc Y Z hY hZ => ?_) ?_
          · rcases hes c hc with ⟨j, rfl⟩ | rfl
            · repeat trivial
              refine xIsX rfl rfl ?_
              repeat trivial
              refine xIn (x := .int j) (ds := cs.map PyData.int) rfl rfl rfl (shaped_ints _) ?_
              rw [any_intB, bne_t]
              repeat trivial
              refine ⟨noNd1 rfl, xIte (fun h => ?_) fun h => hZ h⟩
              repeat trivial
              exact ⟨noNd1 rfl, _, rfl, hY h⟩
            · repeat trivial
              refine xIsX rfl rfl ?_
              repeat trivial
              refine ⟨noNd1 rfl, ?_⟩
              repeat trivial
              exact ⟨noNd1 rfl, _, rfl, hY rfl⟩
          rw [List.map_id']
          repeat trivial
          refine xNe (x := .list (es.filter (badC cs))) (y := .list []) (er_l _) rfl (odd_shapedL fun c hc => hes c (List.mem_filter.mp hc).1) rfl ?_
          rw [eqv_nilB]
          repeat trivial
          refine xIte (fun h2 => ?_) fun h2 => ?_
          · repeat trivial
            refine ⟨rfl, no (fun ⟨a, b, e1, e2, e3⟩ => ?_) _⟩
            cases e1
            simp [badC, e2, e3] at h2
          · have e0 : es.filter (badC cs) = [] := by simpa using h2
            have good : ∀ c ∈ es, ∃ j : Int, c = .int j ∧ j ∈ cs := fun c hc => by
              have := List.filter_eq_nil_iff.mp e0 c hc
              rcases hes c hc with ⟨j, rfl⟩ | rfl
              · exact ⟨j, rfl, by simpa [badC] using this⟩
              · exact absurd rfl this
            repeat trivial
            match es, el2 with
            | [c1, c2], _ =>
              obtain ⟨a, rfl, ha⟩ := good c1 (by simp)
              obtain ⟨b, rfl, hb2⟩ := good c2 (by simp)
              refine ⟨some (pr (a, b)), rfl, fun d hd => ?_⟩
              rw [tk] at hd
              rcases List.mem_append.mp hd with hd | hd
              · exact hb d hd
              · rw [List.mem_singleton] at hd
                exact ⟨(a, b), hd, ha, hb2⟩
      · repeat trivial
        exact ⟨rfl, no (fun ⟨a, b, e1, _⟩ => by cases e1) _⟩
      · repeat trivial
        exact ⟨rfl, no (fun ⟨a, b, e1, _⟩ => by cases e1) _⟩
      · repeat trivial
        exact ⟨rfl, no (fun ⟨a, b, e1, _⟩ => by cases e1) _⟩
    · rintro ρ2 ⟨o3, rfl, hb⟩
      rw [List.take_length] at hb
      have eds : ds = (ds.map unp).map pr := by
        rw [List.map_map]
        conv => lhs; rw [← List.map_id ds]
        refine List.map_congr_left fun d hd => ?_
        obtain ⟨p, rfl, _⟩ := hb d hd
        rfl
      have mem : ∀ p ∈ ds.map unp, p.1 ∈ cs ∧ p.2 ∈ cs := fun p hp => by
        obtain ⟨d, hd, rfl⟩ := List.mem_map.mp hp
        obtain ⟨p, rfl, h1, h2⟩ := hb d hd
        exact ⟨h1, h2⟩
      have eh : hisB cs ws (.list ds) = (decide (ledL cs ((ds.map unp).map pr) = some (sI cs)) && dEq (telPs (tellOf cs (ds.map unp))) (telPs ws)) := by
        rw [← eds]; rfl
      rw [eh] at fin
      generalize ds.map unp = hs at *
      subst eds
      repeat trivial
      refine xFollows (vu := false) (hs := hs) ok mem rfl rfl ?_
      cases hr : ledL cs (hs.map pr) with
      | none =>
        rw [hr] at fin
        repeat trivial
        refine xSort rfl (alike_ints _) (sortable_ints _) (depth_ints _) ?_
        rw [sortI]
        repeat trivial
        refine xEq (x := .none) (y := .list ((sI cs).map PyData.int)) rfl vw_l rfl (shaped_ints _) ?_
        repeat trivial
        exact ⟨rfl, fin _ _ rfl⟩
      | some r =>
        rw [hr] at fin
        repeat trivial
        refine xSort rfl (alike_ints _) (sortable_ints _) (depth_ints _) ?_
        rw [sortI]
        repeat trivial
        refine xEqL (xs := r) (ys := sI cs) erase_intL vw_l ?_
        repeat trivial
        refine xIte (fun h => ?_) fun h => ?_
        · have h' := of_decide_eq_true h
          subst h'
          repeat trivial
          refine xWays (vu := false) ok (show Whole cs hs from hr) rfl rfl ?_
          repeat trivial
          refine xEqD (ps := telPs (tellOf cs hs)) (qs := telPs ws) (erase_tel _) rfl (shaped_tel (tel_ok (tell_isTel _ ok))) (shaped_tel (tel_ok it)) (fun h => tk_tel h) ?_
          exact ⟨rfl, fin _ _ (by rw [decide_eq_true rfl, Bool.true_and])⟩
        · have h' := of_decide_eq_false h
          repeat trivial
          exact ⟨rfl, fin _ _ (by rw [decide_eq_false (fun e => h' (Option.some.inj e)), Bool.false_and])⟩
  · repeat trivial
    exact ⟨rfl, fin _ _ rfl⟩
  · repeat trivial
    exact ⟨rfl, fin _ _ rfl⟩
  · repeat trivial
    exact ⟨rfl, fin _ _ rfl⟩
  · repeat trivial
    exact ⟨rfl, fin _ _ rfl⟩
  · repeat trivial
    exact ⟨rfl, fin _ _ rfl⟩
theorem xDue {ρ : Rho} {Q : T → Rho → Prop} {E : ExK} {cs : List Int} {ws : List (I3 × Str)} {x : PyData} (ok : RowOk cs) (nd : (ws.map (·.1)).Nodup) (it : isTel cs ws = true) (th : Thg x) (q : Q (.d (.bool (hisB cs ws x))) ρ) : caK [] 3 S_law_due [rowD cs, .d (telD ws), .d x] ρ Q E :=
  xCaP rfl rfl rfl ⟨cs, ws, x, rfl, ok, nd, it, th⟩ fun t ρ' e => by rw [e cs ws x rfl]; exact ⟨rfl, q⟩
end LW.D

namespace LW.D
open PySem PySem.Spec L2 TX

local macro_rules | `(tactic| trivial) => `(tactic| with_reducible first
  | refine xSeq ?_ | refine xSet ?_ | refine xSetK (by with_unfolding_all rfl) ?_ | refine xNext ?_ | refine xIfS ?_ | refine xDrop ?_ | refine xRet ?_ | refine xAsg ?_ | refine xAsK (by with_unfolding_all rfl) ?_ | refine xSub ?_ | refine xSbK (by with_unfolding_all rfl) (by with_unfolding_all rfl) (by with_unfolding_all rfl) ?_
  | refine xVarD (by with_unfolding_all rfl) ?_ | refine xVarZ (by with_unfolding_all rfl) ?_ | refine xVarN (by with_unfolding_all rfl) (by with_unfolding_all rfl) ?_ | refine xC ?_ | refine xOp ?_ | refine xI (by with_unfolding_all rfl) (by with_unfolding_all rfl) ?_ | refine xB (by with_unfolding_all rfl) (by with_unfolding_all rfl) ?_ | refine xEqI (by with_unfolding_all rfl) (by with_unfolding_all rfl) ?_ | refine xNeI (by with_unfolding_all rfl) (by with_unfolding_all rfl) ?_ | refine xNeg ?_ | refine xNegK ?_
  | refine xIc (by with_unfolding_all rfl) (by with_unfolding_all rfl) (by with_unfolding_all first | omega | exact ⟨by decide, by decide +kernel⟩) ?_
  | refine xT ?_ | refine xTK ?_ | refine xNot ?_ | refine xAnd ?_ | refine xOr ?_ | refine xAndV ?_ | refine xOrV ?_ | refine xNotV ?_ | refine xBK ?_ | refine xIf ?_ | refine xCh ?_ | refine xCh1 (by with_unfolding_all rfl) (by with_unfolding_all rfl) ?_ | refine xCh2 (by with_unfolding_all rfl) (by with_unfolding_all rfl) ?_
  | refine xIx ?_ | refine xIxA (by with_unfolding_all rfl) (by with_unfolding_all rfl) (by with_unfolding_all rfl) ?_ | refine xNil ?_ | refine xCons ?_ | refine xFn ?_ | refine xLst ?_ | refine xLstK (by with_unfolding_all rfl) ?_ | refine xTup ?_ | refine xTupK (by with_unfolding_all rfl) ?_ | refine xLen (by with_unfolding_all rfl) ?_ | refine xMax (by with_unfolding_all rfl) (by with_unfolding_all rfl) ?_ | refine xMin (by with_unfolding_all rfl) (by with_unfolding_all rfl) ?_
  | refine xYes (by with_unfolding_all rfl) ?_ | refine xNo (by with_unfolding_all rfl) ?_ | refine xIs (by with_unfolding_all rfl) (by with_unfolding_all rfl) ?_ | refine xCall ?_ | refine xM ?_ | refine xMA (by with_unfolding_all rfl) ?_ | refine xMD ?_ | refine xLc ?_ | refine xFor ?_ | refine xILst ?_ | refine xILK (by with_unfolding_all rfl) ?_ | refine xIR1 ?_ | refine xIEn ?_ | refine xSl ?_ | refine xNoPart ?_ | refine xPart ?_ | refine xPartK ?_ | refine xRevS ?_ | refine xCat ?_ | refine xLenSet ?_
  | refine xNm (by with_unfolding_all rfl) ?_ | refine xGTup (by with_unfolding_all rfl) ?_ | refine xGsCons ?_ | refine xGsNil ?_ | refine xYesT ?_ | refine xDg1 ?_ | refine xDp1 ?_ | refine xDg2 ?_ | refine xDp2 ?_ | refine xPar ?_ | refine xPaK (by with_unfolding_all rfl) (by with_unfolding_all rfl) ?_ | refine xRevT ?_ | refine xRevTK ?_ | refine xDi1 ?_ | refine xDi2 ?_ | refine xITup ?_ | refine xITupK ?_ | refine xIZip ?_ | refine xIR2 ?_ | refine xIsNK (by with_unfolding_all rfl) ?_ | refine xRev2 ?_ | refine xListR ?_ | refine xSlT ?_ | refine xSlTK ?_ | refine xGt1 ?_ | refine xGt2 ?_ | refine xGtA (by with_unfolding_all rfl) ?_ | refine xGtD ?_ | refine xRep ?_ | refine xDcL ?_ | refine xDc ?_ | refine xDpl ?_ | refine xGe1 ?_ | refine xGe2 ?_ | refine xIe1 ?_ | refine xIe2 ?_ | refine xGLst (by with_unfolding_all rfl) ?_ | refine xIsB (by with_unfolding_all rfl) (by with_unfolding_all rfl) ?_ | refine xVarL (by with_unfolding_all rfl) ?_ | refine xIDc ?_ | refine xIDcK ?_ | refine xLc2 ?_ | refine xGd1 ?_ | refine xGd2 ?_ | refine xGdA (by with_unfolding_all rfl) ?_ | refine xGdD ?_ | refine xDcT ?_ | refine xClip ?_ | refine xAppD ?_ | refine xAppD11 ?_ | refine xAppD21 ?_ | refine xLi ?_ | refine xIEz ?_)

/-! ### things that are histories or none -/
def AllE (ds : List PyData) : Prop := ∀ d ∈ ds, OddE d ∧ Rpr d 90 3
theorem allE_app {xs ys : List PyData} (h1 : AllE xs) (h2 : AllE ys) : AllE (xs ++ ys) := fun d hd => (List.mem_append.mp hd).elim (h1 d) (h2 d)
theorem allE_rev {xs : List PyData} (h : AllE xs) : AllE xs.reverse := fun d hd => h d (List.mem_reverse.mp hd)
theorem cut_mem {ds : List PyData} {lo hi : Option Int} {d : PyData} (h : d ∈ cutD ds lo hi) : d ∈ ds := by
  unfold cutD at h
  exact List.mem_of_mem_drop (List.mem_of_mem_take h)
theorem cut_lenE {ds : List PyData} {lo hi : Option Int} : (cutD ds lo hi).length ≤ ds.length := by
  unfold cutD
  exact Nat.le_trans (List.length_take_le' _ _) (by rw [List.length_drop]; omega)
theorem allE_cut {ds : List PyData} {lo hi : Option Int} (h : AllE ds) : AllE (cutD ds lo hi) := fun d hd => h d (cut_mem hd)
theorem oddC_int (i : Int) : OddC (.int i) := .inl ⟨i, rfl⟩
theorem allE_prs {hs : List (Int × Int)} (h : ∀ p ∈ hs, smallP p) : AllE (hs.map pr) := fun d hd => by
  obtain ⟨p, hp, rfl⟩ := List.mem_map.mp hd
  exact ⟨.inl ⟨_, rfl, by simp, fun c hc => by
    simp only [List.mem_cons, List.not_mem_nil, or_false] at hc
    rcases hc with rfl | rfl <;> exact oddC_int _⟩, (Rpr.pr (h p hp)).mono (by decide) (by decide)⟩
def ThX (x : PyData) : Prop := Thg x ∧ Rpr x 30000 6
theorem thX_list {ds : List PyData} (h : AllE ds) (hl : ds.length ≤ 310) : ThX (.list ds) :=
  ⟨.inl ⟨ds, rfl, by omega, fun d hd => (h d hd).1⟩, (Rpr.list (.allN (n := 310) (w := 90) (fun d hd => (h d hd).2) hl)).mono (by decide) (by decide)⟩
theorem thX_tup {ds : List PyData} (h : AllE ds) (hl : ds.length ≤ 310) : ThX (.tuple ds) :=
  ⟨.inr (.inr (.inr (.inr (.inl ⟨ds, rfl⟩)))), (Rpr.tuple (.allN (n := 310) (w := 90) (fun d hd => (h d hd).2) hl)).mono (by decide) (by decide)⟩
def rvP : PyData → PyData
  | .tuple ds => .tuple ds.reverse
  | y => y
theorem allE_rv {xs : List PyData} (hs : List (Int × Int)) (h : ∀ p ∈ hs, smallP p) (hx : ∀ x ∈ xs, x ∈ hs.map pr) : AllE (xs.map rvP) := fun d hd => by
  obtain ⟨x, hx', rfl⟩ := List.mem_map.mp hd
  obtain ⟨p, hp, rfl⟩ := List.mem_map.mp (hx x hx')
  have := allE_prs (hs := [(p.2, p.1)]) (fun q hq => by rw [List.mem_singleton] at hq; subst hq; exact ⟨(h p hp).2, (h p hp).1⟩) (pr (p.2, p.1)) (by simp)
  exact this
def S_law_things : SpT := SpP (fun ts => ∃ a b c hs, ts = [potT a b c, .d (pairsD hs)] ∧ Pot a b c 2 ∧ hs.length ≤ 100 ∧ ∀ p ∈ hs, smallP p) fun ts t ρ => ∀ a b c hs, ts = [potT a b c, .d (pairsD hs)] → ∃ xs : List PyData, t = .l (xs.map T.d) ∧ xs.length ≤ 20 ∧ (∀ x ∈ xs, ThX x) ∧ PotTo 2 a b c ρ
theorem mS_law_things : MonSp S_law_things := mon_SpP
def odds : List PyData := [.none, .tuple [.int 1], .tuple [.int 2, .int 1], .str "1-2", .list [.int 1, .int 2], .tuple [.int 1, .int 2], .tuple [.bool true, .int 2], .tuple [.int 0, .int 1000000000]]
theorem odds_ok : AllE odds := fun d hd => by
  have r : ∀ x ∈ odds, chkR 90 3 x = true := by decide +kernel
  refine ⟨?_, Rpr.of_chk (r d hd)⟩
  simp only [odds, List.mem_cons, List.not_mem_nil, or_false] at hd
  rcases hd with rfl | rfl | rfl | rfl | rfl | rfl | rfl | rfl
  · exact .inr (.inl rfl)
  · exact .inl ⟨_, rfl, by simp, fun c hc => by simp only [List.mem_cons, List.not_mem_nil, or_false] at hc; subst hc; exact oddC_int _⟩
  · exact .inl ⟨_, rfl, by simp, fun c hc => by simp only [List.mem_cons, List.not_mem_nil, or_false] at hc; rcases hc with rfl | rfl <;> exact oddC_int _⟩
  · exact .inr (.inr (.inl ⟨_, rfl⟩))
  · exact .inr (.inr (.inr ⟨_, rfl⟩))
  · exact .inl ⟨_, rfl, by simp, fun c hc => by simp only [List.mem_cons, List.not_mem_nil, or_false] at hc; rcases hc with rfl | rfl <;> exact oddC_int _⟩
  · exact .inl ⟨_, rfl, by simp, fun c hc => by
      simp only [List.mem_cons, List.not_mem_nil, or_false] at hc
      rcases hc with rfl | rfl
      · exact .inr rfl
      · exact oddC_int _⟩
  · exact .inl ⟨_, rfl, by simp, fun c hc => by simp only [List.mem_cons, List.not_mem_nil, or_false] at hc; rcases hc with rfl | rfl <;> exact oddC_int _⟩
abbrev N_law_things : List Str := ["_law_dish_here", "_law_done", "_law_at", "_law_odd", "_law_found", "_law_pair"]
def w_law_things : TwS := (wSeq (wSet 2 (wCall [0] 2 S_law_spoon (wCons (wVar 0) (wCons (wOp (fI (· + ·)) (wFn kLen (wCons (wVar 1) wNil)) (wC (.d (.int 1)))) wNil))))
    (wSeq (wSet 3 (wIx (wLst (wCons (wC (.d .none)) (wCons (wTup (wCons (wC (.d (.int 1))) wNil)) (wCons (wTup (wCons (wC (.d (.int 2))) (wCons (wC (.d (.int 1))) wNil))) (wCons (wC (.d (.str "1-2"))) (wCons (wLst (wCons (wC (.d (.int 1))) (wCons (wC (.d (.int 2))) wNil))) (wCons (wTup (wCons (wC (.d (.int 1))) (wCons (wC (.d (.int 2))) wNil))) (wCons (wTup (wCons (wC (.d (.bool true))) (wCons (wC (.d (.int 2))) wNil))) (wCons (wTup (wCons (wC (.d (.int 0))) (wCons (wOp (fIc CPowW (fun i j => i ^ j.toNat)) (wC (.d (.int 10))) (wC (.d (.int 9)))) wNil))) wNil))))))))) (wCall [0] 2 S_law_spoon (wCons (wVar 0) (wCons (wC (.d (.int 8))) wNil)))))
    (wSeq (wSet 4 (wLst (wCons (wFn kList (wCons (wVar 1) wNil)) (wCons (wSl (wVar 1) wNoPart (wPart (wVar 2))) (wCons (wCat (wVar 1) (wSl (wVar 1) (wPart (wVar 2)) (wPart (wOp (fI (· + ·)) (wVar 2) (wC (.d (.int 1))))))) (wCons (wCat (wCat (wSl (wVar 1) wNoPart (wPart (wVar 2))) (wLst (wCons (wVar 3) wNil))) (wSl (wVar 1) (wPart (wVar 2)) wNoPart)) (wCons (wFn kTup (wCons (wVar 1) wNil)) (wCons (wRevS (wVar 1)) wNil))))))))
    (wSeq (wDrop (wM isLst kApp (wVar 4) (wCons (wCat (wCat (wSl (wVar 1) wNoPart (wPart (wVar 2))) (wRevS (wSl (wVar 1) (wPart (wVar 2)) (wPart (wOp (fI (· + ·)) (wVar 2) (wC (.d (.int 2)))))))) (wSl (wVar 1) (wPart (wOp (fI (· + ·)) (wVar 2) (wC (.d (.int 2))))) wNoPart)) wNil)))
    (wSeq (wDrop (wM isLst kApp (wVar 4) (wCons (wCat (wCat (wSl (wVar 1) wNoPart (wPart (wVar 2))) (wLc (wILst (wSl (wVar 1) (wPart (wVar 2)) (wPart (wOp (fI (· + ·)) (wVar 2) (wC (.d (.int 1))))))) (wNm 5) wYes (wRevT (wVar 5)) [5])) (wSl (wVar 1) (wPart (wOp (fI (· + ·)) (wVar 2) (wC (.d (.int 1))))) wNoPart)) wNil)))
    (wRet (wCat (wVar 4) (wLst (wCons (wC (.d .none)) (wCons (wC (.d (.int 0))) (wCons (wC (mK1 [])) (wCons (wLst (wCons (wLst wNil) wNil)) (wCons (wC (.d (.str ""))) (wCons (wLst (wCons (wVar 1) wNil)) wNil))))))))))))))
theorem pl_law_things : PlD S_law_things w_law_things N_law_things := by
  rintro ts Q Ex ⟨⟨a, b, c, hs, rfl, hp, hl, sm⟩, q⟩
  have fin : ∀ (xs : List PyData) a' c' ρ, xs.length ≤ 20 → (∀ x ∈ xs, ThX x) → ρ[0]? = some (some (potT a' b c')) → 0 ≤ a' → c ≤ c' → c' ≤ c + 2 → Q (.l (xs.map T.d)) ρ := fun xs a' c' ρ k1 k2 e h1 h2 h3 => q _ _ fun a9 b9 c9 hs9 e9 => by
    simp only [List.cons.injEq, T.d.injEq, and_true] at e9
    obtain ⟨rfl, rfl, rfl⟩ := pot_inj e9.1
    cases pairsD_inj e9.2
    exact ⟨xs, rfl, k1, k2, a', c', e, h1, h2, h3⟩
  have ap := allE_prs sm
  unfold w_law_things
  repeat trivial
  refine xSpoon (k := 2) rfl hp (by decide) (by simp [pairsD]; omega) (by simp [pairsD]; omega) fun at' a1 c1 i10 i11 hp1 c10 c11 => ?_
  repeat trivial
  refine xSpoon (k := 1) rfl hp1 (by decide) (by decide) (by decide) fun i2 a2 c2 i20 i21 hp2 c20 c21 => ?_
  obtain ⟨od, hod, eod⟩ := pickD (ds := odds) i20 (show i2 < 8 from i21)
  refine xIxL (ds := odds) eod ?_
  repeat trivial
  refine xList (ds := hs.map pr) rfl ?_
  repeat trivial
  refine xSlK (ds := hs.map pr) rfl ?_
  repeat trivial
  refine xSlK (ds := hs.map pr) rfl ?_
  have hd : (hs.map pr).length ≤ 100 := by rw [List.length_map]; exact hl
  have L : ∀ lo hi, (cutD (hs.map pr) lo hi).length ≤ 100 := fun lo hi => Nat.le_trans cut_lenE hd
  have sz : ∀ n : Nat, n ≤ 1000 → n ≤ sizeLine := fun n h => Nat.le_trans h (by decide)
  have A : ∀ lo hi, AllE (cutD (hs.map pr) lo hi) := fun lo hi => allE_cut ap
  have oA : AllE [od] := fun d hd => by rw [List.mem_singleton] at hd; subst hd; exact odds_ok _ hod
  refine xCatK (ds := hs.map pr) rfl (allD_map _) (sz _ (by have := L (some at') (some (at' + 1)); omega)) ?_
  repeat trivial
  refine xSlK (ds := hs.map pr) rfl ?_
  repeat trivial
  refine xCatK (allD_map _) (es := [od]) rfl (sz _ (by have := L none (some at'); simp only [List.length_singleton]; omega)) ?_
  repeat trivial
  refine xSlK (ds := hs.map pr) rfl ?_
  refine xCatK (allD_map _) (allD_map _) (sz _ (by have := L none (some at'); have := L (some at') none; simp only [List.length_append, List.length_singleton]; omega)) ?_
  repeat trivial
  refine xTupL (ds := hs.map pr) rfl ?_
  repeat trivial
  refine xRevK (ds := hs.map pr) rfl ?_
  repeat trivial
  refine xLstK (er2 (er_l _) (er2 (er_l _) (er2 (er_l _) (er2 (er_l _) (er2 rfl (er2 (er_l _) er0)))))) ?_
  refine xSetK rfl ?_
  repeat trivial
  refine xSlK (ds := hs.map pr) rfl ?_
  repeat trivial
  refine xSlK (ds := hs.map pr) rfl ?_
  refine xRevK (allD_map _) ?_
  refine xCatK (allD_map _) (allD_map _) (sz _ (by have := L none (some at'); have := L (some at') (some (at' + 2)); rw [List.length_reverse]; omega)) ?_
  repeat trivial
  refine xSlK (ds := hs.map pr) rfl ?_
  refine xCatK (allD_map _) (allD_map _) (sz _ (by have := L none (some at'); have := L (some at') (some (at' + 2)); have := L (some (at' + 2)) none; rw [List.length_append, List.length_reverse]; omega)) ?_
  repeat trivial
  refine xApp rfl (er_l _) (show 6 < sizeLine by decide) ?_
  repeat trivial
  refine xSlK (ds := hs.map pr) rfl ?_
  repeat trivial
  refine xSlK (ds := hs.map pr) rfl ?_
  refine xILK flat_map ?_
  refine xLcM (fun _ => true) rvP rfl (by have := L (some at') (some (at' + 1)); omega) (show 5 < 6 by decide) (fun x hx Y Z hY _ => ?_) ?_
  · obtain ⟨p, hp, rfl⟩ := List.mem_map.mp (cut_mem hx)
    refine xYesT ⟨noNd1 rfl, xYes rfl ?_⟩
    unfold pr
    repeat trivial
    exact ⟨noNd1 rfl, _, rfl, hY rfl⟩
  rw [List.filter_eq_self.mpr (fun _ _ => rfl)]
  refine xCatK (allD_map _) (allD_map _) (sz _ (by have := L none (some at'); have := L (some at') (some (at' + 1)); rw [List.length_map]; omega)) ?_
  repeat trivial
  refine xSlK (ds := hs.map pr) rfl ?_
  refine xCatK (allD_map _) (allD_map _) (sz _ (by have := L none (some at'); have := L (some at') (some (at' + 1)); have := L (some (at' + 1)) none; rw [List.length_append, List.length_map]; omega)) ?_
  repeat trivial
  refine xApp rfl (er_l _) (show 7 < sizeLine by decide) ?_
  repeat trivial
  refine xCatK (allD_map _) (allD_map _) (show 14 ≤ sizeLine by decide) ?_
  have t7 : ThX (.list (cutD (hs.map pr) none (some at') ++ (cutD (hs.map pr) (some at') (some (at' + 2))).reverse ++ cutD (hs.map pr) (some (at' + 2)) none)) :=
    thX_list (allE_app (allE_app (A _ _) (allE_rev (A _ _))) (A _ _)) (by
      have := L none (some at'); have := L (some at') (some (at' + 2)); have := L (some (at' + 2)) none
      rw [List.length_append, List.length_append, List.length_reverse]; omega)
  have t8 : ThX (.list (cutD (hs.map pr) none (some at') ++ (cutD (hs.map pr) (some at') (some (at' + 1))).map rvP ++ cutD (hs.map pr) (some (at' + 1)) none)) :=
    thX_list (allE_app (allE_app (A _ _) (allE_rv hs sm fun x hx => cut_mem hx)) (A _ _)) (by
      have := L none (some at'); have := L (some at') (some (at' + 1)); have := L (some (at' + 1)) none
      rw [List.length_append, List.length_append, List.length_map]; omega)
  have t4 : ThX (.list (cutD (hs.map pr) none (some at') ++ [od] ++ cutD (hs.map pr) (some at') none)) :=
    thX_list (allE_app (allE_app (A _ _) oA) (A _ _)) (by
      have := L none (some at'); have := L (some at') none
      rw [List.length_append, List.length_append, List.length_singleton]; omega)
  have t3 : ThX (.list (hs.map pr ++ cutD (hs.map pr) (some at') (some (at' + 1)))) :=
    thX_list (allE_app ap (A _ _)) (by
      have := L (some at') (some (at' + 1))
      rw [List.length_append]; omega)
  have t2 : ThX (.list (cutD (hs.map pr) none (some at'))) := thX_list (A _ _) (by have := L none (some at'); omega)
  have t1 : ThX (.list (hs.map pr)) := thX_list ap (by omega)
  have t5 : ThX (.tuple (hs.map pr)) := thX_tup ap (by omega)
  have t6 : ThX (.list (hs.map pr).reverse) := thX_list (allE_rev ap) (by rw [List.length_reverse]; omega)
  have tl : ThX (.list [pairsD hs]) := ⟨.inl ⟨_, rfl, by simp, fun d hd => by
    rw [List.mem_singleton] at hd
    exact .inr (.inr (.inr ⟨_, hd⟩))⟩, (Rpr.list (.cons (Rpr.prs (n := 100) sm hl) .nil)).mono (by decide) (by decide)⟩
  have tn : ThX (.list [.list []]) := ⟨.inl ⟨_, rfl, by simp, fun d hd => by
    rw [List.mem_singleton] at hd
    exact .inr (.inr (.inr ⟨_, hd⟩))⟩, Rpr.of_chk (by decide +kernel)⟩
  generalize cutD (hs.map pr) none (some at') ++ (cutD (hs.map pr) (some at') (some (at' + 2))).reverse ++ cutD (hs.map pr) (some (at' + 2)) none = x7 at *
  generalize cutD (hs.map pr) none (some at') ++ (cutD (hs.map pr) (some at') (some (at' + 1))).map rvP ++ cutD (hs.map pr) (some (at' + 1)) none = x8 at *
  generalize cutD (hs.map pr) none (some at') ++ [od] ++ cutD (hs.map pr) (some at') none = x4 at *
  generalize hs.map pr ++ cutD (hs.map pr) (some at') (some (at' + 1)) = x3 at *
  generalize cutD (hs.map pr) none (some at') = x2 at *
  refine ⟨by simp only [noAl], fin _ a2 c2 _ (show 14 ≤ 20 by decide) (fun x hx => ?_) rfl hp2.1 (by omega) (by omega)⟩
  simp only [List.cons_append, List.nil_append, List.mem_cons, List.not_mem_nil, or_false] at hx
  rcases hx with rfl | rfl | rfl | rfl | rfl | rfl | rfl | rfl | rfl | rfl | rfl | rfl | rfl | rfl
  · exact t1
  · exact t2
  · exact t3
  · exact t4
  · exact t5
  · exact t6
  · exact t7
  · exact t8
  · exact ⟨.inr (.inl rfl), Rpr.none.mono (by decide) (by decide)⟩
  · exact ⟨.inr (.inr (.inl rfl)), Rpr.of_chk (by decide +kernel)⟩
  · exact ⟨.inr (.inr (.inr (.inr (.inr rfl)))), Rpr.of_chk (x := .dict []) (by decide +kernel)⟩
  · exact tn
  · exact ⟨.inr (.inr (.inr (.inl ⟨_, rfl⟩))), Rpr.of_chk (by decide +kernel)⟩
  · exact tl
theorem xThings {ρ : Rho} {Q : T → Rho → Prop} {E : ExK} {r : Nat} {a b c k : Int} {hs : List (Int × Int)} (hg : ρ[r]? = some (some (potT a b c))) (hp : Pot a b c k) (hk : 2 ≤ k) (hl : hs.length ≤ 100) (sm : ∀ p ∈ hs, smallP p)
    (q : ∀ (xs : List PyData) a' c', xs.length ≤ 20 → (∀ x ∈ xs, ThX x) → Pot a' b c' (k - 2) → c ≤ c' → c' ≤ c + 2 → Q (.l (xs.map T.d)) (ρ.set r (some (potT a' b c')))) : caK [0] 2 S_law_things [.a r [], .d (pairsD hs)] ρ Q E := by
  obtain ⟨h1, h2, h3, h4, h5⟩ := hp
  refine xCaF hg rfl rfl rfl rfl ⟨a, b, c, hs, rfl, ⟨h1, h2, h3, h4, by omega⟩, hl, sm⟩ fun u ρ' h => ?_
  obtain ⟨xs, rfl, k1, k2, a', c', e, g1, g2, g3⟩ := h a b c hs rfl
  exact ⟨_, e, rfl, by simp only [noAl], q xs a' c' k1 k2 ⟨g1, h2, h3, by omega, by omega⟩ g2 g3⟩
end LW.D

namespace LW.D
open PySem PySem.Spec L2 TX

local macro_rules | `(tactic| trivial) => `(tactic| with_reducible first
  | refine xSeq ?_ | refine xSet ?_ | refine xSetK (by with_unfolding_all rfl) ?_ | refine xNext ?_ | refine xIfS ?_ | refine xDrop ?_ | refine xRet ?_ | refine xAsg ?_ | refine xAsK (by with_unfolding_all rfl) ?_ | refine xSub ?_ | refine xSbK (by with_unfolding_all rfl) (by with_unfolding_all rfl) (by with_unfolding_all rfl) ?_
  | refine xVarD (by with_unfolding_all rfl) ?_ | refine xVarZ (by with_unfolding_all rfl) ?_ | refine xVarN (by with_unfolding_all rfl) (by with_unfolding_all rfl) ?_ | refine xC ?_ | refine xOp ?_ | refine xI (by with_unfolding_all rfl) (by with_unfolding_all rfl) ?_ | refine xB (by with_unfolding_all rfl) (by with_unfolding_all rfl) ?_ | refine xEqI (by with_unfolding_all rfl) (by with_unfolding_all rfl) ?_ | refine xNeI (by with_unfolding_all rfl) (by with_unfolding_all rfl) ?_ | refine xNeg ?_ | refine xNegK ?_
  | refine xIc (by with_unfolding_all rfl) (by with_unfolding_all rfl) (by with_unfolding_all first | omega | exact ⟨by decide, by decide +kernel⟩) ?_
  | refine xT ?_ | refine xTK ?_ | refine xNot ?_ | refine xAnd ?_ | refine xOr ?_ | refine xAndV ?_ | refine xOrV ?_ | refine xNotV ?_ | refine xBK ?_ | refine xIf ?_ | refine xCh ?_ | refine xCh1 (by with_unfolding_all rfl) (by with_unfolding_all rfl) ?_ | refine xCh2 (by with_unfolding_all rfl) (by with_unfolding_all rfl) ?_
  | refine xIx ?_ | refine xIxA (by with_unfolding_all rfl) (by with_unfolding_all rfl) (by with_unfolding_all rfl) ?_ | refine xNil ?_ | refine xCons ?_ | refine xFn ?_ | refine xLst ?_ | refine xLstK (by with_unfolding_all rfl) ?_ | refine xTup ?_ | refine xTupK (by with_unfolding_all rfl) ?_ | refine xLen (by with_unfolding_all rfl) ?_ | refine xMax (by with_unfolding_all rfl) (by with_unfolding_all rfl) ?_ | refine xMin (by with_unfolding_all rfl) (by with_unfolding_all rfl) ?_
  | refine xYes (by with_unfolding_all rfl) ?_ | refine xNo (by with_unfolding_all rfl) ?_ | refine xIs (by with_unfolding_all rfl) (by with_unfolding_all rfl) ?_ | refine xCall ?_ | refine xM ?_ | refine xMA (by with_unfolding_all rfl) ?_ | refine xMD ?_ | refine xLc ?_ | refine xFor ?_ | refine xILst ?_ | refine xILK (by with_unfolding_all rfl) ?_ | refine xIR1 ?_ | refine xIEn ?_ | refine xSl ?_ | refine xNoPart ?_ | refine xPart ?_ | refine xPartK ?_ | refine xRevS ?_ | refine xCat ?_ | refine xLenSet ?_
  | refine xNm (by with_unfolding_all rfl) ?_ | refine xGTup (by with_unfolding_all rfl) ?_ | refine xGsCons ?_ | refine xGsNil ?_ | refine xYesT ?_ | refine xDg1 ?_ | refine xDp1 ?_ | refine xDg2 ?_ | refine xDp2 ?_ | refine xPar ?_ | refine xPaK (by with_unfolding_all rfl) (by with_unfolding_all rfl) ?_ | refine xRevT ?_ | refine xRevTK ?_ | refine xDi1 ?_ | refine xDi2 ?_ | refine xITup ?_ | refine xITupK ?_ | refine xIZip ?_ | refine xIR2 ?_ | refine xIsNK (by with_unfolding_all rfl) ?_ | refine xRev2 ?_ | refine xListR ?_ | refine xSlT ?_ | refine xSlTK ?_ | refine xGt1 ?_ | refine xGt2 ?_ | refine xGtA (by with_unfolding_all rfl) ?_ | refine xGtD ?_ | refine xRep ?_ | refine xDcL ?_ | refine xDc ?_ | refine xDpl ?_ | refine xGe1 ?_ | refine xGe2 ?_ | refine xIe1 ?_ | refine xIe2 ?_ | refine xGLst (by with_unfolding_all rfl) ?_ | refine xIsB (by with_unfolding_all rfl) (by with_unfolding_all rfl) ?_ | refine xVarL (by with_unfolding_all rfl) ?_ | refine xIDc ?_ | refine xIDcK ?_ | refine xLc2 ?_ | refine xGd1 ?_ | refine xGd2 ?_ | refine xGdA (by with_unfolding_all rfl) ?_ | refine xGdD ?_ | refine xDcT ?_ | refine xClip ?_ | refine xAppD ?_ | refine xAppD11 ?_ | refine xAppD21 ?_ | refine xLi ?_ | refine xIEz ?_)

/-! ### a telling with some threes the other way -/
def S_law_bent : SpT := SpP (fun ts => ∃ a b c ws, ts = [potT a b c, .d (telD ws)] ∧ Pot a b c 1001 ∧ ws.length ≤ 1000 ∧ (ws.map (·.1)).Nodup ∧ (∀ p ∈ ws, okWay p.2 = true)) fun ts t ρ => ∀ a b c ws, ts = [potT a b c, .d (telD ws)] → ∃ ws', t = mK2 (telKV ws') ∧ ws'.map (·.1) = ws.map (·.1) ∧ (∀ p ∈ ws', okWay p.2 = true) ∧ PotTo 1001 a b c ρ
theorem mS_law_bent : MonSp S_law_bent := mon_SpP
def putW (ws : List (I3 × Str)) (p : I3) (z : Str) : List (I3 × Str) := ws.map fun q => if q.1 = p then (q.1, z) else q
theorem putW_keys (ws : List (I3 × Str)) (p : I3) (z : Str) : (putW ws p z).map (·.1) = ws.map (·.1) := by
  unfold putW
  rw [List.map_map]
  refine List.map_congr_left fun q _ => ?_
  show (if q.1 = p then (q.1, z) else q).1 = q.1
  split <;> rfl
theorem put_tel {ws : List (I3 × Str)} {p : I3} {z : Str} (h : p ∈ ws.map (·.1)) : putD (telKV ws) (k3 p) (.str z) = telKV (putW ws p z) := by
  unfold putD
  rw [if_pos (List.any_eq_true.mpr (by
    obtain ⟨q, hq, rfl⟩ := List.mem_map.mp h
    exact ⟨(k3 q.1, .str q.2), List.mem_map.mpr ⟨q, hq, rfl⟩, by simp⟩))]
  unfold telKV putW
  rw [List.map_map, List.map_map]
  refine List.map_congr_left fun q _ => ?_
  show (if k3 q.1 = k3 p then (k3 q.1, PyData.str z) else (k3 q.1, .str q.2)) = (k3 (if q.1 = p then (q.1, z) else q).1, .str (if q.1 = p then (q.1, z) else q).2)
  by_cases e : q.1 = p
  · rw [if_pos e, if_pos (by rw [e])]
  · rw [if_neg e, if_neg fun k => e (k3_inj k)]
theorem putW_ok {ws : List (I3 × Str)} {p : I3} {z : Str} (it : ∀ p ∈ ws, okWay p.2 = true) (h : okWay z = true) : ∀ q ∈ putW ws p z, okWay q.2 = true := fun q hq => by
  unfold putW at hq
  obtain ⟨q', hq', rfl⟩ := List.mem_map.mp hq
  split
  · exact h
  · exact it q' hq'
theorem isTel_keys {cs : List Int} {ws ws' : List (I3 × Str)} (it : isTel cs ws = true) (k : ws'.map (·.1) = ws.map (·.1)) (h : ∀ p ∈ ws', okWay p.2 = true) : isTel cs ws' = true := by
  unfold isTel at *
  rw [k]
  rw [Bool.and_eq_true] at it ⊢
  exact ⟨it.1, List.all_eq_true.mpr h⟩
def flipS (z : Str) : Str := if (z == lowS) = true then highS else lowS
theorem flip_ok (z : Str) : okWay (flipS z) = true := by unfold flipS; split <;> decide +kernel
theorem flip_at (z : Str) : atI [PyData.str (Str.ofString "low"), .str (Str.ofString "high")] (if (z == lowS) = true then 1 else 0) = some (.str (flipS z)) := by
  unfold flipS
  split <;> rfl
theorem itP_tel (ws : List (I3 × Str)) : (telPs ws).map itP = (telKV ws).map pairD := by
  unfold telPs telKV
  rw [List.map_map, List.map_map]
  rfl
theorem look_mem {ws : List (I3 × Str)} {p : I3} (nd : (ws.map (·.1)).Nodup) (h : p ∈ ws.map (·.1)) : ∃ z, lookI ws p = some z := by
  obtain ⟨q, hq, rfl⟩ := List.mem_map.mp h
  exact ⟨q.2, lookI_mem nd hq⟩
abbrev N_law_bent : List Str := ["_law_dish_here", "_law_ways_here", "_law_found", "_law_turn", "_law_three"]
def w_law_bent : TwS := (wSeq (wSet 2 (wFn kDictP (wCons (wLi (wVar 1)) wNil)))
    (wSeq (wFor (wIR1 (wCons (wOp (fIc CMulW (· * ·)) (wIx (wLst (wCons (wC (.d (.int 1))) (wCons (wC (.d (.int 1))) (wCons (wC (.d (.int 2))) (wCons (wFn kLenD (wCons (wVar 1) wNil)) wNil))))) (wCall [0] 2 S_law_spoon (wCons (wVar 0) (wCons (wC (.d (.int 4))) wNil)))) (wFn (k2 fMin) (wCons (wC (.d (.int 1))) (wCons (wFn kLenD (wCons (wVar 1) wNil)) wNil)))) wNil)) (wNm 3) (wSeq (wSet 4 (wIx (wFn kSortD (wCons (wVar 1) wNil)) (wCall [0] 2 S_law_spoon (wCons (wVar 0) (wCons (wFn kLenD (wCons (wVar 1) wNil)) wNil)))))
    (wAsg (wIx (wLst (wCons (wC (.d (.str "low"))) (wCons (wC (.d (.str "high"))) wNil))) (wFn (k1 fInt) (wCons (wOp (fEq) (wDg2 (wVar 2) (wVar 4)) (wC (.d (.str "low")))) wNil))) (wDp2 (wVar 2) (wVar 4)))))
    (wRetV 2)))
theorem pl_law_bent : PlD S_law_bent w_law_bent N_law_bent := by
  rintro ts Q Ex ⟨⟨a, b, c, ws, rfl, hp, wl, nd, it⟩, q⟩
  obtain ⟨p1, p2, p3, p4, p5⟩ := id hp
  have fin : ∀ w a' c' ρ, w.map (·.1) = ws.map (·.1) → (∀ p ∈ w, okWay p.2 = true) → ρ[0]? = some (some (potT a' b c')) → 0 ≤ a' → c ≤ c' → c' ≤ c + 1001 → Q (mK2 (telKV w)) ρ := fun w a' c' ρ h1 h2 e h3 h4 h5 => q _ _ fun a9 b9 c9 ws9 e9 => by
    simp only [List.cons.injEq, T.d.injEq, and_true] at e9
    obtain ⟨rfl, rfl, rfl⟩ := pot_inj e9.1
    cases tel_inj e9.2
    exact ⟨w, rfl, h1, h2, a', c', e, h3, h4, h5⟩
  have lend : ∀ ρ, dkeys ρ (.d (telD ws)) = some ((ws.map fun x : I3 × Str => x.1).map tr3) := fun ρ => congrArg some (tel_keys ws)
  unfold w_law_bent
  repeat trivial
  refine xLiK (ps := telPs ws) rfl ?_
  rw [itP_tel]
  repeat trivial
  refine xDictP (kvs := telKV ws) (allD_map _) (telKV_nd nd) ?_
  repeat trivial
  refine xLenD (lend _) ?_
  repeat trivial
  rw [List.length_map, List.length_map]
  refine xSpoon (k := 1001) rfl hp (by decide) (by decide) (by decide) fun i1 a1 c1 i10 i11 hp1 c10 c11 => ?_
  obtain ⟨m, hm, em⟩ := pickI (cs := [1, 1, 2, (ws.length : Int)]) i10 i11
  have hm2 : 0 ≤ m ∧ m ≤ 1000 := by simp only [List.mem_cons, List.not_mem_nil, or_false] at hm; omega
  refine xIxL em ?_
  repeat trivial
  refine xLenD (lend _) ?_
  repeat trivial
  rw [List.length_map, List.length_map]
  refine xIc rfl rfl (cmul 20 20 (by omega) (by omega)) ?_
  repeat trivial
  have hr : 0 ≤ m * min 1 (ws.length : Int) ∧ m * min 1 (ws.length : Int) ≤ 1000 ∧ (ws.length = 0 → m * min 1 (ws.length : Int) = 0) := by
    have : min 1 (ws.length : Int) = 0 ∧ ws.length = 0 ∨ min 1 (ws.length : Int) = 1 ∧ 1 ≤ ws.length := by omega
    rcases this with ⟨h1, h2⟩ | ⟨h1, h2⟩ <;> rw [h1] <;> omega
  generalize m * min 1 (ws.length : Int) = r at *
  refine xIRK (by omega) (by omega) ?_
  refine xFoK (fun i ρ => ∃ (a' c' : Int) (w : List (I3 × Str)) (o3 o4 : Option PyData), ρ = [some (potT a' b c'), some (.d (telD ws)), some (mK2 (telKV w)), o3.map T.d, o4.map T.d] ∧ w.map (·.1) = ws.map (·.1) ∧ (∀ p ∈ w, okWay p.2 = true) ∧ 0 ≤ a' ∧ c1 ≤ c' ∧ c' ≤ c1 + i) ⟨a1, c1, ws, none, none, rfl, rfl, it, hp1.1, by omega, by omega⟩ ?_ ?_
  · rintro i x ρ2 e ⟨a', c', w, o3, o4, rfl, kw, itw, g1, g2, g3⟩
    obtain ⟨hi, rfl⟩ := range_get e
    have wpos : 1 ≤ ws.length := by
      have := hr.2.2
      omega
    have ndw : (w.map fun x : I3 × Str => x.1).Nodup := kw ▸ nd
    refine xNm (noNd_o rfl) ?_
    repeat trivial
    refine xSortD (lend _) (alike_trs _) (sortable_trs _) (depth_trs _) ?_
    rw [sortT]
    repeat trivial
    refine xLenD (lend _) ?_
    repeat trivial
    rw [List.length_map, List.length_map]
    refine xSpoon (k := 1) rfl ⟨g1, p2, p3, by omega, by omega⟩ (by decide) (by omega) (by omega) fun i5 a5 c5 i50 i51 hp5 c50 c51 => ?_
    have pmk := List.mergeSort_perm (ws.map fun x : I3 × Str => x.1) leT
    have lk : i5.toNat < ((ws.map fun x : I3 × Str => x.1).mergeSort leT).length := by rw [pmk.length_eq, List.length_map]; omega
    have pm := pmk.mem_iff.mp (List.getElem_mem lk)
    refine xIxL (at_of i50 (by rw [List.getElem?_map, List.getElem?_eq_getElem lk]; rfl)) ?_
    generalize ((ws.map fun x : I3 × Str => x.1).mergeSort leT)[i5.toNat] = p at *
    obtain ⟨z, hz⟩ := look_mem ndw (kw ▸ pm)
    repeat trivial
    refine xDgK2 (kvs := telKV w) (k := k3 p) rfl rfl (by rw [look_tel, hz]; rfl) ?_
    repeat trivial
    refine xEqS (a := z) (b := lowS) rfl rfl ?_
    repeat trivial
    refine xIntB rfl ?_
    refine xIxL (flip_at z) ?_
    repeat trivial
    refine xDpK2 (kvs := telKV w) (k := k3 p) rfl rfl (by
      have := congrArg List.length kw
      rw [List.length_map, List.length_map] at this
      unfold telKV
      rw [List.length_map]
      exact small1000 (by omega)) ?_
    refine ⟨a5, c5, putW w p (flipS z), some (.int (0 + (i : Nat))), some (tr3 p), ?_, by rw [putW_keys, kw], putW_ok itw (flip_ok z), hp5.1, by omega, by omega⟩
    rw [← put_tel (kw ▸ pm)]
    rfl
  · rintro ρ2 ⟨a', c', w, o3, o4, rfl, kw, itw, g1, g2, g3⟩
    rw [range_len] at g3
    repeat trivial
    exact xRetV rfl ⟨rfl, fin w a' c' _ kw itw rfl g1 (by omega) (by omega)⟩
theorem xBent {ρ : Rho} {Q : T → Rho → Prop} {E : ExK} {r : Nat} {a b c k : Int} {ws : List (I3 × Str)} {u : T} (hg : ρ[r]? = some (some (potT a b c))) (hu : argsF [0] ρ false 1 [u] = some [.d (telD ws)]) (ha : apartB [.a r [], u] = true) (hp : Pot a b c k) (hk : 1001 ≤ k) (wl : ws.length ≤ 1000) (nd : (ws.map (·.1)).Nodup) (it : ∀ p ∈ ws, okWay p.2 = true)
    (q : ∀ ws' a' c', ws'.map (·.1) = ws.map (·.1) → (∀ p ∈ ws', okWay p.2 = true) → Pot a' b c' (k - 1001) → c ≤ c' → c' ≤ c + 1001 → Q (mK2 (telKV ws')) (ρ.set r (some (potT a' b c')))) : caK [0] 2 S_law_bent [.a r [], u] ρ Q E := by
  obtain ⟨h1, h2, h3, h4, h5⟩ := hp
  refine xCaF hg rfl hu rfl ha ⟨a, b, c, ws, rfl, ⟨h1, h2, h3, h4, by omega⟩, wl, nd, it⟩ fun v ρ' h => ?_
  obtain ⟨ws', rfl, k1, k2, a', c', e, g1, g2, g3⟩ := h a b c ws rfl
  exact ⟨_, e, rfl, rfl, q ws' a' c' k1 k2 ⟨g1, h2, h3, by omega, by omega⟩ g2 g3⟩
end LW.D

namespace LW.D
open PySem PySem.Spec L2 TX

local macro_rules | `(tactic| trivial) => `(tactic| with_reducible first
  | refine xSeq ?_ | refine xSet ?_ | refine xSetK (by with_unfolding_all rfl) ?_ | refine xNext ?_ | refine xIfS ?_ | refine xDrop ?_ | refine xRet ?_ | refine xAsg ?_ | refine xAsK (by with_unfolding_all rfl) ?_ | refine xSub ?_ | refine xSbK (by with_unfolding_all rfl) (by with_unfolding_all rfl) (by with_unfolding_all rfl) ?_
  | refine xVarD (by with_unfolding_all rfl) ?_ | refine xVarZ (by with_unfolding_all rfl) ?_ | refine xVarN (by with_unfolding_all rfl) (by with_unfolding_all rfl) ?_ | refine xC ?_ | refine xOp ?_ | refine xI (by with_unfolding_all rfl) (by with_unfolding_all rfl) ?_ | refine xB (by with_unfolding_all rfl) (by with_unfolding_all rfl) ?_ | refine xEqI (by with_unfolding_all rfl) (by with_unfolding_all rfl) ?_ | refine xNeI (by with_unfolding_all rfl) (by with_unfolding_all rfl) ?_ | refine xNeg ?_ | refine xNegK ?_
  | refine xIc (by with_unfolding_all rfl) (by with_unfolding_all rfl) (by with_unfolding_all first | omega | exact ⟨by decide, by decide +kernel⟩) ?_
  | refine xT ?_ | refine xTK ?_ | refine xNot ?_ | refine xAnd ?_ | refine xOr ?_ | refine xAndV ?_ | refine xOrV ?_ | refine xNotV ?_ | refine xBK ?_ | refine xIf ?_ | refine xCh ?_ | refine xCh1 (by with_unfolding_all rfl) (by with_unfolding_all rfl) ?_ | refine xCh2 (by with_unfolding_all rfl) (by with_unfolding_all rfl) ?_
  | refine xIx ?_ | refine xIxA (by with_unfolding_all rfl) (by with_unfolding_all rfl) (by with_unfolding_all rfl) ?_ | refine xNil ?_ | refine xCons ?_ | refine xFn ?_ | refine xLst ?_ | refine xLstK (by with_unfolding_all rfl) ?_ | refine xTup ?_ | refine xTupK (by with_unfolding_all rfl) ?_ | refine xLen (by with_unfolding_all rfl) ?_ | refine xMax (by with_unfolding_all rfl) (by with_unfolding_all rfl) ?_ | refine xMin (by with_unfolding_all rfl) (by with_unfolding_all rfl) ?_
  | refine xYes (by with_unfolding_all rfl) ?_ | refine xNo (by with_unfolding_all rfl) ?_ | refine xIs (by with_unfolding_all rfl) (by with_unfolding_all rfl) ?_ | refine xCall ?_ | refine xM ?_ | refine xMA (by with_unfolding_all rfl) ?_ | refine xMD ?_ | refine xLc ?_ | refine xFor ?_ | refine xILst ?_ | refine xILK (by with_unfolding_all rfl) ?_ | refine xIR1 ?_ | refine xIEn ?_ | refine xSl ?_ | refine xNoPart ?_ | refine xPart ?_ | refine xPartK ?_ | refine xRevS ?_ | refine xCat ?_ | refine xLenSet ?_
  | refine xNm (by with_unfolding_all rfl) ?_ | refine xGTup (by with_unfolding_all rfl) ?_ | refine xGsCons ?_ | refine xGsNil ?_ | refine xYesT ?_ | refine xDg1 ?_ | refine xDp1 ?_ | refine xDg2 ?_ | refine xDp2 ?_ | refine xPar ?_ | refine xPaK (by with_unfolding_all rfl) (by with_unfolding_all rfl) ?_ | refine xRevT ?_ | refine xRevTK ?_ | refine xDi1 ?_ | refine xDi2 ?_ | refine xITup ?_ | refine xITupK ?_ | refine xIZip ?_ | refine xIR2 ?_ | refine xIsNK (by with_unfolding_all rfl) ?_ | refine xRev2 ?_ | refine xListR ?_ | refine xSlT ?_ | refine xSlTK ?_ | refine xGt1 ?_ | refine xGt2 ?_ | refine xGtA (by with_unfolding_all rfl) ?_ | refine xGtD ?_ | refine xRep ?_ | refine xDcL ?_ | refine xDc ?_ | refine xDpl ?_ | refine xGe1 ?_ | refine xGe2 ?_ | refine xIe1 ?_ | refine xIe2 ?_ | refine xGLst (by with_unfolding_all rfl) ?_ | refine xIsB (by with_unfolding_all rfl) (by with_unfolding_all rfl) ?_ | refine xVarL (by with_unfolding_all rfl) ?_ | refine xIDc ?_ | refine xIDcK ?_ | refine xLc2 ?_ | refine xGd1 ?_ | refine xGd2 ?_ | refine xGdA (by with_unfolding_all rfl) ?_ | refine xGdD ?_ | refine xDcT ?_ | refine xClip ?_ | refine xAppD ?_ | refine xAppD11 ?_ | refine xAppD21 ?_ | refine xLi ?_ | refine xIEz ?_)

/-! ### the law of histories of tellings judged -/
def S_law : SpT := LW.S_law
theorem mS_law : MonSp S_law := LW.mS_law
theorem all_true : ∀ ns : List Int, ns.length ≤ 63 → S_law [.fz ns] (fun t _ => t = .d (.bool true)) fun _ _ => False := LW.all_true
theorem rpr_rtx {cs : List Int} {ws : List (I3 × Str)} {x : PyData} (ok : RowOk cs) (it : isTel cs ws = true) (hl : ws.length ≤ 1000) (hx : ThX x) : Rpr (.list [.list (cs.map PyData.int), telD ws, x]) 200020 7 :=
  (Rpr.list (.cons ((Rpr.row ok).mono (Nat.le_refl _) (by decide)) (.cons ((rprTel (tel_small ok it) hl).mono (Nat.le_refl _) (by decide)) (.cons hx.2 .nil)))).mono (by decide) (by decide)
def row14 : List Int := [14, 13, 12, 11, 10, 9, 8, 7, 6, 5]
def asc14 : List Int := [5, 6, 7, 8, 9, 10, 11, 12, 13, 14]
theorem row14_ok : RowOk row14 := ⟨fun c hc => by simp only [row14, List.mem_cons, List.not_mem_nil, or_false] at hc; omega, by decide, by decide, by decide⟩
theorem sI_of {cs r : List Int} (h : r.Pairwise (· < ·)) (pm : r.Perm cs) (nd : cs.Nodup) : sI cs = r :=
  List.Perm.eq_of_pairwise (le := fun a b => a < b) (fun a b _ _ h1 h2 => by omega) (sI_sorted cs nd) h ((sI_perm cs).trans pm.symm)
theorem sI14 : sI row14 = asc14 := sI_of (by decide) (List.reverse_perm row14) row14_ok.2.1
def lowF (j : Nat) : List (Int × Int) := (List.range (9 - j)).map fun (m : Nat) => ((5 + (j : Int), 5 + (j : Int) + 1 + (m : Int)) : Int × Int)
def lowH (i : Nat) : List (Int × Int) := (List.range i).flatMap lowF
def r14D : PyData → PyData
  | .int z => .int (14 - z)
  | y => y
def prD (a : Int) (x : PyData) : PyData := .tuple [.int a, x]
theorem lowF_data (j : Nat) (h : j < 10) : (rangeD (5 + (j : Int) + 1) (15 - (5 + (j : Int) + 1)).toNat).map (prD (5 + (j : Int))) = (lowF j).map pr := by
  unfold rangeD lowF
  rw [show (15 - (5 + (j : Int) + 1)).toNat = 9 - j by omega, List.map_map, List.map_map]
  rfl
theorem low_whole : Whole row14 (lowH 10) := by
  unfold Whole
  rw [sI14]
  decide +kernel
theorem dt14 : dt row14 = (th asc14).filter (crF row14) := by rw [dt_eq, sI14]
theorem low_ways : ∀ p ∈ dt row14, wayH (lowH 10) p = lowS := by
  rw [dt14]
  decide +kernel
theorem low_tell : tellOf row14 (lowH 10) = (dt row14).map fun p => (p, lowS) := by
  unfold tellOf
  exact List.map_congr_left fun p hp => by rw [low_ways p hp]
theorem m14 : ((12, 13, 14) : I3) ∈ dt row14 := by
  rw [dt14]
  decide +kernel
def thl (x : PyData) : PyData := .tuple [x, .str lowS]
theorem thl_data (ps : List I3) : (List.filter (fun _ => true) (ps.map tr3)).map thl = (telKV (ps.map fun p => (p, lowS))).map pairD := by
  rw [List.filter_eq_self.mpr (fun _ _ => rfl)]
  unfold telKV
  rw [List.map_map, List.map_map, List.map_map]
  rfl
theorem his_pairs (cs : List Int) (ws : List (I3 × Str)) (hs : List (Int × Int)) : hisB cs ws (pairsD hs) = (decide (ledL cs (hs.map pr) = some (sI cs)) && dEq (telPs (tellOf cs hs)) (telPs ws)) := by
  unfold hisB
  have : hsOf (pairsD hs) = hs := by
    show (hs.map pr).map unp = hs
    rw [List.map_map]
    exact List.map_id' _
  rw [this]
  rfl
theorem his_true {cs : List Int} {ws : List (I3 × Str)} {hs : List (Int × Int)} (ok : RowOk cs) (nd : (ws.map (·.1)).Nodup) (wh : Whole cs hs) (pm : (tellOf cs hs).Perm ws) : hisB cs ws (pairsD hs) = true := by
  rw [his_pairs, decide_eq_true (show ledL cs (hs.map pr) = some (sI cs) from wh), Bool.true_and]
  exact dEq_telB (by rw [tell_keys]; exact dt_nodup ok) nd pm
theorem row321 : RowOk [3, 2, 1] := ⟨fun c hc => by simp only [List.mem_cons, List.not_mem_nil, or_false] at hc; omega, by decide, by decide, by decide⟩
theorem sI321 : sI [3, 2, 1] = [1, 2, 3] := sI_of (by decide) (List.reverse_perm [3, 2, 1]) row321.2.1
theorem whole321 : Whole [3, 2, 1] [(2, 3), (1, 3), (1, 2)] := by
  unfold Whole
  rw [sI321]
  decide +kernel
theorem tell321 : tellOf [3, 2, 1] [(2, 3), (1, 3), (1, 2)] = [((1, 2, 3), highS)] := by
  unfold tellOf
  rw [dt_eq, sI321]
  decide +kernel
abbrev N_law : List Str := ["_law_script", "_law_k", "_law_dish_here", "_law_row_here", "_law_done", "_law_other", "_law_ways_here", "_law_some", "_law_thing", "_law_kept", "_law_due_here", "_law_card", "_law_low", "_law_less", "_law_great", "_law_three"]
def w_law : TwS := (wSeq (wFor (wIR1 (wCons (wFn (k2 fMax) (wCons (wC (.d (.int 1))) (wCons (wFn (k2 fMin) (wCons (wC (.d (.int 5))) (wCons (wFn kLen (wCons (wVar 0) wNil)) wNil))) wNil))) wNil)) (wNm 1) (wSeq (wSet 2 (wCall [] 2 S_law_dish (wCons (wVar 0) (wCons (wVar 1) wNil))))
    (wSeq (wSet 3 (wCall [0] 2 S_law_row (wCons (wVar 2) (wCons (wIx (wLst (wCons (wC (.d (.int 6))) (wCons (wC (.d (.int 6))) (wCons (wC (.d (.int 10))) wNil)))) (wCall [0] 2 S_law_spoon (wCons (wVar 2) (wCons (wC (.d (.int 3))) wNil)))) wNil))))
    (wSeq (wFrz 3 (wPar 4 5 (wCons (wCall [0] 2 S_law_gone (wCons (wVar 2) (wCons (wVar 3) wNil))) (wCons (wCall [0] 2 S_law_gone (wCons (wVar 2) (wCons (wVar 3) wNil))) wNil))))
    (wSeq (wFrz 5 (wFrz 4 (wSet 6 (wCall [] 2 S_law_ways (wCons (wVar 3) (wCons (wVar 4) wNil))))))
    (wFrz 6 (wFor (wILst (wLst (wCons (wVar 6) (wCons (wCall [0] 2 S_law_bent (wCons (wVar 2) (wCons (wVar 6) wNil))) (wCons (wCall [] 2 S_law_ways (wCons (wVar 3) (wCons (wVar 5) wNil))) wNil))))) (wNm 7) (wSeq (wSet 7 (wCall [0] 2 S_law_stirred (wCons (wVar 2) (wCons (wVar 7) wNil))))
    (wFrz 7 (wFor (wILst (wCat (wCall [0] 2 S_law_things (wCons (wVar 2) (wCons (wVar 4) wNil))) (wCall [0] 2 S_law_things (wCons (wVar 2) (wCons (wVar 5) wNil))))) (wNm 8) (wSeq (wSet 9 (wFn (k1 fRepr) (wCons (wLst (wCons (wVar 3) (wCons (wVar 7) (wCons (wVar 8) wNil)))) wNil)))
    (wSeq (wSet 10 (wCall [] 3 S_law_due (wCons (wVar 3) (wCons (wVar 7) (wCons (wVar 8) wNil)))))
    (wIfS (wOr (wT (wOp (fNe) (wFn (k1 fRepr) (wCons (wCall [] 3 S_is_history_for (wCons (wVar 3) (wCons (wVar 7) (wCons (wVar 8) wNil)))) wNil)) (wFn (k1 fRepr) (wCons (wVar 10) wNil)))) (wT (wOp (fNe) (wFn (k1 fRepr) (wCons (wLst (wCons (wVar 3) (wCons (wVar 7) (wCons (wVar 8) wNil)))) wNil)) (wVar 9)))) (wRet (wC (.d (.bool false)))) wNext)))))))))))))
    (wSeq (wSet 3 (wLc (wIR1 (wCons (wC (.d (.int 10))) wNil)) (wNm 11) wYes (wOp (fI (· - ·)) (wC (.d (.int 14))) (wVar 11)) [11]))
    (wSeq (wSet 12 (wLst wNil))
    (wSeq (wFor (wIR2 (wCons (wC (.d (.int 5))) (wCons (wC (.d (.int 15))) wNil))) (wNm 13) (wDrop (wM isLst kExt (wVar 12) (wCons (wLc (wIR2 (wCons (wOp (fI (· + ·)) (wVar 13) (wC (.d (.int 1)))) (wCons (wC (.d (.int 15))) wNil))) (wNm 14) wYes (wTup (wCons (wVar 13) (wCons (wVar 14) wNil))) [14]) wNil))))
    (wSeq (wSet 6 (wFn kDictP (wCons (wLc (wILst (wCall [] 1 S_law_threes (wCons (wVar 3) wNil))) (wNm 15) wYes (wTup (wCons (wVar 15) (wCons (wC (.d (.str "low"))) wNil))) [15]) wNil)))
    (wSeq (wIfS (wT (wOp (fIsX true) (wCall [] 3 S_is_history_for (wCons (wVar 3) (wCons (wVar 6) (wCons (wVar 12) wNil)))) (wC (.d (.bool true))))) (wRet (wC (.d (.bool false)))) wNext)
    (wSeq (wAsg (wC (.d (.str "high"))) (wDp2 (wVar 6) (wTup (wCons (wC (.d (.int 12))) (wCons (wC (.d (.int 13))) (wCons (wC (.d (.int 14))) wNil))))))
    (wSeq (wIfS (wT (wOp (fIsX true) (wCall [] 3 S_is_history_for (wCons (wVar 3) (wCons (wVar 6) (wCons (wVar 12) wNil)))) (wC (.d (.bool false))))) (wRet (wC (.d (.bool false)))) wNext)
    (wRet (wOp (fIsX false) (wCall [] 3 S_is_history_for (wCons (wLst (wCons (wC (.d (.int 3))) (wCons (wC (.d (.int 2))) (wCons (wC (.d (.int 1))) wNil)))) (wCons (wC (mK2 (List.map toD [([.inl 1, .inl 2, .inl 3], "high")]))) (wCons (wLst (wCons (wTup (wCons (wC (.d (.int 2))) (wCons (wC (.d (.int 3))) wNil))) (wCons (wTup (wCons (wC (.d (.int 1))) (wCons (wC (.d (.int 3))) wNil))) (wCons (wTup (wCons (wC (.d (.int 1))) (wCons (wC (.d (.int 2))) wNil))) wNil)))) wNil)))) (wC (.d (.bool true)))))))))))))
theorem pl_law : PlD S_law w_law N_law := by
  rintro ts Q Ex ⟨⟨ns, rfl, hn⟩, q⟩
  unfold w_law
  repeat trivial
  refine xIRK (by omega) (by omega) ?_
  refine xFoK (fun i ρ => ∃ (o1 o3 o4 o5 o6 o7 o8 o9 o10 : Option PyData) (x2 : Option T), ρ = [some (.fz ns), o1.map T.d, x2, o3.map T.d, o4.map T.d, o5.map T.d, o6.map T.d, o7.map T.d, o8.map T.d, o9.map T.d, o10.map T.d, none, none, none, none, none]) ⟨none, none, none, none, none, none, none, none, none, none, rfl⟩ ?_ ?_
  · rintro i x ρ2 e ⟨o1, o3, o4, o5, o6, o7, o8, o9, o10, x2, rfl⟩
    obtain ⟨hi, rfl⟩ := range_get e
    refine xNm (noNd_o rfl) ?_
    repeat trivial
    refine xDish (by omega) (by omega) fun a b hp => ?_
    repeat trivial
    refine xSpoon rfl hp (by decide) (by decide) (by decide) fun i1 a1 c1 i10 i11 hp1 c10 c11 => ?_
    obtain ⟨m, hm, em⟩ := pickI (cs := [6, 6, 10]) i10 i11
    have hm' : 1 ≤ m ∧ m ≤ 10 := by simp only [List.mem_cons, List.not_mem_nil, or_false] at hm; omega
    refine xIxL em ?_
    repeat trivial
    refine xRow rfl hp1 (by decide) hm'.1 (by omega) fun cs a2 c2 ok cl hp2 c20 c21 => ?_
    have cl10 : cs.length ≤ 10 := by omega
    refine xSetK rfl ?_
    repeat trivial
    refine xFrz rfl (erase_intL (cs := cs)) ?_
    repeat trivial
    refine xGone rfl hp2 (by decide) ok fun h1 a3 c3 wh1 hp3 c30 c31 => ?_
    repeat trivial
    refine xGone rfl hp3 (by decide) ok fun h2 a4 c4 wh2 hp4 c40 c41 => ?_
    repeat trivial
    refine xFrz rfl (erase_pairL (ps := h2)) ?_
    refine xFrz rfl (erase_pairL (ps := h1)) ?_
    repeat trivial
    refine xWays (vu := false) ok wh1 rfl rfl ?_
    refine xSetK rfl ?_
    repeat trivial
    have nd : ((tellOf cs h1).map (·.1)).Nodup := by rw [tell_keys]; exact dt_nodup ok
    have it := tell_isTel h1 ok
    have wl : (tellOf cs h1).length ≤ 1000 := tell_len cl10
    have nd2 : ((tellOf cs h2).map (·.1)).Nodup := by rw [tell_keys]; exact dt_nodup ok
    have it2 := tell_isTel h2 ok
    have wl2 : (tellOf cs h2).length ≤ 1000 := tell_len cl10
    have hl1 := whole_len ok cl10 wh1
    have hl2 := whole_len ok cl10 wh2
    have sm1 := ledL_small ok wh1
    have sm2 := ledL_small ok wh2
    generalize tellOf cs h1 = ws at *
    refine xFrz rfl (erase_tel ws) ?_
    repeat trivial
    have sht : ∀ p ∈ ws, okWay p.2 = true := fun p hp => (tel_small ok it p hp).2
    refine xBent (ws := ws) rfl rfl rfl hp4 (by decide) wl nd sht fun w1 a5 c5 kw1 ow1 hp5 c50 c51 => ?_
    have nd1 : (w1.map fun x : I3 × Str => x.1).Nodup := by rw [kw1]; exact nd
    have it1 := isTel_keys it kw1 ow1
    have wl1 : w1.length ≤ 1000 := by
      have := congrArg List.length kw1
      rw [List.length_map, List.length_map] at this
      omega
    repeat trivial
    refine xWays (vu := false) ok wh2 rfl rfl ?_
    repeat trivial
    refine xLstK (er2 (x := telD ws) rfl (er2 (erase_tel w1) (er2 (erase_tel _) er0))) ?_
    repeat trivial
    have tls : ∀ x ∈ [telD ws, .dict (telPs w1), .dict (telPs (tellOf cs h2))], ∃ w, x = telD w ∧ (w.map (·.1)).Nodup ∧ isTel cs w = true ∧ w.length ≤ 1000 := fun x hx => by
      simp only [List.mem_cons, List.not_mem_nil, or_false] at hx
      rcases hx with rfl | rfl | rfl
      · exact ⟨ws, rfl, nd, it, wl⟩
      · exact ⟨w1, rfl, nd1, it1, wl1⟩
      · exact ⟨_, rfl, nd2, it2, wl2⟩
    refine xFoK (fun j ρ => ∃ (a6 c6 : Int) (o7 o8 o9 o10 : Option PyData), ρ = [some (.fz ns), some (.d (.int (0 + (i : Nat)))), some (potT a6 b c6), some (rowD cs), some (.d (pairsD h1)), some (.d (pairsD h2)), some (.d (telD ws)), o7.map T.d, o8.map T.d, o9.map T.d, o10.map T.d, none, none, none, none, none] ∧ 0 ≤ a6 ∧ c5 ≤ c6 ∧ c6 ≤ c5 + 1004 * j) ⟨a5, c5, o7, o8, o9, o10, rfl, hp5.1, by omega, by omega⟩ ?_ ?_
    · rintro j x ρ2 e ⟨a6, c6, o7, o8, o9, o10, rfl, g1, g2, g3⟩
      have e' : [telD ws, .dict (telPs w1), .dict (telPs (tellOf cs h2))][j]? = some x := e
      obtain ⟨w, rfl, ndw, itw, wlw⟩ := tls x (List.mem_of_getElem? e')
      have hj : j < 3 := (List.getElem?_eq_some_iff.mp e').1
      obtain ⟨q1, q2, q3, q4, q5⟩ := id hp5
      refine xNm (noNd_o rfl) ?_
      repeat trivial
      refine xStirred (k := 1004) (ws := w) rfl rfl rfl ⟨g1, q2, q3, by omega, by omega⟩ (by decide) wlw ndw fun w' a7 c7 pm hp7 c70 c71 => ?_
      have nd' := (pm.map (fun x : I3 × Str => x.1)).nodup_iff.mpr ndw
      have it' := isTel_perm pm itw
      have wl' : w'.length ≤ 1000 := by rw [pm.length_eq]; exact wlw
      refine xSetK rfl ?_
      refine xFrz rfl (erase_tel w') ?_
      repeat trivial
      refine xThings (k := 4) rfl hp7 (by decide) hl1 sm1 fun xs1 a8 c8 xl1 th1 hp8 c80 c81 => ?_
      repeat trivial
      refine xThings (k := 2) rfl hp8 (by decide) hl2 sm2 fun xs2 a9 c9 xl2 th2 hp9 c90 c91 => ?_
      refine xCatK (allD_map _) (allD_map _) (Nat.le_trans (show xs1.length + xs2.length ≤ 40 by omega) (by decide)) ?_
      refine xILK flat_map ?_
      have th : ∀ x ∈ xs1 ++ xs2, ThX x := fun x hx => (List.mem_append.mp hx).elim (th1 x) (th2 x)
      generalize xs1 ++ xs2 = xs at th
      refine xFoK (fun n ρ => ∃ (o8 o9 o10 : Option PyData), ρ = [some (.fz ns), some (.d (.int (0 + (i : Nat)))), some (potT a9 b c9), some (rowD cs), some (.d (pairsD h1)), some (.d (pairsD h2)), some (.d (telD ws)), some (.d (telD w')), o8.map T.d, o9.map T.d, o10.map T.d, none, none, none, none, none]) ⟨o8, o9, o10, rfl⟩ ?_ ?_
      · rintro n x ρ2 e ⟨o8, o9, o10, rfl⟩
        have hx := th x (List.mem_of_getElem? e)
        have rr := rpr_rtx ok it' wl' hx
        refine xNm (noNd_o rfl) ?_
        repeat trivial
        refine xReprR rfl rr ?_
        repeat trivial
        refine xDue ok nd' it' hx.1 ?_
        repeat trivial
        refine xHisFor (vu := false) ok cl10 wl' nd' it' rfl rfl ?_
        repeat trivial
        refine xReprR rfl Rpr.bool ?_
        repeat trivial
        refine xReprR rfl Rpr.bool ?_
        repeat trivial
        refine xNeS rfl rfl ?_
        repeat trivial
        refine xNo (by simp) ?_
        repeat trivial
        refine xReprR rfl rr ?_
        repeat trivial
        refine xNeS rfl rfl ?_
        repeat trivial
        refine xNo (by simp) ?_
        exact ⟨some x, some _, some _, rfl⟩
      · rintro ρ2 ⟨o8, o9, o10, rfl⟩
        exact ⟨a9, c9, some _, o8, o9, o10, rfl, hp9.1, by omega, by omega⟩
    · rintro ρ2 ⟨a6, c6, o7, o8, o9, o10, rfl, g1, g2, g3⟩
      exact ⟨some _, some _, some _, some _, some _, o7, o8, o9, o10, some _, rfl⟩
  · rintro ρ2 ⟨o1, o3, o4, o5, o6, o7, o8, o9, o10, x2, rfl⟩
    repeat trivial
    refine xIRK (by decide) (by decide) ?_
    refine xLcM (fun _ => true) r14D rfl (by rw [range_len]; decide) (by simp) (fun x hx Y Z hY _ => ?_) ?_
    · obtain ⟨j, hj⟩ := List.getElem?_of_mem hx
      obtain ⟨hj1, rfl⟩ := range_get hj
      refine xYesT ⟨noNd1 rfl, xYes rfl ?_⟩
      repeat trivial
      exact ⟨noNd1 rfl, _, rfl, hY rfl⟩
    rw [show ((List.filter (fun _ => true) (rangeD 0 (10 : Int).toNat)).map r14D) = row14.map PyData.int from rfl]
    refine xSetK rfl ?_
    repeat trivial
    refine xIR2K (by decide) (by decide) (by decide) (by decide) ?_
    refine xFoK (fun i ρ => ∃ (o13 : Option PyData), ρ = [some (.fz ns), o1.map T.d, x2, some (intL row14), o4.map T.d, o5.map T.d, o6.map T.d, o7.map T.d, o8.map T.d, o9.map T.d, o10.map T.d, none, some (pairL (lowH i)), o13.map T.d, none, none]) ⟨none, rfl⟩ ?_ ?_
    · rintro i x ρ2 e ⟨o13, rfl⟩
      obtain ⟨hi, rfl⟩ := range_get e
      have hi10 : i < 10 := hi
      have ls : lowH (i + 1) = lowH i ++ lowF i := by unfold lowH; rw [List.range_succ, List.flatMap_append, List.flatMap_singleton]
      have ll : (lowH i).length ≤ 90 := by
        have := flatMap_len lowF 9 (List.range i) fun j _ => by unfold lowF; rw [List.length_map, List.length_range]; omega
        rw [List.length_range] at this
        exact Nat.le_trans this (by omega)
      have lf : (lowF i).length ≤ 9 := by unfold lowF; rw [List.length_map, List.length_range]; omega
      refine xNm (noNd_o rfl) ?_
      repeat trivial
      refine xIR2K (by omega) (by omega) (by decide) (by decide) ?_
      refine xLcM (fun _ => true) (prD (5 + (i : Int))) rfl (by rw [range_len]; omega) (by simp) (fun x hx Y Z hY _ => ?_) ?_
      · obtain ⟨j, hj⟩ := List.getElem?_of_mem hx
        obtain ⟨hj1, rfl⟩ := range_get hj
        refine xYesT ⟨noNd1 rfl, xYes rfl ?_⟩
        repeat trivial
        exact ⟨noNd1 rfl, _, rfl, hY rfl⟩
      rw [List.filter_eq_self.mpr (fun _ _ => rfl), lowF_data i hi10]
      repeat trivial
      refine xExt (ds := (lowH i).map pr) rfl (allD_map _) (by rw [List.length_map, List.length_map]; exact Nat.le_trans (show _ ≤ 100 by omega) (by decide)) ?_
      refine ⟨some (.int (5 + (i : Nat))), ?_⟩
      rw [ls]
      unfold pairL
      rw [show (lowH i ++ lowF i).map pr = (lowH i).map pr ++ (lowF i).map pr from List.map_append ..]
      rfl
    · rintro ρ2 ⟨o13, rfl⟩
      refine atFrame (ρ' := [some (.fz ns), o1.map T.d, x2, some (intL row14), o4.map T.d, o5.map T.d, o6.map T.d, o7.map T.d, o8.map T.d, o9.map T.d, o10.map T.d, none, some (pairL (lowH 10)), o13.map T.d, none, none]) rfl ?_
      repeat trivial
      refine xThrees (vu := true) row14_ok (argV rfl rfl erase_intL argNil) rfl ?_
      repeat trivial
      refine xILK flat_map ?_
      have dl := dt_len10 (cs := row14) (by decide)
      refine xLcM (fun _ => true) thl rfl (by rw [List.length_map]; omega) (by simp) (fun x hx Y Z hY _ => ?_) ?_
      · refine xYesT ⟨noNd1 rfl, xYes rfl ?_⟩
        repeat trivial
        exact ⟨noNd1 rfl, _, rfl, hY rfl⟩
      rw [thl_data, ← low_tell]
      have nd : ((tellOf row14 (lowH 10)).map (·.1)).Nodup := by rw [tell_keys]; exact dt_nodup row14_ok
      have it := tell_isTel (lowH 10) row14_ok
      have wl : (tellOf row14 (lowH 10)).length ≤ 1000 := tell_len (by decide)
      have km : ((12, 13, 14) : I3) ∈ (tellOf row14 (lowH 10)).map (·.1) := by rw [tell_keys]; exact m14
      have h1 := his_true row14_ok nd low_whole (List.Perm.refl _)
      have kp := putW_keys (tellOf row14 (lowH 10)) (12, 13, 14) highS
      have itp := isTel_keys it kp (putW_ok (fun p hp => (tel_small row14_ok it p hp).2) (by decide +kernel))
      have wlp : (putW (tellOf row14 (lowH 10)) (12, 13, 14) highS).length ≤ 1000 := by unfold putW; rw [List.length_map]; exact wl
      have ndp : ((putW (tellOf row14 (lowH 10)) (12, 13, 14) highS).map (·.1)).Nodup := by rw [kp]; exact nd
      have h2 : hisB row14 (putW (tellOf row14 (lowH 10)) (12, 13, 14) highS) (pairsD (lowH 10)) = false := by
        rw [his_pairs, decide_eq_true (show ledL row14 ((lowH 10).map pr) = some (sI row14) from low_whole), Bool.true_and]
        refine Bool.eq_false_iff.mpr fun h => ?_
        have pm := (dEq_tel nd ndp).mp h
        have l1 := lookI_perm ndp pm (12, 13, 14)
        have l2 : lookI (tellOf row14 (lowH 10)) (12, 13, 14) = some lowS := by
          rw [low_tell]
          exact lookI_mem (p := ((12, 13, 14), lowS)) (by rw [← low_tell]; exact nd) (List.mem_map.mpr ⟨_, m14, rfl⟩)
        have l3 : lookI (putW (tellOf row14 (lowH 10)) (12, 13, 14) highS) (12, 13, 14) = some highS := by
          obtain ⟨q, hq, e⟩ := List.mem_map.mp km
          refine lookI_mem (p := ((12, 13, 14), highS)) ndp ?_
          unfold putW
          refine List.mem_map.mpr ⟨q, hq, ?_⟩
          rw [if_pos e, e]
        rw [l2, l3] at l1
        exact low_ne_high (Option.some.inj l1)
      generalize tellOf row14 (lowH 10) = ws at *
      refine xDictP (kvs := telKV ws) (allD_map _) (telKV_nd nd) ?_
      refine xSetK rfl ?_
      repeat trivial
      refine xHisFor (vu := true) (x := pairsD (lowH 10)) row14_ok (by decide) wl nd it (argV rfl rfl erase_intL (argV rfl rfl (erase_tel _) (argV rfl rfl erase_pairL argNil))) rfl ?_
      rw [h1]
      repeat trivial
      refine xIsX rfl rfl ?_
      repeat trivial
      refine xDpK2 (kvs := telKV ws) (k := k3 (12, 13, 14)) rfl rfl (by unfold telKV; rw [List.length_map]; exact small1000 (by omega)) ?_
      rw [show (PyData.str (Str.ofString "high")) = .str highS from rfl, put_tel km]
      repeat trivial
      refine xHisFor (vu := true) (x := pairsD (lowH 10)) row14_ok (by decide) wlp ndp itp (argV rfl rfl erase_intL (argV rfl rfl (erase_tel _) (argV rfl rfl erase_pairL argNil))) rfl ?_
      rw [h2]
      repeat trivial
      refine xIsX rfl rfl ?_
      repeat trivial
      have t3 := tell321
      refine xHisFor (vu := true) (cs := [3, 2, 1]) (ws := [((1, 2, 3), highS)]) (x := pairsD [(2, 3), (1, 3), (1, 2)]) row321 (by decide) (by decide) (by simp) (by rw [← t3]; exact tell_isTel _ row321) (argD rfl rfl rfl (argD rfl rfl rfl (argD rfl rfl rfl argNil))) rfl ?_
      rw [his_true row321 (by simp) whole321 (by rw [t3])]
      repeat trivial
      refine xIsX rfl rfl ?_
      exact ⟨rfl, q _ _ rfl⟩
end LW.D

namespace LW.D
open PySem PySem.Spec L2 TX PyProof.Rows LW
def top (i : Nat) : Stmt := PySem.Challenge.pw_threecrossings_k36_histories_of_tellings.main.body.getD i (.Pass ⟨0, 0, 0, 0⟩)
abbrev s_is_card : Stmt := top 9
theorem sc_is_card : FnScope N_is_card ["thing"] (defScope s_is_card) := ⟨rfl, rfl, rfl, by decide +kernel, rfl, by decide +kernel, by decide +kernel⟩
abbrev s_is_row : Stmt := top 10
theorem sc_is_row : FnScope N_is_row ["thing"] (defScope s_is_row) := ⟨rfl, rfl, rfl, by decide +kernel, rfl, by decide +kernel, by decide +kernel⟩
abbrev s_need_row : Stmt := top 11
theorem sc_need_row : FnScope N_need_row ["thing"] (defScope s_need_row) := ⟨rfl, rfl, rfl, by decide +kernel, rfl, by decide +kernel, by decide +kernel⟩
abbrev s_crossing_threes : Stmt := top 12
theorem sc_crossing_threes : FnScope N_crossing_threes ["row"] (defScope s_crossing_threes) := ⟨rfl, rfl, rfl, by decide +kernel, rfl, by decide +kernel, by decide +kernel⟩
abbrev s_may_change : Stmt := top 14
theorem sc_may_change : FnScope N_may_change ["row", "thing"] (defScope s_may_change) := ⟨rfl, rfl, rfl, by decide +kernel, rfl, by decide +kernel, by decide +kernel⟩
abbrev s_led_by : Stmt := top 15
theorem sc_led_by : FnScope N_led_by ["row", "thing"] (defScope s_led_by) := ⟨rfl, rfl, rfl, by decide +kernel, rfl, by decide +kernel, by decide +kernel⟩
abbrev s_is_history : Stmt := top 16
theorem sc_is_history : FnScope N_is_history ["row", "thing"] (defScope s_is_history) := ⟨rfl, rfl, rfl, by decide +kernel, rfl, by decide +kernel, by decide +kernel⟩
abbrev s_need_history : Stmt := top 17
theorem sc_need_history : FnScope N_need_history ["row", "history"] (defScope s_need_history) := ⟨rfl, rfl, rfl, by decide +kernel, rfl, by decide +kernel, by decide +kernel⟩
abbrev s_row_behind : Stmt := top 18
theorem sc_row_behind : FnScope N_row_behind ["row", "history"] (defScope s_row_behind) := ⟨rfl, rfl, rfl, by decide +kernel, rfl, by decide +kernel, by decide +kernel⟩
abbrev s_need_few : Stmt := top 23
theorem sc_need_few : FnScope N_need_few ["row", "most"] (defScope s_need_few) := ⟨rfl, rfl, rfl, by decide +kernel, rfl, by decide +kernel, by decide +kernel⟩
abbrev s_is_telling_of : Stmt := top 24
theorem sc_is_telling_of : FnScope N_is_telling_of ["row", "thing"] (defScope s_is_telling_of) := ⟨rfl, rfl, rfl, by decide +kernel, rfl, by decide +kernel, by decide +kernel⟩
abbrev s_need_telling : Stmt := top 25
theorem sc_need_telling : FnScope N_need_telling ["row", "telling"] (defScope s_need_telling) := ⟨rfl, rfl, rfl, by decide +kernel, rfl, by decide +kernel, by decide +kernel⟩
abbrev s_telling_of_done : Stmt := top 26
theorem sc_telling_of_done : FnScope N_telling_of_done ["row", "done"] (defScope s_telling_of_done) := ⟨rfl, rfl, rfl, by decide +kernel, rfl, by decide +kernel, by decide +kernel⟩
abbrev s_is_whole_history : Stmt := top 28
theorem sc_is_whole_history : FnScope N_is_whole_history ["row", "thing"] (defScope s_is_whole_history) := ⟨rfl, rfl, rfl, by decide +kernel, rfl, by decide +kernel, by decide +kernel⟩
abbrev s_is_history_for : Stmt := top 29
theorem sc_is_history_for : FnScope N_is_history_for ["row", "telling", "thing"] (defScope s_is_history_for) := ⟨rfl, rfl, rfl, by decide +kernel, rfl, by decide +kernel, by decide +kernel⟩
abbrev s_law_dish : Stmt := top 31
theorem sc_law_dish : FnScope N_law_dish ["_law_script", "_law_k"] (defScope s_law_dish) := ⟨rfl, rfl, rfl, by decide +kernel, rfl, by decide +kernel, by decide +kernel⟩
abbrev s_law_spoon : Stmt := top 32
theorem sc_law_spoon : FnScope N_law_spoon ["_law_dish_here", "_law_many"] (defScope s_law_spoon) := ⟨rfl, rfl, rfl, by decide +kernel, rfl, by decide +kernel, by decide +kernel⟩
abbrev s_law_row : Stmt := top 33
theorem sc_law_row : FnScope N_law_row ["_law_dish_here", "_law_most"] (defScope s_law_row) := ⟨rfl, rfl, rfl, by decide +kernel, rfl, by decide +kernel, by decide +kernel⟩
abbrev s_law_threes : Stmt := top 34
theorem sc_law_threes : FnScope N_law_threes ["_law_row_here"] (defScope s_law_threes) := ⟨rfl, rfl, rfl, by decide +kernel, rfl, by decide +kernel, by decide +kernel⟩
abbrev s_law_gone : Stmt := top 35
theorem sc_law_gone : FnScope N_law_gone ["_law_dish_here", "_law_row_here"] (defScope s_law_gone) := ⟨rfl, rfl, rfl, by decide +kernel, rfl, by decide +kernel, by decide +kernel⟩
abbrev s_law_ways : Stmt := top 36
theorem sc_law_ways : FnScope N_law_ways ["_law_row_here", "_law_done"] (defScope s_law_ways) := ⟨rfl, rfl, rfl, by decide +kernel, rfl, by decide +kernel, by decide +kernel⟩
abbrev s_law_stirred : Stmt := top 37
theorem sc_law_stirred : FnScope N_law_stirred ["_law_dish_here", "_law_ways_here"] (defScope s_law_stirred) := ⟨rfl, rfl, rfl, by decide +kernel, rfl, by decide +kernel, by decide +kernel⟩
abbrev s_law_bent : Stmt := top 38
theorem sc_law_bent : FnScope N_law_bent ["_law_dish_here", "_law_ways_here"] (defScope s_law_bent) := ⟨rfl, rfl, rfl, by decide +kernel, rfl, by decide +kernel, by decide +kernel⟩
abbrev s_law_follows : Stmt := top 39
theorem sc_law_follows : FnScope N_law_follows ["_law_row_here", "_law_done"] (defScope s_law_follows) := ⟨rfl, rfl, rfl, by decide +kernel, rfl, by decide +kernel, by decide +kernel⟩
abbrev s_law_due : Stmt := top 40
theorem sc_law_due : FnScope N_law_due ["_law_row_here", "_law_ways_here", "_law_thing"] (defScope s_law_due) := ⟨rfl, rfl, rfl, by decide +kernel, rfl, by decide +kernel, by decide +kernel⟩
abbrev s_law_things : Stmt := top 41
theorem sc_law_things : FnScope N_law_things ["_law_dish_here", "_law_done"] (defScope s_law_things) := ⟨rfl, rfl, rfl, by decide +kernel, rfl, by decide +kernel, by decide +kernel⟩
abbrev s_law : Stmt := top 42
theorem sc_law : FnScope N_law ["_law_script"] (defScope s_law) := ⟨rfl, rfl, rfl, by decide +kernel, rfl, by decide +kernel, by decide +kernel⟩
structure Bl (mg : Str → Option Value) : Prop where
  abs_ : mg "abs" = none
  all_ : mg "all" = none
  bool_ : mg "bool" = none
  dict_ : mg "dict" = none
  enumerate_ : mg "enumerate" = none
  int_ : mg "int" = none
  isinstance_ : mg "isinstance" = none
  len_ : mg "len" = none
  list_ : mg "list" = none
  max_ : mg "max" = none
  min_ : mg "min" = none
  range_ : mg "range" = none
  repr_ : mg "repr" = none
  set_ : mg "set" = none
  sorted_ : mg "sorted" = none
  str_ : mg "str" = none
  tuple_ : mg "tuple" = none
  HIGH : ∃ k, mg "HIGH" = some (.str "high" k)
  LOW : ∃ k, mg "LOW" = some (.str "low" k)
  MOST_CARD : ∃ k, mg "MOST_CARD" = some (.int 999999999 k)
  MOST_CARDS : ∃ k, mg "MOST_CARDS" = some (.int 24 k)
section
variable {P : Program} {w : World} {K : PySem.W.Frag} {mg : Str → Option Value} {base : Heap}
theorem ok_is_card {f : Addr} {fd : FuncData} (D : Fd K mg "is_card" s_is_card ["thing"] f fd) (T : Bl mg)   : FnG P w K mg base 1 f fd ["thing"] (lfSp K 1 [] S_is_card) := by
  refine D.F.okT sc_is_card rfl (by decide) fun cv B out s H E room gu => ?_
  have hu := hu64 room
  have hu5 := hu65 room
  have hu1 := hu_of room
  have hu6 := hu66 room
  have nd := sc_is_card.nd
  exact ⟨w_is_card, (lss_one (ls_ret (le_and (le_isB rfl T.isinstance_ (la_cons (lv 0) (la_cons (le_ty (n := "int") rfl T.int_ (by decide +kernel)) la_nil))) (le_and (le_not (le_isB rfl T.isinstance_ (la_cons (lv 0) (la_cons (le_ty (n := "bool") rfl T.bool_ (by decide +kernel)) la_nil)))) (le_one (le_chain op_le op_le od_le od_le le_int (lv 0) (le_gX rfl T.MOST_CARD))))))), pl_is_card⟩
theorem ok_is_row {f : Addr} {fd : FuncData} (D : Fd K mg "is_row" s_is_row ["thing"] f fd) (T : Bl mg) (D_is_card : Df P w K mg base "is_card" 1 ["thing"] 1 [] S_is_card)  : FnG P w K mg base 2 f fd ["thing"] (lfSp K 1 [] S_is_row) := by
  refine D.F.okT sc_is_row rfl (by decide) fun cv B out s H E room gu => ?_
  have hu := hu64 room
  have hu5 := hu65 room
  have hu1 := hu_of room
  have hu6 := hu66 room
  have nd := sc_is_row.nd
  exact ⟨w_is_row, (lss_cons (ls_if (TX.LW.lt (lw_or (lt_not (lt_val (le_isB rfl T.isinstance_ (la_cons (lv 0) (la_cons (le_ty (n := "list") rfl T.list_ (by decide +kernel)) la_nil))))) (lw_or1 (lt_not (lt_chain op_le op_le od_le od_le le_int (le_len' rfl T.len_ (la_cons (lv 0) la_nil)) (le_gX rfl T.MOST_CARDS)))))) (lss_one (ls_ret le_bl)) lss_nil)
    (lss_one (ls_ret (le_and (le_all rfl rfl T.all_ (la_cons (le_lc (own := [("one", 1)]) rfl nd (li_list (lv 0)) (blkOk_by (own := [("one", 1)]) (N := N_is_row) (sc := defScope s_is_row) (by first | decide +kernel | with_unfolding_all rfl)) (fun _ _ _ _ _ => (lg_name (i := 1) nd rfl (by first | exact Or.inl rfl | exact Or.inr rfl))) (fun _ _ _ _ _ => lts_nil) (fun _ _ _ _ _ => (le_callD D_is_card room (by decide) gu mS_is_card rfl (la_cons (lv 1) la_nil)))) la_nil)) (le_one (le_cmp (op_eqX hu) od_Eq (le_lenSet rfl rfl T.len_ rfl T.set_ (lv 0)) (le_len' rfl T.len_ (la_cons (lv 0) la_nil)) (nomark _))))))), pl_is_row⟩
theorem ok_need_row {f : Addr} {fd : FuncData} (D : Fd K mg "need_row" s_need_row ["thing"] f fd) (T : Bl mg) (D_is_row : Df P w K mg base "is_row" 2 ["thing"] 1 [] S_is_row)  : FnG P w K mg base 3 f fd ["thing"] (lfSp K 1 [] S_need_row) := by
  refine D.F.okT sc_need_row rfl (by decide) fun cv B out s H E room gu => ?_
  have hu := hu64 room
  have hu5 := hu65 room
  have hu1 := hu_of room
  have hu6 := hu66 room
  have nd := sc_need_row.nd
  exact ⟨w_need_row, (lss_one (ls_if (lt_not (lt_val (le_callD D_is_row room (by decide) gu mS_is_row rfl (la_cons (lv 0) la_nil)))) (lss_one ls_never) lss_nil)), pl_need_row⟩
theorem ok_crossing_threes {f : Addr} {fd : FuncData} (D : Fd K mg "crossing_threes" s_crossing_threes ["row"] f fd) (T : Bl mg) (D_need_row : Df P w K mg base "need_row" 3 ["thing"] 1 [] S_need_row)  : FnG P w K mg base 4 f fd ["row"] (lfSp K 1 [] S_crossing_threes) := by
  refine D.F.okT sc_crossing_threes rfl (by decide) fun cv B out s H E room gu => ?_
  have hu := hu64 room
  have hu5 := hu65 room
  have hu1 := hu_of room
  have hu6 := hu66 room
  have nd := sc_crossing_threes.nd
  exact ⟨w_crossing_threes, (lss_cons (ls_expr (le_callD D_need_row room (by decide) gu mS_need_row rfl (la_cons (lv 0) la_nil)))
    (lss_cons (ls_set (i := 1) nd rfl (by first | exact Or.inl rfl | exact Or.inr rfl) (le_lst la_nil))
    (lss_cons (ls_for rfl (li_enum rfl T.enumerate_ (la_cons (lv 0) la_nil)) (lg_tup rfl (lgs_cons (lg_name (i := 2) nd rfl (by first | exact Or.inl rfl | exact Or.inr rfl)) (lgs_cons (lg_name (i := 3) nd rfl (by first | exact Or.inl rfl | exact Or.inr rfl)) lgs_nil))) (lss_cons (ls_setLc (i := 4) (own := [("card", 5)]) rfl nd rfl rfl (sw_true rfl rfl rfl (by decide +kernel)) (li_list (le_sl (lv 0) (lo_some (le_add (lv 2) le_int)) lo_none)) (blkOk_by (own := [("card", 5)]) (N := N_crossing_threes) (sc := defScope s_crossing_threes) (by first | decide +kernel | with_unfolding_all rfl)) (fun _ _ _ _ _ => (lg_name (i := 5) nd rfl (by first | exact Or.inl rfl | exact Or.inr rfl))) (fun _ _ _ _ _ => (lts_one (lt_cmp op_lt od_lt (lv 5) (lv 3) (nomark _)))) (fun _ _ _ _ _ => (lv 5)))
    (lss_one (ls_frz 4 (ls_for rfl (li_enum rfl T.enumerate_ (la_cons (lv 4) la_nil)) (lg_tup rfl (lgs_cons (lg_name (i := 6) nd rfl (by first | exact Or.inl rfl | exact Or.inr rfl)) (lgs_cons (lg_name (i := 7) nd rfl (by first | exact Or.inl rfl | exact Or.inr rfl)) lgs_nil))) (lss_one (ls_expr (le_extend (lv 1) (la_cons (le_lc (own := [("least", 8)]) rfl nd (li_list (le_sl (lv 4) (lo_some (le_add (lv 6) le_int)) lo_none)) (blkOk_by (own := [("least", 8)]) (N := N_crossing_threes) (sc := defScope s_crossing_threes) (by first | decide +kernel | with_unfolding_all rfl)) (fun _ _ _ _ _ => (lg_name (i := 8) nd rfl (by first | exact Or.inl rfl | exact Or.inr rfl))) (fun _ _ _ _ _ => (lts_one (lt_cmp op_lt od_lt (lv 8) (lv 7) (nomark _)))) (fun _ _ _ _ _ => (le_tup (la_cons (lv 8) (la_cons (lv 7) (la_cons (lv 3) la_nil)))))) la_nil)))))))))
    (lss_one (ls_ret (le_sorted hu rfl T.sorted_ (la_cons (lv 1) la_nil))))))), pl_crossing_threes⟩
theorem ok_may_change {f : Addr} {fd : FuncData} (D : Fd K mg "may_change" s_may_change ["row", "thing"] f fd) (T : Bl mg) (D_is_card : Df P w K mg base "is_card" 1 ["thing"] 1 [] S_is_card)  : FnG P w K mg base 2 f fd ["row", "thing"] (lfSp K 2 [] S_may_change) := by
  refine D.F.okT sc_may_change rfl (by decide) fun cv B out s H E room gu => ?_
  have hu := hu64 room
  have hu5 := hu65 room
  have hu1 := hu_of room
  have hu6 := hu66 room
  have nd := sc_may_change.nd
  exact ⟨w_may_change, (lss_cons (ls_if (TX.LW.lt (lw_or (lt_not (lt_val (le_isB rfl T.isinstance_ (la_cons (lv 1) (la_cons (le_ty (n := "tuple") rfl T.tuple_ (by decide +kernel)) la_nil))))) (lw_or (lt_cmp (op_neX hu) od_Ne (le_len' rfl T.len_ (la_cons (lv 1) la_nil)) le_int (nomark _)) (lw_or1 (lt_not (lt_val (le_all rfl rfl T.all_ (la_cons (le_lc (own := [("card", 2)]) rfl nd (li_tup (lv 1)) (blkOk_by (own := [("card", 2)]) (N := N_may_change) (sc := defScope s_may_change) (by first | decide +kernel | with_unfolding_all rfl)) (fun _ _ _ _ _ => (lg_name (i := 2) nd rfl (by first | exact Or.inl rfl | exact Or.inr rfl))) (fun _ _ _ _ _ => lts_nil) (fun _ _ _ _ _ => (le_callD D_is_card room (by decide) gu mS_is_card rfl (la_cons (lv 2) la_nil)))) la_nil)))))))) (lss_one (ls_ret le_bl)) lss_nil)
    (lss_cons (ls_asg (lv 1) (lg_tup rfl (lgs_cons (lg_name (i := 3) nd rfl (by first | exact Or.inl rfl | exact Or.inr rfl)) (lgs_cons (lg_name (i := 4) nd rfl (by first | exact Or.inl rfl | exact Or.inr rfl)) lgs_nil))))
    (lss_one (ls_ret (le_and (le_cmp op_lt od_lt (lv 3) (lv 4) (nomark _)) (le_and (le_cmp (op_inX hu5) od_In (lv 4) (lv 0) (by with_unfolding_all rfl)) (le_one (le_cmp (op_eqX hu) od_Eq (le_sl (le_sl (lv 0) (lo_some (le_add (le_index hu5 (lv 0) (la_cons (lv 4) la_nil)) le_int)) lo_none) lo_none (lo_some le_int)) (le_lst (la_cons (lv 3) la_nil)) (nomark _))))))))), pl_may_change⟩
theorem ok_led_by {f : Addr} {fd : FuncData} (D : Fd K mg "led_by" s_led_by ["row", "thing"] f fd) (T : Bl mg) (D_may_change : Df P w K mg base "may_change" 2 ["row", "thing"] 2 [] S_may_change)  : FnG P w K mg base 3 f fd ["row", "thing"] (lfSp K 2 [] S_led_by) := by
  refine D.F.okT sc_led_by rfl (by decide) fun cv B out s H E room gu => ?_
  have hu := hu64 room
  have hu5 := hu65 room
  have hu1 := hu_of room
  have hu6 := hu66 room
  have nd := sc_led_by.nd
  exact ⟨w_led_by, (lss_cons (ls_if (lt_not (lt_val (le_isB rfl T.isinstance_ (la_cons (lv 1) (la_cons (le_ty (n := "list") rfl T.list_ (by decide +kernel)) la_nil))))) (lss_one (ls_ret le_non)) lss_nil)
    (lss_cons (ls_set (i := 2) nd rfl (by first | exact Or.inl rfl | exact Or.inr rfl) (le_list rfl T.list_ (la_cons (lv 0) la_nil)))
    (lss_cons (ls_for rfl (li_list (lv 1)) (lg_name (i := 3) nd rfl (by first | exact Or.inl rfl | exact Or.inr rfl)) (lss_cons (ls_if (lt_not (lt_val (le_callD D_may_change room (by decide) gu mS_may_change rfl (la_cons (lv 2) (la_cons (lv 3) la_nil))))) (lss_one (ls_ret le_non)) lss_nil)
    (lss_cons (ls_set (i := 4) nd rfl (by first | exact Or.inl rfl | exact Or.inr rfl) (le_index hu5 (lv 2) (la_cons (le_ix (lv 3) le_int) la_nil)))
    (lss_one (ls_asg (le_tup (la_cons (le_ix (lv 2) (le_add (lv 4) le_int)) (la_cons (le_ix (lv 2) (lv 4)) la_nil))) (lg_tup rfl (lgs_cons (lg_sub (lv 2) (lv 4)) (lgs_cons (lg_sub (lv 2) (le_add (lv 4) le_int)) lgs_nil))))))))
    (lss_one (ls_retV (i := 2) rfl (by first | exact Or.inl rfl | exact Or.inr (Or.inl rfl) | exact Or.inr (Or.inr rfl))))))), pl_led_by⟩
theorem ok_is_history {f : Addr} {fd : FuncData} (D : Fd K mg "is_history" s_is_history ["row", "thing"] f fd) (T : Bl mg) (D_need_row : Df P w K mg base "need_row" 3 ["thing"] 1 [] S_need_row) (D_led_by : Df P w K mg base "led_by" 3 ["row", "thing"] 2 [] S_led_by)  : FnG P w K mg base 4 f fd ["row", "thing"] (lfSp K 2 [] S_is_history) := by
  refine D.F.okT sc_is_history rfl (by decide) fun cv B out s H E room gu => ?_
  have hu := hu64 room
  have hu5 := hu65 room
  have hu1 := hu_of room
  have hu6 := hu66 room
  have nd := sc_is_history.nd
  exact ⟨w_is_history, (lss_cons (ls_expr (le_callD D_need_row room (by decide) gu mS_need_row rfl (la_cons (lv 0) la_nil)))
    (lss_one (ls_ret (le_cmp op_notN od_notN (le_callD D_led_by room (by decide) gu mS_led_by rfl (la_cons (lv 0) (la_cons (lv 1) la_nil))) le_non (nomark _))))), pl_is_history⟩
theorem ok_need_history {f : Addr} {fd : FuncData} (D : Fd K mg "need_history" s_need_history ["row", "history"] f fd) (T : Bl mg) (D_is_history : Df P w K mg base "is_history" 4 ["row", "thing"] 2 [] S_is_history)  : FnG P w K mg base 5 f fd ["row", "history"] (lfSp K 2 [] S_need_history) := by
  refine D.F.okT sc_need_history rfl (by decide) fun cv B out s H E room gu => ?_
  have hu := hu64 room
  have hu5 := hu65 room
  have hu1 := hu_of room
  have hu6 := hu66 room
  have nd := sc_need_history.nd
  exact ⟨w_need_history, (lss_one (ls_if (lt_not (lt_val (le_callD D_is_history room (by decide) gu mS_is_history rfl (la_cons (lv 0) (la_cons (lv 1) la_nil))))) (lss_one ls_never) lss_nil)), pl_need_history⟩
theorem ok_row_behind {f : Addr} {fd : FuncData} (D : Fd K mg "row_behind" s_row_behind ["row", "history"] f fd) (T : Bl mg) (D_led_by : Df P w K mg base "led_by" 3 ["row", "thing"] 2 [] S_led_by) (D_need_history : Df P w K mg base "need_history" 5 ["row", "history"] 2 [] S_need_history)  : FnG P w K mg base 6 f fd ["row", "history"] (lfSp K 2 [] S_row_behind) := by
  refine D.F.okT sc_row_behind rfl (by decide) fun cv B out s H E room gu => ?_
  have hu := hu64 room
  have hu5 := hu65 room
  have hu1 := hu_of room
  have hu6 := hu66 room
  have nd := sc_row_behind.nd
  exact ⟨w_row_behind, (lss_cons (ls_expr (le_callD D_need_history room (by decide) gu mS_need_history rfl (la_cons (lv 0) (la_cons (lv 1) la_nil))))
    (lss_one (ls_ret (le_callD D_led_by room (by decide) gu mS_led_by rfl (la_cons (lv 0) (la_cons (lv 1) la_nil)))))), pl_row_behind⟩
theorem ok_need_few {f : Addr} {fd : FuncData} (D : FdD K mg "need_few" s_need_few ["row", "most"] [V.int 10] [PyData.int 10] f fd) (T : Bl mg) (D_need_row : Df P w K mg base "need_row" 3 ["thing"] 1 [] S_need_row)  : FnG P w K mg base 4 f fd ["row", "most"] (lfSp K 2 [] S_need_few) := by
  refine D.F.okT sc_need_few rfl (by decide) fun cv B out s H E room gu => ?_
  have hu := hu64 room
  have hu5 := hu65 room
  have hu1 := hu_of room
  have hu6 := hu66 room
  have nd := sc_need_few.nd
  exact ⟨w_need_few, (lss_cons (ls_expr (le_callD D_need_row room (by decide) gu mS_need_row rfl (la_cons (lv 0) la_nil)))
    (lss_one (ls_if (lt_cmp op_gt od_gt (le_len' rfl T.len_ (la_cons (lv 0) la_nil)) (lv 1) (nomark _)) (lss_one ls_never) lss_nil))), pl_need_few⟩
theorem ok_is_telling_of {f : Addr} {fd : FuncData} (D : Fd K mg "is_telling_of" s_is_telling_of ["row", "thing"] f fd) (T : Bl mg) (D_is_card : Df P w K mg base "is_card" 1 ["thing"] 1 [] S_is_card) (D_crossing_threes : Df P w K mg base "crossing_threes" 4 ["row"] 1 [] S_crossing_threes)  : FnG P w K mg base 5 f fd ["row", "thing"] (lfSp K 2 [] S_is_telling_of) := by
  refine D.F.okT sc_is_telling_of rfl (by decide) fun cv B out s H E room gu => ?_
  have hu := hu64 room
  have hu5 := hu65 room
  have hu1 := hu_of room
  have hu6 := hu66 room
  have nd := sc_is_telling_of.nd
  exact ⟨w_is_telling_of, (lss_cons (ls_if (TX.LW.lt (lw_or (lt_not (lt_val (le_isB rfl T.isinstance_ (la_cons (lv 1) (la_cons (le_ty (n := "dict") rfl T.dict_ (by decide +kernel)) la_nil))))) (lw_or1 (lt_not (lt_val (le_all rfl rfl T.all_ (la_cons (le_lk 1 (le_lc (own := [("three", 2)]) rfl nd (li_dict (lv 1)) (blkOk_by (own := [("three", 2)]) (N := N_is_telling_of) (sc := defScope s_is_telling_of) (by first | decide +kernel | with_unfolding_all rfl)) (fun _ _ _ _ _ => (lg_name (i := 2) nd rfl (by first | exact Or.inl rfl | exact Or.inr rfl))) (fun _ _ _ _ _ => lts_nil) (fun _ _ _ _ _ => (le_isB rfl T.isinstance_ (la_cons (lv 2) (la_cons (le_ty (n := "tuple") rfl T.tuple_ (by decide +kernel)) la_nil)))))) la_nil))))))) (lss_one (ls_ret le_bl)) lss_nil)
    (lss_cons (ls_if (lt_not (lt_val (le_all rfl rfl T.all_ (la_cons (le_lk 1 (le_lc2 (own := [("three", 2), ("card", 3)]) (vs1 := [3]) rfl nd (li_dict (lv 1)) (blkOk_by (own := [("three", 2), ("card", 3)]) (N := N_is_telling_of) (sc := defScope s_is_telling_of) (by first | decide +kernel | with_unfolding_all rfl)) (by decide) (fun _ _ _ _ _ => (TX.LG.wid (lg_name (i := 2) nd rfl (by first | exact Or.inl rfl | exact Or.inr rfl)) (by decide))) (fun _ _ _ _ _ => lts_nil) (fun _ _ _ _ _ => (li_tup (lv 2))) (fun _ _ _ _ _ => (lg_name (i := 3) nd rfl (by first | exact Or.inl rfl | exact Or.inr rfl))) (fun _ _ _ _ _ => lts_nil) (fun _ _ _ _ _ => (le_callD D_is_card room (by decide) gu mS_is_card rfl (la_cons (lv 3) la_nil))))) la_nil)))) (lss_one (ls_ret le_bl)) lss_nil)
    (lss_cons (ls_if (lt_cmp (op_neX hu) od_Ne (le_sortedD rfl hu rfl T.sorted_ (la_cons (lv 1) la_nil)) (le_callD D_crossing_threes room (by decide) gu mS_crossing_threes rfl (la_cons (lv 0) la_nil)) (nomark _)) (lss_one (ls_ret le_bl)) lss_nil)
    (lss_one (ls_ret (le_all rfl rfl T.all_ (la_cons (le_lk 1 (le_lc (own := [("three", 2)]) rfl nd (li_dict (lv 1)) (blkOk_by (own := [("three", 2)]) (N := N_is_telling_of) (sc := defScope s_is_telling_of) (by first | decide +kernel | with_unfolding_all rfl)) (fun _ _ _ _ _ => (lg_name (i := 2) nd rfl (by first | exact Or.inl rfl | exact Or.inr rfl))) (fun _ _ _ _ _ => lts_nil) (fun _ _ _ _ _ => (le_and (le_isB rfl T.isinstance_ (la_cons (le_dg2 hu1 (lv 1) (lv 2)) (la_cons (le_ty (n := "str") rfl T.str_ (by decide +kernel)) la_nil))) (le_one (le_cmp (op_inT hu5) od_InT (le_dg2 hu1 (lv 1) (lv 2)) (le_tup (la_cons (le_gS rfl T.LOW) (la_cons (le_gS rfl T.HIGH) la_nil))) (by with_unfolding_all rfl))))))) la_nil))))))), pl_is_telling_of⟩
theorem ok_need_telling {f : Addr} {fd : FuncData} (D : Fd K mg "need_telling" s_need_telling ["row", "telling"] f fd) (T : Bl mg) (D_is_telling_of : Df P w K mg base "is_telling_of" 5 ["row", "thing"] 2 [] S_is_telling_of) (DD_need_few : DfD P w K mg base "need_few" 4 ["row", "most"] 2 [] S_need_few [PyData.int 10]) : FnG P w K mg base 6 f fd ["row", "telling"] (lfSp K 2 [] S_need_telling) := by
  refine D.F.okT sc_need_telling rfl (by decide) fun cv B out s H E room gu => ?_
  have hu := hu64 room
  have hu5 := hu65 room
  have hu1 := hu_of room
  have hu6 := hu66 room
  have nd := sc_need_telling.nd
  exact ⟨w_need_telling, (lss_cons (ls_expr (le_callDd DD_need_few room (by decide) gu mS_need_few rfl (la_cons (lv 0) la_nil)))
    (lss_one (ls_if (lt_not (lt_val (le_callD D_is_telling_of room (by decide) gu mS_is_telling_of rfl (la_cons (lv 0) (la_cons (lv 1) la_nil))))) (lss_one ls_never) lss_nil))), pl_need_telling⟩
theorem ok_telling_of_done {f : Addr} {fd : FuncData} (D : Fd K mg "telling_of_done" s_telling_of_done ["row", "done"] f fd) (T : Bl mg) (D_crossing_threes : Df P w K mg base "crossing_threes" 4 ["row"] 1 [] S_crossing_threes)  : FnG P w K mg base 5 f fd ["row", "done"] (lfSp K 2 [] S_telling_of_done) := by
  refine D.F.okT sc_telling_of_done rfl (by decide) fun cv B out s H E room gu => ?_
  have hu := hu64 room
  have hu5 := hu65 room
  have hu1 := hu_of room
  have hu6 := hu66 room
  have nd := sc_telling_of_done.nd
  exact ⟨w_telling_of_done, (lss_cons (ls_set (i := 2) nd rfl (by first | exact Or.inl rfl | exact Or.inr rfl) (le_dcT (own := [("number", 3), ("pair", 4)]) hu1 rfl nd (li_enum rfl T.enumerate_ (la_cons (lv 1) la_nil)) (blkOk_by (own := [("number", 3), ("pair", 4)]) (N := N_telling_of_done) (sc := defScope s_telling_of_done) (by decide +kernel)) (fun _ _ _ _ _ => (lg_tup rfl (lgs_cons (lg_name (i := 3) nd rfl (by first | exact Or.inl rfl | exact Or.inr rfl)) (lgs_cons (lg_name (i := 4) nd rfl (by first | exact Or.inl rfl | exact Or.inr rfl)) lgs_nil)))) (fun _ _ _ _ _ => lts_nil) (fun _ _ _ _ _ => (lv 4)) (fun _ _ _ _ _ => (lv 3))))
    (lss_one (ls_ret (le_dcT (own := [("x", 5), ("y", 6), ("z", 7)]) hu1 rfl nd (li_list (le_callD D_crossing_threes room (by decide) gu mS_crossing_threes rfl (la_cons (lv 0) la_nil))) (blkOk_by (own := [("x", 5), ("y", 6), ("z", 7)]) (N := N_telling_of_done) (sc := defScope s_telling_of_done) (by decide +kernel)) (fun _ _ _ _ _ => (lg_tup rfl (lgs_cons (lg_name (i := 5) nd rfl (by first | exact Or.inl rfl | exact Or.inr rfl)) (lgs_cons (lg_name (i := 6) nd rfl (by first | exact Or.inl rfl | exact Or.inr rfl)) (lgs_cons (lg_name (i := 7) nd rfl (by first | exact Or.inl rfl | exact Or.inr rfl)) lgs_nil))))) (fun _ _ _ _ _ => lts_nil) (fun _ _ _ _ _ => (le_tup (la_cons (lv 5) (la_cons (lv 6) (la_cons (lv 7) la_nil))))) (fun _ _ _ _ _ => (le_if (lt_cmp op_lt od_lt (le_dg2 hu1 (lv 2) (le_tup (la_cons (lv 5) (la_cons (lv 6) la_nil)))) (le_dg2 hu1 (lv 2) (le_tup (la_cons (lv 6) (la_cons (lv 7) la_nil)))) (nomark _)) (le_gS rfl T.LOW) (le_gS rfl T.HIGH))))))), pl_telling_of_done⟩
theorem ok_is_whole_history {f : Addr} {fd : FuncData} (D : Fd K mg "is_whole_history" s_is_whole_history ["row", "thing"] f fd) (T : Bl mg) (D_is_history : Df P w K mg base "is_history" 4 ["row", "thing"] 2 [] S_is_history) (D_row_behind : Df P w K mg base "row_behind" 6 ["row", "history"] 2 [] S_row_behind)  : FnG P w K mg base 7 f fd ["row", "thing"] (lfSp K 2 [] S_is_whole_history) := by
  refine D.F.okT sc_is_whole_history rfl (by decide) fun cv B out s H E room gu => ?_
  have hu := hu64 room
  have hu5 := hu65 room
  have hu1 := hu_of room
  have hu6 := hu66 room
  have nd := sc_is_whole_history.nd
  exact ⟨w_is_whole_history, (lss_one (ls_ret (le_and (le_callD D_is_history room (by decide) gu mS_is_history rfl (la_cons (lv 0) (la_cons (lv 1) la_nil))) (le_one (le_cmp (op_eqX hu) od_Eq (le_callD D_row_behind room (by decide) gu mS_row_behind rfl (la_cons (lv 0) (la_cons (lv 1) la_nil))) (le_sorted hu rfl T.sorted_ (la_cons (lv 0) la_nil)) (nomark _)))))), pl_is_whole_history⟩
theorem ok_is_history_for {f : Addr} {fd : FuncData} (D : Fd K mg "is_history_for" s_is_history_for ["row", "telling", "thing"] f fd) (T : Bl mg) (D_need_telling : Df P w K mg base "need_telling" 6 ["row", "telling"] 2 [] S_need_telling) (D_telling_of_done : Df P w K mg base "telling_of_done" 5 ["row", "done"] 2 [] S_telling_of_done) (D_is_whole_history : Df P w K mg base "is_whole_history" 7 ["row", "thing"] 2 [] S_is_whole_history)  : FnG P w K mg base 8 f fd ["row", "telling", "thing"] (lfSp K 3 [] S_is_history_for) := by
  refine D.F.okT sc_is_history_for rfl (by decide) fun cv B out s H E room gu => ?_
  have hu := hu64 room
  have hu5 := hu65 room
  have hu1 := hu_of room
  have hu6 := hu66 room
  have nd := sc_is_history_for.nd
  exact ⟨w_is_history_for, (lss_cons (ls_expr (le_callD D_need_telling room (by decide) gu mS_need_telling rfl (la_cons (lv 0) (la_cons (lv 1) la_nil))))
    (lss_one (ls_ret (le_and (le_callD D_is_whole_history room (by decide) gu mS_is_whole_history rfl (la_cons (lv 0) (la_cons (lv 2) la_nil))) (le_one (le_cmp (op_eqD hu6) od_EqD (le_callD D_telling_of_done room (by decide) gu mS_telling_of_done rfl (la_cons (lv 0) (la_cons (lv 2) la_nil))) (lv 1) (nomark _))))))), pl_is_history_for⟩
theorem ok_law_dish {f : Addr} {fd : FuncData} (D : Fd K mg "_law_dish" s_law_dish ["_law_script", "_law_k"] f fd) (T : Bl mg)   : FnG P w K mg base 1 f fd ["_law_script", "_law_k"] (lfSp K 2 [] S_law_dish) := by
  refine D.F.okT sc_law_dish rfl (by decide) fun cv B out s H E room gu => ?_
  have hu := hu64 room
  have hu5 := hu65 room
  have hu1 := hu_of room
  have hu6 := hu66 room
  have nd := sc_law_dish.nd
  exact ⟨w_law_dish, (lss_cons (ls_set (i := 2) nd rfl (by first | exact Or.inl rfl | exact Or.inr rfl) le_int)
    (lss_cons (ls_if (lt_cmp op_lt od_lt (lv 1) (le_len' rfl T.len_ (la_cons (lv 0) la_nil)) (nomark _)) (lss_one (ls_set (i := 2) nd rfl (by first | exact Or.inl rfl | exact Or.inr rfl) (le_ix (lv 0) (lv 1)))) lss_nil)
    (lss_one (ls_ret (le_lst (la_cons (le_max rfl rfl T.max_ (la_cons le_int (la_cons (le_sub (le_abs rfl T.abs_ (la_cons (lv 2) la_nil)) (le_pow le_int le_int)) la_nil))) (la_cons (le_mod (le_add (le_add (le_mulX (lv 2) le_int) (le_mulX (lv 1) le_int)) le_int) (le_add (le_pow le_int le_int) le_int)) (la_cons le_int la_nil)))))))), pl_law_dish⟩
theorem ok_law_spoon {f : Addr} {fd : FuncData} (D : Fd K mg "_law_spoon" s_law_spoon ["_law_dish_here", "_law_many"] f fd) (T : Bl mg)   : FnG P w K mg base 1 f fd ["_law_dish_here", "_law_many"] (lfSp K 2 [0] S_law_spoon) := by
  refine D.F.okT sc_law_spoon rfl (by decide) fun cv B out s H E room gu => ?_
  have hu := hu64 room
  have hu5 := hu65 room
  have hu1 := hu_of room
  have hu6 := hu66 room
  have nd := sc_law_spoon.nd
  exact ⟨w_law_spoon, (lss_cons (ls_if (lt_cmp op_gt od_gt (le_ix (lv 0) le_int) le_int (nomark _)) (lss_cons (ls_set (i := 2) nd rfl (by first | exact Or.inl rfl | exact Or.inr rfl) (le_mod (le_ix (lv 0) le_int) (lv 1)))
    (lss_cons (ls_asg (le_fdiv (le_ix (lv 0) le_int) (lv 1)) (lg_sub (lv 0) le_int))
    (lss_one (ls_retV (i := 2) rfl (by first | exact Or.inl rfl | exact Or.inr (Or.inl rfl) | exact Or.inr (Or.inr rfl)))))) lss_nil)
    (lss_cons (ls_asg (le_add (le_ix (lv 0) le_int) le_int) (lg_sub (lv 0) le_int))
    (lss_cons (ls_set (i := 3) nd rfl (by first | exact Or.inl rfl | exact Or.inr rfl) (le_mod (le_pow (le_add (le_ix (lv 0) le_int) (le_mul le_int (le_ix (lv 0) le_int))) le_int) (le_add (le_pow le_int le_int) le_int)))
    (lss_cons (ls_set (i := 3) nd rfl (by first | exact Or.inl rfl | exact Or.inr rfl) (le_mod (le_pow (le_add (lv 3) (le_mul le_int (le_ix (lv 0) le_int))) le_int) (le_add (le_pow le_int le_int) le_int)))
    (lss_one (ls_ret (le_mod (le_fdiv (lv 3) le_int) (lv 1)))))))), pl_law_spoon⟩
theorem ok_law_row {f : Addr} {fd : FuncData} (D : Fd K mg "_law_row" s_law_row ["_law_dish_here", "_law_most"] f fd) (T : Bl mg) (D_law_spoon : Df P w K mg base "_law_spoon" 1 ["_law_dish_here", "_law_many"] 2 [0] S_law_spoon)  : FnG P w K mg base 2 f fd ["_law_dish_here", "_law_most"] (lfSp K 2 [0] S_law_row) := by
  refine D.F.okT sc_law_row rfl (by decide) fun cv B out s H E room gu => ?_
  have hu := hu64 room
  have hu5 := hu65 room
  have hu1 := hu_of room
  have hu6 := hu66 room
  have nd := sc_law_row.nd
  exact ⟨w_law_row, (lss_cons (ls_set (i := 2) nd rfl (by first | exact Or.inl rfl | exact Or.inr rfl) (le_add le_int (le_callD D_law_spoon room (by decide) gu mS_law_spoon rfl (la_cons (lv 0) (la_cons (lv 1) la_nil)))))
    (lss_cons (ls_set (i := 3) nd rfl (by first | exact Or.inl rfl | exact Or.inr rfl) (le_callD D_law_spoon room (by decide) gu mS_law_spoon rfl (la_cons (lv 0) (la_cons le_int la_nil))))
    (lss_cons (ls_set (i := 4) nd rfl (by first | exact Or.inl rfl | exact Or.inr rfl) (le_lc (own := [("_law_k", 5)]) rfl nd (li_range1 rfl T.range_ (la_cons (lv 2) la_nil)) (blkOk_by (own := [("_law_k", 5)]) (N := N_law_row) (sc := defScope s_law_row) (by first | decide +kernel | with_unfolding_all rfl)) (fun _ _ _ _ _ => (lg_name (i := 5) nd rfl (by first | exact Or.inl rfl | exact Or.inr rfl))) (fun _ _ _ _ _ => lts_nil) (fun _ _ _ _ _ => (le_ix (le_lst (la_cons (lv 5) (la_cons (le_add (le_mul (le_mul le_int (lv 5)) (lv 5)) le_int) (la_cons (le_sub le_int (lv 5)) la_nil)))) (lv 3)))))
    (lss_cons (ls_set (i := 6) nd rfl (by first | exact Or.inl rfl | exact Or.inr rfl) (le_callD D_law_spoon room (by decide) gu mS_law_spoon rfl (la_cons (lv 0) (la_cons le_int la_nil))))
    (lss_cons (ls_if (lt_cmp op_lt od_lt (lv 6) le_int (nomark _)) (lss_cons (ls_expr (le_reverse (lv 4)))
    (lss_cons (ls_for rfl (li_range1 rfl T.range_ (la_cons (le_mul (le_callD D_law_spoon room (by decide) gu mS_law_spoon rfl (la_cons (lv 0) (la_cons (le_add (lv 2) le_int) la_nil))) (lv 6)) la_nil)) (lg_name (i := 7) nd rfl (by first | exact Or.inl rfl | exact Or.inr rfl)) (lss_cons (ls_set (i := 8) nd rfl (by first | exact Or.inl rfl | exact Or.inr rfl) (le_callD D_law_spoon room (by decide) gu mS_law_spoon rfl (la_cons (lv 0) (la_cons (lv 2) la_nil))))
    (lss_one (ls_asg (le_revS (le_sl (lv 4) (lo_some (lv 8)) (lo_some (le_add (lv 8) le_int)))) (lg_clip (lv 4) (lo_some (lv 8)) (lo_some (le_add (lv 8) le_int)))))))
    (lss_one (ls_retV (i := 4) rfl (by first | exact Or.inl rfl | exact Or.inr (Or.inl rfl) | exact Or.inr (Or.inr rfl)))))) lss_nil)
    (lss_cons (ls_if (lt_cmp (op_eqX hu) od_Eq (lv 6) le_int (nomark _)) (lss_one (ls_ret (le_lc (own := [("_law_k", 5)]) rfl nd (li_range1 rfl T.range_ (la_cons (lv 2) la_nil)) (blkOk_by (own := [("_law_k", 5)]) (N := N_law_row) (sc := defScope s_law_row) (by first | decide +kernel | with_unfolding_all rfl)) (fun _ _ _ _ _ => (lg_name (i := 5) nd rfl (by first | exact Or.inl rfl | exact Or.inr rfl))) (fun _ _ _ _ _ => lts_nil) (fun _ _ _ _ _ => (le_popAt (lv 4) (la_cons (le_callD D_law_spoon room (by decide) gu mS_law_spoon rfl (la_cons (lv 0) (la_cons (le_len' rfl T.len_ (la_cons (lv 4) la_nil)) la_nil))) la_nil)))))) lss_nil)
    (lss_one (ls_ret (le_cat (le_sl (le_revS (lv 4)) lo_none (lo_some (le_add (le_fdiv (lv 2) le_int) le_int))) (le_sl (lv 4) lo_none (lo_some (le_sub (le_sub (lv 2) (le_fdiv (lv 2) le_int)) le_int)))))))))))), pl_law_row⟩
theorem ok_law_threes {f : Addr} {fd : FuncData} (D : Fd K mg "_law_threes" s_law_threes ["_law_row_here"] f fd) (T : Bl mg)   : FnG P w K mg base 1 f fd ["_law_row_here"] (lfSp K 1 [] S_law_threes) := by
  refine D.F.okT sc_law_threes rfl (by decide) fun cv B out s H E room gu => ?_
  have hu := hu64 room
  have hu5 := hu65 room
  have hu1 := hu_of room
  have hu6 := hu66 room
  have nd := sc_law_threes.nd
  exact ⟨w_law_threes, (lss_cons (ls_set (i := 1) nd rfl (by first | exact Or.inl rfl | exact Or.inr rfl) (le_lst la_nil))
    (lss_cons (ls_set (i := 2) nd rfl (by first | exact Or.inl rfl | exact Or.inr rfl) (le_sorted hu rfl T.sorted_ (la_cons (lv 0) la_nil)))
    (lss_cons (ls_frz 2 (ls_for rfl (li_enum rfl T.enumerate_ (la_cons (lv 2) la_nil)) (lg_tup rfl (lgs_cons (lg_name (i := 3) nd rfl (by first | exact Or.inl rfl | exact Or.inr rfl)) (lgs_cons (lg_name (i := 4) nd rfl (by first | exact Or.inl rfl | exact Or.inr rfl)) lgs_nil))) (lss_one (ls_for rfl (li_enum rfl T.enumerate_ (la_cons (le_sl (lv 2) (lo_some (le_add (lv 3) le_int)) lo_none) la_nil)) (lg_tup rfl (lgs_cons (lg_name (i := 5) nd rfl (by first | exact Or.inl rfl | exact Or.inr rfl)) (lgs_cons (lg_name (i := 6) nd rfl (by first | exact Or.inl rfl | exact Or.inr rfl)) lgs_nil))) (lss_one (ls_if (lt_cmp op_lt od_lt (le_index hu5 (lv 0) (la_cons (lv 6) la_nil)) (le_index hu5 (lv 0) (la_cons (lv 4) la_nil)) (nomark _)) (lss_one (ls_expr (le_extend (lv 1) (la_cons (le_lc (own := [("_law_z", 7)]) rfl nd (li_list (le_sl (lv 2) (lo_some (le_add (le_add (lv 3) (lv 5)) le_int)) lo_none)) (blkOk_by (own := [("_law_z", 7)]) (N := N_law_threes) (sc := defScope s_law_threes) (by first | decide +kernel | with_unfolding_all rfl)) (fun _ _ _ _ _ => (lg_name (i := 7) nd rfl (by first | exact Or.inl rfl | exact Or.inr rfl))) (fun _ _ _ _ _ => (lts_one (lt_cmp op_lt od_lt (le_index hu5 (lv 0) (la_cons (lv 7) la_nil)) (le_index hu5 (lv 0) (la_cons (lv 6) la_nil)) (nomark _)))) (fun _ _ _ _ _ => (le_tup (la_cons (lv 4) (la_cons (lv 6) (la_cons (lv 7) la_nil)))))) la_nil)))) lss_nil))))))
    (lss_one (ls_retV (i := 1) rfl (by first | exact Or.inl rfl | exact Or.inr (Or.inl rfl) | exact Or.inr (Or.inr rfl))))))), pl_law_threes⟩
theorem ok_law_gone {f : Addr} {fd : FuncData} (D : Fd K mg "_law_gone" s_law_gone ["_law_dish_here", "_law_row_here"] f fd) (T : Bl mg) (D_law_spoon : Df P w K mg base "_law_spoon" 1 ["_law_dish_here", "_law_many"] 2 [0] S_law_spoon)  : FnG P w K mg base 2 f fd ["_law_dish_here", "_law_row_here"] (lfSp K 2 [0] S_law_gone) := by
  refine D.F.okT sc_law_gone rfl (by decide) fun cv B out s H E room gu => ?_
  have hu := hu64 room
  have hu5 := hu65 room
  have hu1 := hu_of room
  have hu6 := hu66 room
  have nd := sc_law_gone.nd
  exact ⟨w_law_gone, (lss_cons (ls_parC (i := 2) (j := 3) rfl nd rfl rfl (by decide) (by first | exact Or.inl rfl | exact Or.inr rfl) (by first | exact Or.inl rfl | exact Or.inr rfl) (la_cons (le_list rfl T.list_ (la_cons (lv 1) la_nil)) (la_cons (le_lst la_nil) la_nil)) (by rfl))
    (lss_cons (ls_for rfl (li_range1 rfl T.range_ (la_cons (le_mul (le_len' rfl T.len_ (la_cons (lv 1) la_nil)) (le_len' rfl T.len_ (la_cons (lv 1) la_nil))) la_nil)) (lg_name (i := 4) nd rfl (by first | exact Or.inl rfl | exact Or.inr rfl)) (lss_cons (ls_setLc (i := 5) (own := [("_law_at", 6)]) rfl nd rfl rfl (sw_true rfl rfl rfl (by decide +kernel)) (li_range1 rfl T.range_ (la_cons (le_sub (le_len' rfl T.len_ (la_cons (lv 2) la_nil)) le_int) la_nil)) (blkOk_by (own := [("_law_at", 6)]) (N := N_law_gone) (sc := defScope s_law_gone) (by first | decide +kernel | with_unfolding_all rfl)) (fun _ _ _ _ _ => (lg_name (i := 6) nd rfl (by first | exact Or.inl rfl | exact Or.inr rfl))) (fun _ _ _ _ _ => (lts_one (lt_cmp op_gt od_gt (le_ix (lv 2) (lv 6)) (le_ix (lv 2) (le_add (lv 6) le_int)) (nomark _)))) (fun _ _ _ _ _ => (lv 6)))
    (lss_one (ls_if (lt_cmp (op_neX hu) od_Ne (lv 5) (le_lst la_nil) (nomark _)) (lss_cons (ls_set (i := 6) nd rfl (by first | exact Or.inl rfl | exact Or.inr rfl) (le_ix (lv 5) (le_callD D_law_spoon room (by decide) gu mS_law_spoon rfl (la_cons (lv 0) (la_cons (le_len' rfl T.len_ (la_cons (lv 5) la_nil)) la_nil)))))
    (lss_cons (ls_expr (le_append (lv 3) (la_cons (le_tup (la_cons (le_ix (lv 2) (le_add (lv 6) le_int)) (la_cons (le_ix (lv 2) (lv 6)) la_nil))) la_nil)))
    (lss_one (ls_asg (le_lst (la_cons (le_ix (lv 2) (le_add (lv 6) le_int)) (la_cons (le_ix (lv 2) (lv 6)) la_nil))) (lg_clip (lv 2) (lo_some (lv 6)) (lo_some (le_add (lv 6) le_int))))))) lss_nil))))
    (lss_one (ls_retV (i := 3) rfl (by first | exact Or.inl rfl | exact Or.inr (Or.inl rfl) | exact Or.inr (Or.inr rfl)))))), pl_law_gone⟩
theorem ok_law_ways {f : Addr} {fd : FuncData} (D : Fd K mg "_law_ways" s_law_ways ["_law_row_here", "_law_done"] f fd) (T : Bl mg) (D_law_threes : Df P w K mg base "_law_threes" 1 ["_law_row_here"] 1 [] S_law_threes)  : FnG P w K mg base 2 f fd ["_law_row_here", "_law_done"] (lfSp K 2 [] S_law_ways) := by
  refine D.F.okT sc_law_ways rfl (by decide) fun cv B out s H E room gu => ?_
  have hu := hu64 room
  have hu5 := hu65 room
  have hu1 := hu_of room
  have hu6 := hu66 room
  have nd := sc_law_ways.nd
  exact ⟨w_law_ways, (lss_cons (ls_set (i := 2) nd rfl (by first | exact Or.inl rfl | exact Or.inr rfl) le_dnew2)
    (lss_cons (ls_for rfl (li_list (le_callD D_law_threes room (by decide) gu mS_law_threes rfl (la_cons (lv 0) la_nil))) (lg_tup rfl (lgs_cons (lg_name (i := 3) nd rfl (by first | exact Or.inl rfl | exact Or.inr rfl)) (lgs_cons (lg_name (i := 4) nd rfl (by first | exact Or.inl rfl | exact Or.inr rfl)) (lgs_cons (lg_name (i := 5) nd rfl (by first | exact Or.inl rfl | exact Or.inr rfl)) lgs_nil)))) (lss_one (ls_asg (le_ix (le_lst (la_cons le_str (la_cons le_str la_nil))) (le_toInt rfl T.int_ (la_cons (le_cmp op_lt od_lt (le_index hu5 (lv 1) (la_cons (le_tup (la_cons (lv 3) (la_cons (lv 4) la_nil))) la_nil)) (le_index hu5 (lv 1) (la_cons (le_tup (la_cons (lv 4) (la_cons (lv 5) la_nil))) la_nil)) (nomark _)) la_nil))) (lg_dp2 hu1 (lv 2) (le_tup (la_cons (lv 3) (la_cons (lv 4) (la_cons (lv 5) la_nil))))))))
    (lss_one (ls_retV (i := 2) rfl (by first | exact Or.inl rfl | exact Or.inr (Or.inl rfl) | exact Or.inr (Or.inr rfl)))))), pl_law_ways⟩
theorem ok_law_stirred {f : Addr} {fd : FuncData} (D : Fd K mg "_law_stirred" s_law_stirred ["_law_dish_here", "_law_ways_here"] f fd) (T : Bl mg) (D_law_spoon : Df P w K mg base "_law_spoon" 1 ["_law_dish_here", "_law_many"] 2 [0] S_law_spoon)  : FnG P w K mg base 2 f fd ["_law_dish_here", "_law_ways_here"] (lfSp K 2 [0] S_law_stirred) := by
  refine D.F.okT sc_law_stirred rfl (by decide) fun cv B out s H E room gu => ?_
  have hu := hu64 room
  have hu5 := hu65 room
  have hu1 := hu_of room
  have hu6 := hu66 room
  have nd := sc_law_stirred.nd
  exact ⟨w_law_stirred, (lss_cons (ls_set (i := 2) nd rfl (by first | exact Or.inl rfl | exact Or.inr rfl) (le_sortedD rfl hu rfl T.sorted_ (la_cons (lv 1) la_nil)))
    (lss_one (ls_ret (le_dictP rfl hu rfl T.dict_ (la_cons (le_lc (own := [("_law_three", 3)]) rfl nd (li_list (le_lc (own := [("_law_k", 4)]) rfl nd (li_range1 rfl T.range_ (la_cons (le_lenD rfl T.len_ (la_cons (lv 1) la_nil)) la_nil)) (blkOk_by (own := [("_law_k", 4)]) (N := N_law_stirred) (sc := defScope s_law_stirred) (by first | decide +kernel | with_unfolding_all rfl)) (fun _ _ _ _ _ => (lg_name (i := 4) nd rfl (by first | exact Or.inl rfl | exact Or.inr rfl))) (fun _ _ _ _ _ => lts_nil) (fun _ _ _ _ _ => (le_popAt (lv 2) (la_cons (le_callD D_law_spoon room (by decide) gu mS_law_spoon rfl (la_cons (lv 0) (la_cons (le_len' rfl T.len_ (la_cons (lv 2) la_nil)) la_nil))) la_nil))))) (blkOk_by (own := [("_law_three", 3)]) (N := N_law_stirred) (sc := defScope s_law_stirred) (by first | decide +kernel | with_unfolding_all rfl)) (fun _ _ _ _ _ => (lg_name (i := 3) nd rfl (by first | exact Or.inl rfl | exact Or.inr rfl))) (fun _ _ _ _ _ => lts_nil) (fun _ _ _ _ _ => (le_tup (la_cons (lv 3) (la_cons (le_dg2 hu1 (lv 1) (lv 3)) la_nil))))) la_nil))))), pl_law_stirred⟩
theorem ok_law_bent {f : Addr} {fd : FuncData} (D : Fd K mg "_law_bent" s_law_bent ["_law_dish_here", "_law_ways_here"] f fd) (T : Bl mg) (D_law_spoon : Df P w K mg base "_law_spoon" 1 ["_law_dish_here", "_law_many"] 2 [0] S_law_spoon)  : FnG P w K mg base 2 f fd ["_law_dish_here", "_law_ways_here"] (lfSp K 2 [0] S_law_bent) := by
  refine D.F.okT sc_law_bent rfl (by decide) fun cv B out s H E room gu => ?_
  have hu := hu64 room
  have hu5 := hu65 room
  have hu1 := hu_of room
  have hu6 := hu66 room
  have nd := sc_law_bent.nd
  exact ⟨w_law_bent, (lss_cons (ls_set (i := 2) nd rfl (by first | exact Or.inl rfl | exact Or.inr rfl) (le_dictP rfl hu rfl T.dict_ (la_cons (le_listI rfl rfl T.list_ (lv 1)) la_nil)))
    (lss_cons (ls_for rfl (li_range1 rfl T.range_ (la_cons (le_mul (le_ix (le_lst (la_cons le_int (la_cons le_int (la_cons le_int (la_cons (le_lenD rfl T.len_ (la_cons (lv 1) la_nil)) la_nil))))) (le_callD D_law_spoon room (by decide) gu mS_law_spoon rfl (la_cons (lv 0) (la_cons le_int la_nil)))) (le_min rfl rfl T.min_ (la_cons le_int (la_cons (le_lenD rfl T.len_ (la_cons (lv 1) la_nil)) la_nil)))) la_nil)) (lg_name (i := 3) nd rfl (by first | exact Or.inl rfl | exact Or.inr rfl)) (lss_cons (ls_set (i := 4) nd rfl (by first | exact Or.inl rfl | exact Or.inr rfl) (le_ix (le_sortedD rfl hu rfl T.sorted_ (la_cons (lv 1) la_nil)) (le_callD D_law_spoon room (by decide) gu mS_law_spoon rfl (la_cons (lv 0) (la_cons (le_lenD rfl T.len_ (la_cons (lv 1) la_nil)) la_nil)))))
    (lss_one (ls_asg (le_ix (le_lst (la_cons le_str (la_cons le_str la_nil))) (le_toInt rfl T.int_ (la_cons (le_cmp (op_eqX hu) od_Eq (le_dg2 hu1 (lv 2) (lv 4)) le_str (nomark _)) la_nil))) (lg_dp2 hu1 (lv 2) (lv 4))))))
    (lss_one (ls_retV (i := 2) rfl (by first | exact Or.inl rfl | exact Or.inr (Or.inl rfl) | exact Or.inr (Or.inr rfl)))))), pl_law_bent⟩
theorem ok_law_follows {f : Addr} {fd : FuncData} (D : Fd K mg "_law_follows" s_law_follows ["_law_row_here", "_law_done"] f fd) (T : Bl mg)   : FnG P w K mg base 1 f fd ["_law_row_here", "_law_done"] (lfSp K 2 [] S_law_follows) := by
  refine D.F.okT sc_law_follows rfl (by decide) fun cv B out s H E room gu => ?_
  have hu := hu64 room
  have hu5 := hu65 room
  have hu1 := hu_of room
  have hu6 := hu66 room
  have nd := sc_law_follows.nd
  exact ⟨w_law_follows, (lss_cons (ls_set (i := 2) nd rfl (by first | exact Or.inl rfl | exact Or.inr rfl) (le_list rfl T.list_ (la_cons (lv 0) la_nil)))
    (lss_cons (ls_for rfl (li_list (lv 1)) (lg_tup rfl (lgs_cons (lg_name (i := 3) nd rfl (by first | exact Or.inl rfl | exact Or.inr rfl)) (lgs_cons (lg_name (i := 4) nd rfl (by first | exact Or.inl rfl | exact Or.inr rfl)) lgs_nil))) (lss_cons (ls_set (i := 5) nd rfl (by first | exact Or.inl rfl | exact Or.inr rfl) (le_index hu5 (lv 2) (la_cons (lv 4) la_nil)))
    (lss_cons (ls_if (TX.LW.lt (lw_or (lt_not (lt_cmp op_lt od_lt (lv 3) (lv 4) (nomark _))) (lw_or1 (lt_cmp (op_neX hu) od_Ne (le_sl (lv 2) (lo_some (lv 5)) (lo_some (le_add (lv 5) le_int))) (le_lst (la_cons (lv 4) (la_cons (lv 3) la_nil))) (nomark _))))) (lss_one (ls_ret le_non)) lss_nil)
    (lss_one (ls_asg (le_lst (la_cons (lv 3) (la_cons (lv 4) la_nil))) (lg_clip (lv 2) (lo_some (lv 5)) (lo_some (le_add (lv 5) le_int))))))))
    (lss_one (ls_retV (i := 2) rfl (by first | exact Or.inl rfl | exact Or.inr (Or.inl rfl) | exact Or.inr (Or.inr rfl)))))), pl_law_follows⟩
theorem ok_law_due {f : Addr} {fd : FuncData} (D : Fd K mg "_law_due" s_law_due ["_law_row_here", "_law_ways_here", "_law_thing"] f fd) (T : Bl mg) (D_law_ways : Df P w K mg base "_law_ways" 2 ["_law_row_here", "_law_done"] 2 [] S_law_ways) (D_law_follows : Df P w K mg base "_law_follows" 1 ["_law_row_here", "_law_done"] 2 [] S_law_follows)  : FnG P w K mg base 3 f fd ["_law_row_here", "_law_ways_here", "_law_thing"] (lfSp K 3 [] S_law_due) := by
  refine D.F.okT sc_law_due rfl (by decide) fun cv B out s H E room gu => ?_
  have hu := hu64 room
  have hu5 := hu65 room
  have hu1 := hu_of room
  have hu6 := hu66 room
  have nd := sc_law_due.nd
  exact ⟨w_law_due, (lss_cons (ls_if (lt_not (lt_val (le_isB rfl T.isinstance_ (la_cons (lv 2) (la_cons (le_ty (n := "list") rfl T.list_ (by decide +kernel)) la_nil))))) (lss_one (ls_ret le_bl)) lss_nil)
    (lss_cons (ls_for rfl (li_list (lv 2)) (lg_name (i := 3) nd rfl (by first | exact Or.inl rfl | exact Or.inr rfl)) (lss_cons (ls_if (TX.LW.lt (lw_or (lt_not (lt_val (le_isB rfl T.isinstance_ (la_cons (lv 3) (la_cons (le_ty (n := "tuple") rfl T.tuple_ (by decide +kernel)) la_nil))))) (lw_or1 (lt_cmp (op_neX hu) od_Ne (le_len' rfl T.len_ (la_cons (lv 3) la_nil)) le_int (nomark _))))) (lss_one (ls_ret le_bl)) lss_nil)
    (lss_one (ls_if (lt_cmp (op_neX hu) od_Ne (le_lc (own := [("_law_card", 4)]) rfl nd (li_tup (lv 3)) (blkOk_by (own := [("_law_card", 4)]) (N := N_law_due) (sc := defScope s_law_due) (by first | decide +kernel | with_unfolding_all rfl)) (fun _ _ _ _ _ => (lg_name (i := 4) nd rfl (by first | exact Or.inl rfl | exact Or.inr rfl))) (fun _ _ _ _ _ => (lts_one (TX.LW.lt (lw_or (lt_not (lt_val (le_isB rfl T.isinstance_ (la_cons (lv 4) (la_cons (le_ty (n := "int") rfl T.int_ (by decide +kernel)) la_nil))))) (lw_or (lt_cmp op_isX od_isX (lv 4) le_bl (nomark _)) (lw_or1 (lt_cmp (op_notinX hu5) od_In (lv 4) (lv 0) (by with_unfolding_all rfl)))))))) (fun _ _ _ _ _ => (lv 4))) (le_lst la_nil) (nomark _)) (lss_one (ls_ret le_bl)) lss_nil))))
    (lss_one (ls_ret (le_and (le_cmp (op_eqX hu) od_Eq (le_callD D_law_follows room (by decide) gu mS_law_follows rfl (la_cons (lv 0) (la_cons (lv 2) la_nil))) (le_sorted hu rfl T.sorted_ (la_cons (lv 0) la_nil)) (nomark _)) (le_one (le_cmp (op_eqD hu6) od_EqD (le_callD D_law_ways room (by decide) gu mS_law_ways rfl (la_cons (lv 0) (la_cons (lv 2) la_nil))) (lv 1) (nomark _)))))))), pl_law_due⟩
theorem ok_law_things {f : Addr} {fd : FuncData} (D : Fd K mg "_law_things" s_law_things ["_law_dish_here", "_law_done"] f fd) (T : Bl mg) (D_law_spoon : Df P w K mg base "_law_spoon" 1 ["_law_dish_here", "_law_many"] 2 [0] S_law_spoon)  : FnG P w K mg base 2 f fd ["_law_dish_here", "_law_done"] (lfSp K 2 [0] S_law_things) := by
  refine D.F.okT sc_law_things rfl (by decide) fun cv B out s H E room gu => ?_
  have hu := hu64 room
  have hu5 := hu65 room
  have hu1 := hu_of room
  have hu6 := hu66 room
  have nd := sc_law_things.nd
  exact ⟨w_law_things, (lss_cons (ls_set (i := 2) nd rfl (by first | exact Or.inl rfl | exact Or.inr rfl) (le_callD D_law_spoon room (by decide) gu mS_law_spoon rfl (la_cons (lv 0) (la_cons (le_add (le_len' rfl T.len_ (la_cons (lv 1) la_nil)) le_int) la_nil))))
    (lss_cons (ls_set (i := 3) nd rfl (by first | exact Or.inl rfl | exact Or.inr rfl) (le_ix (le_lst (la_cons le_non (la_cons (le_tup (la_cons le_int la_nil)) (la_cons (le_tup (la_cons le_int (la_cons le_int la_nil))) (la_cons le_str (la_cons (le_lst (la_cons le_int (la_cons le_int la_nil))) (la_cons (le_tup (la_cons le_int (la_cons le_int la_nil))) (la_cons (le_tup (la_cons le_bl (la_cons le_int la_nil))) (la_cons (le_tup (la_cons le_int (la_cons (le_pow le_int le_int) la_nil))) la_nil))))))))) (le_callD D_law_spoon room (by decide) gu mS_law_spoon rfl (la_cons (lv 0) (la_cons le_int la_nil)))))
    (lss_cons (ls_set (i := 4) nd rfl (by first | exact Or.inl rfl | exact Or.inr rfl) (le_lst (la_cons (le_list rfl T.list_ (la_cons (lv 1) la_nil)) (la_cons (le_sl (lv 1) lo_none (lo_some (lv 2))) (la_cons (le_cat (lv 1) (le_sl (lv 1) (lo_some (lv 2)) (lo_some (le_add (lv 2) le_int)))) (la_cons (le_cat (le_cat (le_sl (lv 1) lo_none (lo_some (lv 2))) (le_lst (la_cons (lv 3) la_nil))) (le_sl (lv 1) (lo_some (lv 2)) lo_none)) (la_cons (le_tuple rfl T.tuple_ (la_cons (lv 1) la_nil)) (la_cons (le_revS (lv 1)) la_nil))))))))
    (lss_cons (ls_expr (le_append (lv 4) (la_cons (le_cat (le_cat (le_sl (lv 1) lo_none (lo_some (lv 2))) (le_revS (le_sl (lv 1) (lo_some (lv 2)) (lo_some (le_add (lv 2) le_int))))) (le_sl (lv 1) (lo_some (le_add (lv 2) le_int)) lo_none)) la_nil)))
    (lss_cons (ls_expr (le_append (lv 4) (la_cons (le_cat (le_cat (le_sl (lv 1) lo_none (lo_some (lv 2))) (le_lc (own := [("_law_pair", 5)]) rfl nd (li_list (le_sl (lv 1) (lo_some (lv 2)) (lo_some (le_add (lv 2) le_int)))) (blkOk_by (own := [("_law_pair", 5)]) (N := N_law_things) (sc := defScope s_law_things) (by first | decide +kernel | with_unfolding_all rfl)) (fun _ _ _ _ _ => (lg_name (i := 5) nd rfl (by first | exact Or.inl rfl | exact Or.inr rfl))) (fun _ _ _ _ _ => lts_nil) (fun _ _ _ _ _ => (le_revT (lv 5))))) (le_sl (lv 1) (lo_some (le_add (lv 2) le_int)) lo_none)) la_nil)))
    (lss_one (ls_ret (le_cat (lv 4) (le_lst (la_cons le_non (la_cons le_int (la_cons le_dnew1 (la_cons (le_lst (la_cons (le_lst la_nil) la_nil)) (la_cons le_str (la_cons (le_lst (la_cons (lv 1) la_nil)) la_nil))))))))))))))), pl_law_things⟩
theorem ok_law {f : Addr} {fd : FuncData} (D : Fd K mg "law" s_law ["_law_script"] f fd) (T : Bl mg) (D_is_history_for : Df P w K mg base "is_history_for" 8 ["row", "telling", "thing"] 3 [] S_is_history_for) (D_law_dish : Df P w K mg base "_law_dish" 1 ["_law_script", "_law_k"] 2 [] S_law_dish) (D_law_spoon : Df P w K mg base "_law_spoon" 1 ["_law_dish_here", "_law_many"] 2 [0] S_law_spoon) (D_law_row : Df P w K mg base "_law_row" 2 ["_law_dish_here", "_law_most"] 2 [0] S_law_row) (D_law_threes : Df P w K mg base "_law_threes" 1 ["_law_row_here"] 1 [] S_law_threes) (D_law_gone : Df P w K mg base "_law_gone" 2 ["_law_dish_here", "_law_row_here"] 2 [0] S_law_gone) (D_law_ways : Df P w K mg base "_law_ways" 2 ["_law_row_here", "_law_done"] 2 [] S_law_ways) (D_law_stirred : Df P w K mg base "_law_stirred" 2 ["_law_dish_here", "_law_ways_here"] 2 [0] S_law_stirred) (D_law_bent : Df P w K mg base "_law_bent" 2 ["_law_dish_here", "_law_ways_here"] 2 [0] S_law_bent) (D_law_due : Df P w K mg base "_law_due" 3 ["_law_row_here", "_law_ways_here", "_law_thing"] 3 [] S_law_due) (D_law_things : Df P w K mg base "_law_things" 2 ["_law_dish_here", "_law_done"] 2 [0] S_law_things)  : FnG P w K mg base 9 f fd ["_law_script"] (lfSp K 1 [] S_law) := by
  refine D.F.okT sc_law rfl (by decide) fun cv B out s H E room gu => ?_
  have hu := hu64 room
  have hu5 := hu65 room
  have hu1 := hu_of room
  have hu6 := hu66 room
  have nd := sc_law.nd
  exact ⟨w_law, (lss_cons (ls_for rfl (li_range1 rfl T.range_ (la_cons (le_max rfl rfl T.max_ (la_cons le_int (la_cons (le_min rfl rfl T.min_ (la_cons le_int (la_cons (le_len' rfl T.len_ (la_cons (lv 0) la_nil)) la_nil))) la_nil))) la_nil)) (lg_name (i := 1) nd rfl (by first | exact Or.inl rfl | exact Or.inr rfl)) (lss_cons (ls_set (i := 2) nd rfl (by first | exact Or.inl rfl | exact Or.inr rfl) (le_callD D_law_dish room (by decide) gu mS_law_dish rfl (la_cons (lv 0) (la_cons (lv 1) la_nil))))
    (lss_cons (ls_set (i := 3) nd rfl (by first | exact Or.inl rfl | exact Or.inr rfl) (le_callD D_law_row room (by decide) gu mS_law_row rfl (la_cons (lv 2) (la_cons (le_ix (le_lst (la_cons le_int (la_cons le_int (la_cons le_int la_nil)))) (le_callD D_law_spoon room (by decide) gu mS_law_spoon rfl (la_cons (lv 2) (la_cons le_int la_nil)))) la_nil))))
    (lss_cons (ls_frz 3 (ls_par (i := 4) (j := 5) rfl nd rfl rfl (by decide) rfl rfl (la_cons (le_callD D_law_gone room (by decide) gu mS_law_gone rfl (la_cons (lv 2) (la_cons (lv 3) la_nil))) (la_cons (le_callD D_law_gone room (by decide) gu mS_law_gone rfl (la_cons (lv 2) (la_cons (lv 3) la_nil))) la_nil)) (by rfl)))
    (lss_cons (ls_frz 5 (ls_frz 4 (ls_set (i := 6) nd rfl (by first | exact Or.inl rfl | exact Or.inr rfl) (le_callD D_law_ways room (by decide) gu mS_law_ways rfl (la_cons (lv 3) (la_cons (lv 4) la_nil))))))
    (lss_one (ls_frz 6 (ls_for rfl (li_list (le_lst (la_cons (lv 6) (la_cons (le_callD D_law_bent room (by decide) gu mS_law_bent rfl (la_cons (lv 2) (la_cons (lv 6) la_nil))) (la_cons (le_callD D_law_ways room (by decide) gu mS_law_ways rfl (la_cons (lv 3) (la_cons (lv 5) la_nil))) la_nil))))) (lg_name (i := 7) nd rfl (by first | exact Or.inl rfl | exact Or.inr rfl)) (lss_cons (ls_set (i := 7) nd rfl (by first | exact Or.inl rfl | exact Or.inr rfl) (le_callD D_law_stirred room (by decide) gu mS_law_stirred rfl (la_cons (lv 2) (la_cons (lv 7) la_nil))))
    (lss_one (ls_frz 7 (ls_for rfl (li_list (le_cat (le_callD D_law_things room (by decide) gu mS_law_things rfl (la_cons (lv 2) (la_cons (lv 4) la_nil))) (le_callD D_law_things room (by decide) gu mS_law_things rfl (la_cons (lv 2) (la_cons (lv 5) la_nil))))) (lg_name (i := 8) nd rfl (by first | exact Or.inl rfl | exact Or.inr rfl)) (lss_cons (ls_set (i := 9) nd rfl (by first | exact Or.inl rfl | exact Or.inr rfl) (le_repr gu hu rfl T.repr_ (la_cons (le_lst (la_cons (lv 3) (la_cons (lv 7) (la_cons (lv 8) la_nil)))) la_nil)))
    (lss_cons (ls_set (i := 10) nd rfl (by first | exact Or.inl rfl | exact Or.inr rfl) (le_callD D_law_due room (by decide) gu mS_law_due rfl (la_cons (lv 3) (la_cons (lv 7) (la_cons (lv 8) la_nil)))))
    (lss_one (ls_if (TX.LW.lt (lw_or (lt_cmp (op_neX hu) od_Ne (le_repr gu hu rfl T.repr_ (la_cons (le_callD D_is_history_for room (by decide) gu mS_is_history_for rfl (la_cons (lv 3) (la_cons (lv 7) (la_cons (lv 8) la_nil)))) la_nil)) (le_repr gu hu rfl T.repr_ (la_cons (lv 10) la_nil)) (nomark _)) (lw_or1 (lt_cmp (op_neX hu) od_Ne (le_repr gu hu rfl T.repr_ (la_cons (le_lst (la_cons (lv 3) (la_cons (lv 7) (la_cons (lv 8) la_nil)))) la_nil)) (lv 9) (nomark _))))) (lss_one (ls_ret le_bl)) lss_nil))))))))))))))))
    (lss_cons (ls_setLc (i := 3) (own := [("_law_card", 11)]) rfl nd rfl rfl (sw_true rfl rfl rfl (by decide +kernel)) (li_range1 rfl T.range_ (la_cons le_int la_nil)) (blkOk_by (own := [("_law_card", 11)]) (N := N_law) (sc := defScope s_law) (by first | decide +kernel | with_unfolding_all rfl)) (fun _ _ _ _ _ => (lg_name (i := 11) nd rfl (by first | exact Or.inl rfl | exact Or.inr rfl))) (fun _ _ _ _ _ => lts_nil) (fun _ _ _ _ _ => (le_sub le_int (lv 11))))
    (lss_cons (ls_set (i := 12) nd rfl (by first | exact Or.inl rfl | exact Or.inr rfl) (le_lst la_nil))
    (lss_cons (ls_for rfl (li_range2 rfl T.range_ (la_cons le_int (la_cons le_int la_nil))) (lg_name (i := 13) nd rfl (by first | exact Or.inl rfl | exact Or.inr rfl)) (lss_one (ls_expr (le_extend (lv 12) (la_cons (le_lc (own := [("_law_great", 14)]) rfl nd (li_range2 rfl T.range_ (la_cons (le_add (lv 13) le_int) (la_cons le_int la_nil))) (blkOk_by (own := [("_law_great", 14)]) (N := N_law) (sc := defScope s_law) (by first | decide +kernel | with_unfolding_all rfl)) (fun _ _ _ _ _ => (lg_name (i := 14) nd rfl (by first | exact Or.inl rfl | exact Or.inr rfl))) (fun _ _ _ _ _ => lts_nil) (fun _ _ _ _ _ => (le_tup (la_cons (lv 13) (la_cons (lv 14) la_nil))))) la_nil)))))
    (lss_cons (ls_set (i := 6) nd rfl (by first | exact Or.inl rfl | exact Or.inr rfl) (le_dictP rfl hu rfl T.dict_ (la_cons (le_lc (own := [("_law_three", 15)]) rfl nd (li_list (le_callD D_law_threes room (by decide) gu mS_law_threes rfl (la_cons (lv 3) la_nil))) (blkOk_by (own := [("_law_three", 15)]) (N := N_law) (sc := defScope s_law) (by first | decide +kernel | with_unfolding_all rfl)) (fun _ _ _ _ _ => (lg_name (i := 15) nd rfl (by first | exact Or.inl rfl | exact Or.inr rfl))) (fun _ _ _ _ _ => lts_nil) (fun _ _ _ _ _ => (le_tup (la_cons (lv 15) (la_cons le_str la_nil))))) la_nil)))
    (lss_cons (ls_if (lt_cmp op_isnX od_isnX (le_callD D_is_history_for room (by decide) gu mS_is_history_for rfl (la_cons (lv 3) (la_cons (lv 6) (la_cons (lv 12) la_nil)))) le_bl (nomark _)) (lss_one (ls_ret le_bl)) lss_nil)
    (lss_cons (ls_asg le_str (lg_dp2 hu1 (lv 6) (le_tup (la_cons le_int (la_cons le_int (la_cons le_int la_nil))))))
    (lss_cons (ls_if (lt_cmp op_isnX od_isnX (le_callD D_is_history_for room (by decide) gu mS_is_history_for rfl (la_cons (lv 3) (la_cons (lv 6) (la_cons (lv 12) la_nil)))) le_bl (nomark _)) (lss_one (ls_ret le_bl)) lss_nil)
    (lss_one (ls_ret (le_cmp op_isX od_isX (le_callD D_is_history_for room (by decide) gu mS_is_history_for rfl (la_cons (le_lst (la_cons le_int (la_cons le_int (la_cons le_int la_nil)))) (la_cons (le_dctT (kvs := [([.inl 1, .inl 2, .inl 3], "high")]) hu (pps_cons pe_ck3 pe_str pps_nil)) (la_cons (le_lst (la_cons (le_tup (la_cons le_int (la_cons le_int la_nil))) (la_cons (le_tup (la_cons le_int (la_cons le_int la_nil))) (la_cons (le_tup (la_cons le_int (la_cons le_int la_nil))) la_nil)))) la_nil)))) le_bl (nomark _)))))))))))), pl_law⟩
end
end LW.D

namespace LW.D
open PySem PySem.Spec L2 TX PyProof.Rows LW
theorem all_of {l : PySem.W.OpenLaw} {w : World} {K : PySem.W.Frag} {h : Heap} {mg : Str → Option Value} {fa : Addr} (X : K.In h) (G : h.Ns mainGlobals mg) (hfa : mg "law" = some (.ref fa))
    {f0 : Addr} {od0 an0 : Option Addr} {sl0 : Array (Option Value)} {oc0 kV0 dc0 pm0 cd0 ct0 : Value} (a0 : PySem.W.nsIn K mainGlobals "is_card" = some (some (.ref f0)))
    (l0 : K.lookup f0 = some ⟨oc0, od0, .func (PySem.W.fnOf "is_card" "is_card" (defArgs s_is_card) (defBody s_is_card) (defScope s_is_card) .none kV0 dc0 pm0 an0 cd0 ct0), sl0⟩) (c0 : PySem.W.codeIn K cd0 "is_card" = true) (k0 : PySem.W.keepIn K (.ref f0) = true)
    {f1 : Addr} {od1 an1 : Option Addr} {sl1 : Array (Option Value)} {oc1 kV1 dc1 pm1 cd1 ct1 : Value} (a1 : PySem.W.nsIn K mainGlobals "is_row" = some (some (.ref f1)))
    (l1 : K.lookup f1 = some ⟨oc1, od1, .func (PySem.W.fnOf "is_row" "is_row" (defArgs s_is_row) (defBody s_is_row) (defScope s_is_row) .none kV1 dc1 pm1 an1 cd1 ct1), sl1⟩) (c1 : PySem.W.codeIn K cd1 "is_row" = true) (k1 : PySem.W.keepIn K (.ref f1) = true)
    {f2 : Addr} {od2 an2 : Option Addr} {sl2 : Array (Option Value)} {oc2 kV2 dc2 pm2 cd2 ct2 : Value} (a2 : PySem.W.nsIn K mainGlobals "need_row" = some (some (.ref f2)))
    (l2 : K.lookup f2 = some ⟨oc2, od2, .func (PySem.W.fnOf "need_row" "need_row" (defArgs s_need_row) (defBody s_need_row) (defScope s_need_row) .none kV2 dc2 pm2 an2 cd2 ct2), sl2⟩) (c2 : PySem.W.codeIn K cd2 "need_row" = true) (k2 : PySem.W.keepIn K (.ref f2) = true)
    {f3 : Addr} {od3 an3 : Option Addr} {sl3 : Array (Option Value)} {oc3 kV3 dc3 pm3 cd3 ct3 : Value} (a3 : PySem.W.nsIn K mainGlobals "crossing_threes" = some (some (.ref f3)))
    (l3 : K.lookup f3 = some ⟨oc3, od3, .func (PySem.W.fnOf "crossing_threes" "crossing_threes" (defArgs s_crossing_threes) (defBody s_crossing_threes) (defScope s_crossing_threes) .none kV3 dc3 pm3 an3 cd3 ct3), sl3⟩) (c3 : PySem.W.codeIn K cd3 "crossing_threes" = true) (k3 : PySem.W.keepIn K (.ref f3) = true)
    {f4 : Addr} {od4 an4 : Option Addr} {sl4 : Array (Option Value)} {oc4 kV4 dc4 pm4 cd4 ct4 : Value} (a4 : PySem.W.nsIn K mainGlobals "may_change" = some (some (.ref f4)))
    (l4 : K.lookup f4 = some ⟨oc4, od4, .func (PySem.W.fnOf "may_change" "may_change" (defArgs s_may_change) (defBody s_may_change) (defScope s_may_change) .none kV4 dc4 pm4 an4 cd4 ct4), sl4⟩) (c4 : PySem.W.codeIn K cd4 "may_change" = true) (k4 : PySem.W.keepIn K (.ref f4) = true)
    {f5 : Addr} {od5 an5 : Option Addr} {sl5 : Array (Option Value)} {oc5 kV5 dc5 pm5 cd5 ct5 : Value} (a5 : PySem.W.nsIn K mainGlobals "led_by" = some (some (.ref f5)))
    (l5 : K.lookup f5 = some ⟨oc5, od5, .func (PySem.W.fnOf "led_by" "led_by" (defArgs s_led_by) (defBody s_led_by) (defScope s_led_by) .none kV5 dc5 pm5 an5 cd5 ct5), sl5⟩) (c5 : PySem.W.codeIn K cd5 "led_by" = true) (k5 : PySem.W.keepIn K (.ref f5) = true)
    {f6 : Addr} {od6 an6 : Option Addr} {sl6 : Array (Option Value)} {oc6 kV6 dc6 pm6 cd6 ct6 : Value} (a6 : PySem.W.nsIn K mainGlobals "is_history" = some (some (.ref f6)))
    (l6 : K.lookup f6 = some ⟨oc6, od6, .func (PySem.W.fnOf "is_history" "is_history" (defArgs s_is_history) (defBody s_is_history) (defScope s_is_history) .none kV6 dc6 pm6 an6 cd6 ct6), sl6⟩) (c6 : PySem.W.codeIn K cd6 "is_history" = true) (k6 : PySem.W.keepIn K (.ref f6) = true)
    {f7 : Addr} {od7 an7 : Option Addr} {sl7 : Array (Option Value)} {oc7 kV7 dc7 pm7 cd7 ct7 : Value} (a7 : PySem.W.nsIn K mainGlobals "need_history" = some (some (.ref f7)))
    (l7 : K.lookup f7 = some ⟨oc7, od7, .func (PySem.W.fnOf "need_history" "need_history" (defArgs s_need_history) (defBody s_need_history) (defScope s_need_history) .none kV7 dc7 pm7 an7 cd7 ct7), sl7⟩) (c7 : PySem.W.codeIn K cd7 "need_history" = true) (k7 : PySem.W.keepIn K (.ref f7) = true)
    {f8 : Addr} {od8 an8 : Option Addr} {sl8 : Array (Option Value)} {oc8 kV8 dc8 pm8 cd8 ct8 : Value} (a8 : PySem.W.nsIn K mainGlobals "row_behind" = some (some (.ref f8)))
    (l8 : K.lookup f8 = some ⟨oc8, od8, .func (PySem.W.fnOf "row_behind" "row_behind" (defArgs s_row_behind) (defBody s_row_behind) (defScope s_row_behind) .none kV8 dc8 pm8 an8 cd8 ct8), sl8⟩) (c8 : PySem.W.codeIn K cd8 "row_behind" = true) (k8 : PySem.W.keepIn K (.ref f8) = true)
    {f9 : Addr} {od9 an9 : Option Addr} {sl9 : Array (Option Value)} {oc9 kV9 dc9 pm9 cd9 ct9 : Value} (a9 : PySem.W.nsIn K mainGlobals "need_few" = some (some (.ref f9)))
    {T9 : Addr} {dt9_0 nT9 : Nat} {cT9 : Value} {dT9 : Option Addr} {sT9 : Array (Option Value)}
    (l9 : K.lookup f9 = some ⟨oc9, od9, .func (PySem.W.fnOf "need_few" "need_few" (defArgs s_need_few) (defBody s_need_few) (defScope s_need_few) (.ref T9) kV9 dc9 pm9 an9 cd9 ct9), sl9⟩) (lT9 : K.lookup T9 = some ⟨cT9, dT9, .seq #[.int 10 dt9_0] nT9, sT9⟩) (c9 : PySem.W.codeIn K cd9 "need_few" = true) (k9 : PySem.W.keepIn K (.ref f9) = true)
    {f10 : Addr} {od10 an10 : Option Addr} {sl10 : Array (Option Value)} {oc10 kV10 dc10 pm10 cd10 ct10 : Value} (a10 : PySem.W.nsIn K mainGlobals "is_telling_of" = some (some (.ref f10)))
    (l10 : K.lookup f10 = some ⟨oc10, od10, .func (PySem.W.fnOf "is_telling_of" "is_telling_of" (defArgs s_is_telling_of) (defBody s_is_telling_of) (defScope s_is_telling_of) .none kV10 dc10 pm10 an10 cd10 ct10), sl10⟩) (c10 : PySem.W.codeIn K cd10 "is_telling_of" = true) (k10 : PySem.W.keepIn K (.ref f10) = true)
    {f11 : Addr} {od11 an11 : Option Addr} {sl11 : Array (Option Value)} {oc11 kV11 dc11 pm11 cd11 ct11 : Value} (a11 : PySem.W.nsIn K mainGlobals "need_telling" = some (some (.ref f11)))
    (l11 : K.lookup f11 = some ⟨oc11, od11, .func (PySem.W.fnOf "need_telling" "need_telling" (defArgs s_need_telling) (defBody s_need_telling) (defScope s_need_telling) .none kV11 dc11 pm11 an11 cd11 ct11), sl11⟩) (c11 : PySem.W.codeIn K cd11 "need_telling" = true) (k11 : PySem.W.keepIn K (.ref f11) = true)
    {f12 : Addr} {od12 an12 : Option Addr} {sl12 : Array (Option Value)} {oc12 kV12 dc12 pm12 cd12 ct12 : Value} (a12 : PySem.W.nsIn K mainGlobals "telling_of_done" = some (some (.ref f12)))
    (l12 : K.lookup f12 = some ⟨oc12, od12, .func (PySem.W.fnOf "telling_of_done" "telling_of_done" (defArgs s_telling_of_done) (defBody s_telling_of_done) (defScope s_telling_of_done) .none kV12 dc12 pm12 an12 cd12 ct12), sl12⟩) (c12 : PySem.W.codeIn K cd12 "telling_of_done" = true) (k12 : PySem.W.keepIn K (.ref f12) = true)
    {f13 : Addr} {od13 an13 : Option Addr} {sl13 : Array (Option Value)} {oc13 kV13 dc13 pm13 cd13 ct13 : Value} (a13 : PySem.W.nsIn K mainGlobals "is_whole_history" = some (some (.ref f13)))
    (l13 : K.lookup f13 = some ⟨oc13, od13, .func (PySem.W.fnOf "is_whole_history" "is_whole_history" (defArgs s_is_whole_history) (defBody s_is_whole_history) (defScope s_is_whole_history) .none kV13 dc13 pm13 an13 cd13 ct13), sl13⟩) (c13 : PySem.W.codeIn K cd13 "is_whole_history" = true) (k13 : PySem.W.keepIn K (.ref f13) = true)
    {f14 : Addr} {od14 an14 : Option Addr} {sl14 : Array (Option Value)} {oc14 kV14 dc14 pm14 cd14 ct14 : Value} (a14 : PySem.W.nsIn K mainGlobals "is_history_for" = some (some (.ref f14)))
    (l14 : K.lookup f14 = some ⟨oc14, od14, .func (PySem.W.fnOf "is_history_for" "is_history_for" (defArgs s_is_history_for) (defBody s_is_history_for) (defScope s_is_history_for) .none kV14 dc14 pm14 an14 cd14 ct14), sl14⟩) (c14 : PySem.W.codeIn K cd14 "is_history_for" = true) (k14 : PySem.W.keepIn K (.ref f14) = true)
    {f15 : Addr} {od15 an15 : Option Addr} {sl15 : Array (Option Value)} {oc15 kV15 dc15 pm15 cd15 ct15 : Value} (a15 : PySem.W.nsIn K mainGlobals "_law_dish" = some (some (.ref f15)))
    (l15 : K.lookup f15 = some ⟨oc15, od15, .func (PySem.W.fnOf "_law_dish" "_law_dish" (defArgs s_law_dish) (defBody s_law_dish) (defScope s_law_dish) .none kV15 dc15 pm15 an15 cd15 ct15), sl15⟩) (c15 : PySem.W.codeIn K cd15 "_law_dish" = true) (k15 : PySem.W.keepIn K (.ref f15) = true)
    {f16 : Addr} {od16 an16 : Option Addr} {sl16 : Array (Option Value)} {oc16 kV16 dc16 pm16 cd16 ct16 : Value} (a16 : PySem.W.nsIn K mainGlobals "_law_spoon" = some (some (.ref f16)))
    (l16 : K.lookup f16 = some ⟨oc16, od16, .func (PySem.W.fnOf "_law_spoon" "_law_spoon" (defArgs s_law_spoon) (defBody s_law_spoon) (defScope s_law_spoon) .none kV16 dc16 pm16 an16 cd16 ct16), sl16⟩) (c16 : PySem.W.codeIn K cd16 "_law_spoon" = true) (k16 : PySem.W.keepIn K (.ref f16) = true)
    {f17 : Addr} {od17 an17 : Option Addr} {sl17 : Array (Option Value)} {oc17 kV17 dc17 pm17 cd17 ct17 : Value} (a17 : PySem.W.nsIn K mainGlobals "_law_row" = some (some (.ref f17)))
    (l17 : K.lookup f17 = some ⟨oc17, od17, .func (PySem.W.fnOf "_law_row" "_law_row" (defArgs s_law_row) (defBody s_law_row) (defScope s_law_row) .none kV17 dc17 pm17 an17 cd17 ct17), sl17⟩) (c17 : PySem.W.codeIn K cd17 "_law_row" = true) (k17 : PySem.W.keepIn K (.ref f17) = true)
    {f18 : Addr} {od18 an18 : Option Addr} {sl18 : Array (Option Value)} {oc18 kV18 dc18 pm18 cd18 ct18 : Value} (a18 : PySem.W.nsIn K mainGlobals "_law_threes" = some (some (.ref f18)))
    (l18 : K.lookup f18 = some ⟨oc18, od18, .func (PySem.W.fnOf "_law_threes" "_law_threes" (defArgs s_law_threes) (defBody s_law_threes) (defScope s_law_threes) .none kV18 dc18 pm18 an18 cd18 ct18), sl18⟩) (c18 : PySem.W.codeIn K cd18 "_law_threes" = true) (k18 : PySem.W.keepIn K (.ref f18) = true)
    {f19 : Addr} {od19 an19 : Option Addr} {sl19 : Array (Option Value)} {oc19 kV19 dc19 pm19 cd19 ct19 : Value} (a19 : PySem.W.nsIn K mainGlobals "_law_gone" = some (some (.ref f19)))
    (l19 : K.lookup f19 = some ⟨oc19, od19, .func (PySem.W.fnOf "_law_gone" "_law_gone" (defArgs s_law_gone) (defBody s_law_gone) (defScope s_law_gone) .none kV19 dc19 pm19 an19 cd19 ct19), sl19⟩) (c19 : PySem.W.codeIn K cd19 "_law_gone" = true) (k19 : PySem.W.keepIn K (.ref f19) = true)
    {f20 : Addr} {od20 an20 : Option Addr} {sl20 : Array (Option Value)} {oc20 kV20 dc20 pm20 cd20 ct20 : Value} (a20 : PySem.W.nsIn K mainGlobals "_law_ways" = some (some (.ref f20)))
    (l20 : K.lookup f20 = some ⟨oc20, od20, .func (PySem.W.fnOf "_law_ways" "_law_ways" (defArgs s_law_ways) (defBody s_law_ways) (defScope s_law_ways) .none kV20 dc20 pm20 an20 cd20 ct20), sl20⟩) (c20 : PySem.W.codeIn K cd20 "_law_ways" = true) (k20 : PySem.W.keepIn K (.ref f20) = true)
    {f21 : Addr} {od21 an21 : Option Addr} {sl21 : Array (Option Value)} {oc21 kV21 dc21 pm21 cd21 ct21 : Value} (a21 : PySem.W.nsIn K mainGlobals "_law_stirred" = some (some (.ref f21)))
    (l21 : K.lookup f21 = some ⟨oc21, od21, .func (PySem.W.fnOf "_law_stirred" "_law_stirred" (defArgs s_law_stirred) (defBody s_law_stirred) (defScope s_law_stirred) .none kV21 dc21 pm21 an21 cd21 ct21), sl21⟩) (c21 : PySem.W.codeIn K cd21 "_law_stirred" = true) (k21 : PySem.W.keepIn K (.ref f21) = true)
    {f22 : Addr} {od22 an22 : Option Addr} {sl22 : Array (Option Value)} {oc22 kV22 dc22 pm22 cd22 ct22 : Value} (a22 : PySem.W.nsIn K mainGlobals "_law_bent" = some (some (.ref f22)))
    (l22 : K.lookup f22 = some ⟨oc22, od22, .func (PySem.W.fnOf "_law_bent" "_law_bent" (defArgs s_law_bent) (defBody s_law_bent) (defScope s_law_bent) .none kV22 dc22 pm22 an22 cd22 ct22), sl22⟩) (c22 : PySem.W.codeIn K cd22 "_law_bent" = true) (k22 : PySem.W.keepIn K (.ref f22) = true)
    {f23 : Addr} {od23 an23 : Option Addr} {sl23 : Array (Option Value)} {oc23 kV23 dc23 pm23 cd23 ct23 : Value} (a23 : PySem.W.nsIn K mainGlobals "_law_follows" = some (some (.ref f23)))
    (l23 : K.lookup f23 = some ⟨oc23, od23, .func (PySem.W.fnOf "_law_follows" "_law_follows" (defArgs s_law_follows) (defBody s_law_follows) (defScope s_law_follows) .none kV23 dc23 pm23 an23 cd23 ct23), sl23⟩) (c23 : PySem.W.codeIn K cd23 "_law_follows" = true) (k23 : PySem.W.keepIn K (.ref f23) = true)
    {f24 : Addr} {od24 an24 : Option Addr} {sl24 : Array (Option Value)} {oc24 kV24 dc24 pm24 cd24 ct24 : Value} (a24 : PySem.W.nsIn K mainGlobals "_law_due" = some (some (.ref f24)))
    (l24 : K.lookup f24 = some ⟨oc24, od24, .func (PySem.W.fnOf "_law_due" "_law_due" (defArgs s_law_due) (defBody s_law_due) (defScope s_law_due) .none kV24 dc24 pm24 an24 cd24 ct24), sl24⟩) (c24 : PySem.W.codeIn K cd24 "_law_due" = true) (k24 : PySem.W.keepIn K (.ref f24) = true)
    {f25 : Addr} {od25 an25 : Option Addr} {sl25 : Array (Option Value)} {oc25 kV25 dc25 pm25 cd25 ct25 : Value} (a25 : PySem.W.nsIn K mainGlobals "_law_things" = some (some (.ref f25)))
    (l25 : K.lookup f25 = some ⟨oc25, od25, .func (PySem.W.fnOf "_law_things" "_law_things" (defArgs s_law_things) (defBody s_law_things) (defScope s_law_things) .none kV25 dc25 pm25 an25 cd25 ct25), sl25⟩) (c25 : PySem.W.codeIn K cd25 "_law_things" = true) (k25 : PySem.W.keepIn K (.ref f25) = true)
    {f26 : Addr} {od26 an26 : Option Addr} {sl26 : Array (Option Value)} {oc26 kV26 dc26 pm26 cd26 ct26 : Value} (a26 : PySem.W.nsIn K mainGlobals "law" = some (some (.ref f26)))
    (l26 : K.lookup f26 = some ⟨oc26, od26, .func (PySem.W.fnOf "law" "law" (defArgs s_law) (defBody s_law) (defScope s_law) .none kV26 dc26 pm26 an26 cd26 ct26), sl26⟩) (c26 : PySem.W.codeIn K cd26 "law" = true) (k26 : PySem.W.keepIn K (.ref f26) = true)
    (b_abs : PySem.W.nsIn K mainGlobals "abs" = some none)
    (b_all : PySem.W.nsIn K mainGlobals "all" = some none)
    (b_bool : PySem.W.nsIn K mainGlobals "bool" = some none)
    (b_dict : PySem.W.nsIn K mainGlobals "dict" = some none)
    (b_enumerate : PySem.W.nsIn K mainGlobals "enumerate" = some none)
    (b_int : PySem.W.nsIn K mainGlobals "int" = some none)
    (b_isinstance : PySem.W.nsIn K mainGlobals "isinstance" = some none)
    (b_len : PySem.W.nsIn K mainGlobals "len" = some none)
    (b_list : PySem.W.nsIn K mainGlobals "list" = some none)
    (b_max : PySem.W.nsIn K mainGlobals "max" = some none)
    (b_min : PySem.W.nsIn K mainGlobals "min" = some none)
    (b_range : PySem.W.nsIn K mainGlobals "range" = some none)
    (b_repr : PySem.W.nsIn K mainGlobals "repr" = some none)
    (b_set : PySem.W.nsIn K mainGlobals "set" = some none)
    (b_sorted : PySem.W.nsIn K mainGlobals "sorted" = some none)
    (b_str : PySem.W.nsIn K mainGlobals "str" = some none)
    (b_tuple : PySem.W.nsIn K mainGlobals "tuple" = some none)
    {t0 : Nat} (v_HIGH : PySem.W.nsIn K mainGlobals "HIGH" = some (some (.str "high" t0)))
    {t1 : Nat} (v_LOW : PySem.W.nsIn K mainGlobals "LOW" = some (some (.str "low" t1)))
    {t2 : Nat} (v_MOST_CARD : PySem.W.nsIn K mainGlobals "MOST_CARD" = some (some (.int 999999999 t2)))
    {t3 : Nat} (v_MOST_CARDS : PySem.W.nsIn K mainGlobals "MOST_CARDS" = some (some (.int 24 t3)))
    : ∃ fd : FuncData, Binds K fd ["_law_script"] [] ∧ ∀ base : Heap, K.In base → base.Ns mainGlobals mg → FnG l.prog w K mg base 9 fa fd ["_law_script"] (lfSp K 1 [] S_law) := by
  have T : Bl mg := ⟨PySem.W.mg_none_of X G b_abs, PySem.W.mg_none_of X G b_all, PySem.W.mg_none_of X G b_bool, PySem.W.mg_none_of X G b_dict, PySem.W.mg_none_of X G b_enumerate, PySem.W.mg_none_of X G b_int, PySem.W.mg_none_of X G b_isinstance, PySem.W.mg_none_of X G b_len, PySem.W.mg_none_of X G b_list, PySem.W.mg_none_of X G b_max, PySem.W.mg_none_of X G b_min, PySem.W.mg_none_of X G b_range, PySem.W.mg_none_of X G b_repr, PySem.W.mg_none_of X G b_set, PySem.W.mg_none_of X G b_sorted, PySem.W.mg_none_of X G b_str, PySem.W.mg_none_of X G b_tuple, ⟨_, PySem.W.mg_of X G v_HIGH⟩, ⟨_, PySem.W.mg_of X G v_LOW⟩, ⟨_, PySem.W.mg_of X G v_MOST_CARD⟩, ⟨_, PySem.W.mg_of X G v_MOST_CARDS⟩⟩
  have F0 := fun_mk (st := s_is_card) l0 c0 k0
  have E0 : Fd K mg "is_card" s_is_card ["thing"] f0 _ := ⟨F0, PySem.W.mg_of X G a0, F0.binds fun _ _ _ _ _ _ us hl => match us, hl with | [_], _ => rfl⟩
  have F1 := fun_mk (st := s_is_row) l1 c1 k1
  have E1 : Fd K mg "is_row" s_is_row ["thing"] f1 _ := ⟨F1, PySem.W.mg_of X G a1, F1.binds fun _ _ _ _ _ _ us hl => match us, hl with | [_], _ => rfl⟩
  have F2 := fun_mk (st := s_need_row) l2 c2 k2
  have E2 : Fd K mg "need_row" s_need_row ["thing"] f2 _ := ⟨F2, PySem.W.mg_of X G a2, F2.binds fun _ _ _ _ _ _ us hl => match us, hl with | [_], _ => rfl⟩
  have F3 := fun_mk (st := s_crossing_threes) l3 c3 k3
  have E3 : Fd K mg "crossing_threes" s_crossing_threes ["row"] f3 _ := ⟨F3, PySem.W.mg_of X G a3, F3.binds fun _ _ _ _ _ _ us hl => match us, hl with | [_], _ => rfl⟩
  have F4 := fun_mk (st := s_may_change) l4 c4 k4
  have E4 : Fd K mg "may_change" s_may_change ["row", "thing"] f4 _ := ⟨F4, PySem.W.mg_of X G a4, F4.binds fun _ _ _ _ _ _ us hl => match us, hl with | [_, _], _ => rfl⟩
  have F5 := fun_mk (st := s_led_by) l5 c5 k5
  have E5 : Fd K mg "led_by" s_led_by ["row", "thing"] f5 _ := ⟨F5, PySem.W.mg_of X G a5, F5.binds fun _ _ _ _ _ _ us hl => match us, hl with | [_, _], _ => rfl⟩
  have F6 := fun_mk (st := s_is_history) l6 c6 k6
  have E6 : Fd K mg "is_history" s_is_history ["row", "thing"] f6 _ := ⟨F6, PySem.W.mg_of X G a6, F6.binds fun _ _ _ _ _ _ us hl => match us, hl with | [_, _], _ => rfl⟩
  have F7 := fun_mk (st := s_need_history) l7 c7 k7
  have E7 : Fd K mg "need_history" s_need_history ["row", "history"] f7 _ := ⟨F7, PySem.W.mg_of X G a7, F7.binds fun _ _ _ _ _ _ us hl => match us, hl with | [_, _], _ => rfl⟩
  have F8 := fun_mk (st := s_row_behind) l8 c8 k8
  have E8 : Fd K mg "row_behind" s_row_behind ["row", "history"] f8 _ := ⟨F8, PySem.W.mg_of X G a8, F8.binds fun _ _ _ _ _ _ us hl => match us, hl with | [_, _], _ => rfl⟩
  have F9 := funD_mk (st := s_need_few) (dvs := [V.int 10]) l9 c9 k9 lT9 (by decide) (.cons ⟨_, rfl⟩ .nil)
  have E9 : FdD K mg "need_few" s_need_few ["row", "most"] [V.int 10] [PyData.int 10] f9 _ := ⟨F9, PySem.W.mg_of X G a9, FunD.binds1 (ps := ["row", "most"]) F9 1 0 (by decide) rfl (fun _ _ _ _ _ _ _ us its h1 h2 => match us, its, h1, h2 with | [_], [_], _, _ => ⟨_, rfl, rfl⟩), FunD.binds1 (ps := ["row", "most"]) F9 2 1 (by decide) rfl (fun _ _ _ _ _ _ _ us its h1 h2 => match us, its, h1, h2 with | [_, _], [_], _, _ => ⟨_, rfl, rfl⟩), (.cons (.int _) .nil)⟩
  have F10 := fun_mk (st := s_is_telling_of) l10 c10 k10
  have E10 : Fd K mg "is_telling_of" s_is_telling_of ["row", "thing"] f10 _ := ⟨F10, PySem.W.mg_of X G a10, F10.binds fun _ _ _ _ _ _ us hl => match us, hl with | [_, _], _ => rfl⟩
  have F11 := fun_mk (st := s_need_telling) l11 c11 k11
  have E11 : Fd K mg "need_telling" s_need_telling ["row", "telling"] f11 _ := ⟨F11, PySem.W.mg_of X G a11, F11.binds fun _ _ _ _ _ _ us hl => match us, hl with | [_, _], _ => rfl⟩
  have F12 := fun_mk (st := s_telling_of_done) l12 c12 k12
  have E12 : Fd K mg "telling_of_done" s_telling_of_done ["row", "done"] f12 _ := ⟨F12, PySem.W.mg_of X G a12, F12.binds fun _ _ _ _ _ _ us hl => match us, hl with | [_, _], _ => rfl⟩
  have F13 := fun_mk (st := s_is_whole_history) l13 c13 k13
  have E13 : Fd K mg "is_whole_history" s_is_whole_history ["row", "thing"] f13 _ := ⟨F13, PySem.W.mg_of X G a13, F13.binds fun _ _ _ _ _ _ us hl => match us, hl with | [_, _], _ => rfl⟩
  have F14 := fun_mk (st := s_is_history_for) l14 c14 k14
  have E14 : Fd K mg "is_history_for" s_is_history_for ["row", "telling", "thing"] f14 _ := ⟨F14, PySem.W.mg_of X G a14, F14.binds fun _ _ _ _ _ _ us hl => match us, hl with | [_, _, _], _ => rfl⟩
  have F15 := fun_mk (st := s_law_dish) l15 c15 k15
  have E15 : Fd K mg "_law_dish" s_law_dish ["_law_script", "_law_k"] f15 _ := ⟨F15, PySem.W.mg_of X G a15, F15.binds fun _ _ _ _ _ _ us hl => match us, hl with | [_, _], _ => rfl⟩
  have F16 := fun_mk (st := s_law_spoon) l16 c16 k16
  have E16 : Fd K mg "_law_spoon" s_law_spoon ["_law_dish_here", "_law_many"] f16 _ := ⟨F16, PySem.W.mg_of X G a16, F16.binds fun _ _ _ _ _ _ us hl => match us, hl with | [_, _], _ => rfl⟩
  have F17 := fun_mk (st := s_law_row) l17 c17 k17
  have E17 : Fd K mg "_law_row" s_law_row ["_law_dish_here", "_law_most"] f17 _ := ⟨F17, PySem.W.mg_of X G a17, F17.binds fun _ _ _ _ _ _ us hl => match us, hl with | [_, _], _ => rfl⟩
  have F18 := fun_mk (st := s_law_threes) l18 c18 k18
  have E18 : Fd K mg "_law_threes" s_law_threes ["_law_row_here"] f18 _ := ⟨F18, PySem.W.mg_of X G a18, F18.binds fun _ _ _ _ _ _ us hl => match us, hl with | [_], _ => rfl⟩
  have F19 := fun_mk (st := s_law_gone) l19 c19 k19
  have E19 : Fd K mg "_law_gone" s_law_gone ["_law_dish_here", "_law_row_here"] f19 _ := ⟨F19, PySem.W.mg_of X G a19, F19.binds fun _ _ _ _ _ _ us hl => match us, hl with | [_, _], _ => rfl⟩
  have F20 := fun_mk (st := s_law_ways) l20 c20 k20
  have E20 : Fd K mg "_law_ways" s_law_ways ["_law_row_here", "_law_done"] f20 _ := ⟨F20, PySem.W.mg_of X G a20, F20.binds fun _ _ _ _ _ _ us hl => match us, hl with | [_, _], _ => rfl⟩
  have F21 := fun_mk (st := s_law_stirred) l21 c21 k21
  have E21 : Fd K mg "_law_stirred" s_law_stirred ["_law_dish_here", "_law_ways_here"] f21 _ := ⟨F21, PySem.W.mg_of X G a21, F21.binds fun _ _ _ _ _ _ us hl => match us, hl with | [_, _], _ => rfl⟩
  have F22 := fun_mk (st := s_law_bent) l22 c22 k22
  have E22 : Fd K mg "_law_bent" s_law_bent ["_law_dish_here", "_law_ways_here"] f22 _ := ⟨F22, PySem.W.mg_of X G a22, F22.binds fun _ _ _ _ _ _ us hl => match us, hl with | [_, _], _ => rfl⟩
  have F23 := fun_mk (st := s_law_follows) l23 c23 k23
  have E23 : Fd K mg "_law_follows" s_law_follows ["_law_row_here", "_law_done"] f23 _ := ⟨F23, PySem.W.mg_of X G a23, F23.binds fun _ _ _ _ _ _ us hl => match us, hl with | [_, _], _ => rfl⟩
  have F24 := fun_mk (st := s_law_due) l24 c24 k24
  have E24 : Fd K mg "_law_due" s_law_due ["_law_row_here", "_law_ways_here", "_law_thing"] f24 _ := ⟨F24, PySem.W.mg_of X G a24, F24.binds fun _ _ _ _ _ _ us hl => match us, hl with | [_, _, _], _ => rfl⟩
  have F25 := fun_mk (st := s_law_things) l25 c25 k25
  have E25 : Fd K mg "_law_things" s_law_things ["_law_dish_here", "_law_done"] f25 _ := ⟨F25, PySem.W.mg_of X G a25, F25.binds fun _ _ _ _ _ _ us hl => match us, hl with | [_, _], _ => rfl⟩
  have F26 := fun_mk (st := s_law) l26 c26 k26
  have E26 : Fd K mg "law" s_law ["_law_script"] f26 _ := ⟨F26, PySem.W.mg_of X G a26, F26.binds fun _ _ _ _ _ _ us hl => match us, hl with | [_], _ => rfl⟩
  cases hfa.symm.trans E26.g
  refine ⟨_, E26.b, fun base _ _ => ?_⟩
  have D0 := E0.df (ok_is_card E0 T   : FnG l.prog w K mg base _ _ _ _ _)
  have D1 := E1.df (ok_is_row E1 T D0  : FnG l.prog w K mg base _ _ _ _ _)
  have D2 := E2.df (ok_need_row E2 T D1  : FnG l.prog w K mg base _ _ _ _ _)
  have D3 := E3.df (ok_crossing_threes E3 T D2  : FnG l.prog w K mg base _ _ _ _ _)
  have D4 := E4.df (ok_may_change E4 T D0  : FnG l.prog w K mg base _ _ _ _ _)
  have D5 := E5.df (ok_led_by E5 T D4  : FnG l.prog w K mg base _ _ _ _ _)
  have D6 := E6.df (ok_is_history E6 T D2 D5  : FnG l.prog w K mg base _ _ _ _ _)
  have D7 := E7.df (ok_need_history E7 T D6  : FnG l.prog w K mg base _ _ _ _ _)
  have D8 := E8.df (ok_row_behind E8 T D5 D7  : FnG l.prog w K mg base _ _ _ _ _)
  have D9 := E9.df (ok_need_few E9 T D2  : FnG l.prog w K mg base _ _ _ _ _)
  have DD9 := E9.dfd (ok_need_few E9 T D2  : FnG l.prog w K mg base _ _ _ _ _)
  have D10 := E10.df (ok_is_telling_of E10 T D0 D3  : FnG l.prog w K mg base _ _ _ _ _)
  have D11 := E11.df (ok_need_telling E11 T D10 DD9 : FnG l.prog w K mg base _ _ _ _ _)
  have D12 := E12.df (ok_telling_of_done E12 T D3  : FnG l.prog w K mg base _ _ _ _ _)
  have D13 := E13.df (ok_is_whole_history E13 T D6 D8  : FnG l.prog w K mg base _ _ _ _ _)
  have D14 := E14.df (ok_is_history_for E14 T D11 D12 D13  : FnG l.prog w K mg base _ _ _ _ _)
  have D15 := E15.df (ok_law_dish E15 T   : FnG l.prog w K mg base _ _ _ _ _)
  have D16 := E16.df (ok_law_spoon E16 T   : FnG l.prog w K mg base _ _ _ _ _)
  have D17 := E17.df (ok_law_row E17 T D16  : FnG l.prog w K mg base _ _ _ _ _)
  have D18 := E18.df (ok_law_threes E18 T   : FnG l.prog w K mg base _ _ _ _ _)
  have D19 := E19.df (ok_law_gone E19 T D16  : FnG l.prog w K mg base _ _ _ _ _)
  have D20 := E20.df (ok_law_ways E20 T D18  : FnG l.prog w K mg base _ _ _ _ _)
  have D21 := E21.df (ok_law_stirred E21 T D16  : FnG l.prog w K mg base _ _ _ _ _)
  have D22 := E22.df (ok_law_bent E22 T D16  : FnG l.prog w K mg base _ _ _ _ _)
  have D23 := E23.df (ok_law_follows E23 T   : FnG l.prog w K mg base _ _ _ _ _)
  have D24 := E24.df (ok_law_due E24 T D20 D23  : FnG l.prog w K mg base _ _ _ _ _)
  have D25 := E25.df (ok_law_things E25 T D16  : FnG l.prog w K mg base _ _ _ _ _)
  exact ok_law E26 T D14 D15 D16 D17 D18 D19 D20 D21 D22 D24 D25 
end LW.D

open PySem PySem.W PyProof.Rows
open_top head for PySem.Challenge.rw_threecrossings_k36_histories_of_tellings
theorem PySem.Challenge.cw_threecrossings_k36_histories_of_tellings_holds : PySem.Challenge.rw_threecrossings_k36_histories_of_tellings.Holds := by
  refine head ?_
  k_fill
  refine TX.walkG (l := PySem.Challenge.rw_threecrossings_k36_histories_of_tellings) (n := 63) (k := 9) (x := "_law_script") (S := LW.D.S_law) rfl (by decide) rfl (TX.roomA.mono (by decide)) LW.D.mS_law (fun w h Y => PySem.W.kIn_of Y) ?F LW.D.all_true
  case F =>
    intro w mg fa h KX G hmg
    refine' LW.D.all_of KX G hmg ?a0 ?l0 ?c0 ?k0 ?a1 ?l1 ?c1 ?k1 ?a2 ?l2 ?c2 ?k2 ?a3 ?l3 ?c3 ?k3 ?a4 ?l4 ?c4 ?k4 ?a5 ?l5 ?c5 ?k5 ?a6 ?l6 ?c6 ?k6 ?a7 ?l7 ?c7 ?k7 ?a8 ?l8 ?c8 ?k8 ?a9 ?l9 ?lT9 ?c9 ?k9 ?a10 ?l10 ?c10 ?k10 ?a11 ?l11 ?c11 ?k11 ?a12 ?l12 ?c12 ?k12 ?a13 ?l13 ?c13 ?k13 ?a14 ?l14 ?c14 ?k14 ?a15 ?l15 ?c15 ?k15 ?a16 ?l16 ?c16 ?k16 ?a17 ?l17 ?c17 ?k17 ?a18 ?l18 ?c18 ?k18 ?a19 ?l19 ?c19 ?k19 ?a20 ?l20 ?c20 ?k20 ?a21 ?l21 ?c21 ?k21 ?a22 ?l22 ?c22 ?k22 ?a23 ?l23 ?c23 ?k23 ?a24 ?l24 ?c24 ?k24 ?a25 ?l25 ?c25 ?k25 ?a26 ?l26 ?c26 ?k26 ?b_abs ?b_all ?b_bool ?b_dict ?b_enumerate ?b_int ?b_isinstance ?b_len ?b_list ?b_max ?b_min ?b_range ?b_repr ?b_set ?b_sorted ?b_str ?b_tuple ?v_HIGH ?v_LOW ?v_MOST_CARD ?v_MOST_CARDS
    (case a0 => k_is)
    (case l0 => k_is)
    (case c0 => k_is)
    (case k0 => k_is)
    (case a1 => k_is)
    (case l1 => k_is)
    (case c1 => k_is)
    (case k1 => k_is)
    (case a2 => k_is)
    (case l2 => k_is)
    (case c2 => k_is)
    (case k2 => k_is)
    (case a3 => k_is)
    (case l3 => k_is)
    (case c3 => k_is)
    (case k3 => k_is)
    (case a4 => k_is)
    (case l4 => k_is)
    (case c4 => k_is)
    (case k4 => k_is)
    (case a5 => k_is)
    (case l5 => k_is)
    (case c5 => k_is)
    (case k5 => k_is)
    (case a6 => k_is)
    (case l6 => k_is)
    (case c6 => k_is)
    (case k6 => k_is)
    (case a7 => k_is)
    (case l7 => k_is)
    (case c7 => k_is)
    (case k7 => k_is)
    (case a8 => k_is)
    (case l8 => k_is)
    (case c8 => k_is)
    (case k8 => k_is)
    (case a9 => k_is)
    (case l9 => k_is)
    (case lT9 => k_is)
    (case c9 => k_is)
    (case k9 => k_is)
    (case a10 => k_is)
    (case l10 => k_is)
    (case c10 => k_is)
    (case k10 => k_is)
    (case a11 => k_is)
    (case l11 => k_is)
    (case c11 => k_is)
    (case k11 => k_is)
    (case a12 => k_is)
    (case l12 => k_is)
    (case c12 => k_is)
    (case k12 => k_is)
    (case a13 => k_is)
    (case l13 => k_is)
    (case c13 => k_is)
    (case k13 => k_is)
    (case a14 => k_is)
    (case l14 => k_is)
    (case c14 => k_is)
    (case k14 => k_is)
    (case a15 => k_is)
    (case l15 => k_is)
    (case c15 => k_is)
    (case k15 => k_is)
    (case a16 => k_is)
    (case l16 => k_is)
    (case c16 => k_is)
    (case k16 => k_is)
    (case a17 => k_is)
    (case l17 => k_is)
    (case c17 => k_is)
    (case k17 => k_is)
    (case a18 => k_is)
    (case l18 => k_is)
    (case c18 => k_is)
    (case k18 => k_is)
    (case a19 => k_is)
    (case l19 => k_is)
    (case c19 => k_is)
    (case k19 => k_is)
    (case a20 => k_is)
    (case l20 => k_is)
    (case c20 => k_is)
    (case k20 => k_is)
    (case a21 => k_is)
    (case l21 => k_is)
    (case c21 => k_is)
    (case k21 => k_is)
    (case a22 => k_is)
    (case l22 => k_is)
    (case c22 => k_is)
    (case k22 => k_is)
    (case a23 => k_is)
    (case l23 => k_is)
    (case c23 => k_is)
    (case k23 => k_is)
    (case a24 => k_is)
    (case l24 => k_is)
    (case c24 => k_is)
    (case k24 => k_is)
    (case a25 => k_is)
    (case l25 => k_is)
    (case c25 => k_is)
    (case k25 => k_is)
    (case a26 => k_is)
    (case l26 => k_is)
    (case c26 => k_is)
    (case k26 => k_is)
    (case b_abs => k_is)
    (case b_all => k_is)
    (case b_bool => k_is)
    (case b_dict => k_is)
    (case b_enumerate => k_is)
    (case b_int => k_is)
    (case b_isinstance => k_is)
    (case b_len => k_is)
    (case b_list => k_is)
    (case b_max => k_is)
    (case b_min => k_is)
    (case b_range => k_is)
    (case b_repr => k_is)
    (case b_set => k_is)
    (case b_sorted => k_is)
    (case b_str => k_is)
    (case b_tuple => k_is)
    (case v_HIGH => k_is)
    (case v_LOW => k_is)
    (case v_MOST_CARD => k_is)
    (case v_MOST_CARDS => k_is)

