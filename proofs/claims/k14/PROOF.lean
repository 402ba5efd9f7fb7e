import PyProof.Rows.All
import Wide.All
import OpenK.AllK
import Wide.FinOn
import HandS.ForMost
import HandS.ForExc
import HandS.CallSlots
import HandS.ExcCtx
import HandS.Wide
import HandS.IsInst
import KE.SortData
import HandS.More
import HandS.Deep
import HandS.Style
import HandS.Zip
import KE.DataAny
import HandS.ForDict
import HandS.Small
import HandS.Conv
import HandS.DictComp
import PyProof.P3In
import HandS.TupLe
import HandS.TupAny
import HandS.TryOnly
import HandS.Iter
import HandS.DictEq
import KE.KEqDict
import HandS.Finally
import HandS.DictTup
import KE.KDictSum
import HandS.ExcValue
import HandS.Comp
import HandS.Defaults
import HandS.Text
import HandS.Steps
import HandS.Codes
import KE.KItemsList
import KE.KDictPairs
import HandS.ListItems
import KE.KDictZip
import KE.KDictCopyH
import KE.KDictDisplayH
import HandS.SetFor
import HandS.Strs
import HandS.RaiseMore
import HandS.ExcIs
import KE.KIsAll
import PySem.Challenge.RW_threecrossings_k14_letters_heard
set_option Elab.async false
set_option linter.all false
set_option maxRecDepth 100000
set_option maxHeartbeats 4000000
/-! Values as trees over the hand layer: T, what a tree is in a heap (Tr), the state of a def's frame (Rel). -/
namespace TX
open PySem PySem.Spec L2

/-- who owns an address: nobody (shared, never changed), somebody further out, or the tree at root r, at path p -/
inductive Lb where
  | free
  | foreign
  | at (r : Nat) (p : List Nat)
  deriving DecidableEq
abbrev Own := Addr → Lb
def msk (O : Own) (H : Hp) : Hp := fun b => if O b = .free then H b else none
theorem msk_of {O : Own} {H : Hp} {b : Addr} (h : O b = .free) : msk O H b = H b := by unfold msk; rw [if_pos h]
theorem msk_some {O : Own} {H : Hp} {b : Addr} {o : HO} (h : msk O H b = some o) : O b = .free ∧ H b = some o := by
  unfold msk at h
  split at h
  · exact ⟨by assumption, h⟩
  · cases h

/-- a value of the program as a tree: d data that is shared; l, m, o, s a list, a dict, an object, a set of one's own; raw anything that never changes; lk a dict of data, locked; a a place in a tree -/
inductive T where
  | d (x : PyData)
  | l (xs : List T)
  | m (tk : Bool) (ks : List PyData) (xs : List T)
  | o (C : Str) (ns : List Str) (xs : List T)
  | s (S : Int → Bool) (n : Nat)
  | raw (v : V)
  | fz (ns : List Int)
  | lk (tk : Bool) (ks xs : List PyData)
  | a (r : Nat) (p : List Nat)
  | ex (c : Str)
  | cl (c : Str)
  | n (b : Addr) (t : T)

def isNode0 : T → Bool
  | .l _ => true
  | .m _ _ _ => true
  | .o _ _ _ => true
  | .s _ _ => true
  | _ => false
/-- the class of a name, in the module -/
def clsA (K : PySem.W.Frag) (x : Str) : Addr := match PySem.W.nsIn K mainGlobals x with
  | some (some (.ref a)) => a
  | _ => 0
/-- an exception object of a class, held as a value -/
def ExV (cls : Value) (a : Addr) : HO := .ext fun h => ∃ (oe : Obj) (vs : Array Value), h.get? a = some oe ∧ Zc cls none oe ∧ oe.data = .fields vs
def keyD : Key → PyData
  | .inl i => .int i
  | .inr x => .str x

/-! ### data in a heap -/
mutual
inductive Rp (K : PySem.W.Frag) (H : Hp) : V → PyData → Prop
  | non : Rp K H .non .none
  | bl (b : Bool) : Rp K H (.bl b) (.bool b)
  | int (i : Int) : Rp K H (.int i) (.int i)
  | str (x : Str) : Rp K H (.str x) (.str x)
  | lst {a : Addr} {xs : List V} {ds : List PyData} : H a = some (.lst xs) → RpAll K H xs ds → Rp K H (.ref a) (.list ds)
  | tup {a : Addr} {xs : List V} {ds : List PyData} : H a = some (.tup xs) → RpAll K H xs ds → Rp K H (.ref a) (.tuple ds)
  | dk {a : Addr} {kvs : List (Key × V)} {ps : List (PyData × PyData)} : Rd H a (.dK kvs) → ps.map (·.1) = kvs.map (fun q => keyD q.1) → RpAll K H (kvs.map (·.2)) (ps.map (·.2)) → Rp K H (.ref a) (.dict ps)
  | dt {a : Addr} {kvs : List (List Key × V)} {ps : List (PyData × PyData)} : Rd H a (.dT kvs) → ps.map (·.1) = kvs.map (fun q => PyData.tuple (q.1.map keyD)) → RpAll K H (kvs.map (·.2)) (ps.map (·.2)) → Rp K H (.ref a) (.dict ps)
inductive RpAll (K : PySem.W.Frag) (H : Hp) : List V → List PyData → Prop
  | nil : RpAll K H [] []
  | cons {v : V} {vs : List V} {d : PyData} {ds : List PyData} : Rp K H v d → RpAll K H vs ds → RpAll K H (v :: vs) (d :: ds)
end
section
variable {K : PySem.W.Frag} {H H' : Hp}
theorem rd_mono (k : ∀ b o, H b = some o → H' b = some o) {a : Addr} {u : HO} (h : Rd H a u) : Rd H' a u := by
  rcases h with h | ⟨o, h⟩
  · exact .inl (k _ _ h)
  · exact .inr ⟨o, k _ _ h⟩
theorem sql_mono (k : ∀ b o, H b = some o → H' b = some o) {a : Addr} {xs : List V} (h : SqL K H a xs) : SqL K H' a xs := by
  rcases h with h | h
  · exact .inl (rd_mono k h)
  · exact .inr h
mutual
theorem Rp.mono (k : ∀ b o, H b = some o → H' b = some o) : ∀ (d : PyData) (v : V), Rp K H v d → Rp K H' v d
  | .none, _, h => by cases h; exact .non
  | .bool b, _, h => by cases h; exact .bl b
  | .int b, _, h => by cases h; exact .int b
  | .str b, _, h => by cases h; exact .str b
  | .list ds, _, h => by
    cases h with
    | lst h1 h2 => exact .lst (k _ _ h1) (RpAll.mono k ds _ h2)
  | .tuple ds, _, h => by
    cases h with
    | tup h1 h2 => exact .tup (k _ _ h1) (RpAll.mono k ds _ h2)
  | .dict ps, _, h => by
    cases h with
    | dk h1 h2 h3 => exact .dk (rd_mono k h1) h2 (RpAll.monoKv k ps _ h3)
    | dt h1 h2 h3 => exact .dt (rd_mono k h1) h2 (RpAll.monoKv k ps _ h3)
theorem RpAll.mono (k : ∀ b o, H b = some o → H' b = some o) : ∀ (ds : List PyData) (vs : List V), RpAll K H vs ds → RpAll K H' vs ds
  | [], _, h => by cases h; exact .nil
  | d :: ds, _, h => by
    cases h with
    | cons h1 h2 => exact .cons (Rp.mono k d _ h1) (RpAll.mono k ds _ h2)
theorem RpAll.monoKv (k : ∀ b o, H b = some o → H' b = some o) : ∀ (ps : List (PyData × PyData)) (vs : List V), RpAll K H vs (ps.map (·.2)) → RpAll K H' vs (ps.map (·.2))
  | [], _, h => by cases h; exact .nil
  | (a, b) :: ps, _, h => by
    cases h with
    | cons h1 h2 => exact .cons (Rp.mono k b _ h1) (RpAll.monoKv k ps _ h2)
end
theorem RpAll.length : ∀ {vs : List V} {ds : List PyData}, RpAll K H vs ds → vs.length = ds.length
  | _, _, .nil => rfl
  | _, _, .cons _ t => congrArg (· + 1) (RpAll.length t)
theorem RpAll.get : ∀ {vs : List V} {ds : List PyData} {i : Nat} {d : PyData}, RpAll K H vs ds → ds[i]? = some d → ∃ v, vs[i]? = some v ∧ Rp K H v d
  | _, _, _, _, .nil, e => by simp at e
  | _, _, 0, _, .cons r _, e => by simp at e; subst e; exact ⟨_, rfl, r⟩
  | _, _, i + 1, _, .cons _ t, e => by
    obtain ⟨v, h1, h2⟩ := RpAll.get (i := i) t (by simpa using e)
    exact ⟨v, by simpa using h1, h2⟩
theorem RpAll.append : ∀ {vs ws : List V} {ds es : List PyData}, RpAll K H vs ds → RpAll K H ws es → RpAll K H (vs ++ ws) (ds ++ es)
  | _, _, _, _, .nil, s => s
  | _, _, _, _, .cons r t, s => .cons r (RpAll.append t s)
theorem RpAll.take : ∀ {vs : List V} {ds : List PyData} (n : Nat), RpAll K H vs ds → RpAll K H (vs.take n) (ds.take n)
  | _, _, 0, _ => .nil
  | _, _, _ + 1, .nil => .nil
  | _, _, n + 1, .cons r t => .cons r (RpAll.take n t)
theorem RpAll.drop : ∀ {vs : List V} {ds : List PyData} (n : Nat), RpAll K H vs ds → RpAll K H (vs.drop n) (ds.drop n)
  | _, _, 0, r => r
  | _, _, _ + 1, .nil => .nil
  | _, _, n + 1, .cons _ t => RpAll.drop n t
theorem RpAll.reverse : ∀ {vs : List V} {ds : List PyData}, RpAll K H vs ds → RpAll K H vs.reverse ds.reverse
  | _, _, .nil => .nil
  | _, _, .cons r t => by
    rw [List.reverse_cons, List.reverse_cons]
    exact (RpAll.reverse t).append (.cons r .nil)
theorem RpAll.eraseIdx : ∀ {vs : List V} {ds : List PyData} (i : Nat), RpAll K H vs ds → RpAll K H (vs.eraseIdx i) (ds.eraseIdx i)
  | _, _, _, .nil => .nil
  | _, _, 0, .cons _ t => t
  | _, _, i + 1, .cons r t => .cons r (RpAll.eraseIdx i t)
theorem RpAll.set {x : V} {d : PyData} (r : Rp K H x d) : ∀ {vs : List V} {ds : List PyData} (i : Nat), RpAll K H vs ds → RpAll K H (vs.set i x) (ds.set i d)
  | _, _, _, .nil => .nil
  | _, _, 0, .cons _ t => .cons r t
  | _, _, i + 1, .cons q t => .cons q (RpAll.set r i t)
end

/-! data without lists and dicts in it -/
mutual
def imm : PyData → Bool
  | .list _ => false
  | .dict _ => false
  | .tuple xs => immAll xs
  | _ => true
def immAll : List PyData → Bool
  | [] => true
  | x :: xs => imm x && immAll xs
end
/-- what owned addresses hold -/
def ownable : HO → Prop
  | .lst _ => True
  | .dK _ => True
  | .dT _ => True
  | .set _ _ => True
  | .ins _ _ _ => True
  | _ => False
mutual
theorem Rp.imm {K : PySem.W.Frag} {H : Hp} {O : Own} (k : ∀ b, O b ≠ .free → ∃ o, H b = some o ∧ ownable o) : ∀ (d : PyData) (v : V), imm d = true → Rp K H v d → Rp K (msk O H) v d
  | .none, _, _, h => by cases h; exact .non
  | .bool b, _, _, h => by cases h; exact .bl b
  | .int b, _, _, h => by cases h; exact .int b
  | .str b, _, _, h => by cases h; exact .str b
  | .list ds, _, e, h => by simp [TX.imm] at e
  | .tuple ds, _, e, h => by
    cases h with
    | @tup a xs _ h1 h2 =>
      refine .tup ?_ (RpAll.imm k ds _ (by simpa [TX.imm] using e) h2)
      by_cases z : O a = .free
      · rw [msk_of z]; exact h1
      · obtain ⟨o', e', w⟩ := k a z
        rw [h1] at e'; cases e'
        exact absurd w (fun q => q)
  | .dict ps, _, e, h => by simp [TX.imm] at e
theorem RpAll.imm {K : PySem.W.Frag} {H : Hp} {O : Own} (k : ∀ b, O b ≠ .free → ∃ o, H b = some o ∧ ownable o) : ∀ (ds : List PyData) (vs : List V), immAll ds = true → RpAll K H vs ds → RpAll K (msk O H) vs ds
  | [], _, _, h => by cases h; exact .nil
  | d :: ds, _, e, h => by
    cases h with
    | cons h1 h2 =>
      simp [immAll] at e
      exact .cons (Rp.imm k d _ e.1 h1) (RpAll.imm k ds _ e.2 h2)
end

/-! ### trees in a heap -/
mutual
inductive Tr (K : PySem.W.Frag) (H : Hp) (O : Own) : Nat → List Nat → V → T → Prop
  | d {r p v x} : Rp K (msk O H) v x → Tr K H O r p v (.d x)
  | l {r p a vs ts} : O a = .at r p → H a = some (.lst vs) → TrAll K H O r p 0 vs ts → Tr K H O r p (.ref a) (.l ts)
  | mk {r p a kvs ks ts} : O a = .at r p → H a = some (.dK kvs) → ks = kvs.map (fun q => keyD q.1) → TrAll K H O r p 0 (kvs.map (·.2)) ts → Tr K H O r p (.ref a) (.m false ks ts)
  | mt {r p a kvs ks ts} : O a = .at r p → H a = some (.dT kvs) → ks = kvs.map (fun q => PyData.tuple (q.1.map keyD)) → TrAll K H O r p 0 (kvs.map (·.2)) ts → Tr K H O r p (.ref a) (.m true ks ts)
  | o {r p a C dx fs ns ts} : O a = .at r p → H a = some (.ins (clsA K C) dx fs) → ns = fs.map (·.1) → TrAll K H O r p 0 (fs.map (·.2)) ts → Tr K H O r p (.ref a) (.o C ns ts)
  | s {r p a S n} : O a = .at r p → H a = some (.set S n) → Tr K H O r p (.ref a) (.s S n)
  | raw {r p v} : Tr K H O r p v (.raw v)
  | fz {r p a ns} : SqL K (msk O H) a (ns.map V.int) → Tr K H O r p (.ref a) (.fz ns)
  | lk {r p a od kvs ks xs} : O a = .free → H a = some (.frz od (.dK kvs)) → ks = kvs.map (fun q => keyD q.1) → RpAll K (msk O H) (kvs.map (·.2)) xs → Tr K H O r p (.ref a) (.lk false ks xs)
  | lt {r p a od kvs ks xs} : O a = .free → H a = some (.frz od (.dT kvs)) → ks = kvs.map (fun q => PyData.tuple (q.1.map keyD)) → RpAll K (msk O H) (kvs.map (·.2)) xs → Tr K H O r p (.ref a) (.lk true ks xs)
  | ex {r p a c} : O a = .free → H a = some (ExV (.ref (clsA K c)) a) → Tr K H O r p (.ref a) (.ex c)
  | cl {r p c} : Tr K H O r p (.ref (clsA K c)) (.cl c)
  | n {r p b t} : isNode0 t = true → Tr K H O r p (.ref b) t → Tr K H O r p (.ref b) (.n b t)
inductive TrAll (K : PySem.W.Frag) (H : Hp) (O : Own) : Nat → List Nat → Nat → List V → List T → Prop
  | nil {r p k} : TrAll K H O r p k [] []
  | cons {r p k v vs t ts} : Tr K H O r (p ++ [k]) v t → TrAll K H O r p (k + 1) vs ts → TrAll K H O r p k (v :: vs) (t :: ts)
end

/-! what a tree's being there leans on: free objects, and the objects at labels of its own root that begin with its path; moved to another root and path -/
mutual
theorem Tr.move {K : PySem.W.Frag} {H H' : Hp} {O O' : Own} {r r' : Nat} {p0 p1 : List Nat} (hf : ∀ b o, H b = some o → O b = .free → H' b = some o ∧ O' b = .free)
    (hl : ∀ b o q, H b = some o → O b = .at r (p0 ++ q) → H' b = some o ∧ O' b = .at r' (p1 ++ q)) : ∀ (t : T) (q : List Nat) (v : V), Tr K H O r (p0 ++ q) v t → Tr K H' O' r' (p1 ++ q) v t
  | .d x, q, v, h => by
    cases h with
    | d h => exact .d (Rp.mono (fun b o e => by obtain ⟨e1, e2⟩ := msk_some e; obtain ⟨z1, z2⟩ := hf b o e2 e1; rw [msk_of z2]; exact z1) _ _ h)
  | .l ts, q, v, h => by
    cases h with
    | l h1 h2 h3 => obtain ⟨z1, z2⟩ := hl _ _ q h2 h1; exact .l z2 z1 (TrAll.move hf hl ts q 0 _ h3)
  | .m tk ks ts, q, v, h => by
    cases h with
    | mk h1 h2 h3 h4 => obtain ⟨z1, z2⟩ := hl _ _ q h2 h1; exact .mk z2 z1 h3 (TrAll.move hf hl ts q 0 _ h4)
    | mt h1 h2 h3 h4 => obtain ⟨z1, z2⟩ := hl _ _ q h2 h1; exact .mt z2 z1 h3 (TrAll.move hf hl ts q 0 _ h4)
  | .o C ns ts, q, v, h => by
    cases h with
    | o h1 h2 h3 h4 => obtain ⟨z1, z2⟩ := hl _ _ q h2 h1; exact .o z2 z1 h3 (TrAll.move hf hl ts q 0 _ h4)
  | .s S n, q, v, h => by
    cases h with
    | s h1 h2 => obtain ⟨z1, z2⟩ := hl _ _ q h2 h1; exact .s z2 z1
  | .raw v', q, v, h => by cases h; exact .raw
  | .fz ns, q, v, h => by
    cases h with
    | fz h => exact .fz (sql_mono (fun b o e => by obtain ⟨e1, e2⟩ := msk_some e; obtain ⟨z1, z2⟩ := hf b o e2 e1; rw [msk_of z2]; exact z1) h)
  | .lk tk ks xs, q, v, h => by
    have m : ∀ b o, msk O H b = some o → msk O' H' b = some o := fun b o e => by obtain ⟨e1, e2⟩ := msk_some e; obtain ⟨z1, z2⟩ := hf b o e2 e1; rw [msk_of z2]; exact z1
    cases h with
    | lk h1 h2 h3 h4 => obtain ⟨z1, z2⟩ := hf _ _ h2 h1; exact .lk z2 z1 h3 (RpAll.mono m _ _ h4)
    | lt h1 h2 h3 h4 => obtain ⟨z1, z2⟩ := hf _ _ h2 h1; exact .lt z2 z1 h3 (RpAll.mono m _ _ h4)
  | .a _ _, q, v, h => by cases h
  | .ex c, q, v, h => by
    cases h with
    | ex h1 h2 => obtain ⟨z1, z2⟩ := hf _ _ h2 h1; exact .ex z2 z1
  | .cl c, q, v, h => by cases h; exact .cl
  | .n b t, q, v, h => by
    cases h with
    | n h0 h1 => exact .n h0 (Tr.move hf hl t q _ h1)
theorem TrAll.move {K : PySem.W.Frag} {H H' : Hp} {O O' : Own} {r r' : Nat} {p0 p1 : List Nat} (hf : ∀ b o, H b = some o → O b = .free → H' b = some o ∧ O' b = .free)
    (hl : ∀ b o q, H b = some o → O b = .at r (p0 ++ q) → H' b = some o ∧ O' b = .at r' (p1 ++ q)) : ∀ (ts : List T) (q : List Nat) (k : Nat) (vs : List V), TrAll K H O r (p0 ++ q) k vs ts → TrAll K H' O' r' (p1 ++ q) k vs ts
  | [], q, k, vs, h => by cases h; exact .nil
  | t :: ts, q, k, vs, h => by
    cases h with
    | cons h1 h2 =>
      refine .cons ?_ (TrAll.move hf hl ts q (k + 1) _ h2)
      have := Tr.move hf hl t (q ++ [k]) _ (by rw [← List.append_assoc]; exact h1)
      rw [← List.append_assoc] at this
      exact this
end
theorem TrAll.length {K : PySem.W.Frag} {H : Hp} {O : Own} {r : Nat} {p : List Nat} : ∀ {vs : List V} {ts : List T} {k : Nat}, TrAll K H O r p k vs ts → vs.length = ts.length
  | _, _, _, .nil => rfl
  | _, _, _, .cons _ t => congrArg (· + 1) (TrAll.length t)
theorem TrAll.get {K : PySem.W.Frag} {H : Hp} {O : Own} {r : Nat} {p : List Nat} : ∀ {vs : List V} {ts : List T} {k i : Nat} {t : T}, TrAll K H O r p k vs ts → ts[i]? = some t → ∃ v, vs[i]? = some v ∧ Tr K H O r (p ++ [k + i]) v t
  | _, _, _, _, _, .nil, e => by simp at e
  | _, _, k, 0, _, .cons h _, e => by simp at e; subst e; exact ⟨_, rfl, h⟩
  | _, _, k, i + 1, _, .cons _ h, e => by
    obtain ⟨v, e1, e2⟩ := TrAll.get (i := i) h (by simpa using e)
    exact ⟨v, by simpa using e1, by rw [show k + (i + 1) = k + 1 + i by omega]; exact e2⟩
theorem TrAll.append {K : PySem.W.Frag} {H : Hp} {O : Own} {r : Nat} {p : List Nat} : ∀ {vs ws : List V} {ts us : List T} {k : Nat}, TrAll K H O r p k vs ts → TrAll K H O r p (k + ts.length) ws us → TrAll K H O r p k (vs ++ ws) (ts ++ us)
  | _, _, _, _, _, .nil, s => by simpa using s
  | _, _, _, _, k, .cons h t, s => .cons h (TrAll.append t (by simp only [List.length_cons] at s; rw [Nat.add_assoc, Nat.add_comm 1]; exact s))

theorem TrAll.of_get {K : PySem.W.Frag} {H : Hp} {O : Own} {r : Nat} {p : List Nat} : ∀ {vs : List V} {ts : List T} {k : Nat}, vs.length = ts.length →
    (∀ i v t, vs[i]? = some v → ts[i]? = some t → Tr K H O r (p ++ [k + i]) v t) → TrAll K H O r p k vs ts
  | [], [], _, _, _ => .nil
  | [], _ :: _, _, e, _ => by simp at e
  | _ :: _, [], _, e, _ => by simp at e
  | v :: vs, t :: ts, k, e, h => .cons (h 0 v t rfl rfl) (TrAll.of_get (by simpa using e) fun i v' t' e1 e2 => by
      have := h (i + 1) v' t' (by simpa using e1) (by simpa using e2)
      rwa [show k + (i + 1) = k + 1 + i by omega] at this)
theorem TrAll.data {K : PySem.W.Frag} {H : Hp} {O : Own} {r : Nat} {p : List Nat} : ∀ {vs : List V} {ds : List PyData} {k : Nat}, TrAll K H O r p k vs (ds.map T.d) → RpAll K (msk O H) vs ds
  | _, [], _, h => by cases h; exact .nil
  | _, d :: ds, _, h => by
    cases h with
    | cons h1 h2 => cases h1 with | d h1 => exact .cons h1 (TrAll.data h2)
theorem TrAll.ofData {K : PySem.W.Frag} {H : Hp} {O : Own} {r : Nat} {p : List Nat} : ∀ {vs : List V} {ds : List PyData} {k : Nat}, RpAll K (msk O H) vs ds → TrAll K H O r p k vs (ds.map T.d)
  | _, [], _, h => by cases h; exact .nil
  | _, d :: ds, _, h => by
    cases h with
    | cons h1 h2 => exact .cons (.d h1) (TrAll.ofData h2)

/-! ### places in a tree -/
def strip : T → T
  | .n _ t => t
  | t => t
def kid0 : T → Nat → Option T
  | .l ts, k => ts[k]?
  | .m _ _ ts, k => ts[k]?
  | .o _ _ ts, k => ts[k]?
  | _, _ => none
def kid (t : T) (k : Nat) : Option T := kid0 (strip t) k
def setKid0 : T → Nat → T → T
  | .l ts, k, u => .l (ts.set k u)
  | .m tk ks ts, k, u => .m tk ks (ts.set k u)
  | .o C ns ts, k, u => .o C ns (ts.set k u)
  | t, _, _ => t
def setKid : T → Nat → T → T
  | .n b t, k, u => .n b (setKid0 t k u)
  | t, k, u => setKid0 t k u
def subT : T → List Nat → Option T
  | t, [] => some t
  | t, k :: q => match kid t k with
    | some u => subT u q
    | none => none
def isNode (t : T) : Bool := isNode0 (strip t)
/-- another thing at the same address -/
def retag : T → T → T
  | .n b _, u => if isNode u = true then .n b (strip u) else u
  | _, u => u
def putT : T → T → List Nat → T
  | t, u, [] => retag t u
  | t, u, k :: q => match kid t k with
    | some c => setKid t k (putT c u q)
    | none => t
theorem subT_append : ∀ {t : T} {q q' : List Nat} {u : T}, subT t q = some u → subT t (q ++ q') = subT u q'
  | t, [], q', u, h => by cases h; rfl
  | t, k :: q, q', u, h => by
    simp only [subT, List.cons_append] at h ⊢
    cases e : kid t k with
    | none => rw [e] at h; cases h
    | some c => rw [e] at h; exact subT_append h
theorem set_self {α : Type} : ∀ {l : List α} {k : Nat} {x : α}, l[k]? = some x → ∀ y, (l.set k y)[k]? = some y
  | [], _, _, h, _ => by simp at h
  | _ :: _, 0, _, _, _ => rfl
  | _ :: l, k + 1, x, h, y => by simpa using set_self (l := l) (by simpa using h) y
theorem kid_set {t : T} {k : Nat} {c : T} (h : kid t k = some c) (u : T) (j : Nat) : kid (setKid t k u) j = if j = k then some u else kid t j := by
  have gen : ∀ (ts : List T), ts[k]? = some c → (ts.set k u)[j]? = if j = k then some u else ts[j]? := fun ts h => by
    by_cases e : j = k
    · subst e; rw [if_pos rfl]; exact set_self h u
    · rw [if_neg e, List.getElem?_set_ne (fun z => e z.symm)]
  have g0 : ∀ t : T, kid0 t k = some c → kid0 (setKid0 t k u) j = if j = k then some u else kid0 t j := fun t h => by
    cases t with
    | l ts => exact gen ts h
    | m tk ks ts => exact gen ts h
    | o C ns ts => exact gen ts h
    | _ => cases h
  cases t with
  | l ts => exact gen ts h
  | m tk ks ts => exact gen ts h
  | o C ns ts => exact gen ts h
  | n b t => exact g0 t h
  | _ => cases h
theorem subT_put : ∀ {q : List Nat} {t c u : T}, subT t q = some c → subT (putT t u q) q = some (retag c u)
  | [], t, c, u, h => by cases h; rfl
  | k :: q, t, c, u, h => by
    simp only [subT] at h
    cases e : kid t k with
    | none => rw [e] at h; cases h
    | some z =>
      rw [e] at h
      simp only [putT, e]
      simp only [subT]
      rw [kid_set e, if_pos rfl]
      exact subT_put h
/-- at a place that does not lie under q the tree is a node where it was -/
theorem setKid0_node {t : T} {k : Nat} {u : T} : isNode0 (setKid0 t k u) = isNode0 t := by cases t <;> rfl
theorem setKid_node {t : T} {k : Nat} {u : T} : isNode (setKid t k u) = isNode t := by
  cases t with
  | n b t => exact setKid0_node
  | _ => rfl
theorem subT_put_ne : ∀ {q : List Nat} {t c u : T} {q' : List Nat} {z : T}, subT t q = some c → ¬ q <+: q' → subT t q' = some z → isNode z = true → ∃ z', subT (putT t u q) q' = some z' ∧ isNode z' = true
  | [], _, _, _, q', _, _, h, _, _ => absurd (List.nil_prefix) h
  | k :: q, t, c, u, [], z, h, _, e, n => by
    simp only [subT, Option.some.injEq] at e
    subst e
    simp only [subT] at h
    cases e : kid t k with
    | none => rw [e] at h; cases h
    | some w =>
      simp only [putT, e]
      exact ⟨_, rfl, by rw [setKid_node]; exact n⟩
  | k :: q, t, c, u, j :: q', z, h, np, e, n => by
    simp only [subT] at h
    cases e1 : kid t k with
    | none => rw [e1] at h; cases h
    | some w =>
      rw [e1] at h
      simp only [putT, e1]
      simp only [subT] at e ⊢
      rw [kid_set e1]
      by_cases hj : j = k
      · subst hj
        rw [if_pos rfl]
        rw [e1] at e
        exact subT_put_ne h (fun z => np (List.prefix_cons_inj _ |>.mpr z)) e n
      · rw [if_neg hj]
        exact ⟨z, e, n⟩
theorem Tr.strip {K : PySem.W.Frag} {H : Hp} {O : Own} {r : Nat} {p : List Nat} {v : V} {t : T} (h : Tr K H O r p v t) : Tr K H O r p v (TX.strip t) := by
  cases h with
  | n _ h => exact h
  | d h => exact .d h
  | l h1 h2 h3 => exact .l h1 h2 h3
  | mk h1 h2 h3 h4 => exact .mk h1 h2 h3 h4
  | mt h1 h2 h3 h4 => exact .mt h1 h2 h3 h4
  | o h1 h2 h3 h4 => exact .o h1 h2 h3 h4
  | s h1 h2 => exact .s h1 h2
  | raw => exact .raw
  | fz h => exact .fz h
  | lk h1 h2 h3 h4 => exact .lk h1 h2 h3 h4
  | lt h1 h2 h3 h4 => exact .lt h1 h2 h3 h4
  | ex h1 h2 => exact .ex h1 h2
  | cl => exact .cl
theorem Tr.retag {K : PySem.W.Frag} {H H' : Hp} {O O' : Own} {r r' : Nat} {p p' : List Nat} {v : V} {t u : T} (h : Tr K H O r p v t) (h' : Tr K H' O' r' p' v u) : Tr K H' O' r' p' v (TX.retag t u) := by
  cases h with
  | n h0 h =>
    unfold TX.retag
    simp only
    split
    · rename_i hn; exact .n hn h'.strip
    · exact h'
  | _ => exact h'
theorem strip_node {z : T} (h : isNode z = true) : isNode (TX.strip z) = true := by
  cases z with
  | n b t =>
    have h' : isNode0 t = true := h
    cases t with
    | n _ _ => cases h'
    | _ => exact h'
  | _ => exact h
theorem retag_node {u0 u : T} : isNode (TX.retag u0 u) = isNode u := by
  cases u0 with
  | n b t =>
    unfold TX.retag
    simp only
    split
    · rfl
    · rfl
  | _ => rfl
@[simp] theorem retag_l {xs : List T} {u : T} : TX.retag (.l xs) u = u := rfl
@[simp] theorem retag_m {tk : Bool} {ks : List PyData} {xs : List T} {u : T} : TX.retag (.m tk ks xs) u = u := rfl
@[simp] theorem retag_o {C : Str} {ns : List Str} {xs : List T} {u : T} : TX.retag (.o C ns xs) u = u := rfl
theorem retag_of {t v : T} (h : TX.strip t = t) : TX.retag t v = v := by
  cases t with
  | n b t => exact absurd (congrArg sizeOf h) (by simp [TX.strip])
  | _ => rfl
theorem sub_retag {u0 u' : T} {q : List Nat} {z : T} (h : subT u' q = some z) (hn : isNode z = true) : ∃ z, subT (TX.retag u0 u') q = some z ∧ isNode z = true := by
  cases u0 with
  | n b t0 =>
    cases q with
    | nil =>
      cases h
      exact ⟨_, rfl, by rw [retag_node]; exact hn⟩
    | cons k q =>
      simp only [subT] at h
      have e : kid (TX.retag (.n b t0) u') k = kid u' k := by
        unfold TX.retag
        simp only
        split
        · rfl
        · rfl
      exact ⟨z, by simp only [subT]; rw [e]; exact h, hn⟩
  | _ => exact ⟨z, h, hn⟩
theorem sub_leaf {t : T} {k : Nat} {q : List Nat} (h : isNode t = false) : subT t (k :: q) = none := by
  have e : kid t k = none := by
    cases t with
    | n b t =>
      have h' : isNode0 t = false := h
      cases t with
      | l _ => cases h'
      | m _ _ _ => cases h'
      | o _ _ _ => cases h'
      | s _ _ => cases h'
      | _ => rfl
    | l _ => cases h
    | m _ _ _ => cases h
    | o _ _ _ => cases h
    | s _ _ => cases h
    | _ => rfl
  simp only [subT, e]
theorem sub_strip {u0 : T} {q : List Nat} {z : T} (h : subT u0 q = some z) (hn : isNode z = true) : ∃ z, subT (TX.strip u0) q = some z ∧ isNode z = true := by
  cases q with
  | nil => cases h; exact ⟨_, rfl, strip_node hn⟩
  | cons k q =>
    cases u0 with
    | n b t =>
      cases t with
      | n _ _ => simp only [subT] at h; cases h
      | _ => exact ⟨z, h, hn⟩
    | _ => exact ⟨z, h, hn⟩
theorem Tr.sub {K : PySem.W.Frag} {H : Hp} {O : Own} {r : Nat} : ∀ {q : List Nat} {t u : T} {p : List Nat} {v : V}, Tr K H O r p v t → subT t q = some u → ∃ w, Tr K H O r (p ++ q) w u
  | [], t, u, p, v, h, e => by cases e; exact ⟨v, by rw [List.append_nil]; exact h⟩
  | k :: q, t, u, p, v, h, e => by
    simp only [subT] at e
    have all : ∀ {vs : List V} {ts : List T} {c : T}, TrAll K H O r p 0 vs ts → ts[k]? = some c → subT c q = some u → ∃ w, Tr K H O r (p ++ k :: q) w u := fun {vs ts c} ha hk hs => by
      obtain ⟨w, _, hw⟩ := ha.get hk
      obtain ⟨w', hw'⟩ := hw.sub hs
      refine ⟨w', ?_⟩
      rw [Nat.zero_add] at hw'
      simpa [List.append_assoc] using hw'
    cases e1 : kid t k with
    | none => rw [e1] at e; cases e
    | some c =>
      rw [e1] at e
      cases h with
      | l _ _ h3 => exact all h3 e1 e
      | mk _ _ _ h3 => exact all h3 e1 e
      | mt _ _ _ h3 => exact all h3 e1 e
      | o _ _ _ h3 => exact all h3 e1 e
      | d _ => cases e1
      | s _ _ => cases e1
      | raw => cases e1
      | fz _ => cases e1
      | lk _ _ _ _ => cases e1
      | lt _ _ _ _ => cases e1
      | ex _ _ => cases e1
      | cl => cases e1
      | n _ h =>
        cases h with
        | l _ _ h3 => exact all h3 e1 e
        | mk _ _ _ h3 => exact all h3 e1 e
        | mt _ _ _ h3 => exact all h3 e1 e
        | o _ _ _ h3 => exact all h3 e1 e
        | _ => cases e1
/-- one place of a tree is changed -/
theorem Tr.upd {K : PySem.W.Frag} {H H' : Hp} {O O' : Own} {r : Nat} {u' : T} (hf : ∀ b o, H b = some o → O b = .free → H' b = some o ∧ O' b = .free) : ∀ {q : List Nat} {t u : T} {p : List Nat} {v : V},
    (∀ b o p', H b = some o → O b = .at r p' → ¬ (p ++ q) <+: p' → H' b = some o ∧ O' b = .at r p') → subT t q = some u → (∀ w, Tr K H O r (p ++ q) w u → Tr K H' O' r (p ++ q) w u') → Tr K H O r p v t → Tr K H' O' r p v (putT t u' q)
  | [], t, u, p, v, _, e, hw, h => by
    cases e
    have := hw v (by rw [List.append_nil]; exact h)
    rw [List.append_nil] at this
    exact h.retag this
  | k :: q, t, u, p, v, hk, e, hw, h => by
    simp only [subT] at e
    have all : ∀ {vs : List V} {ts : List T} {c : T}, TrAll K H O r p 0 vs ts → ts[k]? = some c → subT c q = some u → TrAll K H' O' r p 0 vs (ts.set k (putT c u' q)) := fun {vs ts c} ha hc hs => by
      refine TrAll.of_get (by rw [List.length_set]; exact ha.length) fun i v' t' e1 e2 => ?_
      by_cases hi : i = k
      · subst hi
        rw [set_self hc] at e2
        cases e2
        obtain ⟨w, e3, hw'⟩ := ha.get hc
        rw [e1] at e3; cases e3
        refine Tr.upd hf (p := p ++ [0 + i]) (fun b o p' h1 h2 h3 => hk b o p' h1 h2 fun z => h3 ?_) hs (fun w hh => ?_) hw'
        · rw [List.append_assoc, Nat.zero_add]; exact z
        · have := hw w (by rw [Nat.zero_add, List.append_assoc] at hh; exact hh)
          rw [Nat.zero_add, List.append_assoc]
          exact this
      · rw [List.getElem?_set_ne (fun z => hi z.symm)] at e2
        obtain ⟨w, e3, hw'⟩ := ha.get e2
        rw [e1] at e3; cases e3
        have := Tr.move (r' := r) (p0 := p ++ [0 + i]) (p1 := p ++ [0 + i]) hf (fun b o q' h1 h2 => hk b o _ h1 h2 fun z => ?_) t' [] _ (by rw [List.append_nil]; exact hw')
        · rw [List.append_nil] at this; exact this
        · rw [List.append_assoc, List.prefix_append_right_inj] at z
          obtain ⟨x, hx⟩ := z
          simp at hx
          exact hi hx.1.symm
    have top : ∀ b o, H b = some o → O b = .at r p → H' b = some o ∧ O' b = .at r p := fun b o h1 h2 => hk b o p h1 h2 fun z => by
      have := z.length_le
      simp at this
      omega
    cases e1 : kid t k with
    | none => rw [e1] at e; cases e
    | some c =>
      rw [e1] at e
      simp only [putT, e1]
      cases h with
      | l h1 h2 h3 => obtain ⟨z1, z2⟩ := top _ _ h2 h1; exact .l z2 z1 (all h3 e1 e)
      | mk h1 h2 h3 h4 => obtain ⟨z1, z2⟩ := top _ _ h2 h1; exact .mk z2 z1 h3 (all h4 e1 e)
      | mt h1 h2 h3 h4 => obtain ⟨z1, z2⟩ := top _ _ h2 h1; exact .mt z2 z1 h3 (all h4 e1 e)
      | o h1 h2 h3 h4 => obtain ⟨z1, z2⟩ := top _ _ h2 h1; exact .o z2 z1 h3 (all h4 e1 e)
      | d _ => cases e1
      | s _ _ => cases e1
      | raw => cases e1
      | fz _ => cases e1
      | lk _ _ _ _ => cases e1
      | lt _ _ _ _ => cases e1
      | ex _ _ => cases e1
      | cl => cases e1
      | n _ h =>
        cases h with
        | l h1 h2 h3 => obtain ⟨z1, z2⟩ := top _ _ h2 h1; exact .n rfl (.l z2 z1 (all h3 e1 e))
        | mk h1 h2 h3 h4 => obtain ⟨z1, z2⟩ := top _ _ h2 h1; exact .n rfl (.mk z2 z1 h3 (all h4 e1 e))
        | mt h1 h2 h3 h4 => obtain ⟨z1, z2⟩ := top _ _ h2 h1; exact .n rfl (.mt z2 z1 h3 (all h4 e1 e))
        | o h1 h2 h3 h4 => obtain ⟨z1, z2⟩ := top _ _ h2 h1; exact .n rfl (.o z2 z1 h3 (all h4 e1 e))
        | _ => cases e1

/-! ### a tree as data -/
mutual
def erase : T → Option PyData
  | .d x => some x
  | .l ts => (eraseAll ts).map .list
  | .m _ ks ts => (eraseAll ts).map fun ds => .dict (ks.zip ds)
  | .lk _ ks xs => some (.dict (ks.zip xs))
  | .n _ t => erase t
  | _ => none
def eraseAll : List T → Option (List PyData)
  | [] => some []
  | t :: ts => match erase t, eraseAll ts with
    | some x, some xs => some (x :: xs)
    | _, _ => none
end
theorem erase_strip (t : T) : erase (TX.strip t) = erase t := by
  cases t with
  | n b t => simp only [TX.strip, erase]
  | _ => rfl
theorem eraseAll_d : ∀ ds : List PyData, eraseAll (ds.map T.d) = some ds
  | [] => rfl
  | d :: ds => by simp [eraseAll, erase, eraseAll_d ds]
def vis (r : Nat) (O : Own) (H : Hp) : Hp := fun b => match O b with
  | .free => H b
  | .foreign => none
  | .at r' _ => if r' = r then H b else none
theorem vis_le {r : Nat} {O : Own} {H : Hp} : ∀ b o, vis r O H b = some o → H b = some o := fun b o h => by
  unfold vis at h
  split at h
  · exact h
  · cases h
  · split at h
    · exact h
    · cases h
theorem vis_at {r : Nat} {O : Own} {H : Hp} {b : Addr} {p : List Nat} (h : O b = .at r p) : vis r O H b = H b := by
  unfold vis; rw [h]; simp
theorem vis_free {r : Nat} {O : Own} {H : Hp} {b : Addr} (h : O b = .free) : vis r O H b = H b := by
  unfold vis; rw [h]
theorem zip_fst {α β : Type} : ∀ {l : List α} {r : List β}, l.length = r.length → (l.zip r).map (·.1) = l
  | [], [], _ => rfl
  | _ :: _, _ :: _, h => by simp only [List.zip_cons_cons, List.map_cons]; rw [zip_fst (by simpa using h)]
  | [], _ :: _, h => by simp at h
  | _ :: _, [], h => by simp at h
theorem zip_snd {α β : Type} : ∀ {l : List α} {r : List β}, l.length = r.length → (l.zip r).map (·.2) = r
  | [], [], _ => rfl
  | _ :: _, _ :: _, h => by simp only [List.zip_cons_cons, List.map_cons]; rw [zip_snd (by simpa using h)]
  | [], _ :: _, h => by simp at h
  | _ :: _, [], h => by simp at h
mutual
theorem Tr.view {K : PySem.W.Frag} {H : Hp} {O : Own} {r : Nat} : ∀ (t : T) (p : List Nat) (v : V) (x : PyData), erase t = some x → Tr K H O r p v t → Rp K (vis r O H) v x
  | .d y, p, v, x, e, h => by
    cases h with
    | d h => simp only [erase, Option.some.injEq] at e; subst e; exact Rp.mono (fun b o z => by obtain ⟨z1, z2⟩ := msk_some z; rw [vis_free z1]; exact z2) _ _ h
  | .l ts, p, v, x, e, h => by
    simp only [erase, Option.map_eq_some_iff] at e
    obtain ⟨ds, e1, rfl⟩ := e
    cases h with
    | l h1 h2 h3 => exact .lst (by rw [vis_at h1]; exact h2) (TrAll.view ts p 0 _ ds e1 h3)
  | .m tk ks ts, p, v, x, e, h => by
    simp only [erase, Option.map_eq_some_iff] at e
    obtain ⟨ds, e1, rfl⟩ := e
    cases h with
    | mk h1 h2 h3 h4 =>
      have r := TrAll.view ts p 0 _ ds e1 h4
      have el : ks.length = ds.length := by rw [h3, ← r.length]; simp
      exact .dk (.inl (by rw [vis_at h1]; exact h2)) (by rw [zip_fst el]; exact h3) (by rw [zip_snd el]; exact r)
    | mt h1 h2 h3 h4 =>
      have r := TrAll.view ts p 0 _ ds e1 h4
      have el : ks.length = ds.length := by rw [h3, ← r.length]; simp
      exact .dt (.inl (by rw [vis_at h1]; exact h2)) (by rw [zip_fst el]; exact h3) (by rw [zip_snd el]; exact r)
  | .o _ _ _, p, v, x, e, h => by simp [erase] at e
  | .s _ _, p, v, x, e, h => by simp [erase] at e
  | .raw _, p, v, x, e, h => by simp [erase] at e
  | .fz _, p, v, x, e, h => by simp [erase] at e
  | .lk tk ks xs, p, v, x, e, h => by
    simp only [erase, Option.some.injEq] at e
    subst e
    have m : ∀ b o, msk O H b = some o → vis r O H b = some o := fun b o z => by obtain ⟨z1, z2⟩ := msk_some z; rw [vis_free z1]; exact z2
    cases h with
    | lk h1 h2 h3 h4 =>
      have el : ks.length = xs.length := by rw [h3, ← h4.length]; simp
      exact .dk (.inr ⟨_, by rw [vis_free h1]; exact h2⟩) (by rw [zip_fst el]; exact h3) (by rw [zip_snd el]; exact RpAll.mono m _ _ h4)
    | lt h1 h2 h3 h4 =>
      have el : ks.length = xs.length := by rw [h3, ← h4.length]; simp
      exact .dt (.inr ⟨_, by rw [vis_free h1]; exact h2⟩) (by rw [zip_fst el]; exact h3) (by rw [zip_snd el]; exact RpAll.mono m _ _ h4)
  | .a _ _, p, v, x, e, h => by simp [erase] at e
  | .n b t, p, v, x, e, h => by
    cases h with
    | n _ h => exact Tr.view t p _ x (by simpa [erase] using e) h
theorem TrAll.view {K : PySem.W.Frag} {H : Hp} {O : Own} {r : Nat} : ∀ (ts : List T) (p : List Nat) (k : Nat) (vs : List V) (xs : List PyData), eraseAll ts = some xs → TrAll K H O r p k vs ts → RpAll K (vis r O H) vs xs
  | [], p, k, vs, xs, e, h => by cases h; simp [eraseAll] at e; subst e; exact .nil
  | t :: ts, p, k, vs, xs, e, h => by
    cases h with
    | cons h1 h2 =>
      simp only [eraseAll] at e
      cases e1 : erase t with
      | none => rw [e1] at e; cases e
      | some y =>
        cases e2 : eraseAll ts with
        | none => rw [e1, e2] at e; cases e
        | some ys =>
          rw [e1, e2] at e
          simp only [Option.some.injEq] at e
          subst e
          exact .cons (Tr.view t _ _ y e1 h1) (TrAll.view ts p (k + 1) _ ys e2 h2)
end
end TX

/-! The state of a def's frame as trees (Rel), how it is carried, and the judgements LE, LA, LT. -/
namespace TX
open PySem PySem.Spec L2

/-- a def's entry: its heap, its owners, how many names, which parameters are handed in to be changed -/
structure Ctx where
  H0 : Hp
  O0 : Own
  N : Nat
  io : List Nat
abbrev Rho := List (Option T)

/-- the table of modules is none of what the def makes -/
def isLD : HO → Bool
  | .lst _ => true
  | .dK _ => true
  | .dT _ => true
  | .frz _ (.dK _) => true
  | .frz _ (.dT _) => true
  | _ => false
def Sm (_ : PySem.W.Frag) (_ : Hp) (_ : Own) : Prop := True
structure Rel (K : PySem.W.Frag) (C : Ctx) (n : Nat) (σ : St) (H : Hp) (O : Own) (ρ : Rho) : Prop where
  fr : ∀ b o, C.H0 b = some o → (C.O0 b = .free ∨ C.O0 b = .foreign) → H b = some o ∧ O b = C.O0 b
  nt : ∀ b, O b ≠ .free → ∃ o, H b = some o ∧ ownable o
  lt : ∀ b r p, O b = .at r p → r < n
  inj : ∀ a b r p, O a = .at r p → O b = .at r p → a = b
  val : ∀ b r p, O b = .at r p → r < C.N → ∃ t z, ρ[r]? = some (some t) ∧ subT t p = some z ∧ isNode z = true
  ln : σ.length = C.N
  lr : ρ.length = C.N
  sl : ∀ (i : Nat) (t : T), ρ[i]? = some (some t) → ∃ v, σ[i]? = some (some v) ∧ Tr K H O i [] v t
  hN : C.N ≤ n
  fo : ∀ b, O b = .foreign → ∃ o, C.H0 b = some o ∧ C.O0 b = .foreign
  pz : ∀ b j p, C.O0 b = .at j p → j < C.N ∧ O b = .at j p
  sm : Sm K C.H0 C.O0 ∧ ∀ b j p, C.O0 b = .at j p → j ∈ C.io

def Fre (H : Hp) (O : Own) (H' : Hp) (O' : Own) : Prop := ∀ b o, H b = some o → O b = .free → H' b = some o ∧ O' b = .free
/-- what an expression leaves: what is shared, the places of the frame's trees, the values on the way (roots N up to n) -/
structure Frm (N n : Nat) (H : Hp) (O : Own) (H' : Hp) (O' : Own) : Prop where
  fre : Fre H O H' O'
  pl : ∀ b r p, O b = .at r p → r < N → O' b = .at r p
  tm : ∀ b o r p, H b = some o → O b = .at r p → N ≤ r → r < n → H' b = some o ∧ O' b = .at r p
  nw : ∀ b r p, O' b = .at r p → N ≤ r → r < n → O b = .at r p
section
variable {N n m : Nat} {H H' H2 : Hp} {O O' O2 : Own}
theorem Fre.refl : Fre H O H O := fun _ _ h e => ⟨h, e⟩
theorem Fre.trans (a : Fre H O H' O') (b : Fre H' O' H2 O2) : Fre H O H2 O2 := fun x o h e => let ⟨h1, e1⟩ := a x o h e; b x o h1 e1
theorem Frm.refl : Frm N n H O H O := ⟨Fre.refl, fun _ _ _ h _ => h, fun _ _ _ _ h e _ _ => ⟨h, e⟩, fun _ _ _ h _ _ => h⟩
theorem Frm.trans (a : Frm N n H O H' O') (b : Frm N m H' O' H2 O2) (h : n ≤ m) : Frm N n H O H2 O2 :=
  ⟨a.fre.trans b.fre, fun x r p e l => b.pl x r p (a.pl x r p e l) l,
    fun x o r p e1 e2 l1 l2 => let ⟨z1, z2⟩ := a.tm x o r p e1 e2 l1 l2; b.tm x o r p z1 z2 l1 (Nat.lt_of_lt_of_le l2 h),
    fun x r p e l1 l2 => a.nw x r p (b.nw x r p e l1 (Nat.lt_of_lt_of_le l2 h)) l1 l2⟩
theorem Frm.le (a : Frm N m H O H' O') (h : n ≤ m) : Frm N n H O H' O' :=
  ⟨a.fre, a.pl, fun x o r p e1 e2 l1 l2 => a.tm x o r p e1 e2 l1 (Nat.lt_of_lt_of_le l2 h), fun x r p e l1 l2 => a.nw x r p e l1 (Nat.lt_of_lt_of_le l2 h)⟩
end

/-- a value on the way, at root n -/
def Val (K : PySem.W.Frag) (H : Hp) (O : Own) (n : Nat) (v : V) : T → Prop
  | .a r p => (∃ a, v = .ref a ∧ O a = .at r p ∧ r < n) ∧ ∀ b q, O b ≠ .at n q
  | t => Tr K H O n [] v t ∧ ∀ b p, O b = .at n p → ∃ z, subT t p = some z ∧ isNode z = true
def cut (n : Nat) (O : Own) : Own := fun b => match O b with
  | .at r p => if r < n then .at r p else .free
  | z => z
theorem cut_at {n : Nat} {O : Own} {b : Addr} {r : Nat} {p : List Nat} : cut n O b = .at r p ↔ O b = .at r p ∧ r < n := by
  unfold cut
  cases e : O b with
  | free => simp
  | foreign => simp
  | «at» r' p' =>
    simp only
    by_cases h : r' < n
    · rw [if_pos h]
      simp only [Lb.at.injEq]
      refine ⟨fun ⟨h1, h2⟩ => ⟨⟨h1, h2⟩, h1 ▸ h⟩, fun ⟨h1, _⟩ => h1⟩
    · rw [if_neg h]
      simp only [Lb.at.injEq, reduceCtorEq, false_iff]
      rintro ⟨⟨rfl, _⟩, h'⟩
      exact h h'
theorem cut_free {n : Nat} {O : Own} {b : Addr} (h : O b = .free) : cut n O b = .free := by unfold cut; rw [h]
theorem cut_foreign {n : Nat} {O : Own} {b : Addr} : cut n O b = .foreign ↔ O b = .foreign := by
  unfold cut
  cases e : O b with
  | free => simp
  | foreign => simp
  | «at» r' p' =>
    simp only
    by_cases h : r' < n
    · simp [h]
    · simp [h]
def dropR (i : Nat) (O : Own) : Own := fun b => match O b with
  | .at r p => if r = i then .free else .at r p
  | z => z
theorem dropR_at {i : Nat} {O : Own} {b : Addr} {r : Nat} {p : List Nat} : dropR i O b = .at r p ↔ O b = .at r p ∧ r ≠ i := by
  unfold dropR
  cases e : O b with
  | free => simp
  | foreign => simp
  | «at» r' p' =>
    simp only
    by_cases h : r' = i
    · rw [if_pos h]
      simp only [Lb.at.injEq, reduceCtorEq, false_iff]
      rintro ⟨⟨rfl, _⟩, h'⟩
      exact h' h
    · rw [if_neg h]
      simp only [Lb.at.injEq]
      refine ⟨fun ⟨h1, h2⟩ => ⟨⟨h1, h2⟩, h1 ▸ h⟩, fun ⟨h1, _⟩ => h1⟩
theorem dropR_free {i : Nat} {O : Own} {b : Addr} (h : O b = .free) : dropR i O b = .free := by unfold dropR; rw [h]
theorem dropR_foreign {i : Nat} {O : Own} {b : Addr} : dropR i O b = .foreign ↔ O b = .foreign := by
  unfold dropR
  cases e : O b with
  | free => simp
  | foreign => simp
  | «at» r' p' =>
    simp only
    by_cases h : r' = i
    · simp [h]
    · simp [h]
/-- root j becomes root i -/
def mvR (j i : Nat) (O : Own) : Own := fun b => match O b with
  | .at r p => if r = j then .at i p else .at r p
  | z => z
theorem mvR_at {i j : Nat} {O : Own} {b : Addr} {r : Nat} {p : List Nat} (h : mvR j i O b = .at r p) : (r = i ∧ O b = .at j p) ∨ (r ≠ j ∧ O b = .at r p) := by
  unfold mvR at h
  cases e : O b with
  | free => rw [e] at h; cases h
  | foreign => rw [e] at h; cases h
  | «at» r' p' =>
    rw [e] at h
    simp only at h
    by_cases hh : r' = j
    · rw [if_pos hh] at h; cases h; exact .inl ⟨rfl, by rw [hh]⟩
    · rw [if_neg hh] at h; cases h; exact .inr ⟨hh, rfl⟩
theorem mvR_root {i j : Nat} {O : Own} {b : Addr} {p : List Nat} (h : O b = .at j p) : mvR j i O b = .at i p := by unfold mvR; rw [h]; simp
theorem mvR_ne {i j : Nat} {O : Own} {b : Addr} {r : Nat} {p : List Nat} (h : O b = .at r p) (n : r ≠ j) : mvR j i O b = .at r p := by unfold mvR; rw [h]; simp [n]
theorem mvR_free {i j : Nat} {O : Own} {b : Addr} : mvR j i O b = .free ↔ O b = .free := by
  unfold mvR
  cases e : O b with
  | free => simp
  | foreign => simp
  | «at» r' p' =>
    simp only
    by_cases h : r' = j <;> simp [h]
theorem mvR_foreign {i j : Nat} {O : Own} {b : Addr} : mvR j i O b = .foreign ↔ O b = .foreign := by
  unfold mvR
  cases e : O b with
  | free => simp
  | foreign => simp
  | «at» r' p' =>
    simp only
    by_cases h : r' = j <;> simp [h]

section
variable {K : PySem.W.Frag} {C : Ctx} {n m : Nat} {σ : St} {H H' : Hp} {O O' : Own} {ρ : Rho}
theorem Rel.up (R : Rel K C n σ H O ρ) (h : n ≤ m) : Rel K C m σ H O ρ :=
  ⟨R.fr, R.nt, fun b r p e => Nat.lt_of_lt_of_le (R.lt b r p e) h, R.inj, R.val, R.ln, R.lr, R.sl, Nat.le_trans R.hN h, R.fo, R.pz, R.sm⟩
theorem Rel.smH (_ : Rel K C n σ H O ρ) : Sm K H O := trivial
theorem Rel.slt (R : Rel K C n σ H O ρ) {i : Nat} {t : Option T} (h : ρ[i]? = some t) : i < C.N := by
  have := (List.getElem?_eq_some_iff.mp h).1
  rw [R.lr] at this
  exact this
theorem Rel.fresh (R : Rel K C n σ H O ρ) {b : Addr} (h : H b = none) : O b = .free := by
  by_cases e : O b = .free
  · exact e
  · obtain ⟨o, z, _⟩ := R.nt b e
    rw [h] at z; cases z
theorem Rel.tracked (R : Rel K C n σ H O ρ) {b : Addr} {r : Nat} {p : List Nat} (h : O b = .at r p) : ∃ o, H b = some o ∧ ownable o := R.nt b (by rw [h]; intro z; cases z)
/-- values on the way from root n on are let go -/
theorem Rel.cut (R : Rel K C m σ H O ρ) (h1 : C.N ≤ n) : Rel K C n σ H (cut n O) ρ where
  fr b o e1 e2 := by
    obtain ⟨z1, z2⟩ := R.fr b o e1 e2
    refine ⟨z1, ?_⟩
    rcases e2 with e2 | e2
    · rw [e2] at z2 ⊢; exact cut_free z2
    · rw [e2] at z2 ⊢; exact cut_foreign.mpr z2
  nt b h := R.nt b fun z => h (cut_free z)
  lt b r p h := (cut_at.mp h).2
  inj a b r p e1 e2 := R.inj a b r p (cut_at.mp e1).1 (cut_at.mp e2).1
  val b r p e l := R.val b r p (cut_at.mp e).1 l
  ln := R.ln
  lr := R.lr
  sl i t e := by
    obtain ⟨v, h2, h3⟩ := R.sl i t e
    refine ⟨v, h2, ?_⟩
    have := Tr.move (H' := H) (O' := TX.cut n O) (r' := i) (p0 := []) (p1 := []) (fun b o e1 e2 => ⟨e1, cut_free e2⟩) (fun b o q e1 e2 => ⟨e1, cut_at.mpr ⟨e2, Nat.lt_of_lt_of_le (R.slt e) h1⟩⟩) t [] v h3
    exact this
  hN := h1
  fo b h := R.fo b (cut_foreign.mp h)
  pz b j p h := let ⟨z1, z2⟩ := R.pz b j p h; ⟨z1, cut_at.mpr ⟨z2, Nat.lt_of_lt_of_le z1 h1⟩⟩
  sm := R.sm
theorem frm_cut (N n : Nat) (H : Hp) (O : Own) (h : N ≤ n) : Frm N n H O H (cut n O) :=
  ⟨fun _ _ e1 e2 => ⟨e1, cut_free e2⟩, fun _ _ _ e l => cut_at.mpr ⟨e, Nat.lt_of_lt_of_le l h⟩, fun _ _ _ _ e1 e2 _ l => ⟨e1, cut_at.mpr ⟨e2, l⟩⟩, fun _ _ _ e _ _ => (cut_at.mp e).1⟩
/-- data that is scalar -/
inductive Sc : V → PyData → Prop
  | non : Sc .non .none
  | bl (b : Bool) : Sc (.bl b) (.bool b)
  | int (i : Int) : Sc (.int i) (.int i)
  | str (x : Str) : Sc (.str x) (.str x)
theorem Sc.rp {v : V} {x : PyData} (h : Sc v x) : Rp K H v x := by cases h <;> constructor
/-- a value of data at root n: no places there -/
theorem Rel.val_d (R : Rel K C n σ H O ρ) {v : V} {x : PyData} (h : Rp K (msk O H) v x) : Val K H O n v (.d x) := ⟨.d h, fun b p e => absurd (R.lt b n p e) (Nat.lt_irrefl _)⟩
theorem Rel.val_raw (R : Rel K C n σ H O ρ) {v : V} : Val K H O n v (.raw v) := ⟨.raw, fun b p e => absurd (R.lt b n p e) (Nat.lt_irrefl _)⟩
theorem Rel.val_ex (R : Rel K C n σ H O ρ) {a : Addr} {c : Str} (h1 : O a = .free) (h2 : H a = some (ExV (.ref (clsA K c)) a)) : Val K H O n (.ref a) (.ex c) := ⟨.ex h1 h2, fun b p e => absurd (R.lt b n p e) (Nat.lt_irrefl _)⟩
theorem Rel.val_cl (R : Rel K C n σ H O ρ) {c : Str} : Val K H O n (.ref (clsA K c)) (.cl c) := ⟨.cl, fun b p e => absurd (R.lt b n p e) (Nat.lt_irrefl _)⟩
theorem Rel.val_fz (R : Rel K C n σ H O ρ) {a : Addr} {ns : List Int} (h : SqL K (msk O H) a (ns.map V.int)) : Val K H O n (.ref a) (.fz ns) := ⟨.fz h, fun b p e => absurd (R.lt b n p e) (Nat.lt_irrefl _)⟩
theorem Rel.val_lk (R : Rel K C n σ H O ρ) {a : Addr} {od : Obj} {kvs : List (Key × V)} {ks xs : List PyData} (h1 : O a = .free) (h2 : H a = some (.frz od (.dK kvs))) (h3 : ks = kvs.map fun q => keyD q.1) (h4 : RpAll K (msk O H) (kvs.map (·.2)) xs) : Val K H O n (.ref a) (.lk false ks xs) := ⟨.lk h1 h2 h3 h4, fun b p e => absurd (R.lt b n p e) (Nat.lt_irrefl _)⟩
theorem Rel.val_lt (R : Rel K C n σ H O ρ) {a : Addr} {od : Obj} {kvs : List (List Key × V)} {ks xs : List PyData} (h1 : O a = .free) (h2 : H a = some (.frz od (.dT kvs))) (h3 : ks = kvs.map fun q => PyData.tuple (q.1.map keyD)) (h4 : RpAll K (msk O H) (kvs.map (·.2)) xs) : Val K H O n (.ref a) (.lk true ks xs) := ⟨.lt h1 h2 h3 h4, fun b p e => absurd (R.lt b n p e) (Nat.lt_irrefl _)⟩
/-- carried over what comes behind -/
theorem Val.carry {v : V} {t : T} (h : Val K H O n v t) (hn : C.N ≤ n) (lt : ∀ b r p, O b = .at r p → r < n + 1) (nt : ∀ b, O b ≠ .free → ∃ o, H b = some o ∧ ownable o) (F : Frm C.N (n + 1) H O H' O') : Val K H' O' n v t := by
  have gen : ∀ t : T, (Tr K H O n [] v t ∧ ∀ b p, O b = .at n p → ∃ z, subT t p = some z ∧ isNode z = true) → (Tr K H' O' n [] v t ∧ ∀ b p, O' b = .at n p → ∃ z, subT t p = some z ∧ isNode z = true) := fun t h =>
    ⟨Tr.move (r' := n) (p0 := []) (p1 := []) F.fre (fun b o q e1 e2 => F.tm b o n q e1 e2 hn (Nat.lt_succ_self n)) t [] v h.1, fun b p e => h.2 b p (F.nw b n p e hn (Nat.lt_succ_self n))⟩
  cases t with
  | a r p =>
    obtain ⟨⟨a, e1, e2, l⟩, h2⟩ := h
    refine ⟨⟨a, e1, ?_, l⟩, fun b q e => h2 b q (F.nw b n q e hn (Nat.lt_succ_self n))⟩
    by_cases hr : r < C.N
    · exact F.pl a r p e2 hr
    · obtain ⟨o, ho, _⟩ := nt a (by rw [e2]; intro z; cases z)
      exact (F.tm a o r p ho e2 (by omega) (by omega)).2
  | _ => exact gen _ h
/-- a scalar is handed on -/
theorem Rel.fin_sc {N0 : Nat} (R : Rel K C m σ H O ρ) (hn : C.N ≤ n) {v : V} {x : PyData} (s : Sc v x) : Rel K C (n + 1) σ H (TX.cut n O) ρ ∧ Val K H (TX.cut n O) n v (.d x) :=
  ⟨(R.cut hn).up (Nat.le_succ _), (R.cut hn).val_d s.rp⟩

/-- what a slot holds, as a value -/
def nmv (i : Nat) (t : T) : T := if isNode t then .a i [] else t
theorem tr_root {r : Nat} {v : V} {t : T} {p : List Nat} (h : Tr K H O r p v t) (n : isNode t = true) : ∃ a, v = .ref a ∧ O a = .at r p := by
  cases h with
  | d _ => cases n
  | lk _ _ _ _ => cases n
  | lt _ _ _ _ => cases n
  | raw => cases n
  | fz _ => cases n
  | l h1 _ _ => exact ⟨_, rfl, h1⟩
  | mk h1 _ _ _ => exact ⟨_, rfl, h1⟩
  | mt h1 _ _ _ => exact ⟨_, rfl, h1⟩
  | o h1 _ _ _ => exact ⟨_, rfl, h1⟩
  | s h1 _ => exact ⟨_, rfl, h1⟩
  | ex _ _ => cases n
  | cl => cases n
  | n _ h =>
    cases h with
    | l h1 _ _ => exact ⟨_, rfl, h1⟩
    | mk h1 _ _ _ => exact ⟨_, rfl, h1⟩
    | mt h1 _ _ _ => exact ⟨_, rfl, h1⟩
    | o h1 _ _ _ => exact ⟨_, rfl, h1⟩
    | s h1 _ => exact ⟨_, rfl, h1⟩
    | _ => cases n
theorem Rel.val_name (R : Rel K C n σ H O ρ) {i : Nat} {t : T} {v : V} (e : ρ[i]? = some (some t)) (h : Tr K H O i [] v t) : Val K H O n v (nmv i t) := by
  have none : ∀ b q, O b ≠ .at n q := fun b q e => absurd (R.lt b n q e) (Nat.lt_irrefl _)
  unfold nmv
  by_cases hn : isNode t = true
  · rw [if_pos hn]
    obtain ⟨a, e1, e2⟩ := tr_root h hn
    exact ⟨⟨a, e1, e2, Nat.lt_of_lt_of_le (R.slt e) R.hN⟩, none⟩
  · rw [if_neg hn]
    cases h with
    | d h => exact R.val_d h
    | raw => exact R.val_raw
    | fz h => exact R.val_fz h
    | lk h1 h2 h3 h4 => exact R.val_lk h1 h2 h3 h4
    | lt h1 h2 h3 h4 => exact R.val_lt h1 h2 h3 h4
    | l _ _ _ => exact absurd rfl hn
    | mk _ _ _ _ => exact absurd rfl hn
    | mt _ _ _ _ => exact absurd rfl hn
    | o _ _ _ _ => exact absurd rfl hn
    | s _ _ => exact absurd rfl hn
    | ex h1 h2 => exact ⟨.ex h1 h2, fun b p e => absurd (R.lt b n p e) (Nat.lt_irrefl _)⟩
    | cl => exact ⟨.cl, fun b p e => absurd (R.lt b n p e) (Nat.lt_irrefl _)⟩
    | n h0 h => exact absurd h0 hn

/-! ### what a value shows -/
def getT (ρ : Rho) (r : Nat) (p : List Nat) : Option T := match ρ[r]? with
  | some (some t) => (subT t p).map strip
  | _ => none
/-- as data, read now -/
def vw (ρ : Rho) : T → Option PyData
  | .a r p => match getT ρ r p with
    | some t => erase t
    | none => none
  | t => erase t
theorem getT_some {r : Nat} {p : List Nat} {u : T} (h : getT ρ r p = some u) : ∃ t, ρ[r]? = some (some t) ∧ ∃ u0, subT t p = some u0 ∧ strip u0 = u := by
  unfold getT at h
  split at h
  · exact ⟨_, by assumption, Option.map_eq_some_iff.mp h⟩
  · cases h
theorem Rel.at (R : Rel K C n σ H O ρ) {r : Nat} {p : List Nat} {u : T} (h : getT ρ r p = some u) : ∃ w, Tr K H O r p w u := by
  obtain ⟨t, e1, u0, e2, rfl⟩ := getT_some h
  obtain ⟨v, _, ht⟩ := R.sl r t e1
  obtain ⟨w, hw⟩ := ht.sub e2
  exact ⟨w, by simpa using hw.strip⟩
theorem Rel.alias (R : Rel K C n σ H O ρ) {r : Nat} {p : List Nat} {u : T} {a : Addr} (h : getT ρ r p = some u) (hn : isNode u = true) (ha : O a = .at r p) : Tr K H O r p (.ref a) u := by
  obtain ⟨w, hw⟩ := R.at h
  obtain ⟨b, rfl, hb⟩ := tr_root hw hn
  rw [R.inj a b r p ha hb]
  exact hw
/-- a place's own node: where the place is owned, the tree there is a node -/
theorem Rel.place (R : Rel K C n σ H O ρ) {r : Nat} {p : List Nat} {a : Addr} (ha : O a = .at r p) (hr : r < C.N) : ∃ u, getT ρ r p = some u ∧ isNode u = true ∧ Tr K H O r p (.ref a) u := by
  obtain ⟨t, z, e1, e2, e3⟩ := R.val a r p ha hr
  have g : getT ρ r p = some (strip z) := by unfold getT; rw [e1]; show (subT t p).map strip = _; rw [e2]; rfl
  have e4 : isNode (strip z) = true := strip_node e3
  exact ⟨_, g, e4, R.alias g e4 ha⟩
/-- read as data, from the heap as it stands -/
theorem Rel.view (R : Rel K C n σ H O ρ) {k : Nat} {v : V} {t : T} {x : PyData} (h : Val K H O k v t) (e : vw ρ t = some x) : ∃ r, Rp K (vis r O H) v x := by
  cases t with
  | a r p =>
    obtain ⟨⟨a, rfl, e2, l⟩, _⟩ := h
    cases g : getT ρ r p with
    | none => simp [vw, g] at e
    | some u =>
      obtain ⟨t, e3, _⟩ := getT_some g
      obtain ⟨u', g', hn, ht⟩ := R.place e2 (R.slt e3)
      rw [g] at g'; cases g'
      simp only [vw, g] at e
      exact ⟨r, Tr.view u p _ x e ht⟩
  | _ => exact ⟨k, Tr.view _ [] _ x e h.1⟩
theorem Rel.viewH (R : Rel K C n σ H O ρ) {k : Nat} {v : V} {t : T} {x : PyData} (h : Val K H O k v t) (e : vw ρ t = some x) : Rp K H v x :=
  let ⟨_, z⟩ := R.view h e; Rp.mono vis_le _ _ z

/-! ### lists read item by item -/
def allD : List T → Option (List PyData)
  | [] => some []
  | .d x :: ts => (allD ts).map (x :: ·)
  | _ :: _ => none
theorem allD_map : ∀ ds : List PyData, allD (ds.map T.d) = some ds
  | [] => rfl
  | d :: ds => by simp [allD, allD_map ds]
theorem allD_eq : ∀ {ts : List T} {ds : List PyData}, allD ts = some ds → ts = ds.map T.d
  | [], ds, h => by simp [allD] at h; subst h; rfl
  | t :: ts, ds, h => by
    cases t with
    | d x =>
      simp only [allD, Option.map_eq_some_iff] at h
      obtain ⟨es, h1, rfl⟩ := h
      rw [allD_eq h1]; rfl
    | _ => simp [allD] at h
def flatL : T → Option (List PyData)
  | .d (.list xs) => some xs
  | .l ts => allD ts
  | _ => none
def lsq (ρ : Rho) : T → Option (List PyData)
  | .a r p => match getT ρ r p with
    | some t => flatL t
    | none => none
  | t => flatL t
theorem flat_tr {r : Nat} {p : List Nat} {v : V} {t : T} {xs : List PyData} (h : Tr K H O r p v t) (e : flatL t = some xs) : ∃ a vs, v = .ref a ∧ H a = some (.lst vs) ∧ RpAll K (msk O H) vs xs := by
  cases h with
  | d h =>
    cases h with
    | lst h1 h2 =>
      simp only [flatL, Option.some.injEq] at e
      subst e
      exact ⟨_, _, rfl, (msk_some h1).2, h2⟩
    | _ => simp [flatL] at e
  | l h1 h2 h3 =>
    simp only [flatL] at e
    rw [allD_eq e] at h3
    exact ⟨_, _, rfl, h2, TrAll.data h3⟩
  | _ => simp [flatL] at e
theorem Rel.lsqV (R : Rel K C n σ H O ρ) {k : Nat} {v : V} {t : T} {xs : List PyData} (h : Val K H O k v t) (e : lsq ρ t = some xs) : ∃ a vs, v = .ref a ∧ H a = some (.lst vs) ∧ RpAll K (msk O H) vs xs := by
  cases t with
  | a r p =>
    obtain ⟨⟨a, rfl, e2, l⟩, _⟩ := h
    cases g : getT ρ r p with
    | none => simp [lsq, g] at e
    | some u =>
      obtain ⟨t, e3, _⟩ := getT_some g
      obtain ⟨u', g', hn, ht⟩ := R.place e2 (R.slt e3)
      rw [g] at g'; cases g'
      simp only [lsq, g] at e
      exact flat_tr ht e
  | _ => exact flat_tr h.1 e
def tsq : T → Option (List PyData)
  | .d (.tuple xs) => some xs
  | _ => none
theorem Rel.tsqV (R : Rel K C n σ H O ρ) {k : Nat} {v : V} {t : T} {xs : List PyData} (h : Val K H O k v t) (e : tsq t = some xs) : ∃ a vs, v = .ref a ∧ H a = some (.tup vs) ∧ RpAll K (msk O H) vs xs := by
  cases t with
  | d y =>
    cases y with
    | tuple ys =>
      simp only [tsq, Option.some.injEq] at e
      subst e
      have h := h.1
      cases h with
      | d h => cases h with | tup h1 h2 => exact ⟨_, _, rfl, (msk_some h1).2, h2⟩
    | _ => simp [tsq] at e
  | _ => simp [tsq] at e

/-! ### new objects -/
def lay (n : Nat) (p : Addr) (O : Own) : Own := fun b => if b = p then .at n [] else O b
theorem lay_same {n : Nat} {p : Addr} : lay n p O p = .at n [] := by unfold lay; rw [if_pos rfl]
theorem lay_ne {n : Nat} {p b : Addr} (h : b ≠ p) : lay n p O b = O b := by unfold lay; rw [if_neg h]
/-- a new object at root n, without children of its own -/
theorem Rel.alloc (R : Rel K C n σ H O ρ) {p : Addr} {o : HO} (hp : H p = none) (ho : ownable o) : Rel K C (n + 1) σ (upd H p o) (lay n p O) ρ ∧ Frm C.N n H O (upd H p o) (lay n p O) ∧ (∀ b q, lay n p O b = .at n q → b = p ∧ q = []) := by
  have of := R.fresh hp
  have keep : ∀ b u, H b = some u → upd H p o b = some u ∧ lay n p O b = O b := fun b u e => ⟨by rw [upd_ne (ne_of_none e hp)]; exact e, lay_ne (ne_of_none e hp)⟩
  have lb : ∀ b r q, O b = .at r q → lay n p O b = .at r q := fun b r q e => by
    obtain ⟨u, hu, _⟩ := R.tracked e
    rw [(keep b u hu).2]; exact e
  have bl : ∀ b r q, lay n p O b = .at r q → (b = p ∧ r = n ∧ q = []) ∨ (b ≠ p ∧ O b = .at r q) := fun b r q e => by
    by_cases h : b = p
    · subst h; rw [lay_same] at e; cases e; exact .inl ⟨rfl, rfl, rfl⟩
    · rw [lay_ne h] at e; exact .inr ⟨h, e⟩
  refine ⟨⟨fun b u e1 e2 => ?_, fun b h => ?_, fun b r q e => ?_, fun a b r q e1 e2 => ?_, fun b r q e l => ?_, R.ln, R.lr, fun i t e => ?_, Nat.le_succ_of_le R.hN, fun b e => ?_, fun b j q e => ?_, R.sm⟩, ⟨fun b u e1 e2 => ?_, fun b r q e _ => lb b r q e, fun b u r q e1 e2 _ _ => ?_, fun b r q e _ l => ?_⟩, fun b q e => ?_⟩
  · obtain ⟨z1, z2⟩ := R.fr b u e1 e2
    obtain ⟨k1, k2⟩ := keep b u z1
    exact ⟨k1, k2.trans z2⟩
  · by_cases hb : b = p
    · subst hb; exact ⟨o, upd_same, ho⟩
    · rw [lay_ne hb] at h
      obtain ⟨u, e, w⟩ := R.nt b h
      exact ⟨u, (keep b u e).1, w⟩
  · rcases bl b r q e with ⟨_, h, _⟩ | ⟨_, h⟩
    · omega
    · exact Nat.lt_succ_of_lt (R.lt b r q h)
  · rcases bl a r q e1 with ⟨h1, h2, _⟩ | ⟨_, h⟩ <;> rcases bl b r q e2 with ⟨h1', h2', _⟩ | ⟨_, h'⟩
    · rw [h1, h1']
    · exact absurd (R.lt b r q h') (by omega)
    · exact absurd (R.lt a r q h) (by omega)
    · exact R.inj a b r q h h'
  · rcases bl b r q e with ⟨_, h, _⟩ | ⟨_, h⟩
    · have := R.hN; omega
    · exact R.val b r q h l
  · obtain ⟨v, h2, h3⟩ := R.sl i t e
    exact ⟨v, h2, Tr.move (r' := i) (p0 := []) (p1 := []) (fun b u e1 e2 => ⟨(keep b u e1).1, (keep b u e1).2.trans e2⟩) (fun b u q e1 e2 => ⟨(keep b u e1).1, lb b i q e2⟩) t [] v h3⟩
  · by_cases hb : b = p
    · subst hb; rw [lay_same] at e; cases e
    · rw [lay_ne hb] at e; exact R.fo b e
  · obtain ⟨z1, z2⟩ := R.pz b j q e
    exact ⟨z1, lb b j q z2⟩
  · exact ⟨(keep b u e1).1, (keep b u e1).2.trans e2⟩
  · exact ⟨(keep b u e1).1, lb b r q e2⟩
  · rcases bl b r q e with ⟨_, h, _⟩ | ⟨_, h⟩
    · omega
    · exact h
  · rcases bl b n q e with ⟨h1, _, h3⟩ | ⟨_, h⟩
    · exact ⟨h1, h3⟩
    · exact absurd (R.lt b n q h) (Nat.lt_irrefl _)
/-- a new list of data -/
theorem Rel.newL (R : Rel K C m σ H O ρ) (hn : C.N ≤ n) {p : Addr} {ws : List V} {zs : List PyData} (hp : H p = none) (hz : RpAll K (msk O H) ws zs) :
    ∃ O', Rel K C (n + 1) σ (upd H p (.lst ws)) O' ρ ∧ Frm C.N n H O (upd H p (.lst ws)) O' ∧ Val K (upd H p (.lst ws)) O' n (.ref p) (.l (zs.map T.d)) := by
  obtain ⟨R1, F1, u1⟩ := (R.cut hn).alloc (o := .lst ws) hp trivial
  refine ⟨_, R1, (frm_cut C.N n H O hn).trans F1 (Nat.le_refl _), .l lay_same upd_same (TrAll.ofData (RpAll.mono (fun b o e => ?_) _ _ hz)), fun b q e => ?_⟩
  · obtain ⟨z1, z2⟩ := msk_some e
    rw [msk_of (by rw [lay_ne (ne_of_none z2 hp)]; exact cut_free z1), upd_ne (ne_of_none z2 hp)]
    exact z2
  · obtain ⟨rfl, rfl⟩ := u1 b q e
    exact ⟨_, rfl, rfl⟩
/-- a new tuple -/
theorem Rel.newT (R : Rel K C m σ H O ρ) (hn : C.N ≤ n) {p : Addr} {ws : List V} {zs : List PyData} (hp : H p = none) (hz : RpAll K (msk O H) ws zs) :
    ∃ O', Rel K C (n + 1) σ (upd H p (.tup ws)) O' ρ ∧ Frm C.N n H O (upd H p (.tup ws)) O' ∧ Val K (upd H p (.tup ws)) O' n (.ref p) (.d (.tuple zs)) := by
  have R0 := R.cut (n := n) hn
  have of := R0.fresh hp
  have keep : ∀ b u, H b = some u → upd H p (.tup ws) b = some u := fun b u e => by rw [upd_ne (ne_of_none e hp)]; exact e
  have R1 : Rel K C n σ (upd H p (.tup ws)) (TX.cut n O) ρ := ⟨fun b u e1 e2 => ⟨keep _ _ (R0.fr b u e1 e2).1, (R0.fr b u e1 e2).2⟩, fun b h => let ⟨u, e, w⟩ := R0.nt b h; ⟨u, keep b u e, w⟩, R0.lt, R0.inj, R0.val, R0.ln, R0.lr,
    fun i t e => let ⟨v, h2, h3⟩ := R0.sl i t e; ⟨v, h2, Tr.move (r' := i) (p0 := []) (p1 := []) (fun b u e1 e2 => ⟨keep b u e1, e2⟩) (fun b u q e1 e2 => ⟨keep b u e1, e2⟩) t [] v h3⟩, R0.hN, R0.fo, R0.pz, R0.sm⟩
  refine ⟨_, R1.up (Nat.le_succ _), (frm_cut C.N n H O hn).trans ⟨fun b u e1 e2 => ⟨keep b u e1, e2⟩, fun _ _ _ e _ => e, fun b u r q e1 e2 _ _ => ⟨keep b u e1, e2⟩, fun _ _ _ e _ _ => e⟩ (Nat.le_refl _), R1.val_d (.tup (by rw [msk_of of]; exact upd_same) (RpAll.mono (fun b o e => ?_) _ _ hz))⟩
  obtain ⟨z1, z2⟩ := msk_some e
  rw [msk_of (cut_free z1)]
  exact keep b o z2

/-! ### a place is changed -/
def putAt (ρ : Rho) (r : Nat) (p : List Nat) (u : T) : Rho := match ρ[r]? with
  | some (some t) => ρ.set r (some (putT t u p))
  | _ => ρ
theorem Rel.upd (R : Rel K C m σ H O ρ) (hN : C.N ≤ n) {r : Nat} {p : List Nat} {u u' : T} (hg : getT ρ r p = some u)
    (hf : Fre H O H' O') (hfo : ∀ b o, H b = some o → O b = .foreign → H' b = some o ∧ O' b = .foreign)
    (hk : ∀ b o r' p', H b = some o → O b = .at r' p' → r' < C.N → ¬ (r' = r ∧ p <+: p') → H' b = some o ∧ O' b = .at r' p')
    (hpl : ∀ b r' p', O b = .at r' p' → r' < C.N → O' b = .at r' p') (hw : ∀ w, Tr K H O r p w u → Tr K H' O' r p w u')
    (hnt : ∀ b, O' b ≠ .free → ∃ o, H' b = some o ∧ ownable o) (hlt : ∀ b r p, O' b = .at r p → r < n) (hinj : ∀ a b r p, O' a = .at r p → O' b = .at r p → a = b)
    (hval : ∀ b q, O' b = .at r (p ++ q) → ∃ z, subT u' q = some z ∧ isNode z = true)
    (hold : ∀ b r' p', O' b = .at r' p' → r' < C.N → (r' = r ∧ p <+: p') ∨ O b = .at r' p') (hfb : ∀ b, O' b = .foreign → O b = .foreign) : Rel K C n σ H' O' (putAt ρ r p u') := by
  obtain ⟨t, e1, u0, e2, eu⟩ := getT_some hg
  have hr := R.slt e1
  have eput : putAt ρ r p u' = ρ.set r (some (putT t u' p)) := by unfold putAt; rw [e1]
  rw [eput]
  have hrl : r < ρ.length := by rw [R.lr]; exact hr
  refine ⟨fun b o z1 z2 => ?_, hnt, hlt, hinj, fun b r' p' e l => ?_, R.ln, by rw [List.length_set]; exact R.lr, fun i t' e => ?_, hN, fun b e => R.fo b (hfb b e), fun b j q e => ?_, R.sm⟩
  · obtain ⟨h1, h2⟩ := R.fr b o z1 z2
    rcases z2 with z2 | z2
    · rw [z2] at h2; rw [z2]; exact hf b o h1 h2
    · rw [z2] at h2; rw [z2]; exact hfo b o h1 h2
  · rcases hold b r' p' e l with ⟨rfl, x, rfl⟩ | e'
    · obtain ⟨z, h1, h2⟩ := hval b x e
      obtain ⟨z', h3, h4⟩ := sub_retag (u0 := u0) h1 h2
      refine ⟨_, z', List.getElem?_set_self hrl, ?_, h4⟩
      rw [subT_append (subT_put e2)]
      exact h3
    · obtain ⟨t', z, h1, h2, h3⟩ := R.val b r' p' e' l
      by_cases hh : r' = r
      · subst hh
        rw [e1] at h1; cases h1
        by_cases hp : p <+: p'
        · obtain ⟨x, rfl⟩ := hp
          obtain ⟨z, g1, g2⟩ := hval b x e
          obtain ⟨z', g3, g4⟩ := sub_retag (u0 := u0) g1 g2
          exact ⟨_, z', List.getElem?_set_self hrl, by rw [subT_append (subT_put e2)]; exact g3, g4⟩
        · obtain ⟨z', g1, g2⟩ := subT_put_ne (u := u') e2 hp h2 h3
          exact ⟨_, z', List.getElem?_set_self hrl, g1, g2⟩
      · exact ⟨t', z, by rw [List.getElem?_set_ne (fun q => hh q.symm)]; exact h1, h2, h3⟩
  · by_cases hi : i = r
    · subst hi
      rw [List.getElem?_set_self hrl] at e
      cases e
      obtain ⟨v, h2, h3⟩ := R.sl i t e1
      refine ⟨v, h2, Tr.upd hf (p := []) (fun b o p' z1 z2 z3 => hk b o i p' z1 z2 hr fun q => z3 (by simpa using q.2)) e2 (fun w h => ?_) h3⟩
      rw [List.nil_append] at h ⊢
      exact hw w (eu ▸ h.strip)
    · rw [List.getElem?_set_ne (fun q => hi q.symm)] at e
      obtain ⟨v, h2, h3⟩ := R.sl i t' e
      exact ⟨v, h2, Tr.move (r' := i) (p0 := []) (p1 := []) hf (fun b o q z1 z2 => hk b o i q z1 z2 (R.slt e) fun z => hi z.1) t' [] v h3⟩
  · obtain ⟨z1, z2⟩ := R.pz b j q e
    exact ⟨z1, hpl b j q z2 z1⟩
end
end TX

/-! The judgements over trees (LE, LA, LT, LW) and the rules of expressions. -/
namespace TX
open PySem PySem.Spec L2

abbrev ExK := Str → Rho → Prop
abbrev TwE := Rho → (T → Rho → Prop) → ExK → Prop
abbrev TwA := Rho → (List T → Rho → Prop) → ExK → Prop
abbrev TwT := Rho → (Bool → Rho → Prop) → ExK → Prop

theorem _root_.L2.PE.imp {X : Cx} {e : Expr} {t t' : TE} (h : PE X e t) (k : ∀ σ H Q, t' σ H Q → t σ H Q) : PE X e t' := ⟨fun pins s σ H Q I q => h.run pins s σ H Q I (k _ _ _ q)⟩
theorem _root_.L2.PT.imp {X : Cx} {e : Expr} {t t' : TT} (h : PT X e t) (k : ∀ σ H Q, t' σ H Q → t σ H Q) : PT X e t' := ⟨fun pins s σ H Q I q => h.run pins s σ H Q I (k _ _ _ q)⟩
theorem _root_.L2.PW.imp {X : Cx} {e : Expr} {t t' : TT} (h : PW X e t) (k : ∀ σ H Q, t' σ H Q → t σ H Q) : PW X e t' := ⟨fun wh pins s σ H Q I q => h.run wh pins s σ H Q I (k _ _ _ q)⟩
theorem _root_.L2.PA.imp {X : Cx} {e : List Expr} {t t' : TA} (h : PA X e t) (k : ∀ σ H Q, t' σ H Q → t σ H Q) : PA X e t' := ⟨fun pos pins s σ H Q I q => h.run pos pins s σ H Q I (k _ _ _ q)⟩
theorem _root_.L2.PS.imp {X : Cx} {e : Stmt} {t t' : TS} (h : PS X e t) (k : ∀ D σ H, t' D σ H → t D σ H) : PS X e t' := ⟨fun pins s σ H Q I q => h.run pins s σ H Q I (k _ _ _ q)⟩
theorem _root_.L2.PSs.imp {X : Cx} {e : List Stmt} {t t' : TS} (h : PSs X e t) (k : ∀ D σ H, t' D σ H → t D σ H) : PSs X e t' := ⟨fun pins s σ H Q I q => h.run pins s σ H Q I (k _ _ _ q)⟩

abbrev Takes := L2N.Takes
theorem takes0 {X : Cx} : Takes X (fun _ _ _ _ => False) := fun _ _ x => by
  obtain ⟨a, B, sI, pins, σ, H, cls, d, e, I, nb, up, sky, na, os, ag, w⟩ := x
  exact w.elim
/-- an exception leaves: what is wanted at the trees, of what is wanted at the heap -/
def exK (K : PySem.W.Frag) (C : Ctx) (W : WX) (H : Hp) (O : Own) : ExK := fun c ρ' => ∀ σ' H' O', Rel K C C.N σ' H' O' ρ' → Fre H O H' O' → W (.ref (clsA K c)) none σ' H'
theorem exK.on {K : PySem.W.Frag} {C : Ctx} {W : WX} {H H1 : Hp} {O O1 : Own} (f : Fre H O H1 O1) (c : Str) (ρ' : Rho) (h : exK K C W H O c ρ') : exK K C W H1 O1 c ρ' := fun σ' H' O' R F => h σ' H' O' R (f.trans F)
inductive ValAll (K : PySem.W.Frag) (H : Hp) (O : Own) : Nat → List V → List T → Prop
  | nil {n} : ValAll K H O n [] []
  | cons {n v vs t ts} : Val K H O n v t → ValAll K H O (n + 1) vs ts → ValAll K H O n (v :: vs) (t :: ts)
def lfE (K : PySem.W.Frag) (C : Ctx) (W : WX) (n : Nat) (tw : TwE) : TE := fun σ H Q => ∃ O ρ, Rel K C n σ H O ρ ∧
  tw ρ (fun t ρ' => ∀ v H' O', Rel K C (n + 1) σ H' O' ρ' → Frm C.N n H O H' O' → Val K H' O' n v t → Q v H') (exK K C W H O)
def lfA (K : PySem.W.Frag) (C : Ctx) (W : WX) (n : Nat) (tw : TwA) : TA := fun σ H Q => ∃ O ρ, Rel K C n σ H O ρ ∧
  tw ρ (fun ts ρ' => ∀ vs H' O', Rel K C (n + ts.length) σ H' O' ρ' → Frm C.N n H O H' O' → ValAll K H' O' n vs ts → Q vs H') (exK K C W H O)
def lfT (K : PySem.W.Frag) (C : Ctx) (W : WX) (n : Nat) (tw : TwT) : TT := fun σ H Q => ∃ O ρ, Rel K C n σ H O ρ ∧
  tw ρ (fun b ρ' => ∀ H' O', Rel K C n σ H' O' ρ' → Frm C.N n H O H' O' → Q b H') (exK K C W H O)
def MonE {α : Type} (tw : Rho → (α → Rho → Prop) → ExK → Prop) : Prop := ∀ ρ (Q Q' : α → Rho → Prop) (E E' : ExK), (∀ t ρ', Q t ρ' → Q' t ρ') → (∀ c ρ', E c ρ' → E' c ρ') → tw ρ Q E → tw ρ Q' E'
structure LE (X : Cx) (e : Expr) (tw : TwE) : Prop where
  mono : MonE tw
  run : ∀ (C : Ctx) (W : WX) (n : Nat), C.N = X.N.length → C.N ≤ n → Takes X W → PE X e (lfE X.K C W n tw)
structure LA (X : Cx) (es : List Expr) (tw : TwA) : Prop where
  mono : MonE tw
  len : ∀ ρ Q E, tw ρ Q E → tw ρ (fun ts ρ' => ts.length = es.length ∧ Q ts ρ') E
  run : ∀ (C : Ctx) (W : WX) (n : Nat), C.N = X.N.length → C.N ≤ n → Takes X W → PA X es (lfA X.K C W n tw)
structure LT (X : Cx) (e : Expr) (tw : TwT) : Prop where
  mono : MonE tw
  run : ∀ (C : Ctx) (W : WX) (n : Nat), C.N = X.N.length → C.N ≤ n → Takes X W → PT X e (lfT X.K C W n tw)
structure LW (X : Cx) (e : Expr) (tw : TwT) : Prop where
  mono : MonE tw
  run : ∀ (C : Ctx) (W : WX) (n : Nat), C.N = X.N.length → C.N ≤ n → Takes X W → PW X e (lfT X.K C W n tw)
theorem LW.lt {X : Cx} {e : Expr} {tw : TwT} (h : LW X e tw) : LT X e tw := ⟨h.mono, fun C W n a b c => (h.run C W n a b c).pt⟩

section
variable {X : Cx} {pos : Pos} {a b c : Expr} {ta tb tc : TwE}

/-! ### names, constants -/
def wVar (i : Nat) : TwE := fun ρ Q _ => ∃ t, ρ[i]? = some (some t) ∧ Q (nmv i t) ρ
def wC (t : T) : TwE := fun ρ Q _ => Q t ρ
theorem lv (i : Nat) {x : Str} {pos : Pos} (hN : X.N[i]? = some x := by rfl) (hv : Vis X.env.scope x := by first | exact Or.inl rfl | exact Or.inr (Or.inl rfl) | exact Or.inr (Or.inr rfl)) (hd : (x == ("__debug__" : Str)) = false := by decide)
    (hcd : (x == ("__classdict__" : Str)) = false := by decide) : LE X (.Name x pos) (wVar i) := by
  refine ⟨fun ρ Q Q' E E' h _ ⟨t, e, q⟩ => ⟨t, e, h _ _ q⟩, fun C W n hC hn tk => (pe_var (i := i) hN hv hd hcd).imp fun σ H Q ⟨O, ρ, R, t, e, q⟩ => ?_⟩
  obtain ⟨v, h1, h2⟩ := R.sl i t e
  exact ⟨v, h1, q v H O (R.up (Nat.le_succ _)) .refl (R.val_name e h2)⟩
theorem le_sc {e : Expr} {v : V} {x : PyData} (s : Sc v x) (h : PE X e (tC v)) : LE X e (wC (.d x)) :=
  ⟨fun ρ Q Q' E E' h _ q => h _ _ q, fun C W n hC hn tk => h.imp fun σ H Q ⟨O, ρ, R, q⟩ => q v H O (R.up (Nat.le_succ _)) .refl (R.val_d s.rp)⟩
theorem le_raw {e : Expr} {v : V} (h : PE X e (tC v)) : LE X e (wC (.raw v)) :=
  ⟨fun ρ Q Q' E E' h _ q => h _ _ q, fun C W n hC hn tk => h.imp fun σ H Q ⟨O, ρ, R, q⟩ => q v H O (R.up (Nat.le_succ _)) .refl R.val_raw⟩
theorem le_int {i j pos} : LE X (.Constant (.int i) j pos) (wC (.d (.int i))) := le_sc (.int i) pe_int
theorem le_bl {i j pos} : LE X (.Constant (.bool i) j pos) (wC (.d (.bool i))) := le_sc (.bl i) pe_bl
theorem le_non {j pos} : LE X (.Constant .none j pos) (wC (.d .none)) := le_sc .non pe_non
theorem le_str {i j pos} : LE X (.Constant (.str i) j pos) (wC (.d (.str i))) := le_sc (.str i) pe_str

/-! ### two places, a scalar out -/
def OpD (K : PySem.W.Frag) (r : R2) (f : PyData → PyData → PyData → Prop) : Prop := ∀ H v u x y z (Q : VK), Rp K H v x → Rp K H u y → f x y z → (∀ w, Sc w z → Q w H) → r v u H Q
def w2 (ta tb : TwE) (k : T → T → Rho → (T → Rho → Prop) → Prop) : TwE := fun ρ Q E => ta ρ (fun t ρ1 => tb ρ1 (fun u ρ2 => k t u ρ2 Q) E) E
def wOp (f : PyData → PyData → PyData → Prop) (ta tb : TwE) : TwE := w2 ta tb fun t u ρ Q => ∃ x y z, vw ρ t = some x ∧ vw ρ u = some y ∧ f x y z ∧ Q (.d z) ρ
theorem w2_mono {k : T → T → Rho → (T → Rho → Prop) → Prop} (ha : MonE ta) (hb : MonE tb) (hk : ∀ t u ρ Q Q', (∀ t ρ', Q t ρ' → Q' t ρ') → k t u ρ Q → k t u ρ Q') : MonE (w2 ta tb k) := fun ρ Q Q' E E' h he q =>
  ha ρ _ _ E E' (fun t ρ1 q1 => hb ρ1 _ _ E E' (fun u ρ2 q2 => hk _ _ _ _ _ h q2) he q1) he q
theorem wOp_mono {f : PyData → PyData → PyData → Prop} (ha : MonE ta) (hb : MonE tb) : MonE (wOp f ta tb) := w2_mono ha hb fun t u ρ Q Q' h ⟨x, y, z, h1, h2, h3, q⟩ => ⟨x, y, z, h1, h2, h3, h _ _ q⟩
/-- the second value behind the first -/
theorem two {K : PySem.W.Frag} {C : Ctx} {W : WX} {n : Nat} {σ : St} {H : Hp} {Q : VK} {r : R2} {k : T → T → Rho → (T → Rho → Prop) → Prop} (ha : MonE ta) (hb : MonE tb) (hn : C.N ≤ n)
    (h : lfE K C W n (w2 ta tb k) σ H Q)
    (fin : ∀ O ρ2 t u v w H2 O2, Rel K C (n + 2) σ H2 O2 ρ2 → Frm C.N n H O H2 O2 → Val K H2 O2 n v t → Val K H2 O2 (n + 1) w u →
      k t u ρ2 (fun t ρ' => ∀ v H' O', Rel K C (n + 1) σ H' O' ρ' → Frm C.N n H O H' O' → Val K H' O' n v t → Q v H') → r v w H2 Q) :
    tOp r (lfE K C W n ta) (lfE K C W (n + 1) tb) σ H Q := by
  obtain ⟨O, ρ, R, h⟩ := h
  refine ⟨O, ρ, R, ha ρ _ _ _ _ (fun t ρ1 q1 => ?_) (fun _ _ z => z) h⟩
  intro v H1 O1 R1 F1 V1
  refine ⟨O1, ρ1, R1, hb ρ1 _ _ _ _ (fun u ρ2 q2 => ?_) (fun c ρ' z => exK.on F1.fre c ρ' z) q1⟩
  intro w H2 O2 R2 F2 V2
  exact fin O ρ2 t u v w H2 O2 R2 (F1.trans F2 (Nat.le_succ n)) (V1.carry hn R1.lt R1.nt F2) V2 q2
theorem le_op {op : Operator} {r : R2} {f : PyData → PyData → PyData → Prop} (ho : OpR X (binaryOp op) r) (hd : OpD X.K r f) (ha : LE X a ta) (hb : LE X b tb) : LE X (.BinOp a op b pos) (wOp f ta tb) := by
  refine ⟨w2_mono ha.mono hb.mono fun t u ρ Q Q' h ⟨x, y, z, h1, h2, h3, q⟩ => ⟨x, y, z, h1, h2, h3, h _ _ q⟩, fun C W n hC hn tk => (pe_op ho (ha.run C W n hC hn tk) (hb.run C W (n + 1) hC (by omega) tk)).imp fun σ H Q h => ?_⟩
  refine two ha.mono hb.mono hn h fun O ρ2 t u v w H2 O2 R2 F V1 V2 ⟨x, y, z, h1, h2, h3, q⟩ => ?_
  refine hd H2 v w x y z Q (R2.viewH V1 h1) (R2.viewH V2 h2) h3 fun w' s => ?_
  obtain ⟨R3, V3⟩ := R2.fin_sc (N0 := 0) hn s
  exact q w' H2 _ R3 (F.trans (frm_cut C.N n H2 O2 hn) (Nat.le_refl _)) V3
theorem le_cmp {op : CmpOp} {r : R2} {f : PyData → PyData → PyData → Prop} (ho : OpR X (compareOp op) r) (hd : OpD X.K r f) (ha : LE X a ta) (hb : LE X b tb) (hm : behindInMarks op b = false) : LE X (.Compare a [op] [b] pos) (wOp f ta tb) := by
  refine ⟨w2_mono ha.mono hb.mono fun t u ρ Q Q' h ⟨x, y, z, h1, h2, h3, q⟩ => ⟨x, y, z, h1, h2, h3, h _ _ q⟩, fun C W n hC hn tk => (pe_cmpR ho (ha.run C W n hC hn tk) (hb.run C W (n + 1) hC (by omega) tk) hm).imp fun σ H Q h => ?_⟩
  refine two ha.mono hb.mono hn h fun O ρ2 t u v w H2 O2 R2 F V1 V2 ⟨x, y, z, h1, h2, h3, q⟩ => ?_
  refine hd H2 v w x y z Q (R2.viewH V1 h1) (R2.viewH V2 h2) h3 fun w' s => ?_
  obtain ⟨R3, V3⟩ := R2.fin_sc (N0 := 0) hn s
  exact q w' H2 _ R3 (F.trans (frm_cut C.N n H2 O2 hn) (Nat.le_refl _)) V3

/-! ### tests -/
/-- a value that is True or False, as a test -/
def wT (ta : TwE) : TwT := fun ρ Q E => ta ρ (fun t ρ1 => ∃ b, t = .d (.bool b) ∧ Q b ρ1) E
theorem val_bool {K : PySem.W.Frag} {H : Hp} {O : Own} {n : Nat} {v : V} {b : Bool} (h : Val K H O n v (.d (.bool b))) : v = .bl b := by
  have h := h.1
  cases h with | d h => cases h; rfl
theorem lt_val {e : Expr} (h : LE X e ta) (he : ∀ whole, isTrue e X.env whole = (do let v ← whole; standAt e.pos; holding [v] (truthy v)) := by intro _; rfl) : LT X e (wT ta) := by
  refine ⟨fun ρ Q Q' E E' k ke q => h.mono ρ _ _ E E' (fun t ρ1 ⟨b, e, q⟩ => ⟨b, e, k _ _ q⟩) ke q, fun C W n hC hn tk => (pt_val (h.run C W n hC hn tk) he).imp fun σ H Q ⟨O, ρ, R, q⟩ => ?_⟩
  refine ⟨O, ρ, R, h.mono ρ _ _ _ _ (fun t ρ1 ⟨b, e, q⟩ => ?_) (fun _ _ z => z) q⟩
  subst e
  intro v H1 O1 R1 F1 V1
  exact ⟨b, val_bool V1, q H1 _ (R1.cut hn) (F1.trans (frm_cut C.N n H1 O1 hn) (Nat.le_refl _))⟩
theorem lt_cmp {op : CmpOp} {r : R2} {f : PyData → PyData → PyData → Prop} (ho : OpR X (compareOp op) r) (hd : OpD X.K r f) (ha : LE X a ta) (hb : LE X b tb) (hm : behindInMarks op b = false) : LT X (.Compare a [op] [b] pos) (wT (wOp f ta tb)) := by
  refine ⟨fun ρ Q Q' E E' k ke q => wOp_mono ha.mono hb.mono ρ _ _ E E' (fun t ρ1 ⟨b, e, q⟩ => ⟨b, e, k _ _ q⟩) ke q,
    fun C W n hC hn tk => (pt_cmpR ho (ha.run C W n hC hn tk) (hb.run C W (n + 1) hC (by omega) tk) hm).imp fun σ H Q ⟨O, ρ, R, h⟩ => ?_⟩
  refine two (ta := ta) (tb := tb) (k := fun t u ρ2 Q' => ∃ x y b, vw ρ2 t = some x ∧ vw ρ2 u = some y ∧ f x y (.bool b) ∧ Q' (.d (.bool b)) ρ2) (Q := fun x H' => ∃ k, x = V.bl k ∧ Q k H') ha.mono hb.mono hn
    ⟨O, ρ, R, ha.mono ρ _ _ _ _ (fun t ρ1 q1 => hb.mono ρ1 _ _ _ _ (fun u ρ2 ⟨x, y, z, h1, h2, h3, b, e, q⟩ => ?_) (fun _ _ z => z) q1) (fun _ _ z => z) h⟩ fun O ρ2 t u v w H2 O2 R2 F V1 V2 ⟨x, y, b, h1, h2, h3, q⟩ => ?_
  · refine hd H2 v w x y (.bool b) _ (R2.viewH V1 h1) (R2.viewH V2 h2) h3 fun w' s => ?_
    obtain ⟨R3, V3⟩ := R2.fin_sc (N0 := 0) hn s
    exact q w' H2 _ R3 (F.trans (frm_cut C.N n H2 O2 hn) (Nat.le_refl _)) V3
  · cases e
    refine ⟨x, y, b, h1, h2, h3, fun v H' O' R' F' V' => ⟨b, val_bool V', q H' _ (R'.cut hn) (F'.trans (frm_cut C.N n H' O' hn) (Nat.le_refl _))⟩⟩
def wAnd (t u : TwT) : TwT := fun ρ Q E => t ρ (fun b ρ1 => if b = true then u ρ1 Q E else Q false ρ1) E
def wOr (t u : TwT) : TwT := fun ρ Q E => t ρ (fun b ρ1 => if b = true then Q true ρ1 else u ρ1 Q E) E
def wNot (t : TwT) : TwT := fun ρ Q E => t ρ (fun b ρ1 => Q (!b) ρ1) E
variable {tA tB : TwT} {rest : List Expr}
theorem wAnd_mono (ha : MonE tA) (hb : MonE tB) : MonE (wAnd tA tB) := fun ρ Q Q' E E' h he q => ha ρ _ _ E E' (fun b ρ1 q => by
  cases b with
  | true => exact hb ρ1 Q Q' E E' h he q
  | false => exact h _ _ q) he q
theorem wOr_mono (ha : MonE tA) (hb : MonE tB) : MonE (wOr tA tB) := fun ρ Q Q' E E' h he q => ha ρ _ _ E E' (fun b ρ1 q => by
  cases b with
  | false => exact hb ρ1 Q Q' E E' h he q
  | true => exact h _ _ q) he q
theorem wNot_mono (ha : MonE tA) : MonE (wNot tA) := fun ρ Q Q' E E' h he q => ha ρ _ _ E E' (fun b ρ1 q => h _ _ q) he q
theorem lw_and1 (ha : LT X a tA) : LW X (.BoolOp .And [a] pos) tA := ⟨ha.mono, fun C W n hC hn tk => pw_and1 (ha.run C W n hC hn tk)⟩
theorem lw_or1 (ha : LT X a tA) : LW X (.BoolOp .Or [a] pos) tA := ⟨ha.mono, fun C W n hC hn tk => pw_or1 (ha.run C W n hC hn tk)⟩
theorem lw_and (ha : LT X a tA) (hb : LW X (.BoolOp .And (b :: rest) pos) tB) : LW X (.BoolOp .And (a :: b :: rest) pos) (wAnd tA tB) := by
  refine ⟨wAnd_mono ha.mono hb.mono, fun C W n hC hn tk => (pw_and (ha.run C W n hC hn tk) (hb.run C W n hC hn tk)).imp fun σ H Q ⟨O, ρ, R, q⟩ => ?_⟩
  refine ⟨O, ρ, R, ha.mono ρ _ _ _ _ (fun b ρ1 q1 => ?_) (fun _ _ z => z) q⟩
  intro H1 O1 R1 F1
  cases b with
  | true => exact ⟨O1, ρ1, R1, hb.mono ρ1 _ _ _ _ (fun b ρ2 q2 H2 O2 R2 F2 => q2 H2 O2 R2 (F1.trans F2 (Nat.le_refl _))) (fun c ρ' z => exK.on F1.fre c ρ' z) q1⟩
  | false => exact q1 H1 O1 R1 F1
theorem lw_or (ha : LT X a tA) (hb : LW X (.BoolOp .Or (b :: rest) pos) tB) : LW X (.BoolOp .Or (a :: b :: rest) pos) (wOr tA tB) := by
  refine ⟨wOr_mono ha.mono hb.mono, fun C W n hC hn tk => (pw_or (ha.run C W n hC hn tk) (hb.run C W n hC hn tk)).imp fun σ H Q ⟨O, ρ, R, q⟩ => ?_⟩
  refine ⟨O, ρ, R, ha.mono ρ _ _ _ _ (fun b ρ1 q1 => ?_) (fun _ _ z => z) q⟩
  intro H1 O1 R1 F1
  cases b with
  | false => exact ⟨O1, ρ1, R1, hb.mono ρ1 _ _ _ _ (fun b ρ2 q2 H2 O2 R2 F2 => q2 H2 O2 R2 (F1.trans F2 (Nat.le_refl _))) (fun c ρ' z => exK.on F1.fre c ρ' z) q1⟩
  | true => exact q1 H1 O1 R1 F1
theorem lt_not (ha : LT X a tA) : LT X (.UnaryOp .Not a pos) (wNot tA) := ⟨wNot_mono ha.mono, fun C W n hC hn tk => (pt_not (ha.run C W n hC hn tk)).imp fun σ H Q ⟨O, ρ, R, q⟩ => ⟨O, ρ, R, q⟩⟩

/-! ### and, or, not as values; a if t else b -/
def wAndV (ta tb : TwE) : TwE := fun ρ Q E => ta ρ (fun t ρ1 => ∃ c, t = .d (.bool c) ∧ if c = true then tb ρ1 Q E else Q (.d (.bool false)) ρ1) E
def wOrV (ta tb : TwE) : TwE := fun ρ Q E => ta ρ (fun t ρ1 => ∃ c, t = .d (.bool c) ∧ if c = true then Q (.d (.bool true)) ρ1 else tb ρ1 Q E) E
def wNotV (ta : TwE) : TwE := fun ρ Q E => ta ρ (fun t ρ1 => ∃ c, t = .d (.bool c) ∧ Q (.d (.bool (!c))) ρ1) E
theorem le_one {op} (h : LE X a ta) : LE X (.BoolOp op [a] pos) ta := ⟨h.mono, fun C W n hC hn tk => pe_one (h.run C W n hC hn tk)⟩
/-- behind a value that is let go, another one at the same root -/
theorem again {K : PySem.W.Frag} {C : Ctx} {W : WX} {n : Nat} {σ : St} {H H1 : Hp} {O O1 : Own} {ρ1 : Rho} {Q : VK} (hn : C.N ≤ n) (R1 : Rel K C (n + 1) σ H1 O1 ρ1) (F1 : Frm C.N n H O H1 O1) (hb : MonE tb)
    (q : tb ρ1 (fun t ρ' => ∀ v H' O', Rel K C (n + 1) σ H' O' ρ' → Frm C.N n H O H' O' → Val K H' O' n v t → Q v H') (exK K C W H O)) : lfE K C W n tb σ H1 Q := by
  have F : Frm C.N n H O H1 (cut n O1) := F1.trans (frm_cut C.N n H1 O1 hn) (Nat.le_refl _)
  exact ⟨cut n O1, ρ1, R1.cut hn, hb ρ1 _ _ _ _ (fun t ρ2 q2 v H2 O2 R2 F2 V2 => q2 v H2 O2 R2 (F.trans F2 (Nat.le_refl _)) V2) (fun c ρ' z => exK.on F.fre c ρ' z) q⟩
theorem le_and (ha : LE X a ta) (hb : LE X (.BoolOp .And (b :: rest) pos) tb) : LE X (.BoolOp .And (a :: b :: rest) pos) (wAndV ta tb) := by
  refine ⟨fun ρ Q Q' E E' k ke q => ha.mono ρ _ _ E E' (fun t ρ1 ⟨c, e, q⟩ => ⟨c, e, ?_⟩) ke q, fun C W n hC hn tk => (pe_and (ha.run C W n hC hn tk) (hb.run C W n hC hn tk)).imp fun σ H Q ⟨O, ρ, R, q⟩ => ?_⟩
  · refine ⟨O, ρ, R, ha.mono ρ _ _ _ _ (fun t ρ1 ⟨c, e, q⟩ => ?_) (fun _ _ z => z) q⟩
    subst e
    intro v H1 O1 R1 F1 V1
    refine ⟨c, val_bool V1, ?_⟩
    cases c with
    | true => exact again hn R1 F1 hb.mono q
    | false => exact q _ H1 _ ((R1.cut hn).up (Nat.le_succ _)) (F1.trans (frm_cut C.N n H1 O1 hn) (Nat.le_refl _)) ((R1.cut hn).val_d (.bl _))
  · cases c with
    | true => exact hb.mono ρ1 Q Q' E E' k ke q
    | false => exact k _ _ q
theorem le_or (ha : LE X a ta) (hb : LE X (.BoolOp .Or (b :: rest) pos) tb) : LE X (.BoolOp .Or (a :: b :: rest) pos) (wOrV ta tb) := by
  refine ⟨fun ρ Q Q' E E' k ke q => ha.mono ρ _ _ E E' (fun t ρ1 ⟨c, e, q⟩ => ⟨c, e, ?_⟩) ke q, fun C W n hC hn tk => (pe_or (ha.run C W n hC hn tk) (hb.run C W n hC hn tk)).imp fun σ H Q ⟨O, ρ, R, q⟩ => ?_⟩
  · refine ⟨O, ρ, R, ha.mono ρ _ _ _ _ (fun t ρ1 ⟨c, e, q⟩ => ?_) (fun _ _ z => z) q⟩
    subst e
    intro v H1 O1 R1 F1 V1
    refine ⟨c, val_bool V1, ?_⟩
    cases c with
    | false => exact again hn R1 F1 hb.mono q
    | true => exact q _ H1 _ ((R1.cut hn).up (Nat.le_succ _)) (F1.trans (frm_cut C.N n H1 O1 hn) (Nat.le_refl _)) ((R1.cut hn).val_d (.bl _))
  · cases c with
    | false => exact hb.mono ρ1 Q Q' E E' k ke q
    | true => exact k _ _ q
theorem le_not (ha : LE X a ta) : LE X (.UnaryOp .Not a pos) (wNotV ta) := by
  refine ⟨fun ρ Q Q' E E' k ke q => ha.mono ρ _ _ E E' (fun t ρ1 ⟨c, e, q⟩ => ⟨c, e, k _ _ q⟩) ke q, fun C W n hC hn tk => (pe_not (ha.run C W n hC hn tk)).imp fun σ H Q ⟨O, ρ, R, q⟩ => ?_⟩
  refine ⟨O, ρ, R, ha.mono ρ _ _ _ _ (fun t ρ1 ⟨c, e, q⟩ => ?_) (fun _ _ z => z) q⟩
  subst e
  intro v H1 O1 R1 F1 V1
  exact ⟨c, val_bool V1, q _ H1 _ ((R1.cut hn).up (Nat.le_succ _)) (F1.trans (frm_cut C.N n H1 O1 hn) (Nat.le_refl _)) ((R1.cut hn).val_d (.bl _))⟩
def wIf (t : TwT) (ta tb : TwE) : TwE := fun ρ Q E => t ρ (fun b ρ1 => if b = true then ta ρ1 Q E else tb ρ1 Q E) E
theorem le_if (hc : LT X c tA) (ha : LE X a ta) (hb : LE X b tb) : LE X (.IfExp c a b pos) (wIf tA ta tb) := by
  refine ⟨fun ρ Q Q' E E' k ke q => hc.mono ρ _ _ E E' (fun b ρ1 q => ?_) ke q, fun C W n hC hn tk => (pe_ifExp (hc.run C W n hC hn tk) (ha.run C W n hC hn tk) (hb.run C W n hC hn tk)).imp fun σ H Q ⟨O, ρ, R, q⟩ => ?_⟩
  · cases b with
    | true => exact ha.mono ρ1 Q Q' E E' k ke q
    | false => exact hb.mono ρ1 Q Q' E E' k ke q
  · refine ⟨O, ρ, R, hc.mono ρ _ _ _ _ (fun b ρ1 q => ?_) (fun _ _ z => z) q⟩
    intro H1 O1 R1 F1
    cases b with
    | true => exact ⟨O1, ρ1, R1, ha.mono ρ1 _ _ _ _ (fun t ρ2 q2 v H2 O2 R2 F2 V2 => q2 v H2 O2 R2 (F1.trans F2 (Nat.le_refl _)) V2) (fun c ρ' z => exK.on F1.fre c ρ' z) q⟩
    | false => exact ⟨O1, ρ1, R1, hb.mono ρ1 _ _ _ _ (fun t ρ2 q2 v H2 O2 R2 F2 V2 => q2 v H2 O2 R2 (F1.trans F2 (Nat.le_refl _)) V2) (fun c ρ' z => exK.on F1.fre c ρ' z) q⟩

/-! ### arguments -/
variable {es : List Expr} {tas : TwA} {e : Expr}
def wNil : TwA := fun ρ Q _ => Q [] ρ
def wCons (ta : TwE) (tr : TwA) : TwA := fun ρ Q E => ta ρ (fun t ρ1 => tr ρ1 (fun ts ρ2 => Q (t :: ts) ρ2) E) E
theorem la_nil : LA X [] wNil := ⟨fun ρ Q Q' E E' h _ q => h _ _ q, fun ρ Q E q => ⟨rfl, q⟩, fun C W n hC hn tk => pa_nil.imp fun σ H Q ⟨O, ρ, R, q⟩ => q [] H O R .refl .nil⟩
theorem wCons_mono {tas : TwA} (ha : MonE ta) (hr : MonE tas) : MonE (wCons ta tas) := fun ρ Q Q' E E' h he q => ha ρ _ _ E E' (fun t ρ1 q1 => hr ρ1 _ _ E E' (fun ts ρ2 q2 => h _ _ q2) he q1) he q
theorem la_cons (ha : LE X e ta) (hr : LA X es tas) (hs : starEach (e :: es) X.env = (false, eval e X.env) :: starEach es X.env := by rfl) : LA X (e :: es) (wCons ta tas) := by
  refine ⟨wCons_mono ha.mono hr.mono, fun ρ Q E q => ha.mono ρ _ _ E E (fun t ρ1 q1 => hr.mono ρ1 _ _ E E (fun ts ρ2 z => ⟨by rw [List.length_cons, List.length_cons, z.1], z.2⟩) (fun _ _ z => z) (hr.len ρ1 _ E q1)) (fun _ _ z => z) q, fun C W n hC hn tk => (pa_cons (ha.run C W n hC hn tk) (hr.run C W (n + 1) hC (by omega) tk) hs).imp fun σ H Q ⟨O, ρ, R, q⟩ => ?_⟩
  refine ⟨O, ρ, R, ha.mono ρ _ _ _ _ (fun t ρ1 q1 => ?_) (fun _ _ z => z) q⟩
  intro v H1 O1 R1 F1 V1
  refine ⟨O1, ρ1, R1, hr.mono ρ1 _ _ _ _ (fun ts ρ2 q2 => ?_) (fun c ρ' z => exK.on F1.fre c ρ' z) q1⟩
  intro vs H2 O2 R2 F2 V2
  refine q2 (v :: vs) H2 O2 (by rw [List.length_cons, show n + (ts.length + 1) = n + 1 + ts.length by omega]; exact R2) (F1.trans F2 (Nat.le_succ n)) (.cons (V1.carry hn R1.lt R1.nt F2) V2)
end
end TX

/-! What the operators and the built-ins do to data. -/
namespace TX
open PySem PySem.Spec L2

/-! ### data in the machine's heap -/
def LD (H : Hp) (as : List Addr) : Prop := ∀ x ∈ as, ∃ o, H x = some o ∧ isLD o = true
theorem LD.nil {H : Hp} : LD H [] := fun x h => absurd h (by simp)
theorem LD.app {H : Hp} {as bs : List Addr} (a : LD H as) (b : LD H bs) : LD H (as ++ bs) := fun x h => (List.mem_append.mp h).elim (a x) (b x)
section
variable {X : Cx} {pins : List (Addr × Obj)} {σ : St} {H : Hp} {s : Shared}
theorem key_reads {h : Heap} {k : Key} {u : Value} (e : RelV (kV k) u) : Reads h u (keyD k) [] := by
  cases k with
  | inl i => obtain ⟨t, rfl⟩ := e; exact .int i t
  | inr x => obtain ⟨t, rfl⟩ := e; exact .str x t
theorem keyIs_reads {h : Heap} {k : Key} {u : Value} (e : keyIs k u = true) : Reads h u (keyD k) [] := by
  rcases keyIs_shape e with ⟨i, t, rfl, rfl⟩ | ⟨x, t, rfl, rfl⟩
  · exact .int i t
  · exact .str x t
theorem keys_reads {h : Heap} : ∀ {ks : List Key} {us : List Value}, Vals (ks.map kV) us → ReadsAll h us (ks.map keyD) []
  | [], _, r => by cases r; exact .nil
  | k :: ks, _, r => by
    cases r with
    | cons r1 r2 => exact ReadsAll.cons (as := []) (bs := []) (key_reads r1) (keys_reads r2)
theorem pairs_keys {P : Program} {w : World} {h : Heap} : ∀ {es : List DictEntry} {vs : List (Key × Value)} {kvs : List (Key × V)}, Pairs (mixKind P w) es vs → KV kvs vs → ReadsAll h (es.map (·.key)) (kvs.map fun q => keyD q.1) []
  | [], _, _, a, b => by cases a; cases b; exact .nil
  | e :: es, _, _, a, b => by
    cases a with
    | cons a1 a2 a3 =>
      cases b with
      | cons b1 b2 => exact ReadsAll.cons (as := []) (bs := []) (by dsimp only; rw [b1.1]; exact keyIs_reads a1) (pairs_keys a3 b2)
theorem pairs_vals {P : Program} {w : World} : ∀ {es : List DictEntry} {vs : List (Key × Value)} {kvs : List (Key × V)}, Pairs (mixKind P w) es vs → KV kvs vs → Vals (kvs.map (·.2)) (es.map (·.val))
  | [], _, _, a, b => by cases a; cases b; exact .nil
  | e :: es, _, _, a, b => by
    cases a with
    | cons a1 a2 a3 =>
      cases b with
      | cons b1 b2 => exact .cons (by dsimp only; rw [a2]; exact b1.2) (pairs_vals a3 b2)
theorem tups_keys (I : Inv X pins σ H s) {P : Program} {w : World} : ∀ {xs : List (List Key × Addr × Value)} {kvs : List (List Key × V)},
    Paired (fun (p : List Key × V) (q : List Key × Addr × Value) => p.1 = q.1 ∧ H q.2.1 = some (.tup (p.1.map kV)) ∧ RelV p.2 q.2.2) kvs xs →
      ReadsAll s.heap ((xs.map (entryOfKey (tupleKind (mixKind P w)))).map (·.key)) (kvs.map fun q => PyData.tuple (q.1.map keyD)) [] ∧ Vals (kvs.map (·.2)) ((xs.map (entryOfKey (tupleKind (mixKind P w)))).map (·.val))
  | [], _, a => by cases a; exact ⟨.nil, .nil⟩
  | x :: xs, _, a => by
    cases a with
    | cons a1 a2 =>
      obtain ⟨r1, r2⟩ := tups_keys I a2
      obtain ⟨e1, e2, e3⟩ := a1
      obtain ⟨_, its, rv, o, ho, hc, n, hd⟩ := I.hok _ _ e2
      exact ⟨ReadsAll.cons (as := []) (bs := []) (Reads.tuple ho hc hd (keys_reads rv)) r1, .cons e3 r2⟩
mutual
theorem Rp.reads (I : Inv X pins σ H s) : ∀ (d : PyData) (v : V) (u : Value), Rp X.K H v d → RelV v u → ∃ as, Reads s.heap u d as ∧ LD H as
  | .none, _, _, h, r => by cases h; cases r; exact ⟨_, Reads.none, .nil⟩
  | .bool b, _, _, h, r => by cases h; cases r; exact ⟨_, Reads.bool b, .nil⟩
  | .int i, _, _, h, r => by cases h; obtain ⟨t, rfl⟩ := r; exact ⟨_, Reads.int i t, .nil⟩
  | .str x, _, _, h, r => by cases h; obtain ⟨t, rfl⟩ := r; exact ⟨_, Reads.str x t, .nil⟩
  | .list ds, _, _, h, r => by
    cases h with
    | lst hs ha =>
      cases r
      obtain ⟨_, its, n, rv, e⟩ := I.hok _ _ hs
      obtain ⟨as, h1, h2⟩ := RpAll.reads I ds _ its ha rv
      exact ⟨_, Reads.list e rfl rfl h1, fun x hx => (List.mem_cons.mp hx).elim (fun z => ⟨_, z ▸ hs, rfl⟩) (h2 x)⟩
  | .tuple ds, _, _, h, r => by
    cases h with
    | tup hs ha =>
      cases r
      obtain ⟨_, its, rv, o, ho, hc, n, hd⟩ := I.hok _ _ hs
      obtain ⟨as, h1, h2⟩ := RpAll.reads I ds _ its ha rv
      exact ⟨_, Reads.tuple ho hc hd h1, h2⟩
  | .dict ps, _, _, h, r => by
    cases h with
    | dk hs hk ha =>
      cases r
      obtain ⟨z, hz, vs, kv, o, es, ep, ho, ex, hd, ko, pr, nd⟩ := hs.ok I.hok
      obtain ⟨as, h1, h2⟩ := RpAll.readsKv I ps _ _ ha (pairs_vals pr kv)
      refine ⟨_, Reads.dict ho ex.1 hd (by rw [hk]; exact pairs_keys pr kv) h1, ?_⟩
      refine fun x hx => (List.mem_cons.mp (show x ∈ _ :: as from by simpa using hx)).elim (fun z => ?_) (h2 x)
      subst z
      rcases hs with hs | ⟨o, hs⟩
      · exact ⟨_, hs, rfl⟩
      · exact ⟨_, hs, rfl⟩
    | dt hs hk ha =>
      cases r
      obtain ⟨z, hz, xs, pr, o, es, ep, ho, ex, hd, he, nd⟩ := hs.ok I.hok
      obtain ⟨k1, k2⟩ := tups_keys (P := X.prog) (w := X.w) I pr
      rw [← he] at k1 k2
      obtain ⟨as, h1, h2⟩ := RpAll.readsKv I ps _ _ ha k2
      refine ⟨_, Reads.dict ho ex.1 hd (by rw [hk]; exact k1) h1, ?_⟩
      refine fun x hx => (List.mem_cons.mp (show x ∈ _ :: as from by simpa using hx)).elim (fun z => ?_) (h2 x)
      subst z
      rcases hs with hs | ⟨o, hs⟩
      · exact ⟨_, hs, rfl⟩
      · exact ⟨_, hs, rfl⟩
theorem RpAll.reads (I : Inv X pins σ H s) : ∀ (ds : List PyData) (vs : List V) (us : List Value), RpAll X.K H vs ds → Vals vs us → ∃ as, ReadsAll s.heap us ds as ∧ LD H as
  | [], _, _, h, r => by cases h; cases r; exact ⟨_, .nil, .nil⟩
  | d :: ds, _, _, h, r => by
    cases h with
    | cons h1 h2 =>
      cases r with
      | cons r1 r2 =>
        obtain ⟨as, q1, l1⟩ := Rp.reads I d _ _ h1 r1
        obtain ⟨bs, q2, l2⟩ := RpAll.reads I ds _ _ h2 r2
        exact ⟨_, .cons q1 q2, l1.app l2⟩
theorem RpAll.readsKv (I : Inv X pins σ H s) : ∀ (ps : List (PyData × PyData)) (vs : List V) (us : List Value), RpAll X.K H vs (ps.map (·.2)) → Vals vs us → ∃ as, ReadsAll s.heap us (ps.map (·.2)) as ∧ LD H as
  | [], _, _, h, r => by cases h; cases r; exact ⟨_, .nil, .nil⟩
  | (k, d) :: ds, _, _, h, r => by
    cases h with
    | cons h1 h2 =>
      cases r with
      | cons r1 r2 =>
        obtain ⟨as, q1, l1⟩ := Rp.reads I d _ _ h1 r1
        obtain ⟨bs, q2, l2⟩ := RpAll.readsKv I ds _ _ h2 r2
        exact ⟨_, .cons q1 q2, l1.app l2⟩
end
end

/-! ### operators -/
section
variable {X : Cx}
def fI (g : Int → Int → Int) : PyData → PyData → PyData → Prop := fun x y z => ∃ i j, x = .int i ∧ y = .int j ∧ z = .int (g i j)
def fIc (C : Int → Int → Prop) (g : Int → Int → Int) : PyData → PyData → PyData → Prop := fun x y z => ∃ i j, x = .int i ∧ y = .int j ∧ C i j ∧ z = .int (g i j)
def fB (g : Int → Int → Bool) : PyData → PyData → PyData → Prop := fun x y z => ∃ i j, x = .int i ∧ y = .int j ∧ z = .bool (g i j)
theorem rp_int {K : PySem.W.Frag} {H : Hp} {v : V} {i : Int} (h : Rp K H v (.int i)) : v = .int i := by cases h; rfl
theorem rp_str {K : PySem.W.Frag} {H : Hp} {v : V} {i : Str} (h : Rp K H v (.str i)) : v = .str i := by cases h; rfl
theorem rp_bool {K : PySem.W.Frag} {H : Hp} {v : V} {i : Bool} (h : Rp K H v (.bool i)) : v = .bl i := by cases h; rfl
theorem rp_none {K : PySem.W.Frag} {H : Hp} {v : V} (h : Rp K H v .none) : v = .non := by cases h; rfl
theorem od_I {K : PySem.W.Frag} (g : Int → Int → Int) : OpD K (rI0 fun i j => .int (g i j)) (fI g) := by
  rintro H v u x y z Q h1 h2 ⟨i, j, rfl, rfl, rfl⟩ q
  rw [rp_int h1, rp_int h2]
  exact ⟨i, j, rfl, rfl, q _ (.int _)⟩
theorem od_Ic {K : PySem.W.Frag} (C : Int → Int → Prop) (g : Int → Int → Int) : OpD K (rI C fun i j => .int (g i j)) (fIc C g) := by
  rintro H v u x y z Q h1 h2 ⟨i, j, rfl, rfl, c, rfl⟩ q
  rw [rp_int h1, rp_int h2]
  exact ⟨i, j, rfl, rfl, c, q _ (.int _)⟩
theorem od_B {K : PySem.W.Frag} (g : Int → Int → Bool) : OpD K (rI0 fun i j => .bl (g i j)) (fB g) := by
  rintro H v u x y z Q h1 h2 ⟨i, j, rfl, rfl, rfl⟩ q
  rw [rp_int h1, rp_int h2]
  exact ⟨i, j, rfl, rfl, q _ (.bl _)⟩
/-- a power whose size is bounded -/
def CPowW (i j : Int) : Prop := 0 ≤ j ∧ (Builtin.Int.intBits i : Int) * j ≤ 2 ^ 27
theorem op_powW : OpR X (binaryOp .Pow) (rI CPowW fun i j => .int (i ^ j.toNat)) := opI fun _ _ _ _ _ _ _ hc q => PyProof.Rows.pow_int hc.1 hc.2 q
variable {a b : Expr} {ta tb : TwE} {pos : Pos}
theorem le_add (ha : LE X a ta) (hb : LE X b tb) : LE X (.BinOp a .Add b pos) (wOp (fI (· + ·)) ta tb) := le_op op_add (od_I _) ha hb
theorem le_sub (ha : LE X a ta) (hb : LE X b tb) : LE X (.BinOp a .Sub b pos) (wOp (fI (· - ·)) ta tb) := le_op op_sub (od_I _) ha hb
theorem le_mul (ha : LE X a ta) (hb : LE X b tb) : LE X (.BinOp a .Mult b pos) (wOp (fIc CMulW (· * ·)) ta tb) := le_op op_mulW (od_Ic _ _) ha hb
theorem le_mod (ha : LE X a ta) (hb : LE X b tb) : LE X (.BinOp a .Mod b pos) (wOp (fIc (fun _ j => 0 < j) (· % ·)) ta tb) := le_op op_mod (od_Ic _ _) ha hb
theorem le_fdiv (ha : LE X a ta) (hb : LE X b tb) : LE X (.BinOp a .FloorDiv b pos) (wOp (fIc CDivW (· / ·)) ta tb) := le_op op_fdivW (od_Ic _ _) ha hb
theorem le_pow (ha : LE X a ta) (hb : LE X b tb) : LE X (.BinOp a .Pow b pos) (wOp (fIc CPowW (fun i j => i ^ j.toNat)) ta tb) := le_op op_powW (od_Ic _ _) ha hb
/-- == of data: none, truths, ints, texts, lists, tuples -/
def fEq : PyData → PyData → PyData → Prop := fun x y z => (SeqAt.shaped x = true ∧ SeqAt.shaped y = true ∧ z = .bool (PyData.eqv x y)) ∨ ∃ a b, x = .str a ∧ y = .str b ∧ z = .bool ((a == b))
def fNe : PyData → PyData → PyData → Prop := fun x y z => (SeqAt.shaped x = true ∧ SeqAt.shaped y = true ∧ z = .bool (!PyData.eqv x y)) ∨ ∃ a b, x = .str a ∧ y = .str b ∧ z = .bool (!(a == b))
def rEqX (K : PySem.W.Frag) : R2 := fun x y H Q => ∃ d e, Rp K H x d ∧ Rp K H y e ∧ SeqAt.shaped d = true ∧ SeqAt.shaped e = true ∧ Q (.bl (PyData.eqv d e)) H
def rTEq : R2 := fun x y H Q => ∃ a b, x = .str a ∧ y = .str b ∧ Q (.bl ((a == b))) H
def rNeX (K : PySem.W.Frag) : R2 := fun x y H Q => ∃ d e, Rp K H x d ∧ Rp K H y e ∧ SeqAt.shaped d = true ∧ SeqAt.shaped e = true ∧ Q (.bl (!PyData.eqv d e)) H
def rTNe : R2 := fun x y H Q => ∃ a b, x = .str a ∧ y = .str b ∧ Q (.bl (!(a == b))) H
theorem op_eqT : OpR X (compareOp .Eq) rTEq := by
  rintro pins s σ H x y v u Q I rx ry ⟨a, b, rfl, rfl, q⟩
  exact op_eq pins s σ H _ _ v u Q I rx ry ⟨rfl, by rw [dec_str]; exact q⟩
theorem op_eqX (hu : X.A.units + 64 < cLine) : OpR X (compareOp .Eq) (fun x y H Q => rEqX X.K x y H Q ∨ rTEq x y H Q) := by
  refine OpR.or ?_ op_eqT
  rintro pins s σ H x y v u Q I rx ry ⟨d, e, hd, he, sd, se, q⟩
  obtain ⟨as, r1, _⟩ := Rp.reads I d x v hd rx
  obtain ⟨bs, r2, _⟩ := Rp.reads I e y u he ry
  exact SeqAt.compareEq_shaped r1 r2 sd se hu ⟨.bl _, H, I, rfl, q⟩
theorem op_neT : OpR X (compareOp .NotEq) rTNe := by
  rintro pins s σ H x y v u Q I rx ry ⟨a, b, rfl, rfl, q⟩
  exact op_ne pins s σ H _ _ v u Q I rx ry ⟨rfl, by rw [dec_str]; exact q⟩
theorem op_neX (hu : X.A.units + 64 < cLine) : OpR X (compareOp .NotEq) (fun x y H Q => rNeX X.K x y H Q ∨ rTNe x y H Q) := by
  refine OpR.or ?_ op_neT
  rintro pins s σ H x y v u Q I rx ry ⟨d, e, hd, he, sd, se, q⟩
  obtain ⟨as, r1, _⟩ := Rp.reads I d x v hd rx
  obtain ⟨bs, r2, _⟩ := Rp.reads I e y u he ry
  exact SeqAt.compareNe_shaped r1 r2 sd se hu ⟨.bl _, H, I, rfl, q⟩
theorem od_Eq {K : PySem.W.Frag} : OpD K (fun x y H Q => rEqX K x y H Q ∨ rTEq x y H Q) fEq := by
  rintro H v u x y z Q h1 h2 (⟨s1, s2, rfl⟩ | ⟨a, b, rfl, rfl, rfl⟩) q
  · exact .inl ⟨x, y, h1, h2, s1, s2, q _ (.bl _)⟩
  · rw [rp_str h1, rp_str h2]; exact .inr ⟨a, b, rfl, rfl, q _ (.bl _)⟩
theorem od_Ne {K : PySem.W.Frag} : OpD K (fun x y H Q => rNeX K x y H Q ∨ rTNe x y H Q) fNe := by
  rintro H v u x y z Q h1 h2 (⟨s1, s2, rfl⟩ | ⟨a, b, rfl, rfl, rfl⟩) q
  · exact .inl ⟨x, y, h1, h2, s1, s2, q _ (.bl _)⟩
  · rw [rp_str h1, rp_str h2]; exact .inr ⟨a, b, rfl, rfl, q _ (.bl _)⟩
/-- is None -/
def fIsN (neg : Bool) : PyData → PyData → PyData → Prop := fun x y z => y = .none ∧ z = .bool (neg != (match x with | .none => true | _ => false))
theorem rp_isnone {K : PySem.W.Frag} {H : Hp} {v : V} {x : PyData} (h : Rp K H v x) : decide (v = .non) = (match x with | .none => true | _ => false) := by cases h <;> rfl
theorem od_isN {K : PySem.W.Frag} : OpD K (fun x y H Q => y = .non ∧ Q (.bl (decide (x = .non))) H) (fIsN false) := by
  rintro H v u x y z Q h1 h2 ⟨rfl, rfl⟩ q
  refine ⟨rp_none h2, q _ ?_⟩
  rw [rp_isnone h1]
  cases x <;> exact .bl _
theorem od_notN {K : PySem.W.Frag} : OpD K (fun x y H Q => y = .non ∧ Q (.bl (!decide (x = .non))) H) (fIsN true) := by
  rintro H v u x y z Q h1 h2 ⟨rfl, rfl⟩ q
  refine ⟨rp_none h2, q _ ?_⟩
  rw [rp_isnone h1]
  cases x <;> exact .bl _
theorem od_lt {K : PySem.W.Frag} : OpD K (rI0 fun i j => .bl (decide (i < j))) (fB fun i j => decide (i < j)) := od_B _
theorem od_le {K : PySem.W.Frag} : OpD K (rI0 fun i j => .bl (decide (i ≤ j))) (fB fun i j => decide (i ≤ j)) := od_B _
theorem od_gt {K : PySem.W.Frag} : OpD K (rI0 fun i j => .bl (decide (j < i))) (fB fun i j => decide (j < i)) := od_B _
theorem od_ge {K : PySem.W.Frag} : OpD K (rI0 fun i j => .bl (decide (j ≤ i))) (fB fun i j => decide (j ≤ i)) := od_B _
end
end TX

/-! Calls of built-ins and of their methods; items, slices, displays. -/
namespace TX
open PySem PySem.Spec L2

section
variable {X : Cx} {pos : Pos} {a b c e : Expr} {es : List Expr} {ta tb tc : TwE} {tas : TwA}
/-- the end of an expression at root n, from (H0, O0) on -/
def Fin (K : PySem.W.Frag) (C : Ctx) (n : Nat) (σ : St) (H0 : Hp) (O0 : Own) (Q : VK) : T → Rho → Prop := fun t ρ' => ∀ v H' O', Rel K C (n + 1) σ H' O' ρ' → Frm C.N n H0 O0 H' O' → Val K H' O' n v t → Q v H'
theorem Fin.sc {K : PySem.W.Frag} {C : Ctx} {n m : Nat} {σ : St} {H0 H : Hp} {O0 O : Own} {Q : VK} {ρ : Rho} {x : PyData} (hn : C.N ≤ n) (R : Rel K C m σ H O ρ) (F : Frm C.N n H0 O0 H O) (q : Fin K C n σ H0 O0 Q (.d x) ρ) {v : V} (s : Sc v x) : Q v H := by
  obtain ⟨R3, V3⟩ := R.fin_sc (N0 := 0) hn s
  exact q v H _ R3 (F.trans (frm_cut C.N n H O hn) (Nat.le_refl _)) V3
theorem Fin.dat {K : PySem.W.Frag} {C : Ctx} {n m : Nat} {σ : St} {H0 H : Hp} {O0 O : Own} {Q : VK} {ρ : Rho} {x : PyData} (hn : C.N ≤ n) (R : Rel K C m σ H O ρ) (F : Frm C.N n H0 O0 H O) (q : Fin K C n σ H0 O0 Q (.d x) ρ) {v : V} (s : Rp K (msk O H) v x) : Q v H := by
  have R3 := R.cut (n := n) hn
  refine q v H _ (R3.up (Nat.le_succ _)) (F.trans (frm_cut C.N n H O hn) (Nat.le_refl _)) (R3.val_d (Rp.mono (fun b o e => ?_) _ _ s))
  obtain ⟨e1, e2⟩ := msk_some e
  rw [msk_of (cut_free e1)]; exact e2
theorem Fin.newL {K : PySem.W.Frag} {C : Ctx} {n m : Nat} {σ : St} {H0 H : Hp} {O0 O : Own} {Q : VK} {ρ : Rho} {ws : List V} {zs : List PyData} (hn : C.N ≤ n) (R : Rel K C m σ H O ρ) (F : Frm C.N n H0 O0 H O)
    (q : Fin K C n σ H0 O0 Q (.l (zs.map T.d)) ρ) (hz : RpAll K (msk O H) ws zs) (p : Addr) (hp : H p = none) : Q (.ref p) (upd H p (.lst ws)) := by
  obtain ⟨O', R', F', V'⟩ := R.newL hn hp hz
  exact q _ _ O' R' (F.trans F' (Nat.le_refl _)) V'
theorem Fin.newT {K : PySem.W.Frag} {C : Ctx} {n m : Nat} {σ : St} {H0 H : Hp} {O0 O : Own} {Q : VK} {ρ : Rho} {ws : List V} {zs : List PyData} (hn : C.N ≤ n) (R : Rel K C m σ H O ρ) (F : Frm C.N n H0 O0 H O)
    (q : Fin K C n σ H0 O0 Q (.d (.tuple zs)) ρ) (hz : RpAll K (msk O H) ws zs) (p : Addr) (hp : H p = none) : Q (.ref p) (upd H p (.tup ws)) := by
  obtain ⟨O', R', F', V'⟩ := R.newT hn hp hz
  exact q _ _ O' R' (F.trans F' (Nat.le_refl _)) V'

/-! ### a call's values, then what it does -/
abbrev KT := List T → Rho → (T → Rho → Prop) → Prop
def MonK (k : KT) : Prop := ∀ ts ρ (Q Q' : T → Rho → Prop), (∀ t ρ', Q t ρ' → Q' t ρ') → k ts ρ Q → k ts ρ Q'
def wFn (k : KT) (tas : TwA) : TwE := fun ρ Q E => tas ρ (fun ts ρ1 => k ts ρ1 Q) E
def FnK (K : PySem.W.Frag) (r : List V → Hp → VK → Prop) (k : KT) : Prop := ∀ (C : Ctx) (n m : Nat) (σ : St) (H0 H : Hp) (O0 O : Own) (ρ : Rho) (ts : List T) (vs : List V) (Q : VK), C.N ≤ n → n + ts.length ≤ m → Rel K C m σ H O ρ → Frm C.N n H0 O0 H O →
  ValAll K H O n vs ts → k ts ρ (Fin K C n σ H0 O0 Q) → r vs H Q
theorem wFn_mono {k : KT} (hk : MonK k) (ha : MonE tas) : MonE (wFn k tas) := fun ρ Q Q' E E' h he q => ha ρ _ _ E E' (fun ts ρ1 q1 => hk _ _ _ _ h q1) he q
theorem le_fn {e' : Expr} {r : List V → Hp → VK → Prop} {k : KT} (hp : ∀ t : TA, PA X es t → PE X e' (tCB r t)) (hk : MonK k) (hf : FnK X.K r k) (ha : LA X es tas) : LE X e' (wFn k tas) := by
  refine ⟨wFn_mono hk ha.mono, fun C W n hC hn tk => (hp _ (ha.run C W n hC hn tk)).imp fun σ H Q ⟨O, ρ, R, q⟩ => ?_⟩
  refine ⟨O, ρ, R, ha.mono ρ _ _ _ _ (fun ts ρ1 q1 => ?_) (fun _ _ z => z) q⟩
  intro vs H1 O1 R1 F1 V1
  exact hf C n _ σ H H1 O O1 ρ1 ts vs Q hn (Nat.le_refl _) R1 F1 V1 q1
theorem ValAll.one {K : PySem.W.Frag} {H : Hp} {O : Own} {n : Nat} {vs : List V} {t : T} (h : ValAll K H O n vs [t]) : ∃ v, vs = [v] ∧ Val K H O n v t := by
  cases h with | cons h1 h2 => cases h2; exact ⟨_, rfl, h1⟩
theorem ValAll.two {K : PySem.W.Frag} {H : Hp} {O : Own} {n : Nat} {vs : List V} {t u : T} (h : ValAll K H O n vs [t, u]) : ∃ v w, vs = [v, w] ∧ Val K H O n v t ∧ Val K H O (n + 1) w u := by
  cases h with | cons h1 h2 => cases h2 with | cons h2 h3 => cases h3; exact ⟨_, _, rfl, h1, h2⟩
/-- one value in, a scalar out -/
def k1 (f : PyData → PyData → Prop) : KT := fun ts ρ Q => ∃ t x z, ts = [t] ∧ vw ρ t = some x ∧ f x z ∧ Q (.d z) ρ
theorem k1_mono {f : PyData → PyData → Prop} : MonK (k1 f) := fun ts ρ Q Q' h ⟨t, x, z, e, e1, e2, q⟩ => ⟨t, x, z, e, e1, e2, h _ _ q⟩
theorem fnk1 {K : PySem.W.Frag} {r : List V → Hp → VK → Prop} {f : PyData → PyData → Prop} (h : ∀ H O v x z Q, Sm K H O → Rp K H v x → f x z → (∀ w, Sc w z → Q w H) → r [v] H Q) : FnK K r (k1 f) := by
  rintro C n m σ H0 H O0 O ρ ts vs Q hn hm R F V ⟨t, x, z, rfl, e1, e2, q⟩
  obtain ⟨v, rfl, V1⟩ := V.one
  exact h H O v x z Q R.smH (R.viewH V1 e1) e2 fun w s => q.sc hn R F s
def k2 (f : PyData → PyData → PyData → Prop) : KT := fun ts ρ Q => ∃ t u x y z, ts = [t, u] ∧ vw ρ t = some x ∧ vw ρ u = some y ∧ f x y z ∧ Q (.d z) ρ
theorem k2_mono {f : PyData → PyData → PyData → Prop} : MonK (k2 f) := fun ts ρ Q Q' h ⟨t, u, x, y, z, e, e1, e2, e3, q⟩ => ⟨t, u, x, y, z, e, e1, e2, e3, h _ _ q⟩
theorem fnk2 {K : PySem.W.Frag} {r : List V → Hp → VK → Prop} {f : PyData → PyData → PyData → Prop} (h : ∀ H v u x y z Q, Rp K H v x → Rp K H u y → f x y z → (∀ w, Sc w z → Q w H) → r [v, u] H Q) : FnK K r (k2 f) := by
  rintro C n m σ H0 H O0 O ρ ts vs Q hn hm R F V ⟨t, u, x, y, z, rfl, e1, e2, e3, q⟩
  obtain ⟨v, w, rfl, V1, V2⟩ := V.two
  exact h H v w x y z Q (R.viewH V1 e1) (R.viewH V2 e2) e3 fun w s => q.sc hn R F s

/-! ### len, max, min, abs, int, str -/
def fMax : PyData → PyData → PyData → Prop := fun x y z => ∃ i j, x = .int i ∧ y = .int j ∧ z = .int (max i j)
def fMin : PyData → PyData → PyData → Prop := fun x y z => ∃ i j, x = .int i ∧ y = .int j ∧ z = .int (min i j)
theorem fn_max : FnK X.K (fun xs H Q => ∃ i j, xs = [.int i, .int j] ∧ Q (.int (if j > i then j else i)) H) (k2 fMax) := fnk2 fun H v u x y z Q r1 r2 ⟨i, j, e1, e2, e3⟩ q => by
  subst e1; subst e2; subst e3
  rw [rp_int r1, rp_int r2]
  refine ⟨i, j, rfl, ?_⟩
  rw [show (if j > i then j else i) = max i j by split <;> omega]
  exact q _ (.int _)
theorem fn_min : FnK X.K (fun xs H Q => ∃ i j, xs = [.int i, .int j] ∧ Q (.int (if j < i then j else i)) H) (k2 fMin) := fnk2 fun H v u x y z Q r1 r2 ⟨i, j, e1, e2, e3⟩ q => by
  subst e1; subst e2; subst e3
  rw [rp_int r1, rp_int r2]
  refine ⟨i, j, rfl, ?_⟩
  rw [show (if j < i then j else i) = min i j by split <;> omega]
  exact q _ (.int _)
def fInt : PyData → PyData → Prop := fun x z => (∃ i, x = .int i ∧ z = .int i) ∨ ∃ k, x = .bool k ∧ z = .int (if k then 1 else 0)
theorem fn_int {K : PySem.W.Frag} : FnK K (fun xs H Q => (∃ i, xs = [.int i] ∧ Q (.int i) H) ∨ ∃ k, xs = [.bl k] ∧ Q (.int (if k then 1 else 0)) H) (k1 fInt) := fnk1 fun H O v x z Q _ r f q => by
  rcases f with ⟨i, rfl, rfl⟩ | ⟨k, rfl, rfl⟩
  · rw [rp_int r]; exact .inl ⟨i, rfl, q _ (.int _)⟩
  · rw [rp_bool r]; exact .inr ⟨k, rfl, q _ (.int _)⟩
variable {x : Str} {p : Pos}
theorem le_max (hc : X.calm = true) (hg : Gl X "max") (hm : X.mg "max" = none) (ha : LA X [a, b] tas) (he : starEach [a, b] X.env = (false, eval a X.env) :: starEach [b] X.env := by rfl) (hpl : (backTo pos (starEach [b] X.env)).any (·.1) = false := by rfl) : LE X (.Call (.Name "max" p) [a, b] [] pos) (wFn (k2 fMax) tas) := le_fn (fun t h => pe_callB (call_max2 hc) hg hm (by decide +kernel) h (he := he) (hpl := hpl)) k2_mono fn_max ha
theorem le_min (hc : X.calm = true) (hg : Gl X "min") (hm : X.mg "min" = none) (ha : LA X [a, b] tas) (he : starEach [a, b] X.env = (false, eval a X.env) :: starEach [b] X.env := by rfl) (hpl : (backTo pos (starEach [b] X.env)).any (·.1) = false := by rfl) : LE X (.Call (.Name "min" p) [a, b] [] pos) (wFn (k2 fMin) tas) := le_fn (fun t h => pe_callB (call_min2 hc) hg hm (by decide +kernel) h (he := he) (hpl := hpl)) k2_mono fn_min ha
theorem le_toInt (hg : Gl X "int") (hm : X.mg "int" = none) (ha : LA X [e] tas) (he : starEach [e] X.env = (false, eval e X.env) :: starEach [] X.env := by rfl) (hpl : (backTo pos (starEach [] X.env)).any (·.1) = false := by rfl) : LE X (.Call (.Name "int" p) [e] [] pos) (wFn (k1 fInt) tas) := le_fn (fun t h => pe_callTy call_int1 hg hm (by decide +kernel) h (he := he) (hpl := hpl)) k1_mono fn_int ha
/-! ### repr -/
/-- no dict among these is the table of loaded modules -/
def NoSys (h : Heap) (as : List Addr) : Prop := ∀ b ∈ as, ∀ ob, h.get? b = some ob → ob.cls = .type "dict" → (b == sysModules) = false
section
variable {P : Program} {w : World} {g : Heap}
mutual
theorem rkOf : ∀ {u : Value} {x : PyData} {as : List Addr}, Reads g u x as → x.showable = true → NoSys g as → x.shown.length ≤ sizeLine → ∃ cs, ReadAtMost g x.depth cs ∧ ReprK P w cs g x.depth u x.shown
  | _, _, _, .none, _, _, _ => ⟨[], (fun _ m => nomatch m), by rw [PyData.shown]; exact ReprK.of_is .none _ _ _⟩
  | _, _, _, .bool c, _, _, _ => ⟨[], (fun _ m => nomatch m), by rw [PyData.shown]; exact ReprK.of_is (.bool c) _ _ _⟩
  | _, _, _, .int c k, sh, _, _ => ⟨[], (fun _ m => nomatch m), by rw [PyData.shown]; exact ReprK.of_is (.int k (by rw [PyData.showable] at sh; exact of_decide_eq_true sh)) _ _ _⟩
  | _, _, _, .str c k, _, _, z => ⟨[], (fun _ m => nomatch m), by rw [PyData.shown] at z ⊢; exact ReprK.of_is (.str c k z) _ _ _⟩
  | _, _, _, .list (a := p) (vs := us) (xs := ds) e1 e2 e3 e4, sh, ns, z => by
    rw [PyData.shown] at z
    rw [PyData.showable] at sh
    have rd := Reads.list e1 e2 e3 e4
    obtain ⟨cs, c1, c2⟩ := rkAll e4 sh (fun b hb => ns b (.tail _ hb)) fun t m => Nat.le_trans (listText_mem_le m) z
    refine ⟨p :: cs, .cons rd (by simp only [PyData.depth]; omega) c1, ?_⟩
    have np : p ∉ cs := not_mem_of_deeper rd (by simp only [PyData.depth]; omega) c1
    rw [PyData.depth, PyData.shown]
    rcases us with ⟨_ | ⟨y, ys⟩⟩
    · cases (show ReadsAll g [] ds _ from e4)
      rw [PyData.shownAll, listText_nil]
      exact .listEmpty e1 e2 e3
    · exact .list e1 e2 e3 np (by simpa using c2.length_eq) fun i y m => c2.item i y (by simpa using m)
  | _, _, _, .tuple (a := p) (xs := ds) e1 e2 e3 e4, sh, ns, z => by
    rw [PyData.shown] at z
    rw [PyData.showable] at sh
    have rd := Reads.tuple e1 e2 e3 e4
    obtain ⟨cs, c1, c2⟩ := rkAll e4 sh ns fun t m => Nat.le_trans (tupleText_mem_le m) z
    have np : p ∉ cs := not_mem_of_deeper rd (by simp only [PyData.depth]; omega) c1
    rw [PyData.depth, PyData.shown]
    exact ⟨p :: cs, .cons rd (by simp only [PyData.depth]; omega) c1, .tuple e1 e2 e3 np c2⟩
  | _, _, _, .dict (a := p) (es := en) (kvs := ps) e1 e2 e3 e4 e5, sh, ns, z => by
    rw [PyData.shown] at z
    rw [PyData.showable] at sh
    have rd := Reads.dict e1 e2 e3 e4 e5
    obtain ⟨s1, s2⟩ := PyData.showableKv_split ps sh
    obtain ⟨b1, c1, k1⟩ := rkAll e4 s1 (fun b hb => ns b (.tail _ (List.mem_append_left _ hb))) fun t m => (PyData.shownKv_key_le ps t m).elim fun q hq => Nat.le_trans hq.2 (Nat.le_trans (dictText_mem_le hq.1) z)
    obtain ⟨b2, c2, k2⟩ := rkAll e5 s2 (fun b hb => ns b (.tail _ (List.mem_append_right _ hb))) fun t m => (PyData.shownKv_val_le ps t m).elim fun q hq => Nat.le_trans hq.2 (Nat.le_trans (dictText_mem_le hq.1) z)
    have c3 : ReadAtMost g (PyData.depthKv ps) (b1 ++ b2) := ReadAtMost.append (c1.mono (PyData.depthAll_keys_le ps)) (c2.mono (PyData.depthAll_vals_le ps))
    have np : p ∉ b1 ++ b2 := not_mem_of_deeper rd (by simp only [PyData.depth]; omega) c3
    refine ⟨p :: (b1 ++ b2), .cons rd (by simp only [PyData.depth]; omega) c3, ?_⟩
    rw [PyData.depth, PyData.shown, PyData.shownKv_eq]
    exact .dict e1 e2 e3 (ns p (.head _) _ e1 e2) np (.of_two en.toList _ _ (k1.more_le (fun _ => List.mem_append_left _) (PyData.depthAll_keys_le ps)) (k2.more_le (fun _ => List.mem_append_right _) (PyData.depthAll_vals_le ps)))
theorem rkAll : ∀ {us : List Value} {ds : List PyData} {as : List Addr}, ReadsAll g us ds as → PyData.showableAll ds = true → NoSys g as → (∀ t ∈ PyData.shownAll ds, t.length ≤ sizeLine) → ∃ cs, ReadAtMost g (PyData.depthAll ds) cs ∧ ReprAllK P w cs g (PyData.depthAll ds) us (PyData.shownAll ds)
  | _, _, _, .nil, _, _, _ => ⟨[], (fun _ m => nomatch m), by rw [PyData.shownAll]; exact .nil⟩
  | _, _, _, .cons (d := x) (ds := ds) r1 r2, sh, ns, z => by
    rw [PyData.showableAll, Bool.and_eq_true] at sh
    rw [PyData.shownAll] at z
    obtain ⟨b1, c1, k1⟩ := rkOf r1 sh.1 (fun b hb => ns b (List.mem_append_left _ hb)) (z _ (.head _))
    obtain ⟨b2, c2, k2⟩ := rkAll r2 sh.2 (fun b hb => ns b (List.mem_append_right _ hb)) fun t m => z t (.tail _ m)
    rw [PyData.depthAll, PyData.shownAll]
    exact ⟨b1 ++ b2, ReadAtMost.append (c1.mono (Nat.le_max_left ..)) (c2.mono (Nat.le_max_right ..)), .cons ((k1.more fun _ => List.mem_append_left _).level_le (Nat.le_max_left ..)) (k2.more_le (fun _ => List.mem_append_right _) (Nat.le_max_right ..))⟩
end
end
theorem repr_any {P : Program} {w : World} {A : Around} {E : Value → Shared → Prop} {s : Shared} {Q : Value → Shared → Prop} {a : Addr} {x : PyData} {as : List Addr} (r : Reads s.heap (.ref a) x as) (sh : x.showable = true) (ns : NoSys s.heap as) (hg : A.guards = some []) (hu : A.units + (x.depth + 1) < cLine) (sz : x.shown.length ≤ sizeLine)
    (hQ : ∀ h' u tk, (∀ b o, s.heap.get? b = some o → h'.get? b = some o) → Q (.str x.shown u) { s with heap := h', toks := tk }) : wpAny (model P w) A (call (.builtin "repr") [.ref a]) Q E s := by
  have go : ∃ T idr, ShowsBy P w s.heap a x T idr := by
    cases r with
    | list e1 e2 e3 e4 =>
      rename_i o us n ds bs
      rw [PyData.shown] at sz
      rw [PyData.showable] at sh
      obtain ⟨cs, c1, c2⟩ := rkAll (P := P) (w := w) e4 sh (fun b hb => ns b (.tail _ hb)) fun t m => Nat.le_trans (listText_mem_le m) sz
      have np : a ∉ cs := not_mem_of_deeper (.list e1 e2 e3 e4) (by simp only [PyData.depth]; omega) c1
      refine ⟨"list", "list.__repr__", F.slot_list_repr.toG, F.slot_list_str, F.slot_list_format, fun s' k => ⟨o, k _ _ e1, e2⟩, fun B E' s' Q' hg' hu' k q => ?_⟩
      rw [PyData.depth] at hu'
      rw [PyData.shown] at q
      rcases us with ⟨_ | ⟨y, ys⟩⟩
      · cases (show ReadsAll s.heap [] ds _ from e4)
        rw [PyData.shownAll, listText_nil] at q
        exact call_list_repr_empty ⟨o, k _ _ e1, e2⟩ (k _ _ e1) e3 (q s'.heap _ _ fun _ _ e => e)
      · exact call_list_reprK e1 e2 e3 np (by simpa using c2.length_eq) (fun i y m => c2.item i y (by simpa using m)) hg' (fun b _ => Clear.nil b) hu' k q sz
    | tuple e1 e2 e3 e4 =>
      rename_i o us n ds
      rw [PyData.shown] at sz
      rw [PyData.showable] at sh
      obtain ⟨cs, c1, c2⟩ := rkAll (P := P) (w := w) e4 sh ns fun t m => Nat.le_trans (tupleText_mem_le m) sz
      have np : a ∉ cs := not_mem_of_deeper (.tuple e1 e2 e3 e4) (by simp only [PyData.depth]; omega) c1
      refine ⟨"tuple", "tuple.__repr__", F.slot_tuple_repr, F.slot_tuple_str, F.slot_tuple_format, fun s' k => ⟨o, k _ _ e1, e2⟩, fun B E' s' Q' hg' hu' k q => ?_⟩
      rw [PyData.depth] at hu'
      rw [PyData.shown] at q
      exact call_tuple_reprK e1 e2 e3 np c2 hg' (fun b _ => Clear.nil b) hu' k q sz
    | dict e1 e2 e3 e4 e5 =>
      rename_i o en n ps as₁ bs₁
      rw [PyData.shown] at sz
      rw [PyData.showable] at sh
      obtain ⟨s1, s2⟩ := PyData.showableKv_split ps sh
      obtain ⟨b1, c1, k1⟩ := rkAll (P := P) (w := w) e4 s1 (fun b hb => ns b (.tail _ (List.mem_append_left _ hb))) fun t m => (PyData.shownKv_key_le ps t m).elim fun q hq => Nat.le_trans hq.2 (Nat.le_trans (dictText_mem_le hq.1) sz)
      obtain ⟨b2, c2, k2⟩ := rkAll (P := P) (w := w) e5 s2 (fun b hb => ns b (.tail _ (List.mem_append_right _ hb))) fun t m => (PyData.shownKv_val_le ps t m).elim fun q hq => Nat.le_trans hq.2 (Nat.le_trans (dictText_mem_le hq.1) sz)
      have c3 : ReadAtMost s.heap (PyData.depthKv ps) (b1 ++ b2) := ReadAtMost.append (c1.mono (PyData.depthAll_keys_le ps)) (c2.mono (PyData.depthAll_vals_le ps))
      have np : a ∉ b1 ++ b2 := not_mem_of_deeper (.dict e1 e2 e3 e4 e5) (by simp only [PyData.depth]; omega) c3
      have nsa := ns a (.head _) _ e1 e2
      refine ⟨"dict", "dict.__repr__", F.slot_dict_repr, F.slot_dict_str, F.slot_dict_format, fun s' k => ⟨o, k _ _ e1, e2⟩, fun B E' s' Q' hg' hu' k q => ?_⟩
      rw [PyData.depth] at hu'
      rw [PyData.shown, PyData.shownKv_eq] at q
      exact call_dict_reprK e1 e2 e3 nsa np (.of_two en.toList _ _ (k1.more_le (fun _ => List.mem_append_left _) (PyData.depthAll_keys_le ps)) (k2.more_le (fun _ => List.mem_append_right _) (PyData.depthAll_vals_le ps))) hg' (fun b _ => Clear.nil b) hu' k q (by rw [← PyData.shownKv_eq]; exact sz)
  obtain ⟨T, idr, S⟩ := go
  exact call_repr_slot (by omega) (S.typeIs s fun _ _ e => e) S.slotRepr (S.call A.in1 E s _ hg (by show A.units + 1 + x.depth < cLine; omega) (fun _ _ e => e) fun h' u tk hk => ⟨_, _, rfl, hQ h' u tk hk⟩)
theorem noSys_of {X : Cx} {pins : List (Addr × Obj)} {σ : L2.St} {H : Hp} {s : Shared} (I : Inv X pins σ H s) {as : List Addr} (l : LD H as) : NoSys s.heap as := fun b hb ob e1 e2 => by
  obtain ⟨o, h1, h2⟩ := l b hb
  have ok := I.hok _ _ h1
  cases o with
  | lst xs =>
    obtain ⟨_, its, n, rv, e⟩ := ok
    rw [e] at e1
    cases e1
    exact absurd (Value.type.inj e2) (by decide)
  | dK kvs => exact (Rd.ok (.inl h1) I.hok).2.1
  | dT kvs => exact (Rd.ok (.inl h1) I.hok).2.1
  | frz ob' u =>
    cases u with
    | dK kvs => exact (Rd.ok (.inr ⟨_, h1⟩) I.hok).2.1
    | dT kvs => exact (Rd.ok (.inr ⟨_, h1⟩) I.hok).2.1
    | _ => cases h2
  | _ => cases h2
def rRepr (K : PySem.W.Frag) : List V → Hp → VK → Prop := fun vs H Q => ∃ v x O, vs = [v] ∧ Sm K H O ∧ Rp K H v x ∧ x.showable = true ∧ x.shown.length ≤ sizeLine ∧ x.depth ≤ 60 ∧ Q (.str x.shown) H
theorem cr_repr (hg : X.A.guards = some []) (hu : X.A.units + 64 < cLine) : CallR X (.builtin "repr") (rRepr X.K) := by
  rintro pins s σ H vs us Q I r ⟨v, x, O, rfl, sm, rp, sh, sz, dp, q⟩
  obtain ⟨u, rfl, ru⟩ := vals1 r
  have fin : ∀ h' u tk, (∀ b o, s.heap.get? b = some o → h'.get? b = some o) → EP X pins σ Q (.str x.shown u) { s with heap := h', toks := tk } := fun h' u tk hk => ⟨.str _, H, I.kept (t' := tk) hk, ⟨_, rfl⟩, q⟩
  have sc : ∀ {k : Nat}, EP X pins σ Q (.str x.shown k) { s with toks := k + 1 } := fun {k} => fin s.heap k (k + 1) fun _ _ e => e
  obtain ⟨as, r1, l⟩ := Rp.reads I _ _ _ rp ru
  have ns := noSys_of I l
  cases rp with
  | non => cases ru; exact PySem.P.repr_of_none sc
  | bl b => cases ru; exact PySem.P.repr_of_bool sc
  | int i =>
    obtain ⟨t, rfl⟩ := ru
    exact PySem.P.repr_of_int (by simpa [PyData.showable] using sh) sc
  | str z =>
    obtain ⟨t, rfl⟩ := ru
    exact PySem.P.repr_of_str sc sz
  | lst h1 h2 =>
    cases ru
    exact repr_any r1 sh ns hg (by omega) sz fin
  | tup h1 h2 =>
    cases ru
    exact repr_any r1 sh ns hg (by omega) sz fin
  | dk h1 h2 h3 =>
    cases ru
    exact repr_any r1 sh ns hg (by omega) sz fin
  | dt h1 h2 h3 =>
    cases ru
    exact repr_any r1 sh ns hg (by omega) sz fin
def fRepr : PyData → PyData → Prop := fun x z => x.showable = true ∧ x.shown.length ≤ sizeLine ∧ x.depth ≤ 60 ∧ z = .str x.shown
theorem le_repr (hG : X.A.guards = some []) (hu : X.A.units + 64 < cLine) (hg : Gl X "repr") (hm : X.mg "repr" = none) (ha : LA X [e] tas) (he : starEach [e] X.env = (false, eval e X.env) :: starEach [] X.env := by rfl) (hpl : (backTo pos (starEach [] X.env)).any (·.1) = false := by rfl) : LE X (.Call (.Name "repr" p) [e] [] pos) (wFn (k1 fRepr) tas) :=
  le_fn (fun t h => pe_callB (cr_repr hG hu) hg hm (by decide +kernel) h (he := he) (hpl := hpl)) k1_mono (fnk1 fun H O v x z Q sm r ⟨h1, h3, h4, e⟩ q => ⟨v, x, O, rfl, sm, r, h1, h3, h4, q _ (e ▸ .str _)⟩) ha

/-! ### isinstance of a built-in class -/
def tyD : PyData → String
  | .none => "NoneType"
  | .bool _ => "bool"
  | .int _ => "int"
  | .str _ => "str"
  | .list _ => "list"
  | .tuple _ => "tuple"
  | .dict _ => "dict"
theorem kit_rp {pins : List (Addr × Obj)} {σ : St} {H : Hp} {s : Shared} {v : V} {u : Value} {x : PyData} (I : Inv X pins σ H s) (rv : RelV v u) (h : Rp X.K H v x) : ∃ P : Heap → Prop, PySem.W.KitX X.K u (.type (tyD x)) P ∧ P s.heap ∧ u ≠ .builtin "__main__.__loader__#opaque" := by
  cases h with
  | non => cases rv; exact ⟨_, PySem.W.kitx_none, True.intro, fun z => nomatch z⟩
  | bl b => cases rv; exact ⟨_, PySem.W.kitx_bool, True.intro, fun z => nomatch z⟩
  | int i => obtain ⟨t, rfl⟩ := rv; exact ⟨_, PySem.W.kitx_int, True.intro, fun z => nomatch z⟩
  | str i => obtain ⟨t, rfl⟩ := rv; exact ⟨_, PySem.W.kitx_str, True.intro, fun z => nomatch z⟩
  | lst h1 _ => cases rv; obtain ⟨_, its, n, _, e⟩ := I.hok _ _ h1; exact ⟨_, PySem.W.kitx_list, ⟨_, e, rfl⟩, fun z => nomatch z⟩
  | tup h1 _ => cases rv; obtain ⟨_, its, _, o, e, c, _⟩ := I.hok _ _ h1; exact ⟨_, PySem.W.kitx_tuple, ⟨_, e, c⟩, fun z => nomatch z⟩
  | dk h1 _ _ => cases rv; obtain ⟨_, _, _, _, o, _, _, e, ex, _⟩ := h1.ok I.hok; exact ⟨_, PySem.W.kitx_dict, ⟨o, e, ex.1⟩, fun z => nomatch z⟩
  | dt h1 _ _ => cases rv; obtain ⟨_, _, _, _, o, _, _, e, ex, _⟩ := h1.ok I.hok; exact ⟨_, PySem.W.kitx_dict, ⟨o, e, ex.1⟩, fun z => nomatch z⟩
def rIsB (K : PySem.W.Frag) : List V → Hp → VK → Prop := fun vs H Q => ∃ v x n b, vs = [v, .ty n] ∧ Rp K H v x ∧ kitB (tyD x) n = some b ∧ Q (.bl b) H
theorem cr_isB : CallR X (.builtin "isinstance") (rIsB X.K) := by
  rintro pins s σ H vs us Q I r ⟨v, x, n, b, rfl, h, e, q⟩
  obtain ⟨u1, u2, rfl, r1, r2⟩ := vals2 r
  cases r2
  obtain ⟨P, Z, p, hx⟩ := kit_rp I r1 h
  exact PySem.W.kia_one Z I.kIn p (kit_ty e) hx fun tk => ⟨.bl b, H, I.tok tk, rfl, q⟩
def kIs : KT := fun ts ρ Q => ∃ t x n b, ts = [t, .raw (.ty n)] ∧ vw ρ t = some x ∧ kitB (tyD x) n = some b ∧ Q (.d (.bool b)) ρ
theorem kIs_mono : MonK kIs := fun ts ρ Q Q' h ⟨t, x, n, b, e, e1, e2, q⟩ => ⟨t, x, n, b, e, e1, e2, h _ _ q⟩
theorem val_raw {K : PySem.W.Frag} {H : Hp} {O : Own} {n : Nat} {v v' : V} (h : Val K H O n v (.raw v')) : v = v' := by
  have h := h.1
  cases h; rfl
theorem fn_isB {K : PySem.W.Frag} : FnK K (rIsB K) kIs := by
  rintro C n m σ H0 H O0 O ρ ts vs Q hn hm R F V ⟨t, x, c, b, rfl, e1, e2, q⟩
  obtain ⟨v, w, rfl, V1, V2⟩ := V.two
  rw [val_raw V2]
  exact ⟨v, x, c, b, rfl, R.viewH V1 e1, e2, q.sc hn R F (.bl _)⟩
theorem le_isB (hg : Gl X "isinstance") (hm : X.mg "isinstance" = none) (ha : LA X [a, b] tas) (he : starEach [a, b] X.env = (false, eval a X.env) :: starEach [b] X.env := by rfl) (hpl : (backTo pos (starEach [b] X.env)).any (·.1) = false := by rfl) :
    LE X (.Call (.Name "isinstance" p) [a, b] [] pos) (wFn kIs tas) := le_fn (fun t h => pe_callB cr_isB hg hm (by decide +kernel) h (he := he) (hpl := hpl)) kIs_mono fn_isB ha
/-- a built-in class as a value -/
theorem le_ty {n : String} {pos : Pos} (hg : Gl X x) (hm : X.mg x = none) (hv : bootBuiltins x = some (.type n)) (hn : x ≠ "__name__" := by decide) (hd : (x == ("__debug__" : Str)) = false := by decide) : LE X (.Name x pos) (wC (.raw (.ty n))) :=
  le_raw (pe_bltn hg hm hv rfl hn hd)

/-! ### lists out: list(..), sorted(..), +, slices -/
def kList : KT := fun ts ρ Q => ∃ t xs, ts = [t] ∧ (lsq ρ t = some xs ∨ tsq t = some xs) ∧ Q (.l (xs.map T.d)) ρ
theorem kList_mono : MonK kList := fun ts ρ Q Q' h ⟨t, xs, e, e1, q⟩ => ⟨t, xs, e, e1, h _ _ q⟩
theorem fn_list {K : PySem.W.Frag} : FnK K (fun xs H Q => ∃ p ys, xs = [.ref p] ∧ (SqL K H p ys ∨ SqT K H p ys) ∧ ∀ l, H l = none → Q (.ref l) (upd H l (.lst ys))) kList := by
  rintro C n m σ H0 H O0 O ρ ts vs Q hn hm R F V ⟨t, xs, rfl, e1, q⟩
  obtain ⟨v, rfl, V1⟩ := V.one
  rcases e1 with e1 | e1
  · obtain ⟨a, ys, rfl, h1, h2⟩ := R.lsqV V1 e1
    exact ⟨a, ys, rfl, .inl (.of h1), fun l hl => q.newL hn R F h2 l hl⟩
  · obtain ⟨a, ys, rfl, h1, h2⟩ := R.tsqV V1 e1
    exact ⟨a, ys, rfl, .inr (.of h1), fun l hl => q.newL hn R F h2 l hl⟩
theorem le_list (hg : Gl X "list") (hm : X.mg "list" = none) (ha : LA X [e] tas) (he : starEach [e] X.env = (false, eval e X.env) :: starEach [] X.env := by rfl) (hpl : (backTo pos (starEach [] X.env)).any (·.1) = false := by rfl) :
    LE X (.Call (.Name "list" p) [e] [] pos) (wFn kList tas) := le_fn (fun t h => pe_callTy call_list_of hg hm (by decide +kernel) h (he := he) (hpl := hpl)) kList_mono fn_list ha
theorem val_d {K : PySem.W.Frag} {H : Hp} {O : Own} {n : Nat} {v : V} {x : PyData} (h : Val K H O n v (.d x)) : Rp K (msk O H) v x := by
  have h := h.1
  cases h with | d h => exact h
theorem msk_le {O : Own} {H : Hp} : ∀ b o, msk O H b = some o → H b = some o := fun b o h => (msk_some h).2
end
end TX

/-! Items, slices, displays, methods of lists of one's own. -/
namespace TX
open PySem PySem.Spec L2

/-! ### values on the way, as data -/
theorem Val.asD {K : PySem.W.Frag} {H : Hp} {O : Own} {n k : Nat} {v : V} {t : T} {x : PyData} (hk : n ≤ k) (h : Val K H O k v t) (e : erase t = some x) : Rp K (msk (cut n O) H) v x := by
  have go : Rp K (vis k O H) v x := by
    cases t with
    | a _ _ => simp [erase] at e
    | _ => exact Tr.view _ [] _ x e h.1
  refine Rp.mono (fun b o z => ?_) _ _ go
  unfold vis at z
  split at z
  · rename_i e1; rw [msk_of (cut_free e1)]; exact z
  · cases z
  · rename_i r' p' e1
    split at z
    · rename_i e2
      rw [msk_of (by unfold cut; rw [e1]; simp only; rw [if_neg (by omega)])]
      exact z
    · cases z
theorem ValAll.asD {K : PySem.W.Frag} {H : Hp} {O : Own} {n : Nat} : ∀ {ts : List T} {k : Nat} {vs : List V} {ds : List PyData}, n ≤ k → ValAll K H O k vs ts → eraseAll ts = some ds → RpAll K (msk (cut n O) H) vs ds
  | [], k, _, _, _, h, e => by cases h; simp [eraseAll] at e; subst e; exact .nil
  | t :: ts, k, _, ds, hk, h, e => by
    cases h with
    | cons h1 h2 =>
      simp only [eraseAll] at e
      cases e1 : erase t with
      | none => rw [e1] at e; cases e
      | some y =>
        cases e2 : eraseAll ts with
        | none => rw [e1, e2] at e; cases e
        | some ys =>
          rw [e1, e2] at e
          simp only [Option.some.injEq] at e
          subst e
          exact .cons (h1.asD hk e1) (ValAll.asD (Nat.le_succ_of_le hk) h2 e2)
theorem ValAll.length {K : PySem.W.Frag} {H : Hp} {O : Own} : ∀ {n : Nat} {vs : List V} {ts : List T}, ValAll K H O n vs ts → vs.length = ts.length
  | _, _, _, .nil => rfl
  | _, _, _, .cons _ t => congrArg (· + 1) (ValAll.length t)

section
variable {X : Cx} {pos : Pos} {a b c e : Expr} {es : List Expr} {ta tb tc : TwE} {tas : TwA}

/-! ### displays -/
def wLst (tas : TwA) : TwE := wFn (fun ts ρ Q => ∃ ds, eraseAll ts = some ds ∧ Q (.l (ds.map T.d)) ρ) tas
def wTup (tas : TwA) : TwE := wFn (fun ts ρ Q => ∃ ds, eraseAll ts = some ds ∧ Q (.d (.tuple ds)) ρ) tas
theorem le_lst (ha : LA X es tas) (hl : es.length ≤ 1000 := by decide) : LE X (.List es pos) (wLst tas) := by
  refine ⟨wFn_mono (fun ts ρ Q Q' h ⟨ds, e, q⟩ => ⟨ds, e, h _ _ q⟩) ha.mono, fun C W n hC hn tk => (pe_lst (pos := pos) (ha.run C W n hC hn tk)).imp fun σ H Q ⟨O, ρ, R, q⟩ => ?_⟩
  refine ⟨O, ρ, R, ha.mono ρ _ _ _ _ (fun ts ρ1 ⟨hlen, ds, e, q⟩ => ?_) (fun _ _ z => z) (ha.len ρ _ _ q)⟩
  intro vs H1 O1 R1 F1 V1
  refine ⟨by rw [V1.length, hlen]; exact Nat.le_of_lt (small1000 hl), fun p hp => ?_⟩
  exact Fin.newL hn (R1.cut (n := n) hn) (F1.trans (frm_cut C.N n H1 O1 hn) (Nat.le_refl _)) (ρ := ρ1) q (V1.asD (Nat.le_refl _) e) p hp
theorem le_tup {ld} (ha : LA X es tas) (hl : es.length ≤ 1000 := by decide) : LE X (.Tuple es ld pos) (wTup tas) := by
  refine ⟨wFn_mono (fun ts ρ Q Q' h ⟨ds, e, q⟩ => ⟨ds, e, h _ _ q⟩) ha.mono, fun C W n hC hn tk => (pe_tup (pos := pos) (ha.run C W n hC hn tk)).imp fun σ H Q ⟨O, ρ, R, q⟩ => ?_⟩
  refine ⟨O, ρ, R, ha.mono ρ _ _ _ _ (fun ts ρ1 ⟨hlen, ds, e, q⟩ => ?_) (fun _ _ z => z) (ha.len ρ _ _ q)⟩
  intro vs H1 O1 R1 F1 V1
  refine ⟨by rw [V1.length, hlen]; exact Nat.le_of_lt (small1000 hl), fun p hp => ?_⟩
  exact Fin.newT hn (R1.cut (n := n) hn) (F1.trans (frm_cut C.N n H1 O1 hn) (Nat.le_refl _)) (ρ := ρ1) q (V1.asD (Nat.le_refl _) e) p hp

/-! ### items -/
/-- t[i] is u -/
def IxT (ρ : Rho) : T → Int → T → Prop
  | .d (.list xs), i, u => ∃ x, atI xs i = some x ∧ u = .d x
  | .d (.tuple xs), i, u => ∃ x, atI xs i = some x ∧ u = .d x
  | .d (.str z), i, u => z.length ≤ sizeLine ∧ ∃ c, atI z.cps.toList i = some c ∧ u = .d (.str ⟨#[c]⟩)
  | .fz ns, i, u => ∃ n, atI ns i = some n ∧ u = .d (.int n)
  | .l ts, i, u => ∃ x, atI ts i = some (.d x) ∧ u = .d x
  | .a r p, i, u => ∃ ts j c, getT ρ r p = some (.l ts) ∧ ixN ts.length i = some j ∧ ts[j]? = some c ∧ u = (if isNode c then .a r (p ++ [j]) else c)
  | _, _, _ => False
def wIx (ta tb : TwE) : TwE := w2 ta tb fun t u ρ Q => ∃ i z, u = .d (.int i) ∧ IxT ρ t i z ∧ Q z ρ
theorem atI_len {α β : Type} {xs : List α} {ys : List β} (h : xs.length = ys.length) {i : Int} {x : α} (e : atI xs i = some x) : ∃ j, ixN ys.length i = some j ∧ xs[j]? = some x := by
  unfold atI at e
  rw [h] at e
  cases q : ixN ys.length i with
  | none => rw [q] at e; cases e
  | some j => rw [q] at e; exact ⟨j, rfl, e⟩
theorem atI_of {α : Type} {xs : List α} {i : Int} {j : Nat} {x : α} (h : ixN xs.length i = some j) (e : xs[j]? = some x) : atI xs i = some x := by
  unfold atI; rw [h]; exact e
theorem ix_any : IxR X (rIx X.K) := ix_seq
theorem le_ix (ha : LE X a ta) (hb : LE X b tb) (hs : PlainIx b := by exact fun _ _ => rfl) : LE X (.Subscript a b pos) (wIx ta tb) := by
  refine ⟨w2_mono ha.mono hb.mono fun t u ρ Q Q' h ⟨i, z, e1, e2, q⟩ => ⟨i, z, e1, e2, h _ _ q⟩, fun C W n hC hn tk => (pe_ix (pos := pos) ix_any (ha.run C W n hC hn tk) (hb.run C W (n + 1) hC (by omega) tk) hs).imp fun σ H Q h => ?_⟩
  refine two ha.mono hb.mono hn h fun O ρ2 t u v w H2 O2 R2 F V1 V2 ⟨i, z, e1, e2, q⟩ => ?_
  subst e1
  have hw : w = .int i := rp_int (val_d V2)
  subst hw
  cases t with
  | d x =>
    have rp := val_d V1
    cases x with
    | list xs =>
      obtain ⟨y, e3, rfl⟩ := e2
      cases rp with
      | lst h1 h2 =>
        obtain ⟨j, e4, e5⟩ := atI_len h2.length.symm e3
        obtain ⟨v', e6, e7⟩ := h2.get e5
        exact .inl ⟨_, _, i, v', rfl, rfl, .of (msk_some h1).2, atI_of e4 e6, Fin.dat hn R2 F q e7⟩
    | tuple xs =>
      obtain ⟨y, e3, rfl⟩ := e2
      cases rp with
      | tup h1 h2 =>
        obtain ⟨j, e4, e5⟩ := atI_len h2.length.symm e3
        obtain ⟨v', e6, e7⟩ := h2.get e5
        exact .inr (.inl ⟨_, _, i, v', rfl, rfl, .of (msk_some h1).2, atI_of e4 e6, Fin.dat hn R2 F q e7⟩)
    | str s =>
      obtain ⟨hz, c, e3, rfl⟩ := e2
      cases rp
      exact .inr (.inr ⟨s, i, c, rfl, rfl, hz, e3, Fin.sc hn R2 F q (.str _)⟩)
    | _ => exact e2.elim
  | fz ns =>
    obtain ⟨k, e3, rfl⟩ := e2
    have h := V1.1
    cases h with
    | fz h =>
      obtain ⟨j, e4, e5⟩ := atI_len (ys := ns.map V.int) (by simp) e3
      exact .inl ⟨_, _, i, .int k, rfl, rfl, sql_mono msk_le h, atI_of e4 (by rw [List.getElem?_map, e5]; rfl), Fin.sc hn R2 F q (.int _)⟩
  | l ts =>
    obtain ⟨y, e3, rfl⟩ := e2
    have h := V1.1
    cases h with
    | l h1 h2 h3 =>
      obtain ⟨j, e4, e5⟩ := atI_len h3.length.symm e3
      obtain ⟨v', e6, e7⟩ := h3.get e5
      cases e7 with
      | d e7 => exact .inl ⟨_, _, i, v', rfl, rfl, .of h2, atI_of e4 e6, Fin.dat hn R2 F q e7⟩
  | a r p =>
    obtain ⟨ts, j, c, e3, e4, e5, rfl⟩ := e2
    obtain ⟨⟨ad, rfl, ha2, hr⟩, hno⟩ := V1
    have tr := R2.alias e3 rfl ha2
    cases tr with
    | l h1 h2 h3 =>
      obtain ⟨v', e6, e7⟩ := h3.get e5
      refine .inl ⟨_, _, i, v', rfl, rfl, .of h2, atI_of (by rw [h3.length]; exact e4) e6, ?_⟩
      by_cases hc : isNode c = true
      · rw [if_pos hc] at q
        obtain ⟨a', rfl, ha'⟩ := tr_root e7 hc
        rw [Nat.zero_add] at ha'
        have hrN : r < C.N := let ⟨_, e8, _⟩ := getT_some e3; R2.slt e8
        exact q _ H2 _ ((R2.cut hn).up (Nat.le_succ _)) (F.trans (frm_cut C.N n H2 O2 hn) (Nat.le_refl _)) ⟨⟨a', rfl, cut_at.mpr ⟨ha', Nat.lt_of_lt_of_le hrN hn⟩, Nat.lt_of_lt_of_le hrN hn⟩, fun b q z => Nat.lt_irrefl _ (cut_at.mp z).2⟩
      · rw [if_neg hc] at q
        cases e7 with
        | d e7 => exact Fin.dat hn R2 F q e7
        | raw => exact q _ H2 _ ((R2.cut hn).up (Nat.le_succ _)) (F.trans (frm_cut C.N n H2 O2 hn) (Nat.le_refl _)) (R2.cut hn).val_raw
        | fz h => exact q _ H2 _ ((R2.cut hn).up (Nat.le_succ _)) (F.trans (frm_cut C.N n H2 O2 hn) (Nat.le_refl _)) ((R2.cut hn).val_fz (sql_mono (fun b o z => by obtain ⟨z1, z2⟩ := msk_some z; rw [msk_of (cut_free z1)]; exact z2) h))
        | lk h1 h2 h3 h4 => exact q _ H2 _ ((R2.cut hn).up (Nat.le_succ _)) (F.trans (frm_cut C.N n H2 O2 hn) (Nat.le_refl _)) ((R2.cut hn).val_lk (cut_free h1) h2 h3 (RpAll.mono (fun b o z => by obtain ⟨z1, z2⟩ := msk_some z; rw [msk_of (cut_free z1)]; exact z2) _ _ h4))
        | lt h1 h2 h3 h4 => exact q _ H2 _ ((R2.cut hn).up (Nat.le_succ _)) (F.trans (frm_cut C.N n H2 O2 hn) (Nat.le_refl _)) ((R2.cut hn).val_lt (cut_free h1) h2 h3 (RpAll.mono (fun b o z => by obtain ⟨z1, z2⟩ := msk_some z; rw [msk_of (cut_free z1)]; exact z2) _ _ h4))
        | l _ _ _ => exact absurd rfl hc
        | mk _ _ _ _ => exact absurd rfl hc
        | mt _ _ _ _ => exact absurd rfl hc
        | o _ _ _ _ => exact absurd rfl hc
        | s _ _ => exact absurd rfl hc
        | ex h1 h2 => exact q _ H2 _ ((R2.cut hn).up (Nat.le_succ _)) (F.trans (frm_cut C.N n H2 O2 hn) (Nat.le_refl _)) ((R2.cut hn).val_ex (cut_free h1) h2)
        | cl => exact q _ H2 _ ((R2.cut hn).up (Nat.le_succ _)) (F.trans (frm_cut C.N n H2 O2 hn) (Nat.le_refl _)) (R2.cut hn).val_cl
        | n h0 h => exact absurd h0 hc
  | _ => exact e2.elim

/-! ### list + list, list * int, slices -/
def wCat (ta tb : TwE) : TwE := w2 ta tb fun t u ρ Q => ∃ xs ys, lsq ρ t = some xs ∧ lsq ρ u = some ys ∧ xs.length + ys.length ≤ sizeLine ∧ Q (.l ((xs ++ ys).map T.d)) ρ
def wRep (ta tb : TwE) : TwE := w2 ta tb fun t u ρ Q => ∃ xs k, lsq ρ t = some xs ∧ u = .d (.int k) ∧ -(2 ^ 63) ≤ k ∧ k < 2 ^ 63 ∧ xs.length * k.toNat ≤ sizeLine ∧ Q (.l ((List.replicate k.toNat xs).flatten.map T.d)) ρ
/-! ### parts of a slice -/
abbrev TwO := Rho → (Option Int → Rho → Prop) → ExK → Prop
def lfO (K : PySem.W.Frag) (C : Ctx) (W : WX) (n : Nat) (tw : TwO) : TO := fun σ H Q => ∃ O ρ, Rel K C n σ H O ρ ∧ tw ρ (fun o ρ' => ∀ H' O', Rel K C n σ H' O' ρ' → Frm C.N n H O H' O' → Q o H') (exK K C W H O)
structure LO (X : Cx) (e : Option Expr) (tw : TwO) : Prop where
  mono : MonE tw
  run : ∀ (C : Ctx) (W : WX) (n : Nat), C.N = X.N.length → C.N ≤ n → Takes X W → PO X e (lfO X.K C W n tw)
theorem _root_.L2.PO.imp {e : Option Expr} {t t' : TO} (h : PO X e t) (k : ∀ σ H Q, t' σ H Q → t σ H Q) : PO X e t' := ⟨fun pins s σ H Q I q => h.run pins s σ H Q I (k _ _ _ q)⟩
def wNoPart : TwO := fun ρ Q _ => Q none ρ
def wPart (ta : TwE) : TwO := fun ρ Q E => ta ρ (fun t ρ1 => ∃ i, t = .d (.int i) ∧ Q (some i) ρ1) E
def cutD {α : Type} (xs : List α) (lo hi : Option Int) : List α := (xs.drop (HT.sIx xs.length 0 lo)).take (HT.sIx xs.length xs.length hi - HT.sIx xs.length 0 lo)
def wSl (ta : TwE) (tl th : TwO) : TwE := fun ρ Q E => ta ρ (fun t ρ1 => tl ρ1 (fun lo ρ2 => th ρ2 (fun hi ρ3 => ∃ xs, lsq ρ3 t = some xs ∧ Q (.l ((cutD xs lo hi).map T.d)) ρ3) E) E) E
variable {tl th : TwO} {lo hi : Option Expr}
/-- -n -/
def wNeg (ta : TwE) : TwE := fun ρ Q E => ta ρ (fun t ρ1 => ∃ i, t = .d (.int i) ∧ Q (.d (.int (-i))) ρ1) E
end
end TX

/-! Methods of lists of one's own; statements. -/
namespace TX
open PySem PySem.Spec L2

section
variable {K : PySem.W.Frag} {C : Ctx} {n m : Nat} {σ : St} {H H' : Hp} {O O' : Own} {ρ : Rho}
theorem sub_flat {ds : List PyData} : ∀ {q : List Nat} {z : T}, subT (.l (ds.map T.d)) q = some z → isNode z = true → q = []
  | [], _, _, _ => rfl
  | k :: q, z, h, hn => by
    simp only [subT, kid, kid0, strip, List.getElem?_map] at h
    cases e : ds[k]? with
    | none => rw [e] at h; cases h
    | some x =>
      rw [e] at h
      cases q with
      | nil => cases h; cases hn
      | cons j q => simp [subT, kid, kid0, strip] at h
theorem relUpdL (R : Rel K C m σ H O ρ) (hn : C.N ≤ n) {r : Nat} {p : List Nat} {a : Addr} {ds ds' : List PyData} {ws' : List V} (g : getT ρ r p = some (.l (ds.map T.d))) (ha : O a = .at r p) (hz : RpAll K (msk (cut n O) H) ws' ds') :
    Rel K C n σ (upd H a (.lst ws')) (cut n O) (putAt ρ r p (.l (ds'.map T.d))) ∧ Frm C.N n H O (upd H a (.lst ws')) (cut n O) := by
  have R0 := R.cut (n := n) hn
  have hr : r < C.N := let ⟨_, e, _⟩ := getT_some g; R.slt e
  have ha1 : cut n O a = .at r p := cut_at.mpr ⟨ha, Nat.lt_of_lt_of_le hr hn⟩
  have ne : ∀ {b : Addr}, cut n O b = .free → b ≠ a := fun {b} h e => by subst e; rw [ha1] at h; cases h
  have ne2 : ∀ {b : Addr}, cut n O b = .foreign → b ≠ a := fun {b} h e => by subst e; rw [ha1] at h; cases h
  refine ⟨R0.upd hn g (fun b o e1 e2 => ⟨by rw [upd_ne (ne e2)]; exact e1, e2⟩) (fun b o e1 e2 => ⟨by rw [upd_ne (ne2 e2)]; exact e1, e2⟩) (fun b o r' p' e1 e2 l h => ⟨?_, e2⟩) (fun b r' p' e _ => e) (fun w h => ?_)
    (fun b h => ?_) R0.lt R0.inj (fun b q e => ?_) (fun b r' p' e _ => .inr e) (fun b e => e), ⟨fun b o e1 e2 => ?_, fun b r' p' e l => cut_at.mpr ⟨e, Nat.lt_of_lt_of_le l hn⟩, fun b o r' p' e1 e2 l1 l2 => ?_, fun b r' p' e _ _ => (cut_at.mp e).1⟩⟩
  · rw [upd_ne (fun z => h (by subst z; rw [ha1] at e2; cases e2; exact ⟨rfl, List.prefix_refl _⟩))]; exact e1
  · obtain ⟨a', rfl, e⟩ := tr_root h rfl
    cases R0.inj a' a r p e ha1
    exact .l ha1 upd_same (TrAll.ofData (RpAll.mono (fun b o z => by obtain ⟨z1, z2⟩ := msk_some z; rw [msk_of z1, upd_ne (ne z1)]; exact z2) _ _ hz))
  · by_cases hb : b = a
    · subst hb; exact ⟨_, upd_same, trivial⟩
    · obtain ⟨o, e, w⟩ := R0.nt b h
      exact ⟨o, by rw [upd_ne hb]; exact e, w⟩
  · obtain ⟨t, z, e1, e2, e3⟩ := R0.val b r (p ++ q) e hr
    obtain ⟨t', e4, u0, e5, e6⟩ := getT_some g
    rw [e1] at e4; cases e4
    rw [subT_append e5] at e2
    obtain ⟨z', e7, e8⟩ := sub_strip e2 e3
    rw [e6] at e7
    have := sub_flat e7 e8
    subst this
    exact ⟨_, rfl, rfl⟩
  · have : b ≠ a := fun z => by subst z; rw [ha] at e2; cases e2
    exact ⟨by rw [upd_ne this]; exact e1, cut_free e2⟩
  · have : b ≠ a := fun z => by subst z; rw [ha] at e2; cases e2; omega
    exact ⟨by rw [upd_ne this]; exact e1, cut_at.mpr ⟨e2, l2⟩⟩
end

section
variable {X : Cx} {pos : Pos} {a b c e o : Expr} {es : List Expr} {ta tb tc : TwE} {tas : TwA}
/-! ### methods -/
abbrev KM := T → List T → Rho → (T → Rho → Prop) → Prop
def MonM (k : KM) : Prop := ∀ t ts ρ (Q Q' : T → Rho → Prop), (∀ t ρ', Q t ρ' → Q' t ρ') → k t ts ρ Q → k t ts ρ Q'
def wM (ty : Rho → T → Prop) (k : KM) (ta : TwE) (tas : TwA) : TwE := fun ρ Q E => ta ρ (fun t ρ1 => ty ρ1 t ∧ tas ρ1 (fun ts ρ2 => k t ts ρ2 Q) E) E
def MK (K : PySem.W.Frag) (r : V → List V → Hp → VK → Prop) (k : KM) : Prop := ∀ (C : Ctx) (n m : Nat) (σ : St) (H0 H : Hp) (O0 O : Own) (ρ : Rho) (t : T) (ts : List T) (v : V) (vs : List V) (Q : VK), C.N ≤ n → n + 1 + ts.length ≤ m → Rel K C m σ H O ρ →
  Frm C.N n H0 O0 H O → Val K H O n v t → ValAll K H O (n + 1) vs ts → k t ts ρ (Fin K C n σ H0 O0 Q) → r v vs H Q
def TyK (K : PySem.W.Frag) (ty : Rho → T → Prop) (S : String) : Prop := ∀ (C : Ctx) (n m : Nat) (σ : St) (H : Hp) (O : Own) (ρ : Rho) (t : T) (v : V), Rel K C m σ H O ρ → Val K H O n v t → ty ρ t → tyV K S v H
def isLst (ρ : Rho) : T → Prop
  | .d (.list _) => True
  | .l _ => True
  | .a r p => ∃ ts, getT ρ r p = some (.l ts)
  | _ => False
theorem ty_lst : TyK X.K isLst "list" := by
  intro C n m σ H O ρ t v R V h
  cases t with
  | d x =>
    cases x with
    | list xs => have := val_d V; cases this with | lst h1 _ => exact .inl ⟨rfl, _, .of (msk_some h1).2⟩
    | _ => exact h.elim
  | l ts => have := V.1; cases this with | l _ h2 _ => exact .inl ⟨rfl, _, .of h2⟩
  | a r p =>
    obtain ⟨ts, g⟩ := h
    obtain ⟨⟨ad, rfl, e, _⟩, _⟩ := V
    have tr := R.alias g rfl e
    cases tr with | l _ h2 _ => exact .inl ⟨rfl, _, .of h2⟩
  | _ => exact h.elim
theorem wM_mono {ty : Rho → T → Prop} {k : KM} (hk : MonM k) (ha : MonE ta) (hs : MonE tas) : MonE (wM ty k ta tas) := fun ρ Q Q' E E' h he q =>
  ha ρ _ _ E E' (fun t ρ1 ⟨h1, q1⟩ => ⟨h1, hs ρ1 _ _ E E' (fun ts ρ2 q2 => hk _ _ _ _ _ h q2) he q1⟩) he q
theorem le_bm {e' : Expr} {S : String} {ty : Rho → T → Prop} {r : V → List V → Hp → VK → Prop} {k : KM} (hp : ∀ to t, PE X o to → PA X es t → PE X e' (tBM X.K S r to t)) (hty : TyK X.K ty S) (hk : MonM k) (hf : MK X.K r k) (ho : LE X o ta) (ha : LA X es tas) : LE X e' (wM ty k ta tas) := by
  refine ⟨wM_mono hk ho.mono ha.mono, fun C W n hC hn tk => (hp _ _ (ho.run C W n hC hn tk) (ha.run C W (n + 1) hC (by omega) tk)).imp fun σ H Q ⟨O, ρ, R, q⟩ => ?_⟩
  refine ⟨O, ρ, R, ho.mono ρ _ _ _ _ (fun t ρ1 ⟨h1, q1⟩ => ?_) (fun _ _ z => z) q⟩
  intro v H1 O1 R1 F1 V1
  refine ⟨hty C n _ σ H1 O1 ρ1 t v R1 V1 h1, O1, ρ1, R1, ha.mono ρ1 _ _ _ _ (fun ts ρ2 q2 => ?_) (fun c ρ' z => exK.on F1.fre c ρ' z) q1⟩
  intro vs H2 O2 R2 F2 V2
  exact hf C n _ σ H H2 O O2 ρ2 t ts v vs Q hn (Nat.le_refl _) R2 (F1.trans F2 (Nat.le_succ n)) (V1.carry hn R1.lt R1.nt F2) V2 q2
/-- behind a change of a flat list: a scalar is handed on -/
theorem Fin.updL {K : PySem.W.Frag} {C : Ctx} {n m : Nat} {σ : St} {H0 H : Hp} {O0 O : Own} {Q : VK} {ρ : Rho} {r : Nat} {p : List Nat} {ad : Addr} {ds ds' : List PyData} {ws' : List V} {x : PyData} {v : V} (hn : C.N ≤ n) (R : Rel K C m σ H O ρ) (F : Frm C.N n H0 O0 H O)
    (g : getT ρ r p = some (.l (ds.map T.d))) (ha : O ad = .at r p) (hz : RpAll K (msk (cut n O) H) ws' ds') (q : Fin K C n σ H0 O0 Q (.d x) (putAt ρ r p (.l (ds'.map T.d)))) (s : Rp K (msk (cut n O) H) v x) : Q v (upd H ad (.lst ws')) := by
  obtain ⟨R', F'⟩ := relUpdL R hn g ha hz
  have hr : r < C.N := let ⟨_, e, _⟩ := getT_some g; R.slt e
  refine q v _ _ (R'.up (Nat.le_succ _)) (F.trans F' (Nat.le_refl _)) (R'.val_d (Rp.mono (fun b o z => ?_) _ _ s))
  obtain ⟨z1, z2⟩ := msk_some z
  have : b ≠ ad := fun e => by subst e; rw [cut_at.mpr ⟨ha, Nat.lt_of_lt_of_le hr hn⟩] at z1; cases z1
  rw [msk_of z1, upd_ne this]
  exact z2
theorem flat_of {K : PySem.W.Frag} {C : Ctx} {n m : Nat} {σ : St} {H : Hp} {O : Own} {ρ : Rho} {r : Nat} {p : List Nat} {v : V} {ds : List PyData} (R : Rel K C m σ H O ρ) (V1 : Val K H O n v (.a r p)) (g : getT ρ r p = some (.l (ds.map T.d))) (hn : C.N ≤ n) :
    ∃ ad ws, v = .ref ad ∧ O ad = .at r p ∧ H ad = some (.lst ws) ∧ RpAll K (msk (cut n O) H) ws ds := by
  obtain ⟨⟨ad, rfl, e, _⟩, _⟩ := V1
  have tr := R.alias g rfl e
  cases tr with
  | l _ h2 h3 =>
    refine ⟨ad, _, rfl, e, h2, RpAll.mono (fun b o z => ?_) _ _ (TrAll.data h3)⟩
    obtain ⟨z1, z2⟩ := msk_some z
    rw [msk_of (cut_free z1)]; exact z2
def kApp : KM := fun t ts ρ Q => ∃ r p, ∃ ds : List PyData, ∃ t2 y, t = .a r p ∧ ts = [t2] ∧ getT ρ r p = some (.l (ds.map T.d)) ∧ erase t2 = some y ∧ ds.length < sizeLine ∧ Q (.d .none) (putAt ρ r p (.l ((ds ++ [y]).map T.d)))
theorem mk_app : MK X.K rAppend kApp := by
  rintro C n m σ H0 H O0 O ρ t ts v vs Q hn hm R F V1 V2 ⟨r, p, ds, t2, y, rfl, rfl, g, e, l, q⟩
  obtain ⟨ad, ws, rfl, ha, h1, h2⟩ := flat_of R V1 g hn
  obtain ⟨w, rfl, V3⟩ := V2.one
  exact ⟨ad, ws, w, rfl, rfl, h1, by rw [h2.length]; exact l, Fin.updL hn R F g ha (h2.append (.cons (V3.asD (Nat.le_succ _) e) .nil)) q .non⟩
def kPopAt : KM := fun t ts ρ Q => ∃ r p, ∃ ds : List PyData, ∃ i k y, t = .a r p ∧ ts = [.d (.int i)] ∧ getT ρ r p = some (.l (ds.map T.d)) ∧ -(2 ^ 63) ≤ i ∧ i < 2 ^ 63 ∧ seqIndex? i ds.length = some k ∧ ds[k]? = some y ∧ Q (.d y) (putAt ρ r p (.l ((ds.eraseIdx k).map T.d)))
theorem mk_popAt : MK X.K rPopAt kPopAt := by
  rintro C n m σ H0 H O0 O ρ t ts v vs Q hn hm R F V1 V2 ⟨r, p, ds, i, k, y, rfl, rfl, g, e1, e2, e3, e, q⟩
  obtain ⟨ad, ws, rfl, ha, h1, h2⟩ := flat_of R V1 g hn
  obtain ⟨w, rfl, V3⟩ := V2.one
  rw [rp_int (val_d V3)]
  obtain ⟨w', h3, h4⟩ := h2.get e
  exact ⟨ad, ws, i, k, w', rfl, rfl, h1, e1, e2, by rw [h2.length]; exact e3, h3, Fin.updL hn R F g ha (h2.eraseIdx k) q h4⟩
def kRev : KM := fun t ts ρ Q => ∃ r p, ∃ ds : List PyData, t = .a r p ∧ ts = [] ∧ getT ρ r p = some (.l (ds.map T.d)) ∧ Q (.d .none) (putAt ρ r p (.l (ds.reverse.map T.d)))
mutual
theorem Rp.dp {K : PySem.W.Frag} {H : Hp} : ∀ (d : PyData) (v : V), d.canLay0 = true → Rp K H v d → Dp K H v d
  | .none, _, _, h => by cases h; exact .non
  | .bool b, _, _, h => by cases h; exact .bl b
  | .int i, _, _, h => by cases h; exact .int i
  | .str x, _, _, h => by cases h; exact .str x
  | .list ds, _, e, h => by cases h with | lst h1 h2 => exact .lst (.of h1) (RpAll.dp ds _ (by simpa [PyData.canLay0] using e) h2)
  | .tuple ds, _, e, h => by cases h with | tup h1 h2 => exact .tup (.of h1) (RpAll.dp ds _ (by simpa [PyData.canLay0] using e) h2)
  | .dict _, _, e, h => by simp [PyData.canLay0] at e
theorem RpAll.dp {K : PySem.W.Frag} {H : Hp} : ∀ (ds : List PyData) (vs : List V), PyData.canLayAll0 ds = true → RpAll K H vs ds → DpAll K H vs ds
  | [], _, _, h => by cases h; exact .nil
  | d :: ds, _, e, h => by
    cases h with
    | cons h1 h2 =>
      simp [PyData.canLayAll0] at e
      exact .cons (Rp.dp d _ e.1 h1) (RpAll.dp ds _ e.2 h2)
end
variable {apos : Pos}
theorem mon_app : MonM kApp := fun t ts ρ Q Q' h ⟨a, b, c, d, e, h1, h2, h3, h4, h5, q⟩ => ⟨a, b, c, d, e, h1, h2, h3, h4, h5, h _ _ q⟩
theorem mon_popAt : MonM kPopAt := fun t ts ρ Q Q' h ⟨a, b, c, d, e, f, h1, h2, h3, h4, h5, h6, h7, q⟩ => ⟨a, b, c, d, e, f, h1, h2, h3, h4, h5, h6, h7, h _ _ q⟩
end
end TX

/-! Statements, targets, loops over trees. -/
namespace TX
open PySem PySem.Spec L2

structure EndsT where
  nx : Rho → Prop
  rt : T → Rho → Prop
  bk : Rho → Prop := fun _ => False
  ct : Rho → Prop := fun _ => False
  ex : ExK := fun _ _ => False
abbrev TwS := EndsT → Rho → Prop
structure LeD (D D' : EndsT) : Prop where
  nx : ∀ ρ, D.nx ρ → D'.nx ρ
  rt : ∀ t ρ, D.rt t ρ → D'.rt t ρ
  bk : ∀ ρ, D.bk ρ → D'.bk ρ
  ct : ∀ ρ, D.ct ρ → D'.ct ρ
  ex : ∀ c ρ, D.ex c ρ → D'.ex c ρ
def nxK (K : PySem.W.Frag) (C : Ctx) (H : Hp) (O : Own) (q : St → Hp → Prop) : Rho → Prop := fun ρ' => ∀ σ' H' O', Rel K C C.N σ' H' O' ρ' → Fre H O H' O' → q σ' H'
def rtK (K : PySem.W.Frag) (C : Ctx) (H : Hp) (O : Own) (q : VK) : T → Rho → Prop := fun t ρ' => ∀ v σ' H' O', Rel K C (C.N + 1) σ' H' O' ρ' → Fre H O H' O' → Val K H' O' C.N v t → q v H'
def enK (K : PySem.W.Frag) (C : Ctx) (W : WX) (H : Hp) (O : Own) (D : Ends) : EndsT := ⟨nxK K C H O D.nx, rtK K C H O D.rt, nxK K C H O D.bk, nxK K C H O D.ct, exK K C W H O⟩
def lfS (K : PySem.W.Frag) (C : Ctx) (W : WX) (tw : TwS) : TS := fun D σ H => ∃ O ρ, Rel K C C.N σ H O ρ ∧ tw (enK K C W H O D) ρ
def MonS (tw : TwS) : Prop := ∀ D D' ρ, LeD D D' → tw D ρ → tw D' ρ
structure LS (X : Cx) (io : List Nat) (st : Stmt) (tw : TwS) : Prop where
  mono : MonS tw
  run : ∀ (C : Ctx) (W : WX), C.N = X.N.length → C.io = io → Takes X W → PassesOwn (model X.prog X.w) X.A X.env X.xe → PS X st (lfS X.K C W tw)
structure LSs (X : Cx) (io : List Nat) (st : List Stmt) (tw : TwS) : Prop where
  mono : MonS tw
  run : ∀ (C : Ctx) (W : WX), C.N = X.N.length → C.io = io → Takes X W → PassesOwn (model X.prog X.w) X.A X.env X.xe → PSs X st (lfS X.K C W tw)
section
variable {K : PySem.W.Frag} {C : Ctx} {W : WX} {H H1 : Hp} {O O1 : Own}
theorem nxK.on (f : Fre H O H1 O1) {q : St → Hp → Prop} (ρ : Rho) (h : nxK K C H O q ρ) : nxK K C H1 O1 q ρ := fun σ' H' O' R F => h σ' H' O' R (f.trans F)
theorem rtK.on (f : Fre H O H1 O1) {q : VK} (t : T) (ρ : Rho) (h : rtK K C H O q t ρ) : rtK K C H1 O1 q t ρ := fun v σ' H' O' R F V => h v σ' H' O' R (f.trans F) V
theorem enK.on (f : Fre H O H1 O1) (D : Ends) : LeD (enK K C W H O D) (enK K C W H1 O1 D) := ⟨fun ρ => nxK.on f ρ, fun t ρ => rtK.on f t ρ, fun ρ => nxK.on f ρ, fun ρ => nxK.on f ρ, fun c ρ => exK.on f c ρ⟩
theorem fre_cut (n : Nat) : Fre H O H (cut n O) := fun _ _ e1 e2 => ⟨e1, cut_free e2⟩
end

section
variable {X : Cx} {io : List Nat} {st : Stmt} {rest : List Stmt} {t u : TwS} {a b c e o i' : Expr} {es : List Expr} {ta tb tc : TwE} {tas : TwA} {tt : TwT} {pos : Pos}
/-! ### blocks -/
def wNext : TwS := fun D ρ => D.nx ρ
def wSeq (t u : TwS) : TwS := fun D ρ => t { D with nx := u D } ρ
theorem lss_nil : LSs X io [] wNext := ⟨fun D D' ρ l q => l.nx _ q, fun C W hC hio tk hp => pss_nil.imp fun D σ H ⟨O, ρ, R, q⟩ => q σ H O R .refl⟩
theorem wSeq_mono (ht : MonS t) (hu : MonS u) : MonS (wSeq t u) := fun D D' ρ l q => ht { D with nx := u D } { D' with nx := u D' } ρ ⟨fun ρ q => hu _ _ _ l q, l.rt, l.bk, l.ct, l.ex⟩ q
theorem lss_cons (h1 : LS X io st t) (h2 : LSs X io rest u) : LSs X io (st :: rest) (wSeq t u) := by
  refine ⟨wSeq_mono h1.mono h2.mono, fun C W hC hio tk hp => (pss_cons (h1.run C W hC hio tk hp) (h2.run C W hC hio tk hp)).imp fun D σ H ⟨O, ρ, R, q⟩ => ?_⟩
  refine ⟨O, ρ, R, h1.mono { enK X.K C W H O D with nx := u (enK X.K C W H O D) } _ ρ ⟨fun ρ1 q1 => ?_, fun _ _ z => z, fun _ z => z, fun _ z => z, fun _ _ z => z⟩ q⟩
  intro σ1 H1 O1 R1 F1
  exact ⟨O1, ρ1, R1, h2.mono _ _ ρ1 (enK.on F1 D) q1⟩
theorem lss_one (h1 : LS X io st t) : LSs X io [st] t := ⟨h1.mono, fun C W hC hio tk hp => pss_one (h1.run C W hC hio tk hp)⟩
/-- an expression whose value is dropped -/
def wDrop (ta : TwE) : TwS := fun D ρ => ta ρ (fun _ ρ1 => D.nx ρ1) D.ex
theorem ls_expr (he : LE X e ta) (hs : swapsWith e none pos.line X.env = pure false := by rfl) : LS X io (.Expr e pos) (wDrop ta) := by
  refine ⟨fun D D' ρ l q => he.mono ρ _ _ _ _ (fun _ ρ1 q => l.nx _ q) l.ex q, fun C W hC hio tk hp => (ps_expr (he.run C W C.N hC (Nat.le_refl _) tk) hs).imp fun D σ H ⟨O, ρ, R, q⟩ => ?_⟩
  refine ⟨O, ρ, R, he.mono ρ _ _ _ _ (fun t ρ1 q => ?_) (fun _ _ z => z) q⟩
  intro v H1 O1 R1 F1 V1
  exact q σ H1 _ (R1.cut (Nat.le_refl _)) (F1.fre.trans (fre_cut _))
/-- return e: the value a tree (no place) -/
def wRet (ta : TwE) : TwS := fun D ρ => ta ρ (fun t ρ1 => D.rt t ρ1) D.ex
theorem ls_ret (he : LE X e ta) : LS X io (.Return (some e) pos) (wRet ta) := by
  refine ⟨fun D D' ρ l q => he.mono ρ _ _ _ _ (fun t ρ1 q => l.rt _ _ q) l.ex q, fun C W hC hio tk hp => (ps_ret (he.run C W C.N hC (Nat.le_refl _) tk)).imp fun D σ H ⟨O, ρ, R, q⟩ => ?_⟩
  refine ⟨O, ρ, R, he.mono ρ _ _ _ _ (fun t ρ1 q => ?_) (fun _ _ z => z) q⟩
  intro v H1 O1 R1 F1 V1
  exact q v σ H1 O1 R1 F1.fre V1
def wIfS (tt : TwT) (t u : TwS) : TwS := fun D ρ => tt ρ (fun b ρ1 => if b = true then t D ρ1 else u D ρ1) D.ex
theorem ls_if {sa sb : List Stmt} (hc : LT X c tt) (ha : LSs X io sa t) (hb : LSs X io sb u) : LS X io (.If c sa sb pos) (wIfS tt t u) := by
  refine ⟨fun D D' ρ l q => hc.mono ρ _ _ _ _ (fun b ρ1 q => ?_) l.ex q, fun C W hC hio tk hp => (ps_if (hc.run C W C.N hC (Nat.le_refl _) tk) (ha.run C W hC hio tk hp) (hb.run C W hC hio tk hp)).imp fun D σ H ⟨O, ρ, R, q⟩ => ?_⟩
  · cases b with
    | true => exact ha.mono _ _ _ l q
    | false => exact hb.mono _ _ _ l q
  · refine ⟨O, ρ, R, hc.mono ρ _ _ _ _ (fun b ρ1 q => ?_) (fun _ _ z => z) q⟩
    intro H1 O1 R1 F1
    cases b with
    | true => exact ⟨O1, ρ1, R1, ha.mono _ _ _ (enK.on F1.fre D) q⟩
    | false => exact ⟨O1, ρ1, R1, hb.mono _ _ _ (enK.on F1.fre D) q⟩
end

/-! ### a slot is stored -/
section
variable {K : PySem.W.Frag} {C : Ctx} {n m : Nat} {σ : St} {H H' : Hp} {O O' : Own} {ρ : Rho}
theorem set_get {α : Type} {l : List α} {i j : Nat} {x : α} (hi : i < l.length) : (l.set i x)[j]? = if j = i then some x else l[j]? := by
  by_cases e : j = i
  · subst e; rw [if_pos rfl]; exact List.getElem?_set_self hi
  · rw [if_neg e]; exact List.getElem?_set_ne (fun z => e z.symm)
/-- slot i takes a value without places of its own -/
theorem relStore (R : Rel K C n σ H O ρ) {i : Nat} (hi : i < C.N) (hio : ∀ b p, C.O0 b ≠ .at i p) {v : V} {t : T} (h : Tr K H (dropR i O) i [] v t) (hn : isNode t = false) : Rel K C n (σ.set i (some v)) H (dropR i O) (ρ.set i (some t)) := by
  have hl : i < σ.length := by rw [R.ln]; exact hi
  have hl' : i < ρ.length := by rw [R.lr]; exact hi
  refine ⟨fun b o e1 e2 => ?_, fun b z => R.nt b fun q => z (dropR_free q), fun b r p e => R.lt b r p (dropR_at.mp e).1, fun a b r p e1 e2 => R.inj a b r p (dropR_at.mp e1).1 (dropR_at.mp e2).1, fun b r p e l => ?_, by rw [List.length_set]; exact R.ln, by rw [List.length_set]; exact R.lr,
    fun j u e => ?_, R.hN, fun b e => R.fo b (dropR_foreign.mp e), fun b j p e => ?_, R.sm⟩
  · obtain ⟨z1, z2⟩ := R.fr b o e1 e2
    refine ⟨z1, ?_⟩
    rcases e2 with e2 | e2
    · rw [e2] at z2 ⊢; exact dropR_free z2
    · rw [e2] at z2 ⊢; exact dropR_foreign.mpr z2
  · obtain ⟨e1, e2⟩ := dropR_at.mp e
    obtain ⟨t', z, h1, h2, h3⟩ := R.val b r p e1 l
    exact ⟨t', z, by rw [set_get hl', if_neg e2]; exact h1, h2, h3⟩
  · rw [set_get hl'] at e
    by_cases hj : j = i
    · subst hj
      rw [if_pos rfl] at e
      cases e
      exact ⟨v, by rw [set_get hl, if_pos rfl], h⟩
    · rw [if_neg hj] at e
      obtain ⟨w, h2, h3⟩ := R.sl j u e
      exact ⟨w, by rw [set_get hl, if_neg hj]; exact h2, Tr.move (r' := j) (p0 := []) (p1 := []) (fun b o e1 e2 => ⟨e1, dropR_free e2⟩) (fun b o q e1 e2 => ⟨e1, dropR_at.mpr ⟨e2, hj⟩⟩) u [] w h3⟩
  · obtain ⟨z1, z2⟩ := R.pz b j p e
    exact ⟨z1, dropR_at.mpr ⟨z2, fun z => hio b p (z ▸ e)⟩⟩
theorem fre_drop (i : Nat) : Fre H O H (dropR i O) := fun _ _ e1 e2 => ⟨e1, dropR_free e2⟩
theorem no_io (R : Rel K C n σ H O ρ) {i : Nat} (hio : i ∉ C.io) : ∀ b p, C.O0 b ≠ .at i p := fun b p e => hio (R.sm.2 b i p e)
def noNdB (ρ : Rho) (i : Nat) : Bool := match ρ[i]? with
  | some (some t) => !isNode t
  | _ => true
theorem no_nd (R : Rel K C n σ H O ρ) {i : Nat} (h : noNdB ρ i = true) : ∀ b p, C.O0 b ≠ .at i p := fun b p e => by
  obtain ⟨h1, h2⟩ := R.pz b i p e
  obtain ⟨t, z, e1, e2, e3⟩ := R.val b i p h2 h1
  unfold noNdB at h
  rw [e1] at h
  cases t with
  | d x => cases p <;> simp [subT, kid, kid0, strip] at e2; subst e2; cases e3
  | raw x => cases p <;> simp [subT, kid, kid0, strip] at e2; subst e2; cases e3
  | fz x => cases p <;> simp [subT, kid, kid0, strip] at e2; subst e2; cases e3
  | lk x y z => cases p <;> simp [subT, kid, kid0, strip] at e2; subst e2; cases e3
  | a x y => cases p <;> simp [subT, kid, kid0, strip] at e2; subst e2; cases e3
  | ex x => cases p <;> simp [subT, kid, kid0, strip] at e2; subst e2; cases e3
  | cl x => cases p <;> simp [subT, kid, kid0, strip] at e2; subst e2; cases e3
  | n b t =>
    have h' : isNode0 t = false := by simpa [isNode, strip] using h
    cases p with
    | nil => cases e2; rw [show isNode (.n b t) = isNode0 t from rfl, h'] at e3; cases e3
    | cons k q => cases t <;> simp [subT, kid, kid0, strip] at e2 <;> cases h'
  | _ => simp [isNode, isNode0, strip] at h
theorem relStoreD (R : Rel K C n σ H O ρ) {i : Nat} (hi : i < C.N) (hio : ∀ b p, C.O0 b ≠ .at i p) {v : V} {x : PyData} (h : Rp K (msk O H) v x) : Rel K C n (σ.set i (some v)) H (dropR i O) (ρ.set i (some (.d x))) :=
  relStore R hi hio (.d (Rp.mono (fun b o e => by obtain ⟨e1, e2⟩ := msk_some e; rw [msk_of (dropR_free e1)]; exact e2) _ _ h)) rfl
/-- slot i takes a tree on the way -/
theorem relStoreT (R : Rel K C (C.N + 1) σ H O ρ) {i : Nat} (hi : i < C.N) (hio : i ∉ C.io) {v : V} {t : T} (V1 : Val K H O C.N v t) (ha : ∀ r p, t ≠ .a r p) :
    ∃ O', Rel K C C.N (σ.set i (some v)) H O' (ρ.set i (some t)) ∧ Fre H O H O' := by
  have hl : i < σ.length := by rw [R.ln]; exact hi
  have hl' : i < ρ.length := by rw [R.lr]; exact hi
  have tr : Tr K H O C.N [] v t ∧ ∀ b p, O b = .at C.N p → ∃ z, subT t p = some z ∧ isNode z = true := by
    cases t with
    | a r p => exact absurd rfl (ha r p)
    | _ => exact V1
  obtain ⟨V2, V3⟩ := tr
  have hne : C.N ≠ i := Nat.ne_of_gt hi
  -- the labels behind
  have up : ∀ {b : Addr} {r : Nat} {p : List Nat}, O b = .at r p → r ≠ i → r ≠ C.N → mvR C.N i (dropR i O) b = .at r p := fun {b r p} e1 e2 e3 => mvR_ne (dropR_at.mpr ⟨e1, e2⟩) e3
  have upN : ∀ {b : Addr} {p : List Nat}, O b = .at C.N p → mvR C.N i (dropR i O) b = .at i p := fun {b p} e => mvR_root (dropR_at.mpr ⟨e, hne⟩)
  have dn : ∀ {b : Addr} {r : Nat} {p : List Nat}, mvR C.N i (dropR i O) b = .at r p → (r = i ∧ O b = .at C.N p) ∨ (r ≠ i ∧ r ≠ C.N ∧ O b = .at r p) := fun {b r p} e => by
    rcases mvR_at e with ⟨h1, h2⟩ | ⟨h1, h2⟩
    · exact .inl ⟨h1, (dropR_at.mp h2).1⟩
    · exact .inr ⟨(dropR_at.mp h2).2, h1, (dropR_at.mp h2).1⟩
  have fr : ∀ {b : Addr}, O b = .free → mvR C.N i (dropR i O) b = .free := fun {b} e => mvR_free.mpr (dropR_free e)
  have ff : ∀ {b : Addr}, O b = .foreign ↔ mvR C.N i (dropR i O) b = .foreign := fun {b} => by rw [mvR_foreign, dropR_foreign]
  refine ⟨mvR C.N i (dropR i O), ⟨fun b o e1 e2 => ?_, fun b z => R.nt b fun q => z (fr q), fun b r p e => ?_, fun a b r p e1 e2 => ?_, fun b r p e l => ?_, by rw [List.length_set]; exact R.ln, by rw [List.length_set]; exact R.lr,
    fun j u e => ?_, Nat.le_refl _, fun b e => R.fo b (ff.mpr e), fun b j p e => ?_, R.sm⟩, fun b o e1 e2 => ⟨e1, fr e2⟩⟩
  · obtain ⟨z1, z2⟩ := R.fr b o e1 e2
    refine ⟨z1, ?_⟩
    rcases e2 with e2 | e2
    · rw [e2] at z2 ⊢; exact fr z2
    · rw [e2] at z2 ⊢; exact ff.mp z2
  · rcases dn e with ⟨rfl, _⟩ | ⟨_, h2, h3⟩
    · exact hi
    · have := R.lt b r p h3; omega
  · rcases dn e1 with ⟨h1, h2⟩ | ⟨h1, _, h2⟩ <;> rcases dn e2 with ⟨h3, h4⟩ | ⟨h3, _, h4⟩
    · exact R.inj a b _ _ h2 h4
    · exact absurd h1 h3
    · exact absurd h3 h1
    · exact R.inj a b _ _ h2 h4
  · rcases dn e with ⟨rfl, h2⟩ | ⟨h1, _, h2⟩
    · obtain ⟨z, z1, z2⟩ := V3 b p h2
      exact ⟨t, z, by rw [set_get hl', if_pos rfl], z1, z2⟩
    · obtain ⟨t', z, g1, g2, g3⟩ := R.val b r p h2 l
      exact ⟨t', z, by rw [set_get hl', if_neg h1]; exact g1, g2, g3⟩
  · rw [set_get hl'] at e
    by_cases hj : j = i
    · subst hj
      rw [if_pos rfl] at e
      cases e
      exact ⟨v, by rw [set_get hl, if_pos rfl], Tr.move (r' := j) (p0 := []) (p1 := []) (fun b o e1 e2 => ⟨e1, fr e2⟩) (fun b o q e1 e2 => ⟨e1, upN e2⟩) t [] v V2⟩
    · rw [if_neg hj] at e
      obtain ⟨w, h2, h3⟩ := R.sl j u e
      have : j < C.N := by have := (List.getElem?_eq_some_iff.mp e).1; rw [R.lr] at this; exact this
      exact ⟨w, by rw [set_get hl, if_neg hj]; exact h2, Tr.move (r' := j) (p0 := []) (p1 := []) (fun b o e1 e2 => ⟨e1, fr e2⟩) (fun b o q e1 e2 => ⟨e1, up e2 hj (Nat.ne_of_lt this)⟩) u [] w h3⟩
  · obtain ⟨z1, z2⟩ := R.pz b j p e
    exact ⟨z1, up z2 (fun z => hio (z ▸ R.sm.2 b j p e)) (Nat.ne_of_lt z1)⟩
end

section
variable {X : Cx} {io : List Nat} {st : Stmt} {rest : List Stmt} {t u : TwS} {a b c e o i' : Expr} {es : List Expr} {ta tb tc : TwE} {tas : TwA} {tt : TwT} {pos pos' : Pos}
theorem nlt {X : Cx} {C : Ctx} {i : Nat} {x : Str} (hC : C.N = X.N.length) (hi : X.N[i]? = some x) : i < C.N := by rw [hC]; exact (List.getElem?_eq_some_iff.mp hi).1
/-- x = e: a tree of its own | data -/
def wSet (i : Nat) (ta : TwE) : TwS := fun D ρ => ta ρ (fun t ρ1 => (∀ r p, t ≠ .a r p) ∧ D.nx (ρ1.set i (some t))) D.ex
theorem ls_set {i : Nat} {x : Str} (hN : X.N.Nodup) (hi : X.N[i]? = some x) (hx : Loc X.env.scope x) (he : LE X e ta) (hio : i ∉ io := by decide) (hs : swapsWith e (some (.Name x pos')) pos.line X.env = pure false := by rfl) (hf : X.fn x = true ∨ X.env.scope.names.lookup x = some .local := by first | exact .inl rfl | exact .inr rfl | assumption) :
    LS X io (.Assign [.Name x pos'] e pos) (wSet i ta) := by
  refine ⟨fun D D' ρ l q => he.mono ρ _ _ _ _ (fun t ρ1 ⟨h, q⟩ => ⟨h, l.nx _ q⟩) l.ex q, fun C W hC hio' tk hp => (ps_set hN hi hx (he.run C W C.N hC (Nat.le_refl _) tk) hs hf).imp fun D σ H ⟨O, ρ, R, q⟩ => ?_⟩
  refine ⟨O, ρ, R, he.mono ρ _ _ _ _ (fun t ρ1 ⟨ha, q⟩ => ?_) (fun _ _ z => z) q⟩
  intro v H1 O1 R1 F1 V1
  obtain ⟨O', R', F'⟩ := relStoreT R1 (nlt hC hi) (by rw [hio']; exact hio) V1 ha
  exact q _ H1 O' R' (F1.fre.trans F')
/-- return of a name that holds a tree of its own: the tree itself -/
def wRetV (i : Nat) : TwS := fun D ρ => ∃ t, ρ[i]? = some (some t) ∧ D.rt t (ρ.set i none)
theorem relTake {K : PySem.W.Frag} {C : Ctx} {σ : St} {H : Hp} {O : Own} {ρ : Rho} (R : Rel K C C.N σ H O ρ) {i : Nat} (hio : i ∉ C.io) {t : T} {v : V} (e : ρ[i]? = some (some t)) (hv : σ[i]? = some (some v)) (tr : Tr K H O i [] v t) :
    ∃ O', Rel K C (C.N + 1) σ H O' (ρ.set i none) ∧ Fre H O H O' ∧ Val K H O' C.N v t := by
  have hi : i < C.N := R.slt e
  have hl' : i < ρ.length := by rw [R.lr]; exact hi
  have hne : i ≠ C.N := Nat.ne_of_lt hi
  have up : ∀ {b : Addr} {r : Nat} {p : List Nat}, O b = .at r p → r ≠ i → mvR i C.N O b = .at r p := fun e1 e2 => mvR_ne e1 e2
  have upN : ∀ {b : Addr} {p : List Nat}, O b = .at i p → mvR i C.N O b = .at C.N p := fun e => mvR_root e
  have dn : ∀ {b : Addr} {r : Nat} {p : List Nat}, mvR i C.N O b = .at r p → (r = C.N ∧ O b = .at i p) ∨ (r ≠ i ∧ r < C.N ∧ O b = .at r p) := fun {b r p} e => by
    rcases mvR_at e with ⟨h1, h2⟩ | ⟨h1, h2⟩
    · exact .inl ⟨h1, h2⟩
    · exact .inr ⟨h1, R.lt b r p h2, h2⟩
  have fr : ∀ {b : Addr}, O b = .free → mvR i C.N O b = .free := fun {b} e => mvR_free.mpr e
  have noA : ∀ r p, t ≠ .a r p := fun r p z => by subst z; cases tr
  refine ⟨mvR i C.N O, ⟨fun b o e1 e2 => ?_, fun b z => R.nt b fun q => z (fr q), fun b r p e => ?_, fun a b r p e1 e2 => ?_, fun b r p e l => ?_, R.ln, by rw [List.length_set]; exact R.lr,
    fun j u e => ?_, Nat.le_succ _, fun b e => R.fo b (mvR_foreign.mp e), fun b j p e => ?_, R.sm⟩, fun b o e1 e2 => ⟨e1, fr e2⟩, ?_⟩
  · obtain ⟨z1, z2⟩ := R.fr b o e1 e2
    refine ⟨z1, ?_⟩
    rcases e2 with e2 | e2
    · rw [e2] at z2 ⊢; exact fr z2
    · rw [e2] at z2 ⊢; exact mvR_foreign.mpr z2
  · rcases dn e with ⟨h1, _⟩ | ⟨_, h2, _⟩ <;> omega
  · rcases dn e1 with ⟨h1, h2⟩ | ⟨h1, h5, h2⟩ <;> rcases dn e2 with ⟨h3, h4⟩ | ⟨h3, h6, h4⟩
    · exact R.inj a b _ _ h2 h4
    · omega
    · omega
    · exact R.inj a b _ _ h2 h4
  · rcases dn e with ⟨h1, h2⟩ | ⟨h1, _, h2⟩
    · omega
    · obtain ⟨t', z, g1, g2, g3⟩ := R.val b r p h2 l
      exact ⟨t', z, by rw [set_get hl', if_neg h1]; exact g1, g2, g3⟩
  · rw [set_get hl'] at e
    by_cases hj : j = i
    · rw [if_pos hj] at e; cases e
    · rw [if_neg hj] at e
      obtain ⟨w, h2, h3⟩ := R.sl j u e
      exact ⟨w, h2, Tr.move (r' := j) (p0 := []) (p1 := []) (fun b o e1 e2 => ⟨e1, fr e2⟩) (fun b o q e1 e2 => ⟨e1, up e2 hj⟩) u [] w h3⟩
  · obtain ⟨z1, z2⟩ := R.pz b j p e
    exact ⟨z1, up z2 (fun z => hio (z ▸ R.sm.2 b j p e))⟩
  · have : Tr K H (mvR i C.N O) C.N [] v t ∧ ∀ b p, mvR i C.N O b = .at C.N p → ∃ z, subT t p = some z ∧ isNode z = true := by
      refine ⟨Tr.move (r' := C.N) (p0 := []) (p1 := []) (fun b o e1 e2 => ⟨e1, fr e2⟩) (fun b o q e1 e2 => ⟨e1, upN e2⟩) t [] v tr, fun b p e' => ?_⟩
      rcases dn e' with ⟨_, h2⟩ | ⟨_, h2, _⟩
      · obtain ⟨t', z, g1, g2, g3⟩ := R.val b i p h2 hi
        rw [e] at g1; cases g1
        exact ⟨z, g2, g3⟩
      · omega
    cases t with
    | a r p => exact absurd rfl (noA r p)
    | _ => exact this
theorem ls_retV {i : Nat} {x : Str} (hi : X.N[i]? = some x) (hv : Vis X.env.scope x) (hio : i ∉ io := by decide) (hd : (x == ("__debug__" : Str)) = false := by decide) (hcd : (x == ("__classdict__" : Str)) = false := by decide) : LS X io (.Return (some (.Name x pos')) pos) (wRetV i) := by
  refine ⟨fun D D' ρ l ⟨t, e, q⟩ => ⟨t, e, l.rt _ _ q⟩, fun C W hC hio' tk hp => (ps_ret (pe_var (i := i) hi hv hd hcd)).imp fun D σ H ⟨O, ρ, R, t, e, q⟩ => ?_⟩
  obtain ⟨v, h1, h2⟩ := R.sl i t e
  obtain ⟨O', R', F', V'⟩ := relTake R (by rw [hio']; exact hio) e h1 h2
  exact ⟨v, h1, q v σ H O' R' F' V'⟩
/-- from here on what a slot holds is shared (nothing happens in the program) -/
def wFrz (i : Nat) (t : TwS) : TwS := fun D ρ => ∃ u x, ρ[i]? = some (some u) ∧ erase u = some x ∧ t D (ρ.set i (some (.d x)))
theorem relFrz {K : PySem.W.Frag} {C : Ctx} {σ : St} {H : Hp} {O : Own} {ρ : Rho} (R : Rel K C C.N σ H O ρ) {i : Nat} (hio : i ∉ C.io) {t : T} {x : PyData} (e : ρ[i]? = some (some t)) (he : erase t = some x) :
    Rel K C C.N σ H (dropR i O) (ρ.set i (some (.d x))) := by
  obtain ⟨v, h1, h2⟩ := R.sl i t e
  have hi : i < C.N := R.slt e
  have rp : Rp K (msk (dropR i O) H) v x := Rp.mono (fun b o z => by
    unfold vis at z
    split at z
    · rename_i e1; rw [msk_of (dropR_free e1)]; exact z
    · cases z
    · rename_i r' p' e1
      split at z
      · rename_i e2
        rw [msk_of (by unfold dropR; rw [e1]; simp only; rw [if_pos e2])]; exact z
      · cases z) _ _ (Tr.view t [] v x he h2)
  have := relStore R hi (no_io R hio) (v := v) (t := .d x) (.d rp) rfl
  have es : σ.set i (some v) = σ := by
    refine List.ext_getElem? fun j => ?_
    rw [set_get (by rw [R.ln]; exact hi)]
    split
    · rename_i hj; subst hj; exact h1.symm
    · rfl
  rw [es] at this
  exact this
theorem ls_frz (i : Nat) (h : LS X io st t) (hio : i ∉ io := by decide) : LS X io st (wFrz i t) := by
  refine ⟨fun D D' ρ l ⟨u, x, e1, e2, q⟩ => ⟨u, x, e1, e2, h.mono _ _ _ l q⟩, fun C W hC hio' tk hp => (h.run C W hC hio' tk hp).imp fun D σ H ⟨O, ρ, R, u, x, e1, e2, q⟩ => ?_⟩
  exact ⟨dropR i O, _, relFrz R (by rw [hio']; exact hio) e1 e2, h.mono _ _ _ (enK.on (fre_drop i) D) q⟩

/-! ### targets that take data -/
abbrev TwG := PyData → Rho → (Rho → Prop) → ExK → Prop
/-- behind a target: what is shared, the values on the way, the places but those at the slots ss -/
structure FrmS (ss : List Nat) (N n : Nat) (H : Hp) (O : Own) (H' : Hp) (O' : Own) : Prop where
  fre : Fre H O H' O'
  pl : ∀ b r p, O b = .at r p → r < N → r ∉ ss → O' b = .at r p
  tm : ∀ b o r p, H b = some o → O b = .at r p → N ≤ r → r < n → H' b = some o ∧ O' b = .at r p
  nw : ∀ b r p, O' b = .at r p → N ≤ r → r < n → O b = .at r p
def MonG (tw : TwG) : Prop := ∀ x ρ (Q Q' : Rho → Prop) (E E' : ExK), (∀ ρ', Q ρ' → Q' ρ') → (∀ c ρ', E c ρ' → E' c ρ') → tw x ρ Q E → tw x ρ Q' E'
def lfG (K : PySem.W.Frag) (C : Ctx) (W : WX) (ss : List Nat) (n : Nat) (tw : TwG) : TG := fun v σ H Q => ∃ O ρ x, Rel K C n σ H O ρ ∧ Rp K (msk O H) v x ∧
  tw x ρ (fun ρ' => ∀ σ' H' O', Rel K C n σ' H' O' ρ' → FrmS ss C.N n H O H' O' → wipe σ' ss = wipe σ ss → Q σ' H') (exK K C W H O)
structure LG (X : Cx) (ss : List Nat) (tg : Expr) (tw : TwG) : Prop where
  mono : MonG tw
  run : ∀ (C : Ctx) (W : WX) (n : Nat), C.N = X.N.length → C.N ≤ n → Takes X W → PG X tg (lfG X.K C W ss n tw)
theorem _root_.L2.PG.imp {tg : Expr} {t t' : TG} (h : PG X tg t) (k : ∀ v σ H Q, t' v σ H Q → t v σ H Q) : PG X tg t' := ⟨fun pins s σ H v u Q I r q => h.run pins s σ H v u Q I r (k _ _ _ _ q)⟩
theorem wipe_set {σ : St} {i : Nat} {x : Option V} : ∀ {ss : List Nat}, i ∈ ss → wipe (σ.set i x) ss = wipe σ ss
  | [], h => by simp at h
  | s :: ss, h => by
    unfold wipe
    by_cases e : i ∈ ss
    · rw [wipe_set e]
    · have : i = s := by rcases List.mem_cons.mp h with h | h; exact h; exact absurd h e
      subst this
      refine List.ext_getElem? fun j => ?_
      by_cases hj : j = i
      · subst hj
        simp [List.getElem?_set, wipe_length]
      · rw [List.getElem?_set_ne (fun z => hj z.symm), List.getElem?_set_ne (fun z => hj z.symm)]
        by_cases h2 : j ∈ ss
        · have a1 : ∀ τ : St, (wipe τ ss)[j]? = if j < τ.length then some none else none := fun τ => by
            clear hj h e
            induction ss with
            | nil => simp at h2
            | cons s' ss ih =>
              unfold wipe
              by_cases q : j = s'
              · subst q
                rw [List.getElem?_set, if_pos rfl, wipe_length]
              · rw [List.getElem?_set_ne (fun z => q z.symm)]
                exact ih (by rcases List.mem_cons.mp h2 with h | h; exact absurd h q; exact h)
          rw [a1, a1, List.length_set]
        · rw [wipe_out h2, wipe_out h2, List.getElem?_set_ne (fun z => hj z.symm)]
def wNm (i : Nat) : TwG := fun x ρ Q _ => noNdB ρ i = true ∧ Q (ρ.set i (some (.d x)))
theorem lg_name {i : Nat} {x : Str} (hN : X.N.Nodup) (hi : X.N[i]? = some x) (hx : Loc X.env.scope x) (hf : X.fn x = true ∨ X.env.scope.names.lookup x = some .local := by first | exact .inl rfl | exact .inr rfl | assumption) : LG X [i] (.Name x pos) (wNm i) := by
  refine ⟨fun x ρ Q Q' E E' h _ ⟨z, q⟩ => ⟨z, h _ q⟩, fun C W n hC hn tk => (pg_name hN hi hx hf).imp fun v σ H Q ⟨O, ρ, x, R, rp, nd, q⟩ => ?_⟩
  refine q _ H (dropR i O) (relStoreD R (nlt hC hi) (no_nd R nd) rp) ⟨fre_drop i, fun b r p e l z => dropR_at.mpr ⟨e, fun q => z (by simp [q])⟩, fun b o r p e1 e2 l _ => ⟨e1, dropR_at.mpr ⟨e2, fun z => ?_⟩⟩, fun b r p e _ _ => (dropR_at.mp e).1⟩ (wipe_set (by simp))
  have := nlt hC hi
  omega
abbrev TwGs := List PyData → Rho → (Rho → Prop) → ExK → Prop
def lfGs (K : PySem.W.Frag) (C : Ctx) (W : WX) (ss : List Nat) (n : Nat) (tw : TwGs) : TGs := fun vs σ H Q => ∃ O ρ xs, Rel K C n σ H O ρ ∧ RpAll K (msk O H) vs xs ∧
  tw xs ρ (fun ρ' => ∀ σ' H' O', Rel K C n σ' H' O' ρ' → FrmS ss C.N n H O H' O' → wipe σ' ss = wipe σ ss → Q σ' H') (exK K C W H O)
structure LGs (X : Cx) (ss : List Nat) (tg : List Expr) (tw : TwGs) : Prop where
  mono : ∀ x ρ (Q Q' : Rho → Prop) (E E' : ExK), (∀ ρ', Q ρ' → Q' ρ') → (∀ c ρ', E c ρ' → E' c ρ') → tw x ρ Q E → tw x ρ Q' E'
  run : ∀ (C : Ctx) (W : WX) (n : Nat), C.N = X.N.length → C.N ≤ n → Takes X W → PGs X tg (lfGs X.K C W ss n tw)
theorem _root_.L2.PGs.imp {tg : List Expr} {t t' : TGs} (h : PGs X tg t) (k : ∀ v σ H Q, t' v σ H Q → t v σ H Q) : PGs X tg t' := ⟨fun pins s σ H v u Q I r q => h.run pins s σ H v u Q I r (k _ _ _ _ q)⟩
def wGsNil : TwGs := fun xs ρ Q _ => xs = [] ∧ Q ρ
def wGsCons (t : TwG) (u : TwGs) : TwGs := fun xs ρ Q E => ∃ x r, xs = x :: r ∧ t x ρ (fun ρ1 => u r ρ1 Q E) E
theorem FrmS.refl {ss : List Nat} {N n : Nat} {H : Hp} {O : Own} : FrmS ss N n H O H O := ⟨Fre.refl, fun _ _ _ h _ _ => h, fun _ _ _ _ h e _ _ => ⟨h, e⟩, fun _ _ _ h _ _ => h⟩
theorem FrmS.trans {ss : List Nat} {N n : Nat} {H H1 H2 : Hp} {O O1 O2 : Own} (a : FrmS ss N n H O H1 O1) (b : FrmS ss N n H1 O1 H2 O2) : FrmS ss N n H O H2 O2 :=
  ⟨a.fre.trans b.fre, fun x r p e l z => b.pl x r p (a.pl x r p e l z) l z, fun x o r p e1 e2 l1 l2 => let ⟨z1, z2⟩ := a.tm x o r p e1 e2 l1 l2; b.tm x o r p z1 z2 l1 l2, fun x r p e l1 l2 => a.nw x r p (b.nw x r p e l1 l2) l1 l2⟩
theorem FrmS.wid {ss ss' : List Nat} {N n : Nat} {H H1 : Hp} {O O1 : Own} (a : FrmS ss N n H O H1 O1) (h : ∀ i ∈ ss, i ∈ ss') : FrmS ss' N n H O H1 O1 := ⟨a.fre, fun x r p e l z => a.pl x r p e l fun q => z (h _ q), a.tm, a.nw⟩
theorem wipe_wid {σ τ : St} {ss ss' : List Nat} (h : wipe σ ss = wipe τ ss) (hs : ∀ i ∈ ss, i ∈ ss') (hl : σ.length = τ.length) : wipe σ ss' = wipe τ ss' := by
  have get : ∀ (ss : List Nat) (τ : St) (j : Nat), (wipe τ ss)[j]? = if j ∈ ss then (if j < τ.length then some none else none) else τ[j]? := by
    intro ss
    induction ss with
    | nil => intro τ j; simp [wipe]
    | cons s ss ih =>
      intro τ j
      unfold wipe
      by_cases q : j = s
      · subst q
        rw [List.getElem?_set, if_pos rfl, wipe_length]
        simp
      · rw [List.getElem?_set_ne (fun z => q z.symm), ih]
        simp [q]
  refine List.ext_getElem? fun j => ?_
  rw [get, get]
  by_cases hj : j ∈ ss'
  · rw [if_pos hj, if_pos hj, hl]
  · rw [if_neg hj, if_neg hj]
    have := congrArg (·[j]?) h
    simp only [get] at this
    rw [if_neg (fun z => hj (hs _ z)), if_neg (fun z => hj (hs _ z))] at this
    exact this
theorem RpAll.fre {K : PySem.W.Frag} {H H' : Hp} {O O' : Own} (f : Fre H O H' O') {vs : List V} {xs : List PyData} (h : RpAll K (msk O H) vs xs) : RpAll K (msk O' H') vs xs :=
  RpAll.mono (fun b o e => by obtain ⟨e1, e2⟩ := msk_some e; obtain ⟨z1, z2⟩ := f b o e2 e1; rw [msk_of z2]; exact z1) _ _ h
theorem Rp.fre {K : PySem.W.Frag} {H H' : Hp} {O O' : Own} (f : Fre H O H' O') {v : V} {x : PyData} (h : Rp K (msk O H) v x) : Rp K (msk O' H') v x :=
  Rp.mono (fun b o e => by obtain ⟨e1, e2⟩ := msk_some e; obtain ⟨z1, z2⟩ := f b o e2 e1; rw [msk_of z2]; exact z1) _ _ h
theorem lgs_nil : LGs X [] [] wGsNil := ⟨fun x ρ Q Q' E E' h _ ⟨e, q⟩ => ⟨e, h _ q⟩, fun C W n hC hn tk => pgs_nil.imp fun vs σ H Q ⟨O, ρ, xs, R, rp, e, q⟩ => by
  subst e
  cases rp
  exact ⟨rfl, q σ H O R .refl rfl⟩⟩
variable {tg : TwG} {tgs : TwGs} {s1 s2 : List Nat}
theorem lgs_cons (h1 : LG X s1 e tg) (h2 : LGs X s2 es tgs) (hs : (assignEach (e :: es) X.env).map (·.2) = assign e X.env :: (assignEach es X.env).map (·.2) := by rfl) : LGs X (s1 ++ s2) (e :: es) (wGsCons tg tgs) := by
  refine ⟨fun x ρ Q Q' E E' h he ⟨y, r, e, q⟩ => ⟨y, r, e, h1.mono _ _ _ _ _ _ (fun ρ1 q1 => h2.mono _ _ _ _ _ _ h he q1) he q⟩, fun C W n hC hn tk => (pgs_cons (h1.run C W n hC hn tk) (h2.run C W n hC hn tk) hs).imp fun vs σ H Q ⟨O, ρ, xs, R, rp, x, r, e, q⟩ => ?_⟩
  subst e
  cases rp with
  | cons rp1 rp2 =>
    refine ⟨_, _, rfl, O, ρ, x, R, rp1, h1.mono _ _ _ _ _ _ (fun ρ1 q1 => ?_) (fun _ _ z => z) q⟩
    intro σ1 H1 O1 R1 F1 w1
    refine ⟨O1, ρ1, r, R1, RpAll.fre F1.fre rp2, h2.mono _ _ _ _ _ _ (fun ρ2 q2 => ?_) (fun c ρ' z => exK.on F1.fre c ρ' z) q1⟩
    intro σ2 H2 O2 R2 F2 w2
    have l1 : σ1.length = σ.length := R1.ln.trans R.ln.symm
    have l2 : σ2.length = σ1.length := R2.ln.trans R1.ln.symm
    exact q2 σ2 H2 O2 R2 ((F1.wid fun i h => List.mem_append_left _ h).trans (F2.wid fun i h => List.mem_append_right _ h)) ((wipe_wid w2 (fun i h => List.mem_append_right _ h) l2).trans (wipe_wid w1 (fun i h => List.mem_append_left _ h) l1))
def wGTup (k : Nat) (t : TwGs) : TwG := fun x ρ Q E => ∃ xs, x = .tuple xs ∧ xs.length = k ∧ t xs ρ Q E
theorem lg_tup {kk n : Nat} (hc : X.calm = true) (h : LGs X s1 es tgs) (hn : (assignEach es X.env).length = n := by rfl) (hst : (assignEach es X.env).findIdx? (·.1) = none := by rfl) : LG X s1 (.Tuple es kk pos) (wGTup n tgs) := by
  refine ⟨fun x ρ Q Q' E E' k he ⟨xs, e, e2, q⟩ => ⟨xs, e, e2, h.mono _ _ _ _ _ _ k he q⟩, fun C W m hC hm tk => (pg_tup hc (h.run C W m hC hm tk) hn hst).imp fun v σ H Q ⟨O, ρ, x, R, rp, xs, e1, e2, q⟩ => ?_⟩
  subst e1
  cases rp with
  | tup h1 h2 => exact ⟨_, _, rfl, .of (msk_some h1).2, by rw [h2.length]; exact e2, O, ρ, xs, R, h2, q⟩
/-- target = e, e data -/
def wAsg (ta : TwE) (tg : TwG) : TwS := fun D ρ => ta ρ (fun t ρ1 => ∃ x, erase t = some x ∧ tg x ρ1 D.nx D.ex) D.ex
theorem ls_asg (he : LE X e ta) (hg : LG X s1 a tg) (hs : swapsWithSole [a] e pos.line X.env = pure false := by rfl) (hw : swappedStores [a] e X.env = pure none := by rfl) (h1 : (assignEach [a] X.env).map (·.2) = [assign a X.env] := by rfl) : LS X io (.Assign [a] e pos) (wAsg ta tg) := by
  refine ⟨fun D D' ρ l q => he.mono ρ _ _ _ _ (fun t ρ1 ⟨x, h, q⟩ => ⟨x, h, hg.mono _ _ _ _ _ _ l.nx l.ex q⟩) l.ex q, fun C W hC hio tk hp => (ps_asg (he.run C W C.N hC (Nat.le_refl _) tk) (hg.run C W C.N hC (Nat.le_refl _) tk) hs hw h1).imp fun D σ H ⟨O, ρ, R, q⟩ => ?_⟩
  refine ⟨O, ρ, R, he.mono ρ _ _ _ _ (fun t ρ1 ⟨x, ex, q⟩ => ?_) (fun _ _ z => z) q⟩
  intro v H1 O1 R1 F1 V1
  have F := F1.fre.trans (fre_cut (H := H1) (O := O1) C.N)
  refine ⟨_, ρ1, x, R1.cut (Nat.le_refl _), V1.asD (Nat.le_refl _) ex, hg.mono _ _ _ _ _ _ (fun ρ2 q2 => ?_) (fun c ρ' z => exK.on F c ρ' z) q⟩
  intro σ2 H2 O2 R2 F2 _
  exact q2 σ2 H2 O2 R2 (F.trans F2.fre)
end
end TX

/-! Loops and comprehensions over trees. -/
namespace TX
open PySem PySem.Spec L2

/-- J gives the items xs, from (H, O) on, as long as what is shared stands -/
structure Yl (K : PySem.W.Frag) (J : It) (xs : List PyData) (H : Hp) (O : Own) : Prop where
  stop : ∀ H' O', Fre H O H' O' → J.stop xs.length H'
  go : ∀ (i : Nat) x H' O', Fre H O H' O' → xs[i]? = some x → J.go i H'
  yld : ∀ (i : Nat) x v H' O' H'', Fre H O H' O' → xs[i]? = some x → J.yld i H' v H'' → (∀ b, O' b ≠ .free → ∃ o, H' b = some o ∧ ownable o) →
    (H'' = H' ∨ (∃ p ws, H' p = none ∧ H'' = upd H' p (.tup ws)) ∨ ∀ b o, H' b = some o → H'' b = some o) ∧ Rp K (msk O' H'') v x
abbrev TwI := Rho → (List PyData → Rho → Prop) → ExK → Prop
def lfI (K : PySem.W.Frag) (C : Ctx) (W : WX) (n : Nat) (tw : TwI) : TI := fun σ H R => ∃ O ρ, Rel K C n σ H O ρ ∧
  tw ρ (fun xs ρ' => ∀ J H' O', Rel K C n σ H' O' ρ' → Frm C.N n H O H' O' → Yl K J xs H' O' → R J H') (exK K C W H O)
structure LI (X : Cx) (tg iter : Expr) (tw : TwI) : Prop where
  mono : MonE tw
  run : ∀ (C : Ctx) (W : WX) (n : Nat), C.N = X.N.length → C.N ≤ n → Takes X W → PI X tg iter (lfI X.K C W n tw)
theorem _root_.L2.PI.imp {X : Cx} {tg iter : Expr} {t t' : TI} (h : PI X tg iter t) (k : ∀ σ H Q, t' σ H Q → t σ H Q) : PI X tg iter t' := ⟨fun pins s σ H R I q => h.run pins s σ H R I (k _ _ _ q)⟩

/-! ### what is walked -/
section
variable {K : PySem.W.Frag} {H : Hp} {O : Own}
theorem yl_range {lo : Int} {n : Nat} : Yl K (Itr lo n) ((List.range n).map fun i => PyData.int (lo + (i : Nat))) H O where
  stop H' O' f := by simp [Itr]
  go i x H' O' f e := by
    have := (List.getElem?_eq_some_iff.mp e).1
    simpa [Itr] using this
  yld i x v H' O' H'' f e y _ := by
    obtain ⟨rfl, rfl⟩ := y
    rw [List.getElem?_map] at e
    have hi : i < n := by
      by_cases h : i < n
      · exact h
      · rw [List.getElem?_eq_none (by simpa using Nat.le_of_not_lt h)] at e; cases e
    rw [List.getElem?_range hi] at e
    cases e
    exact ⟨.inl rfl, .int _⟩
def enumD (xs : List PyData) : List PyData := xs.zipIdx.map fun p => PyData.tuple [.int (p.2 : Nat), p.1]
def zipD (xs ys : List PyData) : List PyData := (xs.zip ys).map fun p => PyData.tuple [p.1, p.2]
end

section
variable {X : Cx} {tg : Expr} {a b e : Expr} {ta tb : TwE} {tas : TwA} {p pos tpos : Pos} {elts : List Expr} {kk : Nat}
/-- a value on the way that is no place, walked as a list of data: let go, it is shared -/
theorem seq_free {K : PySem.W.Frag} {C : Ctx} {n k m : Nat} {σ : St} {H : Hp} {O : Own} {ρ : Rho} {v : V} {t : T} {xs : List PyData} (R : Rel K C m σ H O ρ) (hk : n ≤ k) (V1 : Val K H O k v t) (e : flatL t = some xs) :
    ∃ ad ws, v = .ref ad ∧ H ad = some (.lst ws) ∧ cut n O ad = .free ∧ RpAll K (msk (cut n O) H) ws xs := by
  have up : ∀ b o, msk O H b = some o → msk (cut n O) H b = some o := fun b o z => by obtain ⟨z1, z2⟩ := msk_some z; rw [msk_of (cut_free z1)]; exact z2
  cases t with
  | d x =>
    cases x with
    | list ys =>
      simp only [flatL, Option.some.injEq] at e
      subst e
      have := val_d V1
      cases this with
      | lst h1 h2 => exact ⟨_, _, rfl, (msk_some h1).2, cut_free (msk_some h1).1, RpAll.mono up _ _ h2⟩
    | _ => simp [flatL] at e
  | l ts =>
    simp only [flatL] at e
    have := V1.1
    cases this with
    | l h1 h2 h3 =>
      rw [allD_eq e] at h3
      refine ⟨_, _, rfl, h2, ?_, RpAll.mono up _ _ (TrAll.data h3)⟩
      unfold cut; rw [h1]; simp only; rw [if_neg (by omega)]
  | _ => simp [flatL] at e
def wILst (ta : TwE) : TwI := fun ρ Q E => ta ρ (fun t ρ1 => ∃ xs, flatL t = some xs ∧ Q xs ρ1) E
theorem li_list (ha : LE X e ta) : LI X tg e (wILst ta) := by
  refine ⟨fun ρ Q Q' E E' h he q => ha.mono ρ _ _ E E' (fun t ρ1 ⟨xs, e, q⟩ => ⟨xs, e, h _ _ q⟩) he q, fun C W n hC hn tk => ⟨fun pins s σ H R I ⟨O, ρ, Rl, q⟩ => ?_⟩⟩
  refine thn ((pi_list (tg := tg) (PE.imp (t' := fun σ H Q => lfE X.K C W n ta σ H Q) (ha.run C W n hC hn tk) fun _ _ _ z => z)).run pins s σ H R I ⟨O, ρ, Rl, ha.mono ρ _ _ _ _ (fun t ρ1 ⟨xs, e, q⟩ => ?_) (fun _ _ z => z) q⟩) fun _ _ z => z
  intro v H1 O1 R1 F1 V1
  obtain ⟨ad, ws, rfl, h1, h2, h3⟩ := seq_free R1 (Nat.le_refl n) V1 e
  refine ⟨ad, rfl, ⟨ws, .of h1⟩, q _ H1 _ (R1.cut hn) (F1.trans (frm_cut C.N n H1 O1 hn) (Nat.le_refl _)) ⟨fun H' O' f => ⟨ws, .of (f ad _ h1 h2).1, Nat.le_of_eq h3.length⟩, fun i x H' O' f e => ?_, fun i x v H' O' H'' f e y fr => ?_⟩⟩
  · obtain ⟨v, g1, _⟩ := h3.get e
    exact ⟨ws, v, .of (f ad _ h1 h2).1, g1⟩
  · obtain ⟨rfl, y⟩ := y
    obtain ⟨w, g1, g2⟩ := h3.get e
    have := y ws (.of (f ad _ h1 h2).1)
    rw [g1] at this; cases this
    exact ⟨.inl rfl, g2.fre f⟩
def wITup (ta : TwE) : TwI := fun ρ Q E => ta ρ (fun t ρ1 => ∃ xs, t = .d (.tuple xs) ∧ Q xs ρ1) E
def rangeD (lo : Int) (n : Nat) : List PyData := (List.range n).map fun i => PyData.int (lo + (i : Nat))
def wIR1 (tas : TwA) : TwI := fun ρ Q E => tas ρ (fun ts ρ1 => ∃ j : Int, ts = [.d (.int j)] ∧ -(2 ^ 62) ≤ j ∧ j < 2 ^ 62 ∧ Q (rangeD 0 j.toNat) ρ1) E
theorem li_range1 (hg : Gl X "range") (hm : X.mg "range" = none) (ha : LA X [a] tas) (hs : starEach [a] X.env = [(false, eval a X.env)] := by rfl) : LI X tg (.Call (.Name "range" p) [a] [] pos) (wIR1 tas) := by
  refine ⟨fun ρ Q Q' E E' h he q => ha.mono ρ _ _ E E' (fun t ρ1 ⟨j, e, e1, e2, q⟩ => ⟨j, e, e1, e2, h _ _ q⟩) he q, fun C W n hC hn tk => (pi_range1 (tg := tg) hg hm (ha.run C W n hC hn tk) hs).imp fun σ H R ⟨O, ρ, Rl, q⟩ => ?_⟩
  refine ⟨O, ρ, Rl, ha.mono ρ _ _ _ _ (fun ts ρ1 ⟨j, e, e1, e2, q⟩ => ?_) (fun _ _ z => z) q⟩
  intro vs H1 O1 R1 F1 V1
  subst e
  obtain ⟨v, rfl, V2⟩ := V1.one
  exact ⟨j, by rw [rp_int (val_d V2)], e1, e2, q _ H1 _ (R1.cut hn) (F1.trans (frm_cut C.N n H1 O1 hn) (Nat.le_refl _)) yl_range⟩
def wIR2 (tas : TwA) : TwI := fun ρ Q E => tas ρ (fun ts ρ1 => ∃ i j : Int, ts = [.d (.int i), .d (.int j)] ∧ (-(2 ^ 62) ≤ i ∧ i < 2 ^ 62 ∧ -(2 ^ 62) ≤ j ∧ j < 2 ^ 62) ∧ Q (rangeD i (j - i).toNat) ρ1) E
def wIEn (tas : TwA) : TwI := fun ρ Q E => tas ρ (fun ts ρ1 => ∃ t xs, ts = [t] ∧ flatL t = some xs ∧ Q (enumD xs) ρ1) E
def wIZip (tas : TwA) : TwI := fun ρ Q E => tas ρ (fun ts ρ1 => ∃ t u xs ys, ts = [t, u] ∧ flatL t = some xs ∧ flatL u = some ys ∧ Q (zipD xs ys) ρ1) E
end

/-! ### for, while -/
section
variable {X : Cx} {io ss : List Nat} {tg iter c : Expr} {body : List Stmt} {wi : TwI} {g : TwG} {tb : TwS} {tt : TwT} {pos : Pos}
def wFor (wi : TwI) (g : TwG) (tb : TwS) : TwS := fun D ρ => wi ρ (fun xs ρ1 => ∃ P : Nat → Rho → Prop, P 0 ρ1 ∧
  (∀ i x ρ2, xs[i]? = some x → P i ρ2 → g x ρ2 (fun ρ3 => tb { D with nx := P (i + 1), ct := P (i + 1), bk := D.nx } ρ3) D.ex) ∧ ∀ ρ2, P xs.length ρ2 → D.nx ρ2) D.ex
/-- behind a yielded item -/
theorem rel_yield {K : PySem.W.Frag} {C : Ctx} {n : Nat} {σ : St} {H H' : Hp} {O : Own} {ρ : Rho} (R : Rel K C n σ H O ρ) (h : H' = H ∨ (∃ p ws, H p = none ∧ H' = upd H p (.tup ws)) ∨ ∀ b o, H b = some o → H' b = some o) : Rel K C n σ H' O ρ ∧ ∀ b o, H b = some o → H' b = some o := by
  rcases h with rfl | h
  · exact ⟨R, fun _ _ e => e⟩
  · have keep : ∀ b u, H b = some u → H' b = some u := fun b u e => by
      rcases h with ⟨p, ws, hp, rfl⟩ | h
      · rw [upd_ne (ne_of_none e hp)]; exact e
      · exact h b u e
    exact ⟨⟨fun b u e1 e2 => ⟨keep _ _ (R.fr b u e1 e2).1, (R.fr b u e1 e2).2⟩, fun b h => let ⟨u, e, w⟩ := R.nt b h; ⟨u, keep b u e, w⟩, R.lt, R.inj, R.val, R.ln, R.lr,
      fun i t e => let ⟨v, h2, h3⟩ := R.sl i t e; ⟨v, h2, Tr.move (r' := i) (p0 := []) (p1 := []) (fun b u e1 e2 => ⟨keep b u e1, e2⟩) (fun b u q e1 e2 => ⟨keep b u e1, e2⟩) t [] v h3⟩, R.hN, R.fo, R.pz, R.sm⟩, keep⟩
theorem ls_for (hc : X.calm = true) (hi : LI X tg iter wi) (hg : LG X ss tg g) (hb : LSs X io body tb) (hs : ∀ x, foldedSetIterable iter X.env x = pure x := by intro _; rfl) : LS X io (.For tg iter body [] pos) (wFor wi g tb) := by
  refine ⟨fun D D' ρ l q => hi.mono ρ _ _ _ _ (fun xs ρ1 ⟨P, p0, ps, pd⟩ => ⟨P, p0, fun i x ρ2 e h => hg.mono _ _ _ _ _ _ (fun ρ3 q => hb.mono { D with nx := P (i + 1), ct := P (i + 1), bk := D.nx } _ _ ⟨fun _ z => z, l.rt, l.nx, fun _ z => z, l.ex⟩ q) l.ex (ps i x ρ2 e h), fun ρ2 h => l.nx _ (pd ρ2 h)⟩) l.ex q,
    fun C W hC hio tk hp => (ps_for hp hc (hi.run C W C.N hC (Nat.le_refl _) tk) (hg.run C W C.N hC (Nat.le_refl _) tk) (hb.run C W hC hio tk hp) hs).imp fun D σ H ⟨O, ρ, R, q⟩ => ?_⟩
  refine ⟨O, ρ, R, hi.mono ρ _ _ _ _ (fun xs ρ1 ⟨P, p0, ps, pd⟩ => ?_) (fun _ _ z => z) q⟩
  intro J H1 O1 R1 F1 Y
  refine ⟨fun i m σ2 H2 => m = xs.length - i ∧ i ≤ xs.length ∧ ∃ O2 ρ2, Rel X.K C C.N σ2 H2 O2 ρ2 ∧ Fre H1 O1 H2 O2 ∧ P i ρ2, ⟨_, rfl, Nat.zero_le _, O1, ρ1, R1, .refl, p0⟩, ?_⟩
  rintro i m σ2 H2 ⟨rfl, hi, O2, ρ2, R2, F2, p⟩
  by_cases hlt : i < xs.length
  · have ex : xs[i]? = some xs[i] := List.getElem?_eq_getElem hlt
    refine .inr ⟨Y.go i _ H2 O2 F2 ex, fun σ3 H3 => ∃ O3 ρ3, Rel X.K C C.N σ3 H3 O3 ρ3 ∧ Fre H1 O1 H3 O3 ∧ P (i + 1) ρ3, fun σ3 H3 ⟨O3, ρ3, R3, F3, p3⟩ => ⟨xs.length - (i + 1), by omega, rfl, hlt, O3, ρ3, R3, F3, p3⟩, fun v H3 y => ?_⟩
    obtain ⟨hu, rp⟩ := Y.yld i _ v H2 O2 H3 F2 ex y R2.nt
    obtain ⟨R3, kp⟩ := rel_yield R2 hu
    have F3 : Fre H2 O2 H3 O2 := fun b o e1 e2 => ⟨kp b o e1, e2⟩
    have F03 : Fre H O H3 O2 := (F1.fre.trans F2).trans F3
    refine ⟨O2, ρ2, xs[i], R3, rp, hg.mono _ _ _ _ _ _ (fun ρ4 q4 => ?_) (fun c ρ' z => exK.on F03 c ρ' z) (ps i _ ρ2 ex p)⟩
    intro σ4 H4 O4 R4 F4 _
    have F04 : Fre H O H4 O4 := F03.trans F4.fre
    have F14 : Fre H1 O1 H4 O4 := (F2.trans F3).trans F4.fre
    refine ⟨O4, ρ4, R4, hb.mono _ _ _ ⟨fun ρ5 p5 => ?_, fun t ρ5 z => rtK.on F04 t ρ5 z, fun ρ5 z => nxK.on F04 ρ5 z, fun ρ5 p5 => ?_, fun c ρ5 z => exK.on F04 c ρ5 z⟩ q4⟩
    · exact fun σ5 H5 O5 R5 F5 => ⟨O5, ρ5, R5, F14.trans F5, p5⟩
    · exact fun σ5 H5 O5 R5 F5 => ⟨O5, ρ5, R5, F14.trans F5, p5⟩
  · have e : i = xs.length := by omega
    subst e
    exact .inl ⟨Y.stop H2 O2 F2, pd ρ2 p σ2 H2 O2 R2 (F1.fre.trans F2)⟩
def wWhile (tt : TwT) (tb : TwS) : TwS := fun D ρ => ∃ (P : Rho → Prop) (μ : Rho → Nat), P ρ ∧
  ∀ ρ1, P ρ1 → tt ρ1 (fun b ρ2 => if b = true then tb { D with nx := fun ρ3 => P ρ3 ∧ μ ρ3 < μ ρ1, ct := fun ρ3 => P ρ3 ∧ μ ρ3 < μ ρ1, bk := D.nx } ρ2 else D.nx ρ2) D.ex
theorem ls_while (hc : LT X c tt) (hb : LSs X io body tb) : LS X io (.While c body [] pos) (wWhile tt tb) := by
  refine ⟨fun D D' ρ l ⟨P, μ, p0, ps⟩ => ⟨P, μ, p0, fun ρ1 h => hc.mono ρ1 _ _ _ _ (fun b ρ2 q => ?_) l.ex (ps ρ1 h)⟩, fun C W hC hio tk hp => (ps_while hp (hc.run C W C.N hC (Nat.le_refl _) tk) (hb.run C W hC hio tk hp)).imp fun D σ H ⟨O, ρ, R, P, μ, p0, ps⟩ => ?_⟩
  · cases b with
    | true => exact hb.mono { D with nx := fun ρ3 => P ρ3 ∧ μ ρ3 < μ ρ1, ct := fun ρ3 => P ρ3 ∧ μ ρ3 < μ ρ1, bk := D.nx } _ _ ⟨fun _ z => z, l.rt, l.nx, fun _ z => z, l.ex⟩ q
    | false => exact l.nx _ q
  · refine ⟨fun m σ1 H1 => ∃ O1 ρ1, m = μ ρ1 ∧ Rel X.K C C.N σ1 H1 O1 ρ1 ∧ Fre H O H1 O1 ∧ P ρ1, ⟨_, O, ρ, rfl, R, .refl, p0⟩, ?_⟩
    rintro m σ1 H1 ⟨O1, ρ1, rfl, R1, F1, p1⟩
    refine ⟨O1, ρ1, R1, hc.mono ρ1 _ _ _ _ (fun b ρ2 q2 => ?_) (fun c ρ' z => exK.on F1 c ρ' z) (ps ρ1 p1)⟩
    intro H2 O2 R2 F2
    have F02 : Fre H O H2 O2 := F1.trans F2.fre
    cases b with
    | true =>
      refine ⟨fun σ3 H3 => ∃ O3 ρ3, Rel X.K C C.N σ3 H3 O3 ρ3 ∧ Fre H O H3 O3 ∧ P ρ3 ∧ μ ρ3 < μ ρ1, fun σ3 H3 ⟨O3, ρ3, R3, F3, p3, hl⟩ => ⟨_, hl, O3, ρ3, rfl, R3, F3, p3⟩, O2, ρ2, R2, hb.mono _ _ _ ⟨fun ρ5 p5 => ?_, fun t ρ5 z => rtK.on F02 t ρ5 z, fun ρ5 z => nxK.on F02 ρ5 z, fun ρ5 p5 => ?_, fun c ρ5 z => exK.on F02 c ρ5 z⟩ q2⟩
      · exact fun σ5 H5 O5 R5 F5 => ⟨O5, ρ5, R5, F02.trans F5, p5.1, p5.2⟩
      · exact fun σ5 H5 O5 R5 F5 => ⟨O5, ρ5, R5, F02.trans F5, p5.1, p5.2⟩
    | false => exact q2 _ H2 O2 R2 F02
end
end TX

/-! List comprehensions over trees. -/
namespace TX
open PySem PySem.Spec L2

def wipeR (ρ : Rho) : List Nat → Rho
  | [] => ρ
  | v :: vs => (wipeR ρ vs).set v none
def restR (ρ0 ρ : Rho) : List Nat → Rho
  | [] => ρ
  | v :: vs => (restR ρ0 ρ vs).set v ((ρ0[v]?).getD none)
theorem wipeR_length {ρ : Rho} : ∀ vs : List Nat, (wipeR ρ vs).length = ρ.length
  | [] => rfl
  | v :: vs => by unfold wipeR; rw [List.length_set, wipeR_length vs]
theorem restR_length {ρ0 ρ : Rho} : ∀ vs : List Nat, (restR ρ0 ρ vs).length = ρ.length
  | [] => rfl
  | v :: vs => by unfold restR; rw [List.length_set, restR_length vs]
theorem wipeR_get {ρ : Rho} {j : Nat} : ∀ vs : List Nat, (wipeR ρ vs)[j]? = if j ∈ vs then (if j < ρ.length then some none else none) else ρ[j]?
  | [] => by simp [wipeR]
  | v :: vs => by
    unfold wipeR
    by_cases q : j = v
    · subst q; simp [List.getElem?_set, wipeR_length]
    · rw [List.getElem?_set_ne (fun z => q z.symm), wipeR_get vs]; simp [q]
theorem restR_get {ρ0 ρ : Rho} {j : Nat} (hl : ρ0.length = ρ.length) : ∀ vs : List Nat, (restR ρ0 ρ vs)[j]? = if j ∈ vs then ρ0[j]? else ρ[j]?
  | [] => by simp [restR]
  | v :: vs => by
    unfold restR
    by_cases q : j = v
    · subst q
      simp only [List.getElem?_set, restR_length, List.mem_cons, true_or, if_true]
      by_cases h : j < ρ.length
      · rw [if_pos h]
        have h' : j < ρ0.length := by omega
        rw [List.getElem?_eq_getElem h']; rfl
      · rw [if_neg h, List.getElem?_eq_none (by omega)]
    · rw [List.getElem?_set_ne (fun z => q z.symm), restR_get hl vs]; simp [q]
theorem wipe_get {σ : St} {j : Nat} : ∀ vs : List Nat, (wipe σ vs)[j]? = if j ∈ vs then (if j < σ.length then some none else none) else σ[j]?
  | [] => by simp [wipe]
  | v :: vs => by
    unfold wipe
    by_cases q : j = v
    · subst q; simp [List.getElem?_set, wipe_length]
    · rw [List.getElem?_set_ne (fun z => q z.symm), wipe_get vs]; simp [q]
theorem wipe_twice (σ : St) (vs : List Nat) : wipe (wipe σ vs) vs = wipe σ vs := by
  refine List.ext_getElem? fun j => ?_
  rw [wipe_get, wipe_length, wipe_get]
  split <;> rfl
theorem rest_wipe {ρ : Rho} (vs : List Nat) : restR ρ (wipeR ρ vs) vs = ρ := by
  refine List.ext_getElem? fun j => ?_
  rw [restR_get (wipeR_length vs).symm, wipeR_get]
  split <;> simp_all
def noNd (ρ : Rho) (vs : List Nat) : Prop := ∀ j ∈ vs, ∀ t, ρ[j]? = some (some t) → isNode t = false
section
variable {K : PySem.W.Frag} {C : Ctx} {n m : Nat} {σ σ2 : St} {H H' : Hp} {O O' : Own} {ρ ρ2 : Rho}
theorem relWipe (R : Rel K C n σ H O ρ) {vs : List Nat} (hv : noNd ρ vs) (hs : wipe σ2 vs = wipe σ vs) : Rel K C n (wipe σ2 vs) H O (wipeR ρ vs) := by
  refine ⟨R.fr, R.nt, R.lt, R.inj, fun b r p e l => ?_, by rw [hs, wipe_length]; exact R.ln, by rw [wipeR_length]; exact R.lr, fun i t e => ?_, R.hN, R.fo, R.pz, R.sm⟩
  · obtain ⟨t, z, h1, h2, h3⟩ := R.val b r p e l
    by_cases hr : r ∈ vs
    · have := hv r hr t h1
      cases p with
      | nil => cases h2; rw [this] at h3; cases h3
      | cons k q => rw [sub_leaf this] at h2; cases h2
    · exact ⟨t, z, by rw [wipeR_get, if_neg hr]; exact h1, h2, h3⟩
  · rw [wipeR_get] at e
    by_cases hi : i ∈ vs
    · rw [if_pos hi] at e; split at e <;> cases e
    · rw [if_neg hi] at e
      obtain ⟨v, h1, h2⟩ := R.sl i t e
      exact ⟨v, by rw [hs, wipe_get, if_neg hi]; exact h1, h2⟩
/-- behind the block the frame's own names are as they were -/
theorem relBack (R0 : Rel K C n σ H O ρ) {vs : List Nat} (hv : noNd ρ vs) (R : Rel K C m (wipe σ vs) H' O' ρ2) (hw : ∀ j ∈ vs, ∀ t, ρ2[j]? ≠ some (some t)) (f : Fre H O H' O') : Rel K C m σ H' O' (restR ρ ρ2 vs) := by
  have hl : ρ.length = ρ2.length := R0.lr.trans R.lr.symm
  refine ⟨R.fr, R.nt, R.lt, R.inj, fun b r p e l => ?_, R0.ln, by rw [restR_length]; exact R.lr, fun i t e => ?_, R.hN, R.fo, R.pz, R.sm⟩
  · obtain ⟨t, z, h1, h2, h3⟩ := R.val b r p e l
    have hr : r ∉ vs := fun hr => hw r hr t h1
    exact ⟨t, z, by rw [restR_get hl, if_neg hr]; exact h1, h2, h3⟩
  · rw [restR_get hl] at e
    by_cases hi : i ∈ vs
    · rw [if_pos hi] at e
      obtain ⟨v, h1, h2⟩ := R0.sl i t e
      refine ⟨v, h1, ?_⟩
      have nd := hv i hi t e
      cases h2 with
      | d h => exact .d (h.fre f)
      | raw => exact .raw
      | fz h => exact .fz (sql_mono (fun b o z => by obtain ⟨z1, z2⟩ := msk_some z; obtain ⟨y1, y2⟩ := f b o z2 z1; rw [msk_of y2]; exact y1) h)
      | lk g1 h2 h3 h4 => exact .lk (f _ _ h2 g1).2 (f _ _ h2 g1).1 h3 (RpAll.mono (fun b o z => by obtain ⟨z1, z2⟩ := msk_some z; obtain ⟨y1, y2⟩ := f b o z2 z1; rw [msk_of y2]; exact y1) _ _ h4)
      | lt g1 h2 h3 h4 => exact .lt (f _ _ h2 g1).2 (f _ _ h2 g1).1 h3 (RpAll.mono (fun b o z => by obtain ⟨z1, z2⟩ := msk_some z; obtain ⟨y1, y2⟩ := f b o z2 z1; rw [msk_of y2]; exact y1) _ _ h4)
      | l _ _ _ => cases nd
      | mk _ _ _ _ => cases nd
      | mt _ _ _ _ => cases nd
      | o _ _ _ _ => cases nd
      | s _ _ => cases nd
      | ex g1 h2 => exact .ex (f _ _ h2 g1).2 (f _ _ h2 g1).1
      | cl => exact .cl
      | n h0 h => exact nomatch (h0.symm.trans nd)
    · rw [if_neg hi] at e
      obtain ⟨v, h1, h2⟩ := R.sl i t e
      rw [wipe_get, if_neg hi] at h1
      exact ⟨v, h1, h2⟩
end

abbrev exN : ExK := fun _ _ => False
def wLc (wi : TwI) (g : TwG) (tt : TwT) (te : TwE) (vs : List Nat) : TwE := fun ρ Q E => wi ρ (fun xs ρ1 => noNd ρ1 vs ∧ xs.length ≤ 1000000 ∧ ∃ P : Nat → List PyData → Rho → Prop, P 0 [] (wipeR ρ1 vs) ∧
  (∀ i x acc ρ2, xs[i]? = some x → P i acc ρ2 → g x ρ2 (fun ρ3 => tt ρ3 (fun b ρ4 => noNd ρ4 vs ∧ if b = true then te ρ4 (fun t ρ5 => noNd ρ5 vs ∧ ∃ y, erase t = some y ∧ P (i + 1) (acc ++ [y]) (wipeR ρ5 vs)) exN else P (i + 1) acc (wipeR ρ4 vs)) exN) exN) ∧
  (∀ acc ρ2, P xs.length acc ρ2 → Q (.l (acc.map T.d)) (restR ρ1 ρ2 vs))) E
theorem noneW {K : PySem.W.Frag} {C : Ctx} {H : Hp} {O : Own} : ∀ c ρ, exN c ρ → exK K C (fun _ _ _ _ => False) H O c ρ := fun _ _ z => z.elim
section
variable {X : Cx} {io : List Nat} {tg iter elt e : Expr} {ifs : List Expr} {wi : TwI} {g : TwG} {tt : TwT} {te : TwE} {pos : Pos} {scope : Scope} {own : List (Str × Nat)}
structure LTs (X : Cx) (ifs : List Expr) (tw : TwT) : Prop where
  mono : MonE tw
  run : ∀ (C : Ctx) (W : WX) (n : Nat), C.N = X.N.length → C.N ≤ n → Takes X W → PTs X ifs (lfT X.K C W n tw)
def wYes : TwT := fun ρ Q _ => Q true ρ
theorem lts_nil : LTs X [] wYes := ⟨fun ρ Q Q' E E' h _ q => h _ _ q, fun C W n hC hn tk => ⟨fun pins s σ H Q I ⟨O, ρ, R, q⟩ => pts_nil.run pins s σ H Q I (q H O R .refl)⟩⟩
theorem wLc_mono {vs : List Nat} (hi : MonE wi) : MonE (wLc wi g tt te vs) := fun ρ Q Q' E E' h he q => hi ρ _ _ E E' (fun xs ρ1 ⟨h1, h2, P, p0, ps, pd⟩ => ⟨h1, h2, P, p0, ps, fun acc ρ2 z => h _ _ (pd acc ρ2 z)⟩) he q
/-- the state between two turns -/
theorem lc_run {K : PySem.W.Frag} {C : Ctx} {W : WX} {n : Nat} {vs : List Nat} {σ : St} {H : Hp} {Q : VK} (hi : MonE wi) (hg : MonG g) (ht : MonE tt) (he : MonE te) (hn : C.N ≤ n) (hv : ∀ j ∈ vs, j < C.N)
    (h : lfE K C W n (wLc wi g tt te vs) σ H Q) : tLc (lfI K C W n wi) (lfG K C (fun _ _ _ _ => False) vs (n + 1) g) (lfT K C (fun _ _ _ _ => False) (n + 1) tt) (lfE K C (fun _ _ _ _ => False) (n + 1) te) vs σ H Q := by
  obtain ⟨O, ρ, R, q⟩ := h
  refine ⟨O, ρ, R, hi ρ _ _ _ _ (fun xs ρ1 ⟨nn, sz, P, p0, ps, pd⟩ => ?_) (fun _ _ z => z) q⟩
  intro J H1 O1 R1 F1 Y D hD
  obtain ⟨RA, FA, UA⟩ := R1.alloc (o := .lst []) hD trivial
  have FA' : Frm C.N n H O (upd H1 D (.lst [])) (lay n D O1) := F1.trans FA (Nat.le_refl _)
  refine ⟨fun i m H2 => m = xs.length - i ∧ i ≤ xs.length ∧ ∃ O2 ρ2 acc ws, Rel K C (n + 1) (wipe σ vs) H2 O2 ρ2 ∧ Frm C.N n H1 O1 H2 O2 ∧ O2 D = .at n [] ∧ (∀ b q, O2 b = .at n q → b = D ∧ q = []) ∧ H2 D = some (.lst ws) ∧ RpAll K (msk O2 H2) ws acc ∧ acc.length ≤ i ∧ P i acc ρ2 ∧ ∀ j ∈ vs, ∀ t, ρ2[j]? ≠ some (some t),
    ⟨_, rfl, Nat.zero_le _, _, wipeR ρ1 vs, [], [], relWipe RA nn rfl, FA, lay_same, UA, upd_same, .nil, Nat.le_refl _, p0, fun j hj t => by rw [wipeR_get, if_pos hj]; split <;> simp⟩, ?_⟩
  rintro i m H2 ⟨rfl, hi', O2, ρ2, acc, ws, R2, F2, oD, uD, hH, ha, al, p, hw⟩
  by_cases hlt : i < xs.length
  · have ex : xs[i]? = some xs[i] := List.getElem?_eq_getElem hlt
    refine .inr ⟨Y.go i _ H2 O2 F2.fre ex, fun H6 => ∃ O6 ρ6 acc6 ws6, Rel K C (n + 1) (wipe σ vs) H6 O6 ρ6 ∧ Frm C.N n H1 O1 H6 O6 ∧ O6 D = .at n [] ∧ (∀ b q, O6 b = .at n q → b = D ∧ q = []) ∧ H6 D = some (.lst ws6) ∧ RpAll K (msk O6 H6) ws6 acc6 ∧ acc6.length ≤ i + 1 ∧ P (i + 1) acc6 ρ6 ∧ ∀ j ∈ vs, ∀ t, ρ6[j]? ≠ some (some t),
      fun H6 h6 => ⟨xs.length - (i + 1), by omega, rfl, hlt, h6⟩, fun v H3 y => ?_⟩
    obtain ⟨hu, rp⟩ := Y.yld i _ v H2 O2 H3 F2.fre ex y R2.nt
    obtain ⟨R3, kp⟩ := rel_yield R2 hu
    have F3 : Frm C.N (n + 1) H2 O2 H3 O2 := ⟨fun b o e1 e2 => ⟨kp b o e1, e2⟩, fun _ _ _ e _ => e, fun b o r p e1 e2 _ _ => ⟨kp b o e1, e2⟩, fun _ _ _ e _ _ => e⟩
    -- labels of the frame's own places are kept through the target: the block's own names hold none
    have nolab : ∀ {b r q}, O2 b = .at r q → r < C.N → r ∉ vs := fun {b r q} e l hr => by
      obtain ⟨t, z, h1, _⟩ := R2.val b r q e l
      exact hw r hr t h1
    refine ⟨O2, ρ2, xs[i], R3, rp, hg _ _ _ _ _ _ (fun ρ3 q3 => ?_) noneW (ps i _ acc ρ2 ex p)⟩
    intro σ4 H4 O4 R4 F4 w4
    have F24 : Frm C.N (n + 1) H2 O2 H4 O4 := ⟨F3.fre.trans F4.fre, fun b r q e l => F4.pl b r q e l (nolab e l), fun b o r q e1 e2 l1 l2 => F4.tm b o r q (kp b o e1) e2 l1 l2, fun b r q e l1 l2 => F4.nw b r q e l1 l2⟩
    have ww : wipe σ4 vs = wipe σ vs := w4.trans (wipe_twice σ vs)
    refine ⟨ww, O4, ρ3, R4, ht ρ3 _ _ _ _ (fun b ρ4 q4 => ?_) noneW q3⟩
    intro H5 O5 R5 F5
    have F25 := F24.trans F5 (Nat.le_refl _)
    obtain ⟨nn4, q4⟩ := q4
    -- D stands
    have dk : ∀ {H' O'}, Frm C.N (n + 1) H2 O2 H' O' → H' D = some (.lst ws) ∧ O' D = .at n [] := fun {H' O'} f => f.tm D _ n [] hH oD hn (Nat.lt_succ_self n)
    have du : ∀ {H' O'}, Frm C.N (n + 1) H2 O2 H' O' → ∀ b q, O' b = .at n q → b = D ∧ q = [] := fun {H' O'} f b q e => uD b q (f.nw b n q e hn (Nat.lt_succ_self n))
    cases b with
    | false =>
      have RW := relWipe (σ2 := σ4) R5 nn4 rfl
      rw [ww] at RW
      exact ⟨O5, wipeR ρ4 vs, acc, ws, RW, F2.trans (F25.le (Nat.le_succ n)) (Nat.le_refl _), (dk F25).2, du F25, (dk F25).1, ha.fre F25.fre, Nat.le_succ_of_le al, q4, fun j hj t => by rw [wipeR_get, if_pos hj]; split <;> simp⟩
    | true =>
      refine ⟨O5, ρ4, R5, he ρ4 _ _ _ _ (fun t ρ5 q5 => ?_) noneW q4⟩
      intro y H6 O6 R6 F6 V6
      obtain ⟨nn5, yd, ey, q5⟩ := q5
      have F26 := F25.trans F6 (Nat.le_refl _)
      obtain ⟨hD6, oD6⟩ := dk F26
      have al' : ws.length = acc.length := ha.length
      refine ⟨ws, hD6, by rw [al', sizeLine_eq]; omega, ?_⟩
      -- the list at D grows
      have R7 := R6.cut (n := n + 1) (Nat.le_succ_of_le hn)
      have oD7 : cut (n + 1) O6 D = .at n [] := cut_at.mpr ⟨oD6, Nat.lt_succ_self n⟩
      have ne : ∀ {b}, cut (n + 1) O6 b = .free → b ≠ D := fun {b} z e => by subst e; rw [oD7] at z; cases z
      have ne2 : ∀ {b}, cut (n + 1) O6 b = .foreign → b ≠ D := fun {b} z e => by subst e; rw [oD7] at z; cases z
      have keepR : Rel K C (n + 1) σ4 (upd H6 D (.lst (ws ++ [y]))) (cut (n + 1) O6) ρ5 := by
        refine ⟨fun b o e1 e2 => ?_, fun b z => ?_, R7.lt, R7.inj, R7.val, R7.ln, R7.lr, fun j u e => ?_, R7.hN, R7.fo, R7.pz, R7.sm⟩
        · obtain ⟨z1, z2⟩ := R7.fr b o e1 e2
          refine ⟨?_, z2⟩
          rcases e2 with e2 | e2
          · rw [upd_ne (ne (z2.trans e2))]; exact z1
          · rw [upd_ne (ne2 (z2.trans e2))]; exact z1
        · by_cases hb : b = D
          · subst hb; exact ⟨_, upd_same, trivial⟩
          · obtain ⟨o, e, w⟩ := R7.nt b z
            exact ⟨o, by rw [upd_ne hb]; exact e, w⟩
        · obtain ⟨v', h1, h2⟩ := R7.sl j u e
          have hjN : j < C.N := R7.slt e
          exact ⟨v', h1, Tr.move (r' := j) (p0 := []) (p1 := []) (fun b o e1 e2 => ⟨by rw [upd_ne (ne e2)]; exact e1, e2⟩) (fun b o q e1 e2 => ⟨by rw [upd_ne (fun z => by subst z; rw [oD7] at e2; cases e2; omega)]; exact e1, e2⟩) u [] v' h2⟩
      have RW := relWipe (σ2 := σ4) keepR nn5 rfl
      rw [ww] at RW
      have up : ∀ b o, msk (cut (n + 1) O6) H6 b = some o → msk (cut (n + 1) O6) (upd H6 D (.lst (ws ++ [y]))) b = some o := fun b o z => by
        obtain ⟨z1, z2⟩ := msk_some z
        rw [msk_of z1, upd_ne (ne z1)]; exact z2
      have F67 : Frm C.N n H6 O6 (upd H6 D (.lst (ws ++ [y]))) (cut (n + 1) O6) := ⟨fun b o e1 e2 => ⟨by rw [upd_ne (ne (cut_free e2))]; exact e1, cut_free e2⟩, fun b r q e l => cut_at.mpr ⟨e, by omega⟩, fun b o r q e1 e2 l1 l2 => ⟨by rw [upd_ne (fun z => by subst z; rw [oD6] at e2; cases e2; omega)]; exact e1, cut_at.mpr ⟨e2, by omega⟩⟩, fun b r q e _ _ => (cut_at.mp e).1⟩
      refine ⟨_, wipeR ρ5 vs, acc ++ [yd], ws ++ [y], RW, (F2.trans (F26.le (Nat.le_succ n)) (Nat.le_refl _)).trans F67 (Nat.le_refl _), oD7, fun b q e => du F26 b q (cut_at.mp e).1, upd_same, ?_, by rw [List.length_append]; simp; omega, q5, fun j hj t => by rw [wipeR_get, if_pos hj]; split <;> simp⟩
      refine RpAll.append (RpAll.mono up _ _ (ha.fre (F26.fre.trans (fre_cut _)))) (.cons (Rp.mono up _ _ (V6.asD (Nat.le_refl _) ey)) .nil)
  · have e : i = xs.length := by omega
    subst e
    refine .inl ⟨Y.stop H2 O2 F2.fre, pd acc ρ2 p (.ref D) H2 O2 (relBack R1 nn R2 hw F2.fre) (F1.trans F2 (Nat.le_refl _)) ⟨.l oD hH (TrAll.ofData ha), fun b q e => ?_⟩⟩
    obtain ⟨rfl, rfl⟩ := uD b q e
    exact ⟨_, rfl, rfl⟩
theorem ls_setLc {i : Nat} {y : Str} {py spos : Pos} (hc : X.calm = true) (hN : X.N.Nodup) (hy : X.N[i]? = some y) (hyl : X.env.scope.names.lookup y = some .local) (hsw : swapsWith (.ListComp elt [⟨tg, iter, ifs, 0⟩] scope pos) (some (.Name y py)) spos.line X.env = pure true) (hi : LI X tg iter wi) (ok : BlkOk X.N X.env.scope scope own)
    (hg : ∀ (s : Shared) (H : Hp) (C : Addr) (cl : List (Str × Addr)) (fp : List Addr), LG (X.blk s H scope (compEnvC scope cl C X.env) fp) (own.map (·.2)) tg g)
    (ht : ∀ (s : Shared) (H : Hp) (C : Addr) (cl : List (Str × Addr)) (fp : List Addr), LTs (X.blk s H scope (compEnvC scope cl C X.env) fp) ifs tt)
    (he : ∀ (s : Shared) (H : Hp) (C : Addr) (cl : List (Str × Addr)) (fp : List Addr), LE (X.blk s H scope (compEnvC scope cl C X.env) fp) elt te) (hio : i ∉ io := by decide) (hs : ∀ x, foldedSetIterable iter X.env x = pure x := by intro _; rfl) :
    LS X io (.Assign [.Name y py] (.ListComp elt [⟨tg, iter, ifs, 0⟩] scope pos) spos) (wSet i (wLc wi g tt te (own.map (·.2)))) := by
  refine ⟨fun D D' ρ l q => wLc_mono hi.mono ρ _ _ _ _ (fun t ρ1 ⟨h, q⟩ => ⟨h, l.nx _ q⟩) l.ex q, fun C W hC hio' tk hp => ?_⟩
  have hn := Nat.le_refl C.N
  refine ⟨fun pins s0 σ H D I h => (ps_setLc (g := lfG X.K C (fun _ _ _ _ => False) (own.map (·.2)) (C.N + 1) g) (tt := lfT X.K C (fun _ _ _ _ => False) (C.N + 1) tt) (te := lfE X.K C (fun _ _ _ _ => False) (C.N + 1) te) hc hN hy hyl hsw (hi.run C W C.N hC hn tk) ok (fun s H c cl fp => (hg s H c cl fp).run C (fun _ _ _ _ => False) (C.N + 1) hC (Nat.le_succ_of_le hn) takes0) (fun s H c cl fp => (ht s H c cl fp).run C (fun _ _ _ _ => False) (C.N + 1) hC (Nat.le_succ_of_le hn) takes0)
    (fun s H c cl fp => (he s H c cl fp).run C (fun _ _ _ _ => False) (C.N + 1) hC (Nat.le_succ_of_le hn) takes0) hs).run pins s0 σ H D I ?_⟩
  obtain ⟨O, ρ, R, q⟩ := h
  refine lc_run (W := W) (Q := fun x H1 => gName i x σ H1 D.nx) hi.mono (hg s0 H 0 [] []).mono (ht s0 H 0 [] []).mono (he s0 H 0 [] []).mono hn (fun j hj => by
    obtain ⟨⟨x, j'⟩, h1, rfl⟩ := List.mem_map.mp hj
    rw [hC]
    exact (List.getElem?_eq_some_iff.mp (ok.ix _ h1)).1) ⟨O, ρ, R, wLc_mono hi.mono ρ _ _ _ _ (fun t ρ1 ⟨ha, q⟩ => ?_) (fun _ _ z => z) q⟩
  intro v H1 O1 R1 F1 V1
  obtain ⟨O', R', F'⟩ := relStoreT R1 (nlt hC hy) (by rw [hio']; exact hio) V1 ha
  exact q _ H1 O' R' (F1.fre.trans F')
end
end TX

/-! Defs and their calls, over trees, where no representation is under way (guards). -/
namespace TX
open PySem PySem.Spec L2 PyProof.Rows

/-! ### a def's promise, for callers in which no repr runs -/
structure FnG (P : Program) (w : World) (K : PySem.W.Frag) (mg : Str → Option Value) (base : Heap) (k : Nat) (f : Addr) (fd : FuncData) (ps : List Str) (sp : Sp) : Prop where
  len : ∀ vs H Q E, sp vs H Q E → vs.length = ps.length
  run : ∀ (B : Around) (out : List Env) (s : Shared) (H : Hp) (ar : Args) (us : List Value) (vs : List V) (Q : VK) (E : XK), Room k B → B.guards = some [] → Env0 P w K mg base B out s H → BindsTo s fd ar (ps.zip us) → Vals vs us → sp vs H Q E →
    codeAny (model P w) B (.call (.ref f) ar) (CR (L2N.CX P w) out P w H s Q E) s
theorem FnG.up {P : Program} {w : World} {K : PySem.W.Frag} {mg : Str → Option Value} {base : Heap} {j k : Nat} {f : Addr} {fd : FuncData} {ps : List Str} {sp : Sp} (F : FnG P w K mg base j f fd ps sp) (h : j ≤ k) : FnG P w K mg base k f fd ps sp :=
  ⟨F.len, fun B out s H ar us vs Q E r => F.run B out s H ar us vs Q E (r.mono h)⟩
section
variable {P : Program} {w : World} {K : PySem.W.Frag} {mg : Str → Option Value} {base : Heap}
theorem _root_.L2.Fun.okG {x qual : Str} {st : Stmt} {f : Addr} {fd : FuncData} {N ps : List Str} {k : Nat} {sp : Sp} (F : Fun K x qual st f fd) (S : FnScope N ps (defScope st)) (len : ∀ vs H Q E, sp vs H Q E → vs.length = ps.length)
    (hbody : ∀ (cv : Value) (B : Around) (out : List Env) (s : Shared) (H : Hp) (vs : List V) (Q : VK) (E : XK), Room k (B.deeper (envOfC qual (defScope st) s.heap.objs.size f cv)) → B.guards = some [] → sp vs H Q E →
      ∃ t, PSs (cxOf (L2N.CX P w) P w K mg base N qual (defScope st) f cv B out s H E) (defBody st) t ∧ t { nx := fun _ H' => Q .non H', rt := Q } (L2.start N vs) H) : FnG P w K mg base (k + 1) f fd ps sp := by
  obtain ⟨oc, od, kV, doc, pm, an, cv, ct, osl, rfl, lk, hcd⟩ := F.ex
  refine ⟨len, fun B out s H ar us vs Q E room gu e0 bind vals hsp => ?_⟩
  have lenV := len _ _ _ _ hsp
  have kin : K.In s.heap := e0.mod.kin.keeps (fun b o e => (e0.bs b o e).1)
  have lim : s.heap.NoLimit := e0.mod.nolimit.keeps (fun b o e => (e0.bs b o e).1)
  refine codeAny_call_function room.depth (kin _ _ lk) rfl S.co S.gen rfl (PySem.W.codeRec_of kin hcd) (bind _ _ _ _ ?_)
  refine wpAny_newFunctionEnv_cells S.kind (fun ⟨n, v⟩ hy => ?_) fun env he s1 x => ?_
  · rcases S.par n (List.of_mem_zip hy).1 with q | q
    · exact Or.inl q
    · exact Or.inr ⟨q, PySem.W.cellsFrom_some _ _ _ (Or.inl q)⟩
  · subst he
    refine ⟨lim.keeps x.toInCall.keep, codeAny_func ?_⟩
    obtain ⟨t, ht, hq⟩ := hbody cv B out s H vs Q E (room.deeper _) gu hsp
    have J := inv_start (CX := L2N.CX P w) (E := E) (cd := cv) S room.hd e0 lenV vals x
    refine wpAny_mono (ht.run [] s1 (L2.start N vs) H _ J hq) (fun fl s2 hs => ?_) fun _ _ z => z
    cases fl with
    | ret u => obtain ⟨v, _, H', J', rv, q⟩ := hs; exact ⟨v, H', J'.os, J'.bare, J'.base, J'.hok, rv, q⟩
    | next => obtain ⟨_, H', J', q⟩ := hs; exact ⟨V.non, H', J'.os, J'.bare, J'.base, J'.hok, rfl, q⟩
    | brk => obtain ⟨_, _, _, q⟩ := hs; exact q.elim
    | cont => obtain ⟨_, _, _, q⟩ := hs; exact q.elim
end
section
variable {X : Cx} {k : Nat} {f : Addr} {fd : FuncData} {ps : List Str} {sp : Sp} {E : L2.St → XK} {x : Str} {p pos : Pos} {e : Expr} {es : List Expr} {t : TA}
theorem run_fnG {pins : List (Addr × Obj)} {σ : L2.St} {H : Hp} {s : Shared} {Q : VK} {us : List Value} {vs : List V} (F : FnG X.prog X.w X.K X.mg X.base k f fd ps sp) (room : Room k X.A) (gu : X.A.guards = some []) (bind : Binds X.K fd ps []) (pass : PassesAt (L2N.CX X.prog X.w) X σ (E σ))
    (J : Inv X pins σ H s) (vals : Vals vs us) (h : sp vs H Q (E σ)) : wpAny (model X.prog X.w) X.A (call (.ref f) us) (EP X pins σ Q) X.xe s := by
  have lu : us.length = ps.length := vals.length.symm.trans (F.len _ _ _ _ h)
  have bd := bind s us J.kIn (by simpa using lu)
  simp only [List.append_nil] at bd
  refine wpAny_call (codeAny_mono (F.run X.A X.stack s H ⟨us, []⟩ us vs Q (E σ) room gu J.env0 bd vals h) fun r s2 hq => ?_)
  cases r with
  | error err => exact pass pins H s err s2 J hq
  | ok fl => cases fl with
    | ret u => exact J.after hq
    | _ => exact False.elim hq
def tCallG (sp : Sp) (E : L2.St → XK) (t : TA) : TE := fun σ H Q => t σ H fun vs H1 => sp vs H1 Q (E σ)
theorem pe_callG (F : FnG X.prog X.w X.K X.mg X.base k f fd ps sp) (room : Room k X.A) (gu : X.A.guards = some []) (hg : Gl X x) (hm : X.mg x = some (.ref f)) (hk : PySem.W.keepIn X.K (.ref f) = true) (bind : Binds X.K fd ps []) (pass : ∀ σ, PassesAt (L2N.CX X.prog X.w) X σ (E σ))
    (ha : PA X (e :: es) t) (hdb : (x == ("__debug__" : Str)) = false := by decide) (he : starEach (e :: es) X.env = (false, eval e X.env) :: starEach es X.env := by rfl) (hpl : (backTo pos (starEach es X.env)).any (·.1) = false := by rfl) :
    PE X (.Call (.Name x p) (e :: es) [] pos) (tCallG sp E t) := ⟨fun pins s σ H Q J h =>
  wpAny_Call_Name_kw (ld_glob J hg hm (PySem.W.callWith_K (h₀ := X.base) J.ok.mod.kin hk (thn (ha.run pos pins s σ H _ J h) fun us s1 ⟨vs, H1, J1, vals, q⟩ => ⟨J1.kIn, run_fnG F room gu bind (pass σ) J1 vals q⟩) he hpl) hdb)⟩
end

/-! ### a promise over trees -/
abbrev SpT := List T → (T → Rho → Prop) → ExK → Prop
structure Ent (K : PySem.W.Frag) (np : Nat) (io : List Nat) (vs : List V) (H : Hp) (O : Own) (ts : List T) : Prop where
  lv : vs.length = np
  lt : ts.length = np
  tr : ∀ (i : Nat) (t : T), ts[i]? = some t → ∃ v, vs[i]? = some v ∧ Tr K H O i [] v t
  nt : ∀ b, O b ≠ .free → ∃ o, H b = some o ∧ ownable o
  inj : ∀ a b r p, O a = .at r p → O b = .at r p → a = b
  val : ∀ b r p, O b = .at r p → r < np ∧ r ∈ io ∧ ∃ t z, ts[r]? = some t ∧ subT t p = some z ∧ isNode z = true
  sm : Sm K H O
structure Exi (K : PySem.W.Frag) (np : Nat) (io : List Nat) (vs : List V) (H : Hp) (O : Own) (H' : Hp) (O' : Own) (ρ : Rho) : Prop where
  fr : ∀ b o, H b = some o → (O b = .free ∨ O b = .foreign) → H' b = some o ∧ O' b = O b
  nt : ∀ b, O' b ≠ .free → ∃ o, H' b = some o ∧ ownable o
  inj : ∀ a b r p, O' a = .at r p → O' b = .at r p → a = b
  pz : ∀ b j p, O b = .at j p → O' b = .at j p
  fo : ∀ b, O' b = .foreign → O b = .foreign
  lt : ∀ b r p, O' b = .at r p → r ≤ np
  val : ∀ b r p, O' b = .at r p → r < np → r ∈ io ∧ ∃ t z, ρ[r]? = some (some t) ∧ subT t p = some z ∧ isNode z = true
  tr : ∀ (i : Nat) (v : V) (t t0 : T) (ts : List T), i ∈ io → vs[i]? = some v → Tr K H O i [] v t0 → isNode t0 = true → ρ[i]? = some (some t) → isNode t = true → Tr K H' O' i [] v t
def lfSp (K : PySem.W.Frag) (np : Nat) (io : List Nat) (S : SpT) : Sp := fun vs H Q E => ∃ O ts, Ent K np io vs H O ts ∧
  S ts (fun t ρ => ∀ v H' O', Exi K np io vs H O H' O' ρ → Val K H' O' np v t → Q v H') (fun c ρ => ∀ H' O', Exi K np io vs H O H' O' ρ → (∀ b p, O' b ≠ .at np p) → E (.ref (clsA K c)) none H')
/-- the frame's values at the entry -/
def rho0 (N : List Str) (ts : List T) : Rho := ts.map some ++ List.replicate (N.length - ts.length) none
theorem rho0_get {N : List Str} {ts : List T} {i : Nat} {t : T} (h : (rho0 N ts)[i]? = some (some t)) : ts[i]? = some t := by
  unfold rho0 at h
  by_cases hi : i < ts.length
  · rw [List.getElem?_append_left (by simpa using hi), List.getElem?_map] at h
    cases e : ts[i]? with
    | none => rw [e] at h; cases h
    | some a => rw [e] at h; cases h; rfl
  · rw [List.getElem?_append_right (by simpa using Nat.le_of_not_lt hi), List.getElem?_replicate] at h
    split at h <;> cases h
theorem rho0_of {N : List Str} {ts : List T} {i : Nat} {t : T} (h : ts[i]? = some t) : (rho0 N ts)[i]? = some (some t) := by
  unfold rho0
  have hi := (List.getElem?_eq_some_iff.mp h).1
  rw [List.getElem?_append_left (by simpa using hi), List.getElem?_map, h]; rfl
theorem start_of {N : List Str} {vs : List V} {i : Nat} {v : V} (h : vs[i]? = some v) : (L2.start N vs)[i]? = some (some v) := by
  unfold L2.start
  have hi := (List.getElem?_eq_some_iff.mp h).1
  rw [List.getElem?_append_left (by simpa using hi), List.getElem?_map, h]; rfl
section
variable {P : Program} {w : World} {K : PySem.W.Frag} {mg : Str → Option Value} {base : Heap}
/-- only the labels of parameters that are handed in to be changed, and of the result, are kept -/
def outL (np : Nat) (io : List Nat) (N : Nat) (O : Own) : Own := fun b => match O b with
  | .at r p => if r = N then .at np p else if r < np ∧ r ∈ io then .at r p else .free
  | z => z
theorem outL_free {np N : Nat} {io : List Nat} {O : Own} {b : Addr} (h : O b = .free) : outL np io N O b = .free := by unfold outL; rw [h]
theorem outL_foreign {np N : Nat} {io : List Nat} {O : Own} {b : Addr} : outL np io N O b = .foreign ↔ O b = .foreign := by
  unfold outL
  cases e : O b with
  | free => simp
  | foreign => simp
  | «at» r p =>
    simp only
    by_cases h : r = N
    · simp [h]
    · rw [if_neg h]
      by_cases h2 : r < np ∧ r ∈ io <;> simp [h2]
theorem outL_at {np N : Nat} {io : List Nat} {O : Own} {b : Addr} {r : Nat} {p : List Nat} (h : outL np io N O b = .at r p) : (r = np ∧ O b = .at N p) ∨ (r < np ∧ r ∈ io ∧ r ≠ N ∧ O b = .at r p) := by
  unfold outL at h
  cases e : O b with
  | free => rw [e] at h; cases h
  | foreign => rw [e] at h; cases h
  | «at» r' p' =>
    rw [e] at h
    simp only at h
    by_cases h1 : r' = N
    · rw [if_pos h1] at h; cases h; subst h1; exact .inl ⟨rfl, rfl⟩
    · rw [if_neg h1] at h
      by_cases h2 : r' < np ∧ r' ∈ io
      · rw [if_pos h2] at h; cases h; exact .inr ⟨h2.1, h2.2, h1, rfl⟩
      · rw [if_neg h2] at h; cases h
theorem outL_res {np N : Nat} {io : List Nat} {O : Own} {b : Addr} {p : List Nat} (h : O b = .at N p) : outL np io N O b = .at np p := by unfold outL; rw [h]; simp
theorem outL_io {np N : Nat} {io : List Nat} {O : Own} {b : Addr} {r : Nat} {p : List Nat} (h : O b = .at r p) (h1 : r < np) (h2 : r ∈ io) (h3 : r ≠ N) : outL np io N O b = .at r p := by unfold outL; rw [h]; simp [h1, h2, h3]
theorem exi_of {C : Ctx} {n np : Nat} {io : List Nat} {vs : List V} {σ : L2.St} {H0 H : Hp} {O0 O : Own} {ρ : Rho} {ts : List T} (hH : C.H0 = H0) (hO : C.O0 = O0) (hnp : np ≤ C.N) (En : Ent K np io vs H0 O0 ts) (R : Rel K C n σ H O ρ) : Exi K np io vs H0 O0 H (outL np io C.N O) ρ := by
  subst hH hO
  refine ⟨fun b o e1 e2 => ?_, fun b z => R.nt b fun q => z (outL_free q), fun a b r p e1 e2 => ?_, fun b j p e => ?_, fun b e => let ⟨_, _, z⟩ := R.fo b (outL_foreign.mp e); z, fun b r p e => ?_, fun b r p e l => ?_, fun i v t t0 _ hi hv h0 hn e hn2 => ?_⟩
  · obtain ⟨z1, z2⟩ := R.fr b o e1 e2
    refine ⟨z1, ?_⟩
    rcases e2 with e2 | e2
    · rw [e2] at z2 ⊢; exact outL_free z2
    · rw [e2] at z2 ⊢; exact outL_foreign.mpr z2
  · rcases outL_at e1 with ⟨h1, h2⟩ | ⟨h1, _, _, h2⟩ <;> rcases outL_at e2 with ⟨h3, h4⟩ | ⟨h3, _, _, h4⟩
    · exact R.inj a b _ _ h2 h4
    · omega
    · omega
    · exact R.inj a b _ _ h2 h4
  · obtain ⟨h1, h2, _⟩ := En.val b j p e
    obtain ⟨h3, h4⟩ := R.pz b j p e
    exact outL_io h4 h1 h2 (Nat.ne_of_lt h3)
  · rcases outL_at e with ⟨h1, _⟩ | ⟨h1, _⟩ <;> omega
  · rcases outL_at e with ⟨h1, _⟩ | ⟨h1, h2, h3, h4⟩
    · omega
    · exact ⟨h2, R.val b r p h4 (by omega)⟩
  · obtain ⟨a, rfl, ha⟩ := tr_root h0 hn
    obtain ⟨h3, h4⟩ := R.pz a i [] ha
    obtain ⟨h1, h2, _⟩ := En.val a i [] ha
    obtain ⟨v', _, tr⟩ := R.sl i t e
    obtain ⟨a', rfl, ha'⟩ := tr_root tr hn2
    rw [R.inj a a' i [] h4 ha']
    exact Tr.move (r' := i) (p0 := []) (p1 := []) (fun b o e1 e2 => ⟨e1, outL_free e2⟩) (fun b o q e1 e2 => ⟨e1, outL_io e2 h1 h2 (Nat.ne_of_lt h3)⟩) t [] _ tr
def noAl : T → Bool
  | .a _ _ => false
  | _ => true
/-- THE RULE for a def: its body over trees -/
theorem _root_.L2.Fun.okT {x qual : Str} {st : Stmt} {f : Addr} {fd : FuncData} {N ps : List Str} {k np : Nat} {io : List Nat} {S : SpT} (F : Fun K x qual st f fd) (Sc : FnScope N ps (defScope st)) (hnp : np = ps.length := by rfl) (hN : np ≤ N.length := by decide)
    (hbody : ∀ (cv : Value) (B : Around) (out : List Env) (s : Shared) (H : Hp) (E : XK), Room k (B.deeper (envOfC qual (defScope st) s.heap.objs.size f cv)) → (B.deeper (envOfC qual (defScope st) s.heap.objs.size f cv)).guards = some [] →
      ∃ tw, LSs (cxOf (L2N.CX P w) P w K mg base N qual (defScope st) f cv B out s H E) io (defBody st) tw ∧
        ∀ ts Q Ex, S ts Q Ex → tw { nx := fun ρ => Q (.d .none) ρ, rt := fun t ρ => noAl t = true ∧ Q t ρ, ex := Ex } (rho0 N ts)) : FnG P w K mg base (k + 1) f fd ps (lfSp K np io S) := by
  refine F.okG Sc (fun vs H Q E ⟨O, ts, En, _⟩ => by rw [En.lv, hnp]) fun cv B out s H vs Q E room gu ⟨O, ts, En, hS⟩ => ?_
  obtain ⟨tw, hw, hq⟩ := hbody cv B out s H E room gu
  let C : Ctx := ⟨H, O, N.length, io⟩
  have run := hw.run C (fun cls d _ H => E cls d H) rfl rfl (L2N.takes_of rfl rfl rfl rfl) (passes_of rfl)
  refine ⟨_, run, O, rho0 N ts, ?_, ?_⟩
  · have l1 : (L2.start N vs).length = N.length := by unfold L2.start; rw [List.length_append, List.length_map, List.length_replicate, En.lv]; omega
    have l2 : (rho0 N ts).length = N.length := by unfold rho0; rw [List.length_append, List.length_map, List.length_replicate, En.lt]; omega
    exact ⟨fun b o e1 e2 => ⟨e1, rfl⟩, En.nt, fun b r p e => Nat.lt_of_lt_of_le (En.val b r p e).1 hN, En.inj, fun b r p e _ => let ⟨_, _, t, z, h1, h2, h3⟩ := En.val b r p e; ⟨t, z, rho0_of h1, h2, h3⟩, l1, l2,
      fun i t e => let ⟨v, h1, h2⟩ := En.tr i t (rho0_get e); ⟨v, start_of h1, h2⟩, Nat.le_refl _, fun b e => let ⟨o, h, _⟩ := En.nt b (by rw [e]; intro z; cases z); ⟨o, h, e⟩, fun b j p e => ⟨Nat.lt_of_lt_of_le (En.val b j p e).1 hN, e⟩, En.sm, fun b j p e => (En.val b j p e).2.1⟩
  · have fin : ∀ {t : T} {v : V} {σ' : L2.St} {H' : Hp} {O' : Own} {ρ' : Rho} {m : Nat}, (∀ v H' O', Exi K np io vs H O H' O' ρ' → Val K H' O' np v t → Q v H') → Rel K C m σ' H' O' ρ' → Val K H' O' C.N v t → noAl t = true → Q v H' := fun {t v σ' H' O' ρ' m} q R' V' hal => by
      refine q v H' (outL np io C.N O') (exi_of rfl rfl hN En R') ?_
      have gen : ∀ u : T, (Tr K H' O' C.N [] v u ∧ ∀ b p, O' b = .at C.N p → ∃ z, subT u p = some z ∧ isNode z = true) → Tr K H' (outL np io C.N O') np [] v u ∧ ∀ b p, outL np io C.N O' b = .at np p → ∃ z, subT u p = some z ∧ isNode z = true := fun u h =>
        ⟨Tr.move (r' := np) (p0 := []) (p1 := []) (fun b o e1 e2 => ⟨e1, outL_free e2⟩) (fun b o q e1 e2 => ⟨e1, outL_res e2⟩) u [] v h.1, fun b p e => by
          rcases outL_at e with ⟨_, h2⟩ | ⟨h1, _⟩
          · exact h.2 b p h2
          · omega⟩
      cases t with
      | a r p => cases hal
      | _ => exact gen _ V'
    have hq' := hq ts _ _ hS
    refine hw.mono _ _ _ (LeD.mk (fun ρ' q => ?_) (fun t ρ' q => ?_) (fun _ z => False.elim z) (fun _ z => False.elim z) (fun c ρ' q => ?_)) hq'
    · intro σ' H' O' R' F'
      exact fin q R' (R'.val_d .non) rfl
    · intro v σ' H' O' R' F' V'
      exact fin q.2 R' V' q.1
    · intro σ' H' O' R' F'
      refine q H' _ (exi_of rfl rfl hN En R') fun b p e => ?_
      rcases outL_at e with ⟨_, h2⟩ | ⟨h1, _⟩
      · exact absurd (R'.lt b _ p h2) (Nat.lt_irrefl _)
      · omega
end
end TX

/-! The call of a def over trees. -/
namespace TX
open PySem PySem.Spec L2

def stripP : List Nat → List Nat → Option (List Nat)
  | [], q => some q
  | a :: p, b :: q => if a = b then stripP p q else none
  | _ :: _, [] => none
theorem stripP_app : ∀ (p q : List Nat), stripP p (p ++ q) = some q
  | [], q => rfl
  | a :: p, q => by simp [stripP, stripP_app p q]
theorem stripP_some : ∀ {p x q : List Nat}, stripP p x = some q → x = p ++ q
  | [], x, q, h => by cases h; rfl
  | a :: p, [], q, h => by cases h
  | a :: p, b :: x, q, h => by
    unfold stripP at h
    split at h
    · rename_i e; subst e; rw [stripP_some h]; rfl
    · cases h
/-- how an argument comes into the def -/
def argF (io : List Nat) (ρ : Rho) (vu : Bool) (i : Nat) (t : T) : Option T :=
  match io.contains i, t with
  | true, .a r p => match getT ρ r p with
    | some u => if isNode u then some u else none
    | none => none
  | true, _ => none
  | false, .a r p => match vu with
    | true => match getT ρ r p with
      | some u => (erase u).map T.d
      | none => none
    | false => none
  | false, .raw v => some (.raw v)
  | false, .fz ns => some (.fz ns)
  | false, .ex c => some (.ex c)
  | false, t => (erase t).map T.d
def argsF (io : List Nat) (ρ : Rho) (vu : Bool) : Nat → List T → Option (List T)
  | _, [] => some []
  | i, t :: ts => match argF io ρ vu i t, argsF io ρ vu (i + 1) ts with
    | some u, some us => some (u :: us)
    | _, _ => none
theorem argsF_get {io : List Nat} {ρ : Rho} {vu : Bool} : ∀ {ts us : List T} {k i : Nat} {u : T}, argsF io ρ vu k ts = some us → us[i]? = some u → ∃ t, ts[i]? = some t ∧ argF io ρ vu (k + i) t = some u
  | [], us, k, i, u, h, e => by simp [argsF] at h; subst h; simp at e
  | t :: ts, us, k, i, u, h, e => by
    unfold argsF at h
    cases e1 : argF io ρ vu k t with
    | none => rw [e1] at h; cases h
    | some u' =>
      cases e2 : argsF io ρ vu (k + 1) ts with
      | none => rw [e1, e2] at h; cases h
      | some us' =>
        rw [e1, e2] at h
        cases h
        cases i with
        | zero => cases e; exact ⟨t, rfl, e1⟩
        | succ i =>
          obtain ⟨t', h1, h2⟩ := argsF_get e2 (by simpa using e)
          exact ⟨t', by simpa using h1, by rw [show k + (i + 1) = k + 1 + i by omega]; exact h2⟩
theorem argsF_len {io : List Nat} {ρ : Rho} {vu : Bool} : ∀ {ts us : List T} {k : Nat}, argsF io ρ vu k ts = some us → us.length = ts.length
  | [], us, k, h => by simp [argsF] at h; subst h; rfl
  | t :: ts, us, k, h => by
    unfold argsF at h
    cases e1 : argF io ρ vu k t with
    | none => rw [e1] at h; cases h
    | some u' =>
      cases e2 : argsF io ρ vu (k + 1) ts with
      | none => rw [e1, e2] at h; cases h
      | some us' => rw [e1, e2] at h; cases h; simp [argsF_len e2]
/-- the root of a place -/
def rootT : T → Option Nat
  | .a r _ => some r
  | _ => none
/-- no two places that are handed in have one root -/
def apartB : List T → Bool
  | [] => true
  | t :: ts => (match rootT t with
    | some r => ts.all fun u => rootT u != some r
    | none => true) && apartB ts
theorem apart_eq : ∀ {ts : List T} {i j r : Nat} {p q : List Nat}, apartB ts = true → ts[i]? = some (.a r p) → ts[j]? = some (.a r q) → i = j
  | [], i, _, _, _, _, _, h, _ => by simp at h
  | t :: ts, i, j, r, p, q, h, e1, e2 => by
    simp only [apartB, Bool.and_eq_true] at h
    cases i with
    | zero =>
      cases j with
      | zero => rfl
      | succ j =>
        simp at e1 e2
        subst e1
        have := h.1
        simp only [rootT, List.all_eq_true] at this
        have := this _ (List.mem_of_getElem? e2)
        simp [rootT] at this
    | succ i =>
      cases j with
      | zero =>
        simp at e1 e2
        subst e2
        have := h.1
        simp only [rootT, List.all_eq_true] at this
        have := this _ (List.mem_of_getElem? e1)
        simp [rootT] at this
      | succ j =>
        have := apart_eq (i := i) (j := j) h.2 (by simpa using e1) (by simpa using e2)
        omega
/-- the parameter that a root's tree is handed in at -/
def rmOf (io : List Nat) (ts : List T) (r : Nat) : Option (Nat × List Nat) := io.findSome? fun (i : Nat) => match (ts[i]? : Option T) with
  | some (.a r' p) => if r' = r then some (i, p) else none
  | _ => none
theorem rmOf_some {io : List Nat} {ts : List T} {r i : Nat} {p : List Nat} (h : rmOf io ts r = some (i, p)) : i ∈ io ∧ ts[i]? = some (.a r p) := by
  unfold rmOf at h
  obtain ⟨j, h1, h2⟩ := List.exists_of_findSome?_eq_some h
  split at h2
  · rename_i r' p' e
    split at h2
    · rename_i er; subst er; cases h2; exact ⟨h1, e⟩
    · cases h2
  · cases h2
theorem rmOf_of {io : List Nat} {ts : List T} {r i : Nat} {p : List Nat} (ha : apartB ts = true) (h1 : i ∈ io) (h2 : ts[i]? = some (.a r p)) : rmOf io ts r = some (i, p) := by
  cases e : rmOf io ts r with
  | some x =>
    obtain ⟨j, q⟩ := x
    obtain ⟨_, h3⟩ := rmOf_some e
    have := apart_eq ha h2 h3
    subst this
    rw [h2] at h3; cases h3; rfl
  | none =>
    unfold rmOf at e
    rw [List.findSome?_eq_none_iff] at e
    have := e i h1
    rw [h2] at this
    simp at this
def rmI (io : List Nat) (ts : List T) (i : Nat) : Option (Nat × List Nat) := if i ∈ io then match ts[i]? with
  | some (.a r p) => some (r, p)
  | _ => none else none
theorem rmI_some {io : List Nat} {ts : List T} {r i : Nat} {p : List Nat} (h : rmI io ts i = some (r, p)) : i ∈ io ∧ ts[i]? = some (.a r p) := by
  unfold rmI at h
  split at h
  · split at h
    · rename_i e; cases h; exact ⟨by assumption, e⟩
    · cases h
  · cases h
theorem rmI_of {io : List Nat} {ts : List T} {r i : Nat} {p : List Nat} (h1 : i ∈ io) (h2 : ts[i]? = some (.a r p)) : rmI io ts i = some (r, p) := by
  unfold rmI; rw [if_pos h1, h2]
/-- the owners as the def sees them; and behind it, as the caller does -/
def inL (N n : Nat) (io : List Nat) (ts : List T) (vu : Bool) (O : Own) : Own := fun b => match O b with
  | .at r q => if r < N then (match rmOf io ts r with
      | some (i, p) => match stripP p q with
        | some q' => .at i q'
        | none => .foreign
      | none => if vu = true then .free else .foreign)
    else if r < n then .foreign else .free
  | z => z
def bkL (N n np : Nat) (io : List Nat) (ts : List T) (O O' : Own) : Own := fun b => match O' b with
  | .at i q => if i = np then .at n q else match rmI io ts i with
    | some (r, p) => .at r (p ++ q)
    | none => .free
  | .foreign => O b
  | .free => match O b with
    | .at r q => if r < N then .at r q else .free
    | _ => .free
def backF (io : List Nat) (ts : List T) (ρ' : Rho) (r : Nat) (x : Option T) : Option T := match rmOf io ts r with
  | none => x
  | some (i, p) => match x, ρ'[i]? with
    | some t, some (some u) => some (putT t u p)
    | _, _ => x
def backA (io : List Nat) (ts : List T) (ρ ρ' : Rho) : Rho := ρ.mapIdx (backF io ts ρ')
/-! data without lists and dicts at all leaves -/
mutual
def immT : T → Bool
  | .d x => imm x
  | .l ts => immTs ts
  | .m _ _ ts => immTs ts
  | .o _ _ ts => immTs ts
  | .s _ _ => true
  | .raw _ => true
  | .fz _ => false
  | .lk _ _ _ => false
  | .a _ _ => true
  | .ex _ => false
  | .cl _ => true
  | .n _ t => immT t
def immTs : List T → Bool
  | [] => true
  | t :: ts => immT t && immTs ts
end
mutual
theorem Tr.moveI {K : PySem.W.Frag} {H : Hp} {O O' : Own} {r r' : Nat} {p0 p1 : List Nat} (hf : ∀ b, O' b ≠ .free → ∃ o, H b = some o ∧ ownable o)
    (hl : ∀ b q, O b = .at r (p0 ++ q) → O' b = .at r' (p1 ++ q)) : ∀ (t : T) (q : List Nat) (v : V), immT t = true → Tr K H O r (p0 ++ q) v t → Tr K H O' r' (p1 ++ q) v t
  | .d x, q, v, i, h => by
    cases h with
    | d h => exact .d (Rp.imm hf x v (by simpa [immT] using i) (Rp.mono (fun b o e => (msk_some e).2) _ _ h))
  | .l ts, q, v, i, h => by
    cases h with
    | l h1 h2 h3 => exact .l (hl _ q h1) h2 (TrAll.moveI hf hl ts q 0 _ (by simpa [immT] using i) h3)
  | .m tk ks ts, q, v, i, h => by
    cases h with
    | mk h1 h2 h3 h4 => exact .mk (hl _ q h1) h2 h3 (TrAll.moveI hf hl ts q 0 _ (by simpa [immT] using i) h4)
    | mt h1 h2 h3 h4 => exact .mt (hl _ q h1) h2 h3 (TrAll.moveI hf hl ts q 0 _ (by simpa [immT] using i) h4)
  | .o C ns ts, q, v, i, h => by
    cases h with
    | o h1 h2 h3 h4 => exact .o (hl _ q h1) h2 h3 (TrAll.moveI hf hl ts q 0 _ (by simpa [immT] using i) h4)
  | .s S n, q, v, i, h => by
    cases h with
    | s h1 h2 => exact .s (hl _ q h1) h2
  | .raw v', q, v, i, h => by cases h; exact .raw
  | .fz ns, q, v, i, h => by simp [immT] at i
  | .lk _ _ _, q, v, i, h => by simp [immT] at i
  | .a _ _, q, v, i, h => by cases h
  | .ex _, q, v, i, h => by simp [immT] at i
  | .cl _, q, v, i, h => by cases h; exact .cl
  | .n b t, q, v, i, h => by
    cases h with
    | n h0 h1 => exact .n h0 (Tr.moveI hf hl t q _ (by simpa [immT] using i) h1)
theorem TrAll.moveI {K : PySem.W.Frag} {H : Hp} {O O' : Own} {r r' : Nat} {p0 p1 : List Nat} (hf : ∀ b, O' b ≠ .free → ∃ o, H b = some o ∧ ownable o)
    (hl : ∀ b q, O b = .at r (p0 ++ q) → O' b = .at r' (p1 ++ q)) : ∀ (ts : List T) (q : List Nat) (k : Nat) (vs : List V), immTs ts = true → TrAll K H O r (p0 ++ q) k vs ts → TrAll K H O' r' (p1 ++ q) k vs ts
  | [], q, k, vs, i, h => by cases h; exact .nil
  | t :: ts, q, k, vs, i, h => by
    cases h with
    | cons h1 h2 =>
      simp [immTs] at i
      refine .cons ?_ (TrAll.moveI hf hl ts q (k + 1) _ i.2 h2)
      have := Tr.moveI hf hl t (q ++ [k]) _ i.1 (by rw [← List.append_assoc]; exact h1)
      rw [← List.append_assoc] at this
      exact this
end
/-- the trees that come back are nodes; where places are looked at, nothing that comes back may lean on them -/
def ioOk (io : List Nat) (vu : Bool) (ρ' : Rho) : Bool := io.all fun i => match ρ'[i]? with
  | some (some t) => isNode t && (!vu || immT t)
  | _ => false
def wCall (io : List Nat) (np : Nat) (S : SpT) (tas : TwA) : TwE := fun ρ Q E => tas ρ (fun ts ρ1 => ∃ vu us, argsF io ρ1 vu 0 ts = some us ∧ us.length = np ∧ apartB ts = true ∧
  S us (fun t ρ' => ioOk io vu ρ' = true ∧ (vu = true → immT t = true) ∧ noAl t = true ∧ Q t (backA io ts ρ1 ρ')) (fun c ρ' => ioOk io vu ρ' = true ∧ E c (backA io ts ρ1 ρ'))) E
def MonSp (S : SpT) : Prop := ∀ ts (Q Q' : T → Rho → Prop) (E E' : ExK), (∀ t ρ, Q t ρ → Q' t ρ) → (∀ c ρ, E c ρ → E' c ρ) → S ts Q E → S ts Q' E'

theorem ValAll.get {K : PySem.W.Frag} {H : Hp} {O : Own} : ∀ {n : Nat} {vs : List V} {ts : List T} {i : Nat} {t : T}, ValAll K H O n vs ts → ts[i]? = some t → ∃ v, vs[i]? = some v ∧ Val K H O (n + i) v t
  | _, _, _, _, _, .nil, e => by simp at e
  | n, _, _, 0, _, .cons h _, e => by simp at e; subst e; exact ⟨_, rfl, h⟩
  | n, _, _, i + 1, _, .cons _ h, e => by
    obtain ⟨v, h1, h2⟩ := ValAll.get (i := i) h (by simpa using e)
    exact ⟨v, by simpa using h1, by rw [show n + (i + 1) = n + 1 + i by omega]; exact h2⟩
section
variable {K : PySem.W.Frag} {C : Ctx} {n m np : Nat} {σ : St} {H H' : Hp} {O O' : Own} {ρ ρ' : Rho} {io : List Nat} {ts us : List T} {vs : List V} {vu : Bool}
theorem inL_free {b : Addr} (h : O b = .free) : inL C.N n io ts vu O b = .free := by unfold inL; rw [h]
theorem inL_foreign {b : Addr} (h : O b = .foreign) : inL C.N n io ts vu O b = .foreign := by unfold inL; rw [h]
theorem inL_tmp {b : Addr} {r : Nat} {q : List Nat} (h : O b = .at r q) (h1 : C.N ≤ n) (h2 : n ≤ r) : inL C.N n io ts vu O b = .free := by unfold inL; rw [h]; simp only; rw [if_neg (by omega), if_neg (by omega)]
theorem inL_mid {b : Addr} {r : Nat} {q : List Nat} (h : O b = .at r q) (h1 : C.N ≤ r) (h2 : r < n) : inL C.N n io ts vu O b = .foreign := by unfold inL; rw [h]; simp only; rw [if_neg (by omega), if_pos h2]
theorem inL_io {b : Addr} {r i : Nat} {p q : List Nat} (h : O b = .at r (p ++ q)) (h1 : r < C.N) (h2 : rmOf io ts r = some (i, p)) : inL C.N n io ts vu O b = .at i q := by unfold inL; rw [h]; simp only; rw [if_pos h1, h2]; simp only; rw [stripP_app]
theorem inL_no {b : Addr} {r : Nat} {q : List Nat} (h : O b = .at r q) (h1 : r < C.N) (h2 : rmOf io ts r = none) : inL C.N n io ts vu O b = if vu = true then .free else .foreign := by unfold inL; rw [h]; simp only; rw [if_pos h1, h2]
theorem inL_off {b : Addr} {r i : Nat} {p q : List Nat} (h : O b = .at r q) (h1 : r < C.N) (h2 : rmOf io ts r = some (i, p)) (h3 : stripP p q = none) : inL C.N n io ts vu O b = .foreign := by unfold inL; rw [h]; simp only; rw [if_pos h1, h2]; simp only; rw [h3]
theorem inL_at {b : Addr} {i : Nat} {q : List Nat} (h : inL C.N n io ts vu O b = .at i q) : ∃ r p, r < C.N ∧ rmOf io ts r = some (i, p) ∧ O b = .at r (p ++ q) := by
  cases e : O b with
  | free => rw [inL_free e] at h; cases h
  | foreign => rw [inL_foreign e] at h; cases h
  | «at» r x =>
    by_cases h1 : r < C.N
    · cases h2 : rmOf io ts r with
      | none => rw [inL_no e h1 h2] at h; split at h <;> cases h
      | some y =>
        obtain ⟨j, p⟩ := y
        cases h3 : stripP p x with
        | none => rw [inL_off e h1 h2 h3] at h; cases h
        | some q' =>
          have := stripP_some h3
          subst this
          rw [inL_io e h1 h2] at h
          cases h
          exact ⟨r, p, h1, h2, rfl⟩
    · unfold inL at h
      rw [e] at h
      simp only at h
      rw [if_neg h1] at h
      split at h <;> cases h
theorem ent_of (R : Rel K C m σ H O ρ) (hn : C.N ≤ n) (VA : ValAll K H O n vs ts) (ha : argsF io ρ vu 0 ts = some us) (hl : us.length = np) (hap : apartB ts = true) : Ent K np io vs H (inL C.N n io ts vu O) us := by
  have len := argsF_len ha
  have hfree : ∀ b o, msk O H b = some o → msk (inL C.N n io ts vu O) H b = some o := fun b o z => by obtain ⟨z1, z2⟩ := msk_some z; rw [msk_of (inL_free z1)]; exact z2
  refine ⟨by rw [VA.length, ← len]; exact hl, hl, fun i u e => ?_, fun b z => R.nt b fun q => z (inL_free q), fun a b i q e1 e2 => ?_, fun b i q e => ?_, ?_⟩
  · obtain ⟨t, h1, h2⟩ := argsF_get ha e
    rw [Nat.zero_add] at h2
    obtain ⟨v, h3, h4⟩ := VA.get h1
    refine ⟨v, h3, ?_⟩
    by_cases hi : i ∈ io
    · have hc : io.contains i = true := by simpa using hi
      unfold argF at h2
      rw [hc] at h2
      cases t with
      | a r p =>
        simp only at h2
        cases g : getT ρ r p with
        | none => rw [g] at h2; cases h2
        | some w =>
          rw [g] at h2
          simp only at h2
          split at h2
          · cases h2
            obtain ⟨⟨a, rfl, e2, _⟩, _⟩ := h4
            have tr := R.alias g (by assumption) e2
            obtain ⟨t0, e3, _⟩ := getT_some g
            have hr := R.slt e3
            have rm := rmOf_of hap hi h1
            exact Tr.move (r' := i) (p0 := p) (p1 := []) (fun b o z1 z2 => ⟨z1, inL_free z2⟩) (fun b o q z1 z2 => ⟨z1, inL_io z2 hr rm⟩) u [] _ (by rw [List.append_nil]; exact tr)
          · cases h2
      | _ => cases h2
    · have hc : io.contains i = false := by simpa using hi
      unfold argF at h2
      rw [hc] at h2
      have tmp : ∀ {t : T} {x : PyData}, Tr K H O (n + i) [] v t → erase t = some x → Rp K (msk (inL C.N n io ts vu O) H) v x := fun {t x} h e => Rp.mono (fun b o z => by
        unfold vis at z
        split at z
        · rename_i e1; rw [msk_of (inL_free e1)]; exact z
        · cases z
        · rename_i r' p' e1
          split at z
          · rename_i e2
            rw [msk_of (inL_tmp e1 hn (by omega))]; exact z
          · cases z) _ _ (Tr.view t [] v x e h)
      cases t with
      | a r p =>
        simp only at h2
        cases vu with
        | false => cases h2
        | true =>
          simp only at h2
          cases g : getT ρ r p with
          | none => rw [g] at h2; cases h2
          | some w =>
            rw [g] at h2
            simp only [Option.map_eq_some_iff] at h2
            obtain ⟨x, e1, rfl⟩ := h2
            obtain ⟨⟨a, rfl, e2, _⟩, _⟩ := h4
            obtain ⟨t0, e3, _⟩ := getT_some g
            have hr := R.slt e3
            obtain ⟨w', g', hnw, tr⟩ := R.place e2 hr
            rw [g] at g'; cases g'
            have rm : rmOf io ts r = none := by
              cases q : rmOf io ts r with
              | none => rfl
              | some y =>
                obtain ⟨j, pj⟩ := y
                obtain ⟨y1, y2⟩ := rmOf_some q
                have := apart_eq hap h1 y2
                subst this
                exact absurd y1 hi
            refine .d (Rp.mono (fun b o z => ?_) _ _ (Tr.view w p _ x e1 tr))
            unfold vis at z
            split at z
            · rename_i e4; rw [msk_of (inL_free e4)]; exact z
            · cases z
            · rename_i r' p' e4
              split at z
              · rename_i e5
                subst e5
                rw [msk_of (by rw [inL_no e4 hr rm]; rfl)]; exact z
              · cases z
      | raw w =>
        cases h2
        rw [val_raw h4]
        exact .raw
      | fz ns =>
        cases h2
        have := h4.1
        cases this with
        | fz h => exact .fz (sql_mono hfree h)
      | ex c =>
        cases h2
        have := h4.1
        cases this with
        | ex h1 h2 => exact .ex (inL_free h1) h2
      | d x =>
        simp only [erase, Option.map_some, Option.some.injEq] at h2
        subst h2
        exact .d (Rp.mono hfree _ _ (val_d h4))
      | _ =>
        simp only [Option.map_eq_some_iff] at h2
        obtain ⟨x, e1, rfl⟩ := h2
        exact .d (tmp h4.1 e1)
  · obtain ⟨r, p, h1, h2, h3⟩ := inL_at e1
    obtain ⟨r', p', h1', h2', h3'⟩ := inL_at e2
    have a1 := (rmOf_some h2).2
    have a2 := (rmOf_some h2').2
    rw [a1] at a2; cases a2
    exact R.inj a b _ _ h3 h3'
  · obtain ⟨r, p, h1, h2, h3⟩ := inL_at e
    obtain ⟨h4, h5⟩ := rmOf_some h2
    have hi : i < np := by rw [← hl, len]; exact (List.getElem?_eq_some_iff.mp h5).1
    refine ⟨hi, h4, ?_⟩
    have hu : i < us.length := by rw [hl]; exact hi
    obtain ⟨t, g1, g2⟩ := argsF_get ha (List.getElem?_eq_getElem hu)
    rw [Nat.zero_add] at g2
    rw [h5] at g1; cases g1
    have hc : io.contains i = true := by simpa using h4
    unfold argF at g2
    rw [hc] at g2
    simp only at g2
    cases g : getT ρ r p with
    | none => rw [g] at g2; cases g2
    | some w =>
      rw [g] at g2
      simp only at g2
      split at g2
      · obtain ⟨t0, z, y1, y2, y3⟩ := R.val b r _ h3 h1
        obtain ⟨t1, y4, u0, y5, y6⟩ := getT_some g
        rw [y1] at y4; cases y4
        rw [subT_append y5] at y2
        obtain ⟨z', y7, y8⟩ := sub_strip y2 y3
        rw [y6] at y7
        exact ⟨us[i], z', List.getElem?_eq_getElem hu, by rw [← Option.some.inj g2]; exact y7, y8⟩
      · cases g2
  · trivial

/-- what is known where the def has ended -/
structure BkC (K : PySem.W.Frag) (C : Ctx) (n np : Nat) (io : List Nat) (ts us : List T) (vs : List V) (vu : Bool) (H : Hp) (O : Own) (ρ : Rho) (H' : Hp) (O' : Own) (ρ' : Rho) : Prop where
  hn : C.N ≤ n
  VA : ValAll K H O n vs ts
  ha : argsF io ρ vu 0 ts = some us
  hl : us.length = np
  hap : apartB ts = true
  X : Exi K np io vs H (inL C.N n io ts vu O) H' O' ρ'
  ok : ioOk io vu ρ' = true
theorem bk_res {b : Addr} {q : List Nat} (h : O' b = .at np q) : bkL C.N n np io ts O O' b = .at n q := by unfold bkL; rw [h]; simp
theorem bk_io {b : Addr} {i r : Nat} {p q : List Nat} (h : O' b = .at i q) (h1 : i ≠ np) (h2 : rmI io ts i = some (r, p)) : bkL C.N n np io ts O O' b = .at r (p ++ q) := by unfold bkL; rw [h]; simp only; rw [if_neg h1, h2]
theorem bk_foreign {b : Addr} (h : O' b = .foreign) : bkL C.N n np io ts O O' b = O b := by unfold bkL; rw [h]
theorem bk_free {b : Addr} (h : O' b = .free) (h2 : ∀ r q, O b = .at r q → ¬ r < C.N) : bkL C.N n np io ts O O' b = .free := by
  unfold bkL; rw [h]; simp only
  cases e : O b with
  | free => rfl
  | foreign => rfl
  | «at» r q => simp only; rw [if_neg (h2 r q e)]
theorem bk_view {b : Addr} {r : Nat} {q : List Nat} (h : O' b = .free) (h2 : O b = .at r q) (h3 : r < C.N) : bkL C.N n np io ts O O' b = .at r q := by unfold bkL; rw [h]; simp only; rw [h2]; simp only; rw [if_pos h3]
theorem BkC.rm (B : BkC K C n np io ts us vs vu H O ρ H' O' ρ') {r i : Nat} {p : List Nat} (h : rmI io ts i = some (r, p)) : rmOf io ts r = some (i, p) := let ⟨h1, h2⟩ := rmI_some h; rmOf_of B.hap h1 h2
theorem BkC.mr (B : BkC K C n np io ts us vs vu H O ρ H' O' ρ') {r i : Nat} {p : List Nat} (h : rmOf io ts r = some (i, p)) : rmI io ts i = some (r, p) := let ⟨h1, h2⟩ := rmOf_some h; rmI_of h1 h2
theorem BkC.plc (B : BkC K C n np io ts us vs vu H O ρ H' O' ρ') (R : Rel K C m σ H O ρ) {r i : Nat} {p : List Nat} (h : rmI io ts i = some (r, p)) : r < C.N ∧ i < np ∧ ∃ u a, us[i]? = some u ∧ vs[i]? = some (.ref a) ∧ O a = .at r p ∧ getT ρ r p = some u ∧ isNode u = true := by
  obtain ⟨h1, h2⟩ := rmI_some h
  have hi : i < ts.length := (List.getElem?_eq_some_iff.mp h2).1
  have hu : i < us.length := by rw [argsF_len B.ha]; exact hi
  obtain ⟨t, g1, g2⟩ := argsF_get B.ha (List.getElem?_eq_getElem hu)
  rw [Nat.zero_add] at g2
  rw [h2] at g1; cases g1
  obtain ⟨v, h3, h4⟩ := B.VA.get h2
  have hc : io.contains i = true := by simpa using h1
  unfold argF at g2
  rw [hc] at g2
  simp only at g2
  cases g : getT ρ r p with
  | none => rw [g] at g2; cases g2
  | some w =>
    rw [g] at g2
    simp only at g2
    split at g2
    · obtain ⟨⟨a, rfl, e2, _⟩, _⟩ := h4
      obtain ⟨t0, e3, _⟩ := getT_some g
      refine ⟨R.slt e3, by rw [← B.hl]; exact hu, us[i], a, List.getElem?_eq_getElem hu, h3, e2, ?_, ?_⟩
      · rw [← Option.some.inj g2]
      · rw [← Option.some.inj g2]; assumption
    · cases g2
theorem BkC.okI (B : BkC K C n np io ts us vs vu H O ρ H' O' ρ') {i : Nat} (h : i ∈ io) : ∃ t, ρ'[i]? = some (some t) ∧ isNode t = true ∧ (vu = true → immT t = true) := by
  have := List.all_eq_true.mp B.ok i h
  split at this
  · rename_i t e
    simp only [Bool.and_eq_true, Bool.or_eq_true, Bool.not_eq_true'] at this
    refine ⟨t, e, this.1, fun z => ?_⟩
    rcases this.2 with q | q
    · rw [z] at q; cases q
    · exact q
  · cases this
/-- what is no place of the frame's handed-in trees is as it was -/
theorem BkC.keep (B : BkC K C n np io ts us vs vu H O ρ H' O' ρ') {b : Addr} {o : HO} (h : H b = some o) (h2 : inL C.N n io ts vu O b = .free ∨ inL C.N n io ts vu O b = .foreign) : H' b = some o ∧ O' b = inL C.N n io ts vu O b := B.X.fr b o h h2
theorem BkC.fre (B : BkC K C n np io ts us vs vu H O ρ H' O' ρ') {b : Addr} {o : HO} (h : H b = some o) (h2 : O b = .free) : H' b = some o ∧ bkL C.N n np io ts O O' b = .free := by
  obtain ⟨z1, z2⟩ := B.keep h (.inl (inL_free h2))
  rw [inL_free h2] at z2
  exact ⟨z1, bk_free z2 fun r q e => by rw [h2] at e; cases e⟩
/-- a place that is not handed in -/
theorem BkC.off (B : BkC K C n np io ts us vs vu H O ρ H' O' ρ') {b : Addr} {o : HO} {r : Nat} {q : List Nat} (h : H b = some o) (h2 : O b = .at r q) (h3 : r < C.N) (h4 : ∀ i p, rmOf io ts r = some (i, p) → ¬ p <+: q) : H' b = some o ∧ bkL C.N n np io ts O O' b = .at r q := by
  cases e : rmOf io ts r with
  | none =>
    have l := inL_no (n := n) (vu := vu) h2 h3 e
    cases vu with
    | true =>
      obtain ⟨z1, z2⟩ := B.keep h (.inl l)
      exact ⟨z1, bk_view (z2.trans l) h2 h3⟩
    | false =>
      obtain ⟨z1, z2⟩ := B.keep h (.inr l)
      exact ⟨z1, (bk_foreign (z2.trans l)).trans h2⟩
  | some y =>
    obtain ⟨i, p⟩ := y
    have hs : stripP p q = none := by
      cases z : stripP p q with
      | none => rfl
      | some q' => exact absurd ⟨q', (stripP_some z).symm⟩ (h4 i p e)
    have l := inL_off (n := n) (vu := vu) h2 h3 e hs
    obtain ⟨z1, z2⟩ := B.keep h (.inr l)
    exact ⟨z1, (bk_foreign (z2.trans l)).trans h2⟩
theorem BkC.mid (B : BkC K C n np io ts us vs vu H O ρ H' O' ρ') {b : Addr} {o : HO} {r : Nat} {q : List Nat} (h : H b = some o) (h2 : O b = .at r q) (h3 : C.N ≤ r) (h4 : r < n) : H' b = some o ∧ bkL C.N n np io ts O O' b = .at r q := by
  have l := inL_mid (io := io) (ts := ts) (vu := vu) h2 h3 h4
  obtain ⟨z1, z2⟩ := B.keep h (.inr l)
  exact ⟨z1, (bk_foreign (z2.trans l)).trans h2⟩
theorem BkC.pl (B : BkC K C n np io ts us vs vu H O ρ H' O' ρ') (R : Rel K C m σ H O ρ) {b : Addr} {r : Nat} {q : List Nat} (h2 : O b = .at r q) (h3 : r < C.N) : bkL C.N n np io ts O O' b = .at r q := by
  obtain ⟨o, h, _⟩ := R.tracked h2
  by_cases hh : ∃ i p, rmOf io ts r = some (i, p) ∧ p <+: q
  · obtain ⟨i, p, e, q', rfl⟩ := hh
    have l := inL_io (n := n) (vu := vu) h2 h3 e
    have := B.plc R (B.mr e)
    exact bk_io (B.X.pz b i q' l) (Nat.ne_of_lt this.2.1) (B.mr e)
  · exact (B.off h h2 h3 fun i p e z => hh ⟨i, p, e, z⟩).2
theorem BkC.cases (B : BkC K C n np io ts us vs vu H O ρ H' O' ρ') (R : Rel K C m σ H O ρ) {b : Addr} {r : Nat} {p : List Nat} (h : bkL C.N n np io ts O O' b = .at r p) :
    (r = n ∧ O' b = .at np p) ∨ (∃ i p0 q, i ≠ np ∧ O' b = .at i q ∧ rmI io ts i = some (r, p0) ∧ p = p0 ++ q) ∨ (O b = .at r p ∧ r < n ∧ (inL C.N n io ts vu O b = .foreign ∨ (inL C.N n io ts vu O b = .free ∧ r < C.N))) := by
  unfold bkL at h
  cases e : O' b with
  | «at» i q =>
    rw [e] at h
    simp only at h
    by_cases h1 : i = np
    · rw [if_pos h1] at h; cases h; subst h1; exact .inl ⟨rfl, rfl⟩
    · rw [if_neg h1] at h
      cases e2 : rmI io ts i with
      | none => rw [e2] at h; cases h
      | some y => obtain ⟨r', p0⟩ := y; rw [e2] at h; cases h; exact .inr (.inl ⟨i, p0, q, h1, rfl, e2, rfl⟩)
  | foreign =>
    rw [e] at h
    have f := B.X.fo b e
    refine .inr (.inr ⟨h, ?_, .inl f⟩)
    by_cases hr : r < C.N
    · exact Nat.lt_of_lt_of_le hr B.hn
    · by_cases hr2 : r < n
      · exact hr2
      · rw [inL_tmp h B.hn (by omega)] at f; cases f
  | free =>
    rw [e] at h
    simp only at h
    cases e2 : O b with
    | free => rw [e2] at h; cases h
    | foreign => rw [e2] at h; cases h
    | «at» r' q =>
      rw [e2] at h
      simp only at h
      by_cases hr : r' < C.N
      · rw [if_pos hr] at h; cases h
        refine .inr (.inr ⟨rfl, Nat.lt_of_lt_of_le hr B.hn, .inr ⟨?_, hr⟩⟩)
        obtain ⟨o, z, _⟩ := R.tracked e2
        cases l : inL C.N n io ts vu O b with
        | free => rfl
        | foreign =>
          obtain ⟨_, z2⟩ := B.keep z (.inr l)
          rw [e, l] at z2; cases z2
        | «at» i q' => have := B.X.pz b i q' l; rw [e] at this; cases this
      · rw [if_neg hr] at h; cases h
theorem BkC.off3 (B : BkC K C n np io ts us vs vu H O ρ H' O' ρ') {b : Addr} {r i : Nat} {p p0 : List Nat} (h : O b = .at r p) (h1 : r < C.N) (h2 : inL C.N n io ts vu O b = .foreign ∨ (inL C.N n io ts vu O b = .free ∧ r < C.N)) (h3 : rmOf io ts r = some (i, p0)) : ¬ p0 <+: p := fun ⟨q, e⟩ => by
  subst e
  rw [inL_io h h1 h3] at h2
  rcases h2 with z | ⟨z, _⟩ <;> cases z
theorem BkC.nt (B : BkC K C n np io ts us vs vu H O ρ H' O' ρ') (R : Rel K C m σ H O ρ) (b : Addr) (h : bkL C.N n np io ts O O' b ≠ .free) : ∃ o, H' b = some o ∧ ownable o := by
  by_cases e : O' b = .free
  · cases e2 : O b with
    | «at» r q =>
      obtain ⟨o, z, w⟩ := R.tracked e2
      by_cases hr : r < C.N
      · cases l : inL C.N n io ts vu O b with
        | free => exact ⟨o, (B.keep z (.inl l)).1, w⟩
        | foreign => exact ⟨o, (B.keep z (.inr l)).1, w⟩
        | «at» i q' => have := B.X.pz b i q' l; rw [e] at this; cases this
      · exact absurd (bk_free e fun r' q' e' => by rw [e2] at e'; cases e'; exact hr) h
    | _ => exact absurd (bk_free e fun r' q' e' => by rw [e2] at e'; cases e') h
  · exact B.X.nt b e
/-- a tree that the def leaves, seen from the caller -/
theorem BkC.move (B : BkC K C n np io ts us vs vu H O ρ H' O' ρ') (R : Rel K C m σ H O ρ) {i r : Nat} {p1 : List Nat} (hl : ∀ b q, O' b = .at i q → bkL C.N n np io ts O O' b = .at r (p1 ++ q)) {t : T} (hi : vu = true → immT t = true) {v : V} (h : Tr K H' O' i [] v t) : Tr K H' (bkL C.N n np io ts O O') r p1 v t := by
  cases hv : vu with
  | true =>
    have := Tr.moveI (p0 := []) (p1 := p1) (B.nt R) (fun b q e => hl b q e) t [] v (hi hv) h
    rw [List.append_nil] at this; exact this
  | false =>
    have := Tr.move (H' := H') (O' := bkL C.N n np io ts O O') (r' := r) (p0 := []) (p1 := p1) (fun b o e1 e2 => ⟨e1, bk_free e2 fun r' q' e' hr => by
      obtain ⟨o', z, _⟩ := R.tracked e'
      cases l : inL C.N n io ts vu O b with
      | free =>
        cases e3 : rmOf io ts r' with
        | none => rw [inL_no e' hr e3, hv] at l; cases l
        | some y =>
          obtain ⟨j, pj⟩ := y
          cases e4 : stripP pj q' with
          | none => rw [inL_off e' hr e3 e4] at l; cases l
          | some q2 => rw [stripP_some e4] at e'; rw [inL_io e' hr e3] at l; cases l
      | foreign => have := (B.keep z (.inr l)).2; rw [e2, l] at this; cases this
      | «at» j q2 => have := B.X.pz b j q2 l; rw [e2] at this; cases this⟩) (fun b o q e1 e2 => ⟨e1, hl b q e2⟩) t [] v h
    rw [List.append_nil] at this; exact this
theorem backA_get {r : Nat} {x : Option T} (h : ρ[r]? = some x) : (backA io ts ρ ρ')[r]? = some (backF io ts ρ' r x) := by
  unfold backA
  rw [List.getElem?_mapIdx, h]; rfl
theorem backA_no {r : Nat} {x : Option T} (h : ρ[r]? = some x) (h2 : rmOf io ts r = none) : (backA io ts ρ ρ')[r]? = some x := by rw [backA_get h]; unfold backF; rw [h2]
theorem backA_yes {r i : Nat} {p : List Nat} {t u : T} (h : ρ[r]? = some (some t)) (h2 : rmOf io ts r = some (i, p)) (h3 : ρ'[i]? = some (some u)) : (backA io ts ρ ρ')[r]? = some (some (putT t u p)) := by rw [backA_get h]; unfold backF; rw [h2]; simp only; rw [h3]
theorem BkC.rel (B : BkC K C n np io ts us vs vu H O ρ H' O' ρ') (R : Rel K C m σ H O ρ) : Rel K C (n + 1) σ H' (bkL C.N n np io ts O O') (backA io ts ρ ρ') := by
  refine ⟨fun b o e1 e2 => ?_, B.nt R, fun b r p e => ?_, fun a b r p e1 e2 => ?_, fun b r p e l => ?_, R.ln, by unfold backA; rw [List.length_mapIdx]; exact R.lr, fun r t e => ?_, Nat.le_succ_of_le B.hn, fun b e => ?_, fun b j p e => ?_, R.sm⟩
  · obtain ⟨z1, z2⟩ := R.fr b o e1 e2
    rcases e2 with e2 | e2
    · rw [e2] at z2 ⊢; exact B.fre z1 z2
    · rw [e2] at z2 ⊢
      obtain ⟨y1, y2⟩ := B.keep z1 (.inr (inL_foreign z2))
      exact ⟨y1, (bk_foreign (y2.trans (inL_foreign z2))).trans z2⟩
  · rcases B.cases R e with ⟨h, _⟩ | ⟨i, p0, q, _, _, h, _⟩ | ⟨_, h, _⟩
    · omega
    · have := (B.plc R h).1; have := B.hn; omega
    · omega
  · rcases B.cases R e1 with ⟨h, h'⟩ | ⟨i, p0, q, hne, h', h, rfl⟩ | ⟨h', h, h3⟩ <;> rcases B.cases R e2 with ⟨g, g'⟩ | ⟨j, p1, q1, gne, g', g, ge⟩ | ⟨g', g, g3⟩
    · exact B.X.inj a b _ _ h' g'
    · have := (B.plc R g).1; have := B.hn; omega
    · omega
    · have := (B.plc R h).1; have := B.hn; omega
    · have h1 := (rmI_some h).2
      have g1 := (rmI_some g).2
      have := apart_eq B.hap h1 g1
      subst this
      rw [h1] at g1; cases g1
      rw [List.append_cancel_left_eq] at ge
      subst ge
      exact B.X.inj a b _ _ h' g'
    · have hr := (B.plc R h).1
      exact absurd ⟨q, rfl⟩ (B.off3 g' hr g3 (B.rm h))
    · omega
    · have hr := (B.plc R g).1
      exact absurd ⟨q1, ge.symm⟩ (B.off3 h' hr h3 (B.rm g))
    · exact R.inj a b r p h' g'
  · rcases B.cases R e with ⟨h, h'⟩ | ⟨i, p0, q, hne, h', h, rfl⟩ | ⟨h', h, h3⟩
    · have := B.hn; omega
    · obtain ⟨hr, hi, u, a, _, _, _, g, _⟩ := B.plc R h
      obtain ⟨_, t, z, y1, y2, y3⟩ := B.X.val b i q h' hi
      obtain ⟨t0, g1, u0, g2, gu⟩ := getT_some g
      obtain ⟨z', y4, y5⟩ := sub_retag (u0 := u0) y2 y3
      exact ⟨_, z', backA_yes g1 (B.rm h) y1, by rw [subT_append (subT_put g2)]; exact y4, y5⟩
    · obtain ⟨t, z, y1, y2, y3⟩ := R.val b r p h' l
      cases e3 : rmOf io ts r with
      | none => exact ⟨t, z, backA_no y1 e3, y2, y3⟩
      | some y =>
        obtain ⟨i, p0⟩ := y
        obtain ⟨hr, hi, u, a, _, _, _, g, _⟩ := B.plc R (B.mr e3)
        obtain ⟨t0, g1, u0, g2, gu⟩ := getT_some g
        rw [y1] at g1; cases g1
        obtain ⟨u', x1, x2, _⟩ := B.okI (rmOf_some e3).1
        obtain ⟨z', w1, w2⟩ := subT_put_ne (u := u') g2 (B.off3 h' l h3 e3) y2 y3
        exact ⟨_, z', backA_yes y1 e3 x1, w1, w2⟩
  · cases e0 : ρ[r]? with
    | none => unfold backA at e; rw [List.getElem?_mapIdx, e0] at e; cases e
    | some x =>
      have hr := R.slt e0
      cases e3 : rmOf io ts r with
      | none =>
        rw [backA_no e0 e3] at e; cases e
        obtain ⟨v, h2, h3⟩ := R.sl r t e0
        exact ⟨v, h2, Tr.move (r' := r) (p0 := []) (p1 := []) (fun b o e1 e2 => B.fre e1 e2) (fun b o q e1 e2 => B.off e1 e2 hr fun i p z => by rw [e3] at z; cases z) t [] v h3⟩
      | some y =>
        obtain ⟨i, p0⟩ := y
        obtain ⟨_, hi, u, a, y1, y2, y3, g, y4⟩ := B.plc R (B.mr e3)
        obtain ⟨t0, g1, u0, g2, gu⟩ := getT_some g
        rw [e0] at g1; cases g1
        obtain ⟨u', x1, x2, x3⟩ := B.okI (rmOf_some e3).1
        rw [backA_yes e0 e3 x1] at e; cases e
        obtain ⟨v, h2, h3⟩ := R.sl r t0 e0
        refine ⟨v, h2, Tr.upd (fun b o e1 e2 => B.fre e1 e2) (p := []) (fun b o p' e1 e2 e4 => B.off e1 e2 hr fun i' p' z => by rw [e3] at z; cases z; simpa using e4) g2 (fun w hw => ?_) h3⟩
        rw [List.nil_append] at hw ⊢
        have hw := gu ▸ hw.strip
        obtain ⟨a', rfl, ha'⟩ := tr_root hw y4
        have := R.inj a a' r p0 y3 ha'
        subst this
        have tin : Tr K H (inL C.N n io ts vu O) i [] (.ref a) u := Tr.move (r' := i) (p0 := p0) (p1 := []) (fun b o z1 z2 => ⟨z1, inL_free z2⟩) (fun b o q z1 z2 => ⟨z1, inL_io z2 hr e3⟩) u [] _ (by rw [List.append_nil]; exact hw)
        have := B.X.tr i _ _ _ [] (rmOf_some e3).1 y2 tin y4 x1 x2
        exact B.move R (fun b q e5 => bk_io e5 (Nat.ne_of_lt hi) (B.mr e3)) x3 this
  · have : O' b = .foreign ∧ O b = .foreign := by
      unfold bkL at e
      split at e
      · split at e
        · cases e
        · split at e <;> cases e
      · exact ⟨by assumption, e⟩
      · split at e
        · split at e <;> cases e
        · cases e
    exact R.fo b this.2
  · obtain ⟨z1, z2⟩ := R.pz b j p e
    exact ⟨z1, B.pl R z2 z1⟩
theorem BkC.frm (B : BkC K C n np io ts us vs vu H O ρ H' O' ρ') (R : Rel K C m σ H O ρ) : Frm C.N n H O H' (bkL C.N n np io ts O O') := by
  refine ⟨fun b o e1 e2 => B.fre e1 e2, fun b r p e l => B.pl R e l, fun b o r p e1 e2 l1 l2 => B.mid e1 e2 l1 l2, fun b r p e l1 l2 => ?_⟩
  rcases B.cases R e with ⟨h, h'⟩ | ⟨i, p0, q, hne, h', h, rfl⟩ | ⟨h', h, h3⟩
  · omega
  · have := (B.plc R h).1; omega
  · exact h'
theorem BkC.val (B : BkC K C n np io ts us vs vu H O ρ H' O' ρ') (R : Rel K C m σ H O ρ) {v : V} {t : T} (h : Val K H' O' np v t) (ht : noAl t = true) (hi : vu = true → immT t = true) : Val K H' (bkL C.N n np io ts O O') n v t := by
  have gen : ∀ t : T, (vu = true → immT t = true) → (Tr K H' O' np [] v t ∧ ∀ b p, O' b = .at np p → ∃ z, subT t p = some z ∧ isNode z = true) → Tr K H' (bkL C.N n np io ts O O') n [] v t ∧ ∀ b p, bkL C.N n np io ts O O' b = .at n p → ∃ z, subT t p = some z ∧ isNode z = true := fun t hi h =>
    ⟨B.move R (p1 := []) (fun b q e => bk_res e) hi h.1, fun b p e => by
      rcases B.cases R e with ⟨_, h'⟩ | ⟨i, p0, q, hne, h', h2, rfl⟩ | ⟨h', h2, h3⟩
      · exact h.2 b p h'
      · have := (B.plc R h2).1; have := B.hn; omega
      · omega⟩
  cases t with
  | a r p => cases ht
  | _ => exact gen _ hi h
end

section
variable {X : Cx} {k np : Nat} {f : Addr} {fd : FuncData} {ps : List Str} {io : List Nat} {S : SpT} {x : Str} {p pos : Pos} {e : Expr} {es : List Expr} {tas : TwA}
/-- THE RULE for a call of a def -/
theorem le_call (F : FnG X.prog X.w X.K X.mg X.base k f fd ps (lfSp X.K np io S)) (room : Room k X.A) (gu : X.A.guards = some []) (mS : MonSp S) (hg : Gl X x) (hm : X.mg x = some (.ref f)) (hk : PySem.W.keepIn X.K (.ref f) = true) (bind : Binds X.K fd ps [])
    (ha : LA X (e :: es) tas) (hdb : (x == ("__debug__" : Str)) = false := by decide) (he : starEach (e :: es) X.env = (false, eval e X.env) :: starEach es X.env := by rfl) (hpl : (backTo pos (starEach es X.env)).any (·.1) = false := by rfl) :
    LE X (.Call (.Name x p) (e :: es) [] pos) (wCall io np S tas) := by
  refine ⟨fun ρ Q Q' E E' h he q => ha.mono ρ _ _ E E' (fun ts ρ1 ⟨vu, us, h1, h2, h3, h4⟩ => ⟨vu, us, h1, h2, h3, mS us _ _ _ _ (fun t ρ' ⟨z1, z2, z3, z4⟩ => ⟨z1, z2, z3, h _ _ z4⟩) (fun c ρ' ⟨z1, z2⟩ => ⟨z1, he _ _ z2⟩) h4⟩) he q,
    fun C W n hC hn tk => (pe_callG F room gu hg hm hk bind (fun σ => L2N.passAt tk σ) (ha.run C W n hC hn tk) hdb he hpl).imp fun σ H Q ⟨O, ρ, R, q⟩ => ⟨O, ρ, R, ha.mono ρ _ _ _ _ (fun ts ρ1 ⟨vu, us, h1, h2, h3, h4⟩ => ?_) (fun _ _ z => z) q⟩⟩
  intro vs H1 O1 R1 F1 V1
  refine ⟨inL C.N n io ts vu O1, us, ent_of R1 hn V1 h1 h2 h3, mS us _ _ _ _ (fun t ρ' ⟨z1, z2, z3, z4⟩ => ?_) (fun c ρ' ⟨z1, z2⟩ => ?_) h4⟩
  · intro v H' O' Ex V'
    have B : BkC X.K C n np io ts us vs vu H1 O1 ρ1 H' O' ρ' := ⟨hn, V1, h1, h2, h3, Ex, z1⟩
    exact z4 v H' _ (B.rel R1) (F1.trans (B.frm R1) (Nat.le_refl _)) (B.val R1 V' z3 z2)
  · intro H' O' Ex _
    have B : BkC X.K C n np io ts us vs vu H1 O1 ρ1 H' O' ρ' := ⟨hn, V1, h1, h2, h3, Ex, z1⟩
    exact z2 σ H' _ ((B.rel R1).cut (Nat.le_refl _)) (F1.fre.trans ((B.frm R1).fre.trans (fre_cut _)))
end
end TX

/-! The end of a law over trees. -/
namespace TX
open PySem PySem.Spec L2 PyProof.Rows

theorem roomA : Room 40 callerA := ⟨rfl, by decide, by decide⟩
/-- what a law's def must keep: True comes out, whatever the script holds -/
theorem law_callG {P : Program} {w : World} {K : PySem.W.Frag} {mg mb : Str → Option Value} {k : Nat} {fa a : Addr} {fd : FuncData} {x : Str} {S : SpT} {s₁ : Shared} {vs : List Value} {ns : List Int}
    (KX : K.In s₁.heap) (hns : s₁.heap.Ns mainGlobals mg) (hb : s₁.heap.Ns builtinsNs mb) (hbb : ∀ x : Str, x ≠ "__name__" → mb x = bootBuiltins x) (hlim : s₁.heap.NoLimit) (hg : s₁.gens = #[])
    (ha : s₁.heap.get? a = some { cls := .type "list", data := .seq vs.toArray }) (hi : IntsAre vs ns) (hl : ns.length ≤ sizeLine) (hr : Room k callerA) (mS : MonSp S)
    (F : ∀ base : Heap, K.In base → base.Ns mainGlobals mg → FnG P w K mg base k fa fd [x] (lfSp K 1 [] S)) (hbind : Binds K fd [x] [])
    (hS : S [.fz ns] (fun t _ => t = .d (.bool true)) fun _ _ => False) :
    codeAny (model P w) callerA (.call (.ref fa) ⟨[.ref a], []⟩) (fun r s' => r = .ok (.ret (.bool true)) ∧ OldK s₁.heap s'.heap ∧ s'.os = s₁.os ∧ AllBare s'.gens) s₁ := by
  have rv := vals_ints hi
  have lenV := hi.length
  have core : ∀ H : Hp, Only H → SqL K H a (ns.map V.int) → HOk P w H s₁.heap → (∀ b, H b ≠ none → b = a) → (H a ≠ none → K.lookup a = none) →
      codeAny (model P w) callerA (.call (.ref fa) ⟨[.ref a], []⟩) (fun r s' => r = .ok (.ret (.bool true)) ∧ OldK s₁.heap s'.heap ∧ s'.os = s₁.os ∧ AllBare s'.gens) s₁ := by
    intro H hO hSq hok hA hK
    have base_of : ∀ {b : Addr} {o : Obj}, s₁.heap.get? b = some o → H b = none → (hidT s₁.heap H).get? b = some o := fun e n => hidT_get e n
    have noA : ∀ {b : Addr} {o : Obj} {es : Array DictEntry} {ep : Nat}, s₁.heap.get? b = some o → o.data = .dict es ep → H b = none := fun {b o es ep} e d => by
      cases q : H b with
      | none => rfl
      | some u =>
        obtain rfl : b = a := hA b (by rw [q]; exact fun z => nomatch z)
        rw [ha] at e; cases e
        exact absurd (show Data.seq vs.toArray _ = Data.dict es ep from d) (fun z => nomatch z)
    have nsK : ∀ {b : Addr} {m : Str → Option Value}, s₁.heap.Ns b m → (hidT s₁.heap H).Ns b m := fun {b m} ⟨o, es, ep, e, d, r⟩ => ⟨o, es, ep, base_of e (noA e d), d, r⟩
    have hKb : K.In (hidT s₁.heap H) := fun b o e => base_of (KX b o e) (by
      cases q : H b with
      | none => rfl
      | some u =>
        obtain rfl : b = a := hA b (by rw [q]; exact fun z => nomatch z)
        rw [hK (by rw [q]; exact fun z => nomatch z)] at e; cases e)
    have hM : Mod K mg (hidT s₁.heap H) := ⟨hKb, nsK hns, ⟨mb, nsK hb, hbb⟩, let ⟨mc, h1, h2⟩ := hlim; ⟨mc, nsK h1, h2⟩⟩
    have e0 : Env0 P w K mg (hidT s₁.heap H) callerA [] s₁ H := ⟨rfl, hM, fun b o e => of_hidT e, Nat.le_of_eq (hidT_size _ _), trivial, fun b z => absurd (show b ∈ ([] : List Addr) from z) (by simp), hok, .of_eq hg⟩
    have en : Ent K 1 [] [.ref a] H (fun _ => .free) [.fz ns] := by
      have em : msk (fun _ => Lb.free) H = H := by funext b; exact msk_of rfl
      refine ⟨rfl, rfl, fun i t e => ?_, fun b z => absurd rfl z, fun b c r p z => (nomatch z), fun b r p z => (nomatch z), trivial⟩
      match i with
      | 0 => cases e; exact ⟨_, rfl, .fz (by rw [em]; exact hSq)⟩
      | i + 1 => simp at e
    refine codeAny_mono ((F _ hKb (nsK hns)).run callerA [] s₁ H ⟨[.ref a], []⟩ [.ref a] [.ref a] (fun v _ => v = .bl true) (fun _ _ _ => False) hr rfl e0 (by simpa using hbind s₁ [.ref a] KX rfl) (.cons rfl .nil) ⟨_, _, en, ?_⟩) fun r s' h => ?_
    · refine mS _ _ _ _ _ (fun t ρ q v H' O' _ V => ?_) (fun c ρ q => q.elim) hS
      subst q
      exact val_bool V
    cases r with
    | error e => obtain ⟨_, _, _, _, _, _, _, _, _, _, _, _, z⟩ := h; exact z.elim
    | ok fl =>
      cases fl with
      | next => exact False.elim h
      | brk => exact False.elim h
      | cont => exact False.elim h
      | ret u =>
        obtain ⟨v, H', os, bare, un, hok', r', q⟩ := h
        obtain rfl : v = .bl true := q
        obtain rfl : u = Value.bool true := r'
        refine ⟨rfl, OldK.of_keep fun b o e => ?_, os, bare⟩
        cases q : H b with
        | none => exact un.keep b o e q (by intro z; exact absurd (show b ∈ ([] : List Addr) from z) (by simp)) (by simp)
        | some u =>
          rcases hO b with z | ⟨ob, xs, z⟩
          · rw [q] at z; cases z
          · have z2 := un.frzs b ob _ z
            obtain ⟨e1, _⟩ := hok b _ z
            obtain ⟨e2, _⟩ := hok' b _ z2
            rw [e] at e1; cases e1
            exact e2
  cases hk : K.lookup a with
  | some o =>
    have e := KX a o hk
    rw [ha] at e
    cases e
    refine core (fun _ => none) (fun _ => .inl rfl) (.inr ⟨_, vs.toArray, _, hk, rfl, rfl, rfl, by rw [List.size_toArray, lenV]; exact hl, by simpa using rv⟩) (fun b u z => nomatch (show (none : Option HO) = some u from z)) (fun b z => absurd rfl z) fun z => absurd rfl z
  | none =>
    refine core (fun b => if b = a then some (.frz { cls := .type "list", data := .seq vs.toArray } (.lst (ns.map V.int))) else none) (fun b => ?_) (.inl (.inr ⟨{ cls := .type "list", data := .seq vs.toArray }, if_pos rfl⟩)) (fun b u z => ?_) (fun b z => ?_) fun _ => hk
    · by_cases hb : b = a
      · exact .inr ⟨_, _, if_pos hb⟩
      · exact .inl (if_neg hb)
    · by_cases hb : b = a
      · cases (if_pos hb).symm.trans z
        subst hb
        exact ⟨ha, by rw [List.length_map]; exact hl, vs, _, rv, ha⟩
      · exact nomatch (if_neg hb).symm.trans z
    · by_cases hb : b = a
      · exact hb
      · exact absurd (if_neg hb) z
/-- the goal that k_head leaves, from the promise of law's def -/
theorem walkG {l : PySem.W.OpenLaw} {n k : Nat} {q : Program} {loose : List Str} {XP : (Str → Option Value) → Heap → Prop} {YP : World → Heap → Prop} {d : DefRec} {K : Params → PySem.W.Frag} {S : SpT} {x : Str}
    (hn : l.most = some n) (hn2 : n ≤ sizeLine) (hdf : d.params.defaults = []) (hr : Room k callerA) (mS : MonSp S)
    (hY : ∀ (w : World) (h : Heap), YP w h → (K w.params).In h)
    (F : ∀ (w : World) (mg : Str → Option Value) (fa : Addr) (h : Heap), (K w.params).In h → h.Ns mainGlobals mg → mg d.name = some (.ref fa) →
      ∃ fd : FuncData, Binds (K w.params) fd [x] [] ∧
        ∀ base : Heap, (K w.params).In base → base.Ns mainGlobals mg → FnG l.prog w (K w.params) mg base k fa fd [x] (lfSp (K w.params) 1 [] S))
    (hS : ∀ ns : List Int, ns.length ≤ n → S [.fz ns] (fun t _ => t = .d (.bool true)) fun _ _ => False) :
    PySem.W.WalkO q loose XP YP l.row.toRowW d [] (fun f vs => PySem.call f vs) := by
  refine Att.attach_call hn hdf fun w s₀ s₁ mg mb fa o pm cd doc a vs ns G Y ho hd hcd hmg hobj hints hlen hg => ?_
  obtain ⟨fd, hb, hF⟩ := F w mg fa _ (hY w _ Y) G.T.g hmg
  exact law_callG (hY w _ Y) G.T.g G.T.b G.T.builtins G.T.nolimit hg hobj hints (Nat.le_trans hlen hn2) hr mS hF hb (hS ns hlen)
end TX

/-! Methods by name; stores at a place; chains; more built-ins. -/
namespace TX
open PySem PySem.Spec L2 PyProof.Rows

section
variable {X : Cx} {pos cpos apos p1 p2 p3 : Pos} {a b c e o i : Expr} {es : List Expr} {ta tb tc : TwE} {tas : TwA} {x : Str} {p : Pos}

/-! ### len of anything -/
def lenT (ρ : Rho) : T → Option Nat
  | .d (.list xs) => some xs.length
  | .d (.tuple xs) => some xs.length
  | .d (.str z) => if z.length ≤ sizeLine then some z.length else none
  | .l ts => some ts.length
  | .fz ns => some ns.length
  | .a r q => match getT ρ r q with
    | some (.l ts) => some ts.length
    | _ => none
  | _ => none
def kLen : KT := fun ts ρ Q => ∃ t n, ts = [t] ∧ lenT ρ t = some n ∧ Q (.d (.int (n : Nat))) ρ
theorem kLen_mono : MonK kLen := fun ts ρ Q Q' h ⟨t, n, e, e1, q⟩ => ⟨t, n, e, e1, h _ _ q⟩
theorem len_val {K : PySem.W.Frag} {C : Ctx} {n m k : Nat} {σ : L2.St} {H : Hp} {O : Own} {ρ : Rho} {t : T} {v : V} (R : Rel K C m σ H O ρ) (h : Val K H O k v t) (e : lenT ρ t = some n) : LenV K v H n := by
  cases t with
  | d x =>
    have r := val_d h
    cases x with
    | list xs => cases r with | lst h1 h2 => cases e; exact .inl ⟨_, .of (msk_some h1).2, h2.length.symm⟩
    | tuple xs => cases r with | tup h1 h2 => cases e; exact .inr ⟨_, .of (msk_some h1).2, h2.length.symm⟩
    | str z =>
      cases r
      have e' : (if z.length ≤ sizeLine then some z.length else none) = some n := e
      split at e'
      · cases e'; exact ⟨by assumption, rfl⟩
      · cases e'
    | _ => cases e
  | l ts =>
    cases e
    cases h.1 with | l h1 h2 h3 => exact .inl ⟨_, .of h2, h3.length.symm⟩
  | fz ns =>
    cases e
    cases h.1 with | fz h => exact .inl ⟨_, sql_mono msk_le h, by simp⟩
  | a r q =>
    obtain ⟨⟨ad, rfl, e2, _⟩, _⟩ := h
    have e' : (match getT ρ r q with | some (.l ts) => some ts.length | _ => none) = some n := e
    split at e'
    · rename_i ts g
      cases e'
      have tr := R.alias g rfl e2
      cases tr with | l h1 h2 h3 => exact .inl ⟨_, .of h2, h3.length.symm⟩
    · cases e'
  | _ => cases e
theorem fn_lenA {K : PySem.W.Frag} : FnK K (fun xs H Q => ∃ x n, xs = [x] ∧ LenV K x H n ∧ Q (.int n) H) kLen := by
  rintro C n m σ H0 H O0 O ρ ts vs Q hn hm R F V ⟨t, k, rfl, e, q⟩
  obtain ⟨v, rfl, V1⟩ := V.one
  exact ⟨v, k, rfl, len_val R V1 e, Fin.sc hn R F q (.int _)⟩
theorem le_len' (hg : Gl X "len") (hm : X.mg "len" = none) (ha : LA X [e] tas) (he : starEach [e] X.env = (false, eval e X.env) :: starEach [] X.env := by rfl) (hpl : (backTo pos (starEach [] X.env)).any (·.1) = false := by rfl) : LE X (.Call (.Name "len" p) [e] [] pos) (wFn kLen tas) :=
  le_fn (fun t h => pe_callB call_len hg hm (by decide +kernel) h (he := he) (hpl := hpl)) kLen_mono fn_lenA ha

/-! ### methods by name -/
theorem le_append (ho : LE X o ta) (ha : LA X [e] tas) (hbase : attributeBase o "append" X.env (eval o X.env) = eval o X.env := by rfl)
    (hfew : ((backTo cpos (starEach [e] X.env)).all (fun x => !x.1) && (backToKw cpos (keywordEach [] X.env)).all (fun x => x.1.isSome) && decide ([e].length + ([] : List Keyword).length + (if ([] : List Keyword).isEmpty then 0 else 1) < 30)) = true := by rfl)
    (hline : (apos.endLine == cpos.line) = true := by rfl) (hs : starEach [e] X.env = (false, eval e X.env) :: starEach [] X.env := by rfl) (hpl : (backTo cpos (starEach [] X.env)).any (·.1) = false := by rfl) :
    LE X (.Call (.Attribute o "append" apos) [e] [] cpos) (wM isLst kApp ta tas) :=
  le_bm (fun to t h1 h2 => pe_bm PySem.F.plainAttrs_list PySem.F.slot_list_append PySem.F.type_list_append mt_append h1 h2 hbase hfew hline hs hpl) ty_lst mon_app mk_app ho ha
theorem le_popAt (ho : LE X o ta) (ha : LA X [e] tas) (hbase : attributeBase o "pop" X.env (eval o X.env) = eval o X.env := by rfl)
    (hfew : ((backTo cpos (starEach [e] X.env)).all (fun x => !x.1) && (backToKw cpos (keywordEach [] X.env)).all (fun x => x.1.isSome) && decide ([e].length + ([] : List Keyword).length + (if ([] : List Keyword).isEmpty then 0 else 1) < 30)) = true := by rfl)
    (hline : (apos.endLine == cpos.line) = true := by rfl) (hs : starEach [e] X.env = (false, eval e X.env) :: starEach [] X.env := by rfl) (hpl : (backTo cpos (starEach [] X.env)).any (·.1) = false := by rfl) :
    LE X (.Call (.Attribute o "pop" apos) [e] [] cpos) (wM isLst kPopAt ta tas) :=
  le_bm (fun to t h1 h2 => pe_bm PySem.F.plainAttrs_list PySem.F.slot_list_pop PySem.F.type_list_pop mt_popAt h1 h2 hbase hfew hline hs hpl) ty_lst mon_popAt mk_popAt ho ha
/-! ### xs[::-1] -/
def wRevS (ta : TwE) : TwE := fun ρ Q E => ta ρ (fun t ρ1 => ∃ xs, lsq ρ1 t = some xs ∧ Q (.l (xs.reverse.map T.d)) ρ1) E
/-! ### o[i] = data, o a flat list of one's own -/
def wSub (ta tb : TwE) : TwG := fun x ρ Q E => ta ρ (fun t ρ1 => tb ρ1 (fun u ρ2 => ∃ r q, ∃ ds : List PyData, ∃ k j, t = .a r q ∧ u = .d (.int k) ∧ getT ρ2 r q = some (.l (ds.map T.d)) ∧ ixN ds.length k = some j ∧ Q (putAt ρ2 r q (.l ((ds.set j x).map T.d)))) E) E
theorem lg_sub (ha : LE X o ta) (hb : LE X i tb) (hs : ∀ v, assign (.Subscript o i pos) X.env v = (do
      let ov ← holding [v] (eval o X.env)
      let iv ← holding [v, ov] (eval i X.env)
      standAt pos
      holding [v, ov, iv] (setItem ov iv v)
      release [v, ov, iv] []) := by intro _; rfl) : LG X [] (.Subscript o i pos) (wSub ta tb) := by
  refine ⟨fun x ρ Q Q' E E' h he q => ha.mono ρ _ _ E E' (fun t ρ1 q1 => hb.mono ρ1 _ _ E E' (fun u ρ2 ⟨r, q, ds, k, j, h1, h2, h3, h4, q2⟩ => ⟨r, q, ds, k, j, h1, h2, h3, h4, h _ q2⟩) he q1) he q,
    fun C W n hC hn tk => (pg_sub (ha.run C W n hC hn tk) (hb.run C W (n + 1) hC (by omega) tk) set_list hs).imp fun v σ H Q ⟨O, ρ, x, R, rp, q⟩ => ?_⟩
  refine ⟨O, ρ, R, ha.mono ρ _ _ _ _ (fun t ρ1 q1 => ?_) (fun _ _ z => z) q⟩
  intro w1 H1 O1 R1 F1 V1
  refine ⟨O1, ρ1, R1, hb.mono ρ1 _ _ _ _ (fun u ρ2 ⟨r, q, ds, k, j, h1, h2, h3, h4, q2⟩ => ?_) (fun c ρ' z => exK.on F1.fre c ρ' z) q1⟩
  intro w2 H2 O2 R2 F2 V2
  subst h1 h2
  rw [rp_int (val_d V2)]
  obtain ⟨ad, ws, rfl, h5, h6, h7⟩ := flat_of R2 (V1.carry hn R1.lt R1.nt F2) h3 hn
  have F12 := F1.trans F2 (Nat.le_succ n)
  have rp2 : Rp X.K (msk (cut n O2) H2) v x := Rp.mono (fun b o z => by obtain ⟨z1, z2⟩ := msk_some z; rw [msk_of (cut_free z1)]; exact z2) _ _ (rp.fre F12.fre)
  obtain ⟨R3, F3⟩ := relUpdL R2 hn h3 h5 (h7.set rp2 j)
  have F := F12.trans F3 (Nat.le_refl n)
  exact ⟨ad, ws, k, j, rfl, rfl, h6, by rw [h7.length]; exact h4, q2 σ _ _ R3 ⟨F.fre, fun b r p e l _ => F.pl b r p e l, F.tm, F.nw⟩ rfl⟩

/-! ### a op b op c -/
def wCh (f f' : PyData → PyData → PyData → Prop) (ta tb tc : TwE) : TwE := fun ρ Q E => ta ρ (fun t ρ1 => tb ρ1 (fun u ρ2 => ∃ x y k, vw ρ2 t = some x ∧ vw ρ2 u = some y ∧ f x y (.bool k) ∧
  if k = true then tc ρ2 (fun w ρ3 => ∃ y' z k', vw ρ3 u = some y' ∧ vw ρ3 w = some z ∧ f' y' z (.bool k') ∧ Q (.d (.bool k')) ρ3) E else Q (.d (.bool false)) ρ2) E) E
variable {op op' : CmpOp} {r r' : R2} {f f' : PyData → PyData → PyData → Prop}
theorem wCh_mono (ha : MonE ta) (hb : MonE tb) (hc : MonE tc) : MonE (wCh f f' ta tb tc) := fun ρ Q Q' E E' h he q => ha ρ _ _ E E' (fun t ρ1 q1 => hb ρ1 _ _ E E' (fun u ρ2 ⟨x, y, k, h1, h2, h3, q2⟩ => ⟨x, y, k, h1, h2, h3, by
  cases k with
  | true => exact hc ρ2 _ _ E E' (fun w ρ3 ⟨y', z, k', g1, g2, g3, q3⟩ => ⟨y', z, k', g1, g2, g3, h _ _ q3⟩) he q2
  | false => exact h _ _ q2⟩) he q1) he q
theorem ch_run {K : PySem.W.Frag} {C : Ctx} {W : WX} {n : Nat} {σ : L2.St} {H : Hp} {Q : VK} (hd : OpD K r f) (hd' : OpD K r' f') (ha : MonE ta) (hb : MonE tb) (hc : MonE tc) (hn : C.N ≤ n) (h : lfE K C W n (wCh f f' ta tb tc) σ H Q) :
    tChain r r' (lfE K C W n ta) (lfE K C W (n + 1) tb) (lfE K C W (n + 2) tc) σ H Q := by
  obtain ⟨O, ρ, R, q⟩ := h
  refine ⟨O, ρ, R, ha ρ _ _ _ _ (fun t ρ1 q1 => ?_) (fun _ _ z => z) q⟩
  intro v H1 O1 R1 F1 V1
  refine ⟨O1, ρ1, R1, hb ρ1 _ _ _ _ (fun u ρ2 ⟨x, y, k, h1, h2, h3, q2⟩ => ?_) (fun c ρ' z => exK.on F1.fre c ρ' z) q1⟩
  intro w H2 O2 R2 F2 V2
  have F12 := F1.trans F2 (Nat.le_succ n)
  refine hd H2 v w x y (.bool k) _ (R2.viewH (V1.carry hn R1.lt R1.nt F2) h1) (R2.viewH V2 h2) h3 fun z s => ?_
  cases s
  refine ⟨k, rfl, ?_⟩
  cases k with
  | false => exact Fin.sc hn R2 F12 q2 (.bl _)
  | true =>
    refine ⟨O2, ρ2, R2, hc ρ2 _ _ _ _ (fun w' ρ3 ⟨y', z, k', g1, g2, g3, q3⟩ => ?_) (fun c ρ' z => exK.on F12.fre c ρ' z) q2⟩
    intro v3 H3 O3 R3 F3 V3
    have F13 := F12.trans F3 (show n ≤ n + 2 by omega)
    exact hd' H3 w v3 y' z (.bool k') Q (R3.viewH (V2.carry (by omega) R2.lt R2.nt F3) g1) (R3.viewH V3 g2) g3 fun z s => Fin.sc hn R3 F13 q3 s
theorem le_chain (ho : OpR X (compareOp op) r) (ho' : OpR X (compareOp op') r') (hd : OpD X.K r f) (hd' : OpD X.K r' f') (ha : LE X a ta) (hb : LE X b tb) (hc : LE X c tc)
    (hm : lastMarks [op, op'] [b, c] = false := by with_unfolding_all rfl) : LE X (.Compare a [op, op'] [b, c] pos) (wCh f f' ta tb tc) :=
  ⟨wCh_mono ha.mono hb.mono hc.mono, fun C W n hC hn tk => (pe_chain ho ho' (ha.run C W n hC hn tk) (hb.run C W (n + 1) hC (by omega) tk) (hc.run C W (n + 2) hC (by omega) tk) hm).imp fun σ H Q h => ch_run hd hd' ha.mono hb.mono hc.mono hn h⟩
/-! ### module names that hold scalars -/
theorem le_gI {i : Int} {k : Nat} (hg : Gl X x) (hm : X.mg x = some (.int i k)) (hd : (x == ("__debug__" : Str)) = false := by decide) : LE X (.Name x pos) (wC (.d (.int i))) := le_sc (.int i) (pe_glob hg hm ⟨k, rfl⟩ hd)

theorem le_gX {i : Int} (hg : Gl X x) (hm : ∃ k, X.mg x = some (.int i k)) (hd : (x == ("__debug__" : Str)) = false := by decide) : LE X (.Name x pos) (wC (.d (.int i))) := let ⟨_, h⟩ := hm; le_gI hg h hd

/-! ### all of a list of truths, len(set(ints)) -/
/-- how many different ones -/
def distI (ns : List Int) : Nat := (firstMet (fun i => ns.getD i 0) ns.length).length
def wLenSet (ta : TwE) : TwE := fun ρ Q E => ta ρ (fun t ρ1 => ∃ ns : List Int, vw ρ1 t = some (.list (ns.map PyData.int)) ∧ ns.length ≤ 4000 ∧ Q (.d (.int (distI ns : Nat))) ρ1) E
end
end TX

/-! Defs by name, their promises; plain steps. -/
namespace TX
open PySem PySem.Spec L2 PyProof.Rows

/-! ### a def of the text -/
structure Fd (K : PySem.W.Frag) (mg : Str → Option Value) (x : Str) (st : Stmt) (ps : List Str) (f : Addr) (fd : FuncData) : Prop where
  F : L2.Fun K x x st f fd
  g : mg x = some (.ref f)
  b : Binds K fd ps []
def Df (P : Program) (w : World) (K : PySem.W.Frag) (mg : Str → Option Value) (base : Heap) (x : Str) (k : Nat) (ps : List Str) (np : Nat) (io : List Nat) (S : SpT) : Prop :=
  ∃ f fd, FnG P w K mg base k f fd ps (lfSp K np io S) ∧ mg x = some (.ref f) ∧ PySem.W.keepIn K (.ref f) = true ∧ Binds K fd ps []
theorem hu64 {k : Nat} {A : Around} (r : Room k A) : A.units + 64 < cLine := by have := r.un; omega
theorem hu65 {k : Nat} {A : Around} (r : Room k A) : A.units + 65 < cLine := by have := r.un; omega
section
variable {P : Program} {w : World} {K : PySem.W.Frag} {mg : Str → Option Value} {base : Heap} {x : Str} {st : Stmt} {f : Addr} {fd : FuncData} {N ps : List Str} {k np : Nat} {io : List Nat} {S : SpT}
theorem Fd.df (D : Fd K mg x st ps f fd) (G : FnG P w K mg base k f fd ps (lfSp K np io S)) : Df P w K mg base x k ps np io S := ⟨f, fd, G, D.g, D.F.kp, D.b⟩
end
section
variable {X : Cx} {k np : Nat} {ps : List Str} {io : List Nat} {S : SpT} {x : Str} {p pos : Pos} {e : Expr} {es : List Expr} {tas : TwA}
theorem le_callD {j : Nat} (D : Df X.prog X.w X.K X.mg X.base x k ps np io S) (room : Room j X.A) (hj : k ≤ j) (gu : X.A.guards = some []) (mS : MonSp S) (hg : Gl X x)
    (ha : LA X (e :: es) tas) (hdb : (x == ("__debug__" : Str)) = false := by decide) (he : starEach (e :: es) X.env = (false, eval e X.env) :: starEach es X.env := by rfl) (hpl : (backTo pos (starEach es X.env)).any (·.1) = false := by rfl) :
    LE X (.Call (.Name x p) (e :: es) [] pos) (wCall io np S tas) := by
  obtain ⟨f, fd, F, h1, h2, h3⟩ := D
  exact le_call F (room.mono hj) gu mS hg h1 h2 h3 ha hdb he hpl
end
/-- a promise by what must hold ahead and what holds behind -/
def SpP (pre : List T → Prop) (post : List T → T → Rho → Prop) : SpT := fun ts Q _ => pre ts ∧ ∀ t ρ, post ts t ρ → Q t ρ
theorem mon_SpP {pre : List T → Prop} {post : List T → T → Rho → Prop} : MonSp (SpP pre post) := fun ts Q Q' E E' h _ ⟨p, q⟩ => ⟨p, fun t ρ z => h _ _ (q t ρ z)⟩
end TX

/-! Plain steps: from a reading's head to what it asks. -/
namespace TX
open PySem PySem.Spec L2
abbrev PlD (S : SpT) (w : TwS) (N : List Str) : Prop := ∀ ts Q Ex, S ts Q Ex → w { nx := fun ρ => Q (.d .none) ρ, rt := fun t ρ => noAl t = true ∧ Q t ρ, ex := Ex } (rho0 N ts)

section
variable {ρ ρ' : Rho} {Q : T → Rho → Prop} {QA : List T → Rho → Prop} {QT : Bool → Rho → Prop} {QI : List PyData → Rho → Prop} {E : ExK} {t u : T} {ts us : List T} {x y : PyData} {i j : Int} {k n r s : Nat} {p q : List Nat} {ds : List PyData} {ta tb tc : TwE} {tas : TwA} {tt tu : TwT} {D : EndsT} {sa sb : TwS} {b c : Bool}
theorem xVarD (h : ρ[k]? = some (some (.d x))) (q : Q (.d x) ρ) : wVar k ρ Q E := ⟨_, h, q⟩
theorem xVarZ {ns : List Int} (h : ρ[k]? = some (some (.fz ns))) (q : Q (.fz ns) ρ) : wVar k ρ Q E := ⟨_, h, q⟩
theorem xVarN (h : ρ[k]? = some (some t)) (hn : isNode t = true) (q : Q (.a k []) ρ) : wVar k ρ Q E := ⟨_, h, by unfold nmv; rw [if_pos hn]; exact q⟩
theorem xC (q : Q t ρ) : wC t ρ Q E := q
/-! ### operators -/
def opK (f : PyData → PyData → PyData → Prop) (t u : T) (ρ : Rho) (Q : T → Rho → Prop) : Prop := ∃ x y z, vw ρ t = some x ∧ vw ρ u = some y ∧ f x y z ∧ Q (.d z) ρ
theorem xOp {f : PyData → PyData → PyData → Prop} (h : ta ρ (fun t ρ1 => tb ρ1 (fun u ρ2 => opK f t u ρ2 Q) E) E) : wOp f ta tb ρ Q E := h
theorem xI {g : Int → Int → Int} (h1 : vw ρ t = some (.int i)) (h2 : vw ρ u = some (.int j)) (q : Q (.d (.int (g i j))) ρ) : opK (fI g) t u ρ Q := ⟨_, _, _, h1, h2, ⟨_, _, rfl, rfl, rfl⟩, q⟩
theorem xIc {C : Int → Int → Prop} {g : Int → Int → Int} (h1 : vw ρ t = some (.int i)) (h2 : vw ρ u = some (.int j)) (c : C i j) (q : Q (.d (.int (g i j))) ρ) : opK (fIc C g) t u ρ Q := ⟨_, _, _, h1, h2, ⟨_, _, rfl, rfl, c, rfl⟩, q⟩
theorem xB {g : Int → Int → Bool} (h1 : vw ρ t = some (.int i)) (h2 : vw ρ u = some (.int j)) (q : Q (.d (.bool (g i j))) ρ) : opK (fB g) t u ρ Q := ⟨_, _, _, h1, h2, ⟨_, _, rfl, rfl, rfl⟩, q⟩
theorem eqv_int : PyData.eqv (.int i) (.int j) = (i == j) := by simp [PyData.eqv]
theorem eqv_str {a b : Str} : PyData.eqv (.str a) (.str b) = (a == b) := by simp [PyData.eqv]
theorem xEqI (h1 : vw ρ t = some (.int i)) (h2 : vw ρ u = some (.int j)) (q : Q (.d (.bool (i == j))) ρ) : opK fEq t u ρ Q := ⟨_, _, _, h1, h2, .inl ⟨rfl, rfl, rfl⟩, by rw [eqv_int]; exact q⟩
theorem xNeI (h1 : vw ρ t = some (.int i)) (h2 : vw ρ u = some (.int j)) (q : Q (.d (.bool (!(i == j)))) ρ) : opK fNe t u ρ Q := ⟨_, _, _, h1, h2, .inl ⟨rfl, rfl, rfl⟩, by rw [eqv_int]; exact q⟩
theorem xEqS {a b : Str} (h1 : vw ρ t = some (.str a)) (h2 : vw ρ u = some (.str b)) (q : Q (.d (.bool (a == b))) ρ) : opK fEq t u ρ Q := ⟨_, _, _, h1, h2, .inr ⟨_, _, rfl, rfl, rfl⟩, q⟩
theorem xNeS {a b : Str} (h1 : vw ρ t = some (.str a)) (h2 : vw ρ u = some (.str b)) (q : Q (.d (.bool (!(a == b)))) ρ) : opK fNe t u ρ Q := ⟨_, _, _, h1, h2, .inr ⟨_, _, rfl, rfl, rfl⟩, q⟩
theorem xNe (h1 : vw ρ t = some x) (h2 : vw ρ u = some y) (s1 : SeqAt.shaped x = true) (s2 : SeqAt.shaped y = true) (q : Q (.d (.bool (!PyData.eqv x y))) ρ) : opK fNe t u ρ Q := ⟨_, _, _, h1, h2, .inl ⟨s1, s2, rfl⟩, q⟩
def ngK (t : T) (ρ : Rho) (Q : T → Rho → Prop) : Prop := ∃ i, t = .d (.int i) ∧ Q (.d (.int (-i))) ρ
theorem xNeg (h : ta ρ (fun t ρ1 => ngK t ρ1 Q) E) : wNeg ta ρ Q E := h
theorem xNegK (q : Q (.d (.int (-i))) ρ) : ngK (.d (.int i)) ρ Q := ⟨i, rfl, q⟩
/-! ### tests -/
def tK (t : T) (ρ : Rho) (Q : Bool → Rho → Prop) : Prop := ∃ b, t = .d (.bool b) ∧ Q b ρ
theorem xT (h : ta ρ (fun t ρ1 => tK t ρ1 QT) E) : wT ta ρ QT E := h
theorem xTK (q : QT b ρ) : tK (.d (.bool b)) ρ QT := ⟨b, rfl, q⟩
theorem xNot (h : tt ρ (fun b ρ1 => QT (!b) ρ1) E) : wNot tt ρ QT E := h
theorem xAnd (h : tt ρ (fun b ρ1 => if b = true then tu ρ1 QT E else QT false ρ1) E) : wAnd tt tu ρ QT E := h
theorem xOr (h : tt ρ (fun b ρ1 => if b = true then QT true ρ1 else tu ρ1 QT E) E) : wOr tt tu ρ QT E := h
theorem xIte {P P' : Prop} (h1 : b = true → P) (h2 : b = false → P') : if b = true then P else P' := by
  cases b with
  | true => exact h1 rfl
  | false => exact h2 rfl
theorem xYes {P P' : Prop} (h : b = true) (q : P) : if b = true then P else P' := by rw [if_pos h]; exact q
theorem xNo {P P' : Prop} (h : b = false) (q : P') : if b = true then P else P' := by rw [if_neg (by rw [h]; exact Bool.false_ne_true)]; exact q
def bK (t : T) (ρ : Rho) (P : Bool → Prop) : Prop := ∃ c, t = .d (.bool c) ∧ P c
theorem xAndV (h : ta ρ (fun t ρ1 => bK t ρ1 fun c => if c = true then tb ρ1 Q E else Q (.d (.bool false)) ρ1) E) : wAndV ta tb ρ Q E := h
theorem xOrV (h : ta ρ (fun t ρ1 => bK t ρ1 fun c => if c = true then Q (.d (.bool true)) ρ1 else tb ρ1 Q E) E) : wOrV ta tb ρ Q E := h
theorem xNotV (h : ta ρ (fun t ρ1 => bK t ρ1 fun c => Q (.d (.bool (!c))) ρ1) E) : wNotV ta ρ Q E := h
theorem xBK {P : Bool → Prop} (q : P b) : bK (.d (.bool b)) ρ P := ⟨b, rfl, q⟩
theorem xIf (h : tt ρ (fun b ρ1 => if b = true then ta ρ1 Q E else tb ρ1 Q E) E) : wIf tt ta tb ρ Q E := h
/-- a op b op c -/
def ch1 (f f' : PyData → PyData → PyData → Prop) (tc : TwE) (t u : T) (ρ : Rho) (Q : T → Rho → Prop) (E : ExK) : Prop := ∃ x y k, vw ρ t = some x ∧ vw ρ u = some y ∧ f x y (.bool k) ∧
  if k = true then tc ρ (fun w ρ3 => ∃ y' z k', vw ρ3 u = some y' ∧ vw ρ3 w = some z ∧ f' y' z (.bool k') ∧ Q (.d (.bool k')) ρ3) E else Q (.d (.bool false)) ρ
def ch2 (f' : PyData → PyData → PyData → Prop) (u w : T) (ρ : Rho) (Q : T → Rho → Prop) : Prop := ∃ y' z k', vw ρ u = some y' ∧ vw ρ w = some z ∧ f' y' z (.bool k') ∧ Q (.d (.bool k')) ρ
theorem xCh {f f' : PyData → PyData → PyData → Prop} (h : ta ρ (fun t ρ1 => tb ρ1 (fun u ρ2 => ch1 f f' tc t u ρ2 Q E) E) E) : wCh f f' ta tb tc ρ Q E := h
theorem xCh1 {f' : PyData → PyData → PyData → Prop} {g : Int → Int → Bool} (h1 : vw ρ t = some (.int i)) (h2 : vw ρ u = some (.int j)) (q : if g i j = true then tc ρ (fun w ρ3 => ch2 f' u w ρ3 Q) E else Q (.d (.bool false)) ρ) : ch1 (fB g) f' tc t u ρ Q E := ⟨_, _, _, h1, h2, ⟨_, _, rfl, rfl, rfl⟩, q⟩
theorem xCh2 {g : Int → Int → Bool} {w : T} (h1 : vw ρ u = some (.int i)) (h2 : vw ρ w = some (.int j)) (q : Q (.d (.bool (g i j))) ρ) : ch2 (fB g) u w ρ Q := ⟨_, _, _, h1, h2, ⟨_, _, rfl, rfl, rfl⟩, q⟩
/-! ### items -/
def ixK (t u : T) (ρ : Rho) (Q : T → Rho → Prop) : Prop := ∃ i z, u = .d (.int i) ∧ IxT ρ t i z ∧ Q z ρ
theorem xIx (h : ta ρ (fun t ρ1 => tb ρ1 (fun u ρ2 => ixK t u ρ2 Q) E) E) : wIx ta tb ρ Q E := h
theorem xIxA (g : getT ρ r p = some (.l ts)) (hj : ixN ts.length i = some k) (hc : ts[k]? = some (.d x)) (q : Q (.d x) ρ) : ixK (.a r p) (.d (.int i)) ρ Q := ⟨i, _, rfl, ⟨ts, k, _, g, hj, hc, rfl⟩, q⟩
theorem xIxAL (g : getT ρ r p = some (.l (ds.map T.d))) (hj : atI ds i = some x) (q : Q (.d x) ρ) : ixK (.a r p) (.d (.int i)) ρ Q := by
  obtain ⟨j, h1, h2⟩ := atI_len (ys := ds.map T.d) (by simp) hj
  exact ⟨i, _, rfl, ⟨_, j, .d x, g, h1, by rw [List.getElem?_map, h2]; rfl, rfl⟩, q⟩
theorem xIxL (hj : atI ds i = some x) (q : Q (.d x) ρ) : ixK (.l (ds.map T.d)) (.d (.int i)) ρ Q := by
  obtain ⟨j, h1, h2⟩ := atI_len (ys := ds.map T.d) (by simp) hj
  exact ⟨i, _, rfl, ⟨x, atI_of h1 (by rw [List.getElem?_map, h2]; rfl), rfl⟩, q⟩
theorem xIxD (hj : atI ds i = some x) (q : Q (.d x) ρ) : ixK (.d (.list ds)) (.d (.int i)) ρ Q := ⟨i, _, rfl, ⟨x, hj, rfl⟩, q⟩
theorem xIxT (hj : atI ds i = some x) (q : Q (.d x) ρ) : ixK (.d (.tuple ds)) (.d (.int i)) ρ Q := ⟨i, _, rfl, ⟨x, hj, rfl⟩, q⟩
theorem xIxZ {ns : List Int} (hj : atI ns i = some j) (q : Q (.d (.int j)) ρ) : ixK (.fz ns) (.d (.int i)) ρ Q := ⟨i, _, rfl, ⟨j, hj, rfl⟩, q⟩
/-! ### displays, values of a call -/
theorem xNil (q : QA [] ρ) : wNil ρ QA E := q
theorem xCons (h : ta ρ (fun t ρ1 => tas ρ1 (fun ts ρ2 => QA (t :: ts) ρ2) E) E) : wCons ta tas ρ QA E := h
theorem xFn {k : KT} (h : tas ρ (fun ts ρ1 => k ts ρ1 Q) E) : wFn k tas ρ Q E := h
def lstK (ts : List T) (ρ : Rho) (Q : T → Rho → Prop) : Prop := ∃ ds, eraseAll ts = some ds ∧ Q (.l (ds.map T.d)) ρ
def tupK (ts : List T) (ρ : Rho) (Q : T → Rho → Prop) : Prop := ∃ ds, eraseAll ts = some ds ∧ Q (.d (.tuple ds)) ρ
theorem xLst (h : tas ρ (fun ts ρ1 => lstK ts ρ1 Q) E) : wLst tas ρ Q E := h
theorem xLstK (e : eraseAll ts = some ds) (q : Q (.l (ds.map T.d)) ρ) : lstK ts ρ Q := ⟨ds, e, q⟩
theorem xTup (h : tas ρ (fun ts ρ1 => tupK ts ρ1 Q) E) : wTup tas ρ Q E := h
theorem xTupK (e : eraseAll ts = some ds) (q : Q (.d (.tuple ds)) ρ) : tupK ts ρ Q := ⟨ds, e, q⟩
theorem xLen (e : lenT ρ t = some n) (q : Q (.d (.int (n : Nat))) ρ) : kLen [t] ρ Q := ⟨t, n, rfl, e, q⟩
theorem xMax (h1 : vw ρ t = some (.int i)) (h2 : vw ρ u = some (.int j)) (q : Q (.d (.int (max i j))) ρ) : k2 fMax [t, u] ρ Q := ⟨t, u, _, _, _, rfl, h1, h2, ⟨_, _, rfl, rfl, rfl⟩, q⟩
theorem xMin (h1 : vw ρ t = some (.int i)) (h2 : vw ρ u = some (.int j)) (q : Q (.d (.int (min i j))) ρ) : k2 fMin [t, u] ρ Q := ⟨t, u, _, _, _, rfl, h1, h2, ⟨_, _, rfl, rfl, rfl⟩, q⟩
theorem xReprD (h1 : vw ρ t = some x) (h2 : x.showable = true) (h4 : x.shown.length ≤ sizeLine) (h5 : x.depth ≤ 60) (q : Q (.d (.str x.shown)) ρ) : k1 fRepr [t] ρ Q := ⟨t, _, _, rfl, h1, ⟨h2, h4, h5, rfl⟩, q⟩
theorem xIs {c : String} (h1 : vw ρ t = some x) (h2 : kitB (tyD x) c = some b) (q : Q (.d (.bool b)) ρ) : kIs [t, .raw (.ty c)] ρ Q := ⟨t, x, c, b, rfl, h1, h2, q⟩
theorem xList (h : lsq ρ t = some ds) (q : Q (.l (ds.map T.d)) ρ) : kList [t] ρ Q := ⟨t, ds, rfl, .inl h, q⟩
def lsK (t : T) (ρ : Rho) (Q : T → Rho → Prop) : Prop := ∃ ns : List Int, vw ρ t = some (.list (ns.map PyData.int)) ∧ ns.length ≤ 4000 ∧ Q (.d (.int (distI ns : Nat))) ρ
theorem xLenSet (h : ta ρ (fun t ρ1 => lsK t ρ1 Q) E) : wLenSet ta ρ Q E := h
def catK (t u : T) (ρ : Rho) (Q : T → Rho → Prop) : Prop := ∃ xs ys, lsq ρ t = some xs ∧ lsq ρ u = some ys ∧ xs.length + ys.length ≤ sizeLine ∧ Q (.l ((xs ++ ys).map T.d)) ρ
theorem xCat (h : ta ρ (fun t ρ1 => tb ρ1 (fun u ρ2 => catK t u ρ2 Q) E) E) : wCat ta tb ρ Q E := h
def revK (t : T) (ρ : Rho) (Q : T → Rho → Prop) : Prop := ∃ xs, lsq ρ t = some xs ∧ Q (.l (xs.reverse.map T.d)) ρ
theorem xRevS (h : ta ρ (fun t ρ1 => revK t ρ1 Q) E) : wRevS ta ρ Q E := h
/-! ### slices -/
def slK (t : T) (lo hi : Option Int) (ρ : Rho) (Q : T → Rho → Prop) : Prop := ∃ xs, lsq ρ t = some xs ∧ Q (.l ((cutD xs lo hi).map T.d)) ρ
theorem xSl {tl th : TwO} (h : ta ρ (fun t ρ1 => tl ρ1 (fun lo ρ2 => th ρ2 (fun hi ρ3 => slK t lo hi ρ3 Q) E) E) E) : wSl ta tl th ρ Q E := h
theorem xNoPart {QO : Option Int → Rho → Prop} (q : QO none ρ) : wNoPart ρ QO E := q
def ptK (t : T) (ρ : Rho) (QO : Option Int → Rho → Prop) : Prop := ∃ i, t = .d (.int i) ∧ QO (some i) ρ
theorem xPart {QO : Option Int → Rho → Prop} (h : ta ρ (fun t ρ1 => ptK t ρ1 QO) E) : wPart ta ρ QO E := h
theorem xPartK {QO : Option Int → Rho → Prop} (q : QO (some i) ρ) : ptK (.d (.int i)) ρ QO := ⟨i, rfl, q⟩
/-! ### methods -/
def mK (ty : Rho → T → Prop) (k : KM) (tas : TwA) (t : T) (ρ : Rho) (Q : T → Rho → Prop) (E : ExK) : Prop := ty ρ t ∧ tas ρ (fun ts ρ2 => k t ts ρ2 Q) E
theorem xM {ty : Rho → T → Prop} {k : KM} (h : ta ρ (fun t ρ1 => mK ty k tas t ρ1 Q E) E) : wM ty k ta tas ρ Q E := h
theorem xMA {k : KM} (g : getT ρ r p = some (.l us)) (q : tas ρ (fun ts ρ2 => k (.a r p) ts ρ2 Q) E) : mK isLst k tas (.a r p) ρ Q E := ⟨⟨_, g⟩, q⟩
theorem xMD {k : KM} (q : tas ρ (fun ts ρ2 => k (.d (.list ds)) ts ρ2 Q) E) : mK isLst k tas (.d (.list ds)) ρ Q E := ⟨trivial, q⟩
theorem xApp (g : getT ρ r p = some (.l (ds.map T.d))) (e : erase t = some y) (l : ds.length < sizeLine) (q : Q (.d .none) (putAt ρ r p (.l ((ds ++ [y]).map T.d)))) : kApp (.a r p) [t] ρ Q := ⟨r, p, ds, t, y, rfl, rfl, g, e, l, q⟩
theorem xPopAt (g : getT ρ r p = some (.l (ds.map T.d))) (h0 : 0 ≤ i) (h1 : i.toNat < ds.length) (hs : ds.length < 2 ^ 63) (e : ds[i.toNat]? = some y) (q : Q (.d y) (putAt ρ r p (.l ((ds.eraseIdx i.toNat).map T.d)))) : kPopAt (.a r p) [.d (.int i)] ρ Q :=
  ⟨r, p, ds, i, i.toNat, y, rfl, rfl, g, by omega, by omega, (ixN_seq (by unfold ixN; rw [if_pos h0, if_pos (by omega)])).1, e, q⟩
/-! ### statements -/
theorem xSeq (h : sa { D with nx := sb D } ρ) : wSeq sa sb D ρ := h
theorem xNext (h : D.nx ρ) : wNext D ρ := h
theorem xIfS (h : tt ρ (fun b ρ1 => if b = true then sa D ρ1 else sb D ρ1) D.ex) : wIfS tt sa sb D ρ := h
def stK (k : Nat) (D : EndsT) (t : T) (ρ : Rho) : Prop := (∀ r p, t ≠ .a r p) ∧ D.nx (ρ.set k (some t))
theorem xSet (h : ta ρ (stK k D) D.ex) : wSet k ta D ρ := h
theorem xSetK (h : noAl t = true) (q : D.nx (ρ.set k (some t))) : stK k D t ρ := ⟨fun r p z => (by subst z; cases h), q⟩
theorem xDrop (h : ta ρ (fun _ ρ1 => D.nx ρ1) D.ex) : wDrop ta D ρ := h
theorem xRet (h : ta ρ (fun t ρ1 => D.rt t ρ1) D.ex) : wRet ta D ρ := h
theorem xRetV (h : ρ[k]? = some (some t)) (q : D.rt t (ρ.set k none)) : wRetV k D ρ := ⟨t, h, q⟩
theorem xFrz {sa : TwS} (h : ρ[k]? = some (some t)) (e : erase t = some x) (q : sa D (ρ.set k (some (.d x)))) : wFrz k sa D ρ := ⟨t, x, h, e, q⟩
def asK (tg : TwG) (D : EndsT) (t : T) (ρ : Rho) : Prop := ∃ x, erase t = some x ∧ tg x ρ D.nx D.ex
theorem xAsg {tg : TwG} (h : ta ρ (asK tg D) D.ex) : wAsg ta tg D ρ := h
theorem xAsK {tg : TwG} (e : erase t = some x) (h : tg x ρ D.nx D.ex) : asK tg D t ρ := ⟨x, e, h⟩
def sbK (x : PyData) (t u : T) (ρ : Rho) (N : Rho → Prop) : Prop := ∃ r q, ∃ ds : List PyData, ∃ k j, t = .a r q ∧ u = .d (.int k) ∧ getT ρ r q = some (.l (ds.map T.d)) ∧ ixN ds.length k = some j ∧ N (putAt ρ r q (.l ((ds.set j x).map T.d)))
theorem xSub {N : Rho → Prop} (h : ta ρ (fun t ρ1 => tb ρ1 (fun u ρ2 => sbK x t u ρ2 N) E) E) : wSub ta tb x ρ N E := h
theorem xSbK {N : Rho → Prop} (g : getT ρ r p = some (.l ts)) (e : allD ts = some ds) (h : ixN ds.length i = some k) (q : N (putAt ρ r p (.l ((ds.set k x).map T.d)))) : sbK x (.a r p) (.d (.int i)) ρ N := ⟨r, p, ds, i, k, rfl, rfl, by rw [g, allD_eq e], h, q⟩
theorem xNm {N : Rho → Prop} (h : noNdB ρ k = true) (q : N (ρ.set k (some (.d x)))) : wNm k x ρ N E := ⟨h, q⟩
theorem xGTup {tg : TwGs} {N : Rho → Prop} (h : ds.length = k) (q : tg ds ρ N E) : wGTup k tg (.tuple ds) ρ N E := ⟨ds, rfl, h, q⟩
theorem xGsCons {tg : TwG} {tgs : TwGs} {N : Rho → Prop} (q : tg x ρ (fun ρ1 => tgs ds ρ1 N E) E) : wGsCons tg tgs (x :: ds) ρ N E := ⟨x, ds, rfl, q⟩
theorem xGsNil {N : Rho → Prop} (q : N ρ) : wGsNil [] ρ N E := ⟨rfl, q⟩
/-! ### walks -/
def foK (g : TwG) (tb : TwS) (D : EndsT) (xs : List PyData) (ρ : Rho) : Prop := ∃ P : Nat → Rho → Prop, P 0 ρ ∧
  (∀ i x ρ2, xs[i]? = some x → P i ρ2 → g x ρ2 (fun ρ3 => tb { D with nx := P (i + 1), ct := P (i + 1), bk := D.nx } ρ3) D.ex) ∧ ∀ ρ2, P xs.length ρ2 → D.nx ρ2
theorem xFor {wi : TwI} {g : TwG} {tb : TwS} (h : wi ρ (foK g tb D) D.ex) : wFor wi g tb D ρ := h
theorem xFoK {g : TwG} {tb : TwS} {xs : List PyData} (P : Nat → Rho → Prop) (h0 : P 0 ρ) (hs : ∀ i x ρ2, xs[i]? = some x → P i ρ2 → g x ρ2 (fun ρ3 => tb { D with nx := P (i + 1), ct := P (i + 1), bk := D.nx } ρ3) D.ex) (hd : ∀ ρ2, P xs.length ρ2 → D.nx ρ2) : foK g tb D xs ρ := ⟨P, h0, hs, hd⟩
theorem xWhile {tb : TwS} (P : Rho → Prop) (μ : Rho → Nat) (h0 : P ρ) (h : ∀ ρ1, P ρ1 → tt ρ1 (fun b ρ2 => if b = true then tb { D with nx := fun ρ3 => P ρ3 ∧ μ ρ3 < μ ρ1, ct := fun ρ3 => P ρ3 ∧ μ ρ3 < μ ρ1, bk := D.nx } ρ2 else D.nx ρ2) D.ex) : wWhile tt tb D ρ := ⟨P, μ, h0, h⟩
def ilK (t : T) (ρ : Rho) (Q : List PyData → Rho → Prop) : Prop := ∃ xs, flatL t = some xs ∧ Q xs ρ
theorem xILst (h : ta ρ (fun t ρ1 => ilK t ρ1 QI) E) : wILst ta ρ QI E := h
theorem xILK (h : flatL t = some ds) (q : QI ds ρ) : ilK t ρ QI := ⟨ds, h, q⟩
theorem flat_map : flatL (.l (ds.map T.d)) = some ds := allD_map ds
def irK (ts : List T) (ρ : Rho) (QI : List PyData → Rho → Prop) : Prop := ∃ j : Int, ts = [.d (.int j)] ∧ -(2 ^ 62) ≤ j ∧ j < 2 ^ 62 ∧ QI (rangeD 0 j.toNat) ρ
theorem xIR1 (h : tas ρ (fun ts ρ1 => irK ts ρ1 QI) E) : wIR1 tas ρ QI E := h
theorem xIRK (h1 : -(2 ^ 62) ≤ j) (h2 : j < 2 ^ 62) (q : QI (rangeD 0 j.toNat) ρ) : irK [.d (.int j)] ρ QI := ⟨j, rfl, h1, h2, q⟩
def ieK (ts : List T) (ρ : Rho) (QI : List PyData → Rho → Prop) : Prop := ∃ t xs, ts = [t] ∧ flatL t = some xs ∧ QI (enumD xs) ρ
theorem xIEn (h : tas ρ (fun ts ρ1 => ieK ts ρ1 QI) E) : wIEn tas ρ QI E := h
theorem range_get {lo : Int} {n m : Nat} {x : PyData} (h : (rangeD lo n)[m]? = some x) : m < n ∧ x = .int (lo + (m : Nat)) := by
  unfold rangeD at h
  rw [List.getElem?_map] at h
  by_cases q : m < n
  · rw [List.getElem?_range q] at h; cases h; exact ⟨q, rfl⟩
  · rw [List.getElem?_eq_none (by simpa using Nat.le_of_not_lt q)] at h; cases h
theorem range_len {lo : Int} {n : Nat} : (rangeD lo n).length = n := by unfold rangeD; simp
theorem at_in' {α : Type} {xs : List α} {i : Int} (h0 : 0 ≤ i) (h : i < xs.length) : ∃ x, atI xs i = some x ∧ xs[i.toNat]? = some x := by
  have hl : i.toNat < xs.length := by omega
  exact ⟨xs[i.toNat], atI_of (j := i.toNat) (by unfold ixN; rw [if_pos h0, if_pos h]) (List.getElem?_eq_getElem hl), List.getElem?_eq_getElem hl⟩
/-! ### comprehensions -/
def lcK (g : TwG) (tt : TwT) (te : TwE) (vs : List Nat) (Q : T → Rho → Prop) (xs : List PyData) (ρ1 : Rho) : Prop := noNd ρ1 vs ∧ xs.length ≤ 1000000 ∧ ∃ P : Nat → List PyData → Rho → Prop, P 0 [] (wipeR ρ1 vs) ∧
  (∀ i x acc ρ2, xs[i]? = some x → P i acc ρ2 → g x ρ2 (fun ρ3 => tt ρ3 (fun b ρ4 => noNd ρ4 vs ∧ if b = true then te ρ4 (fun t ρ5 => noNd ρ5 vs ∧ ∃ y, erase t = some y ∧ P (i + 1) (acc ++ [y]) (wipeR ρ5 vs)) exN else P (i + 1) acc (wipeR ρ4 vs)) exN) exN) ∧
  (∀ acc ρ2, P xs.length acc ρ2 → Q (.l (acc.map T.d)) (restR ρ1 ρ2 vs))
theorem xLc {wi : TwI} {g : TwG} {te : TwE} {vs : List Nat} (h : wi ρ (lcK g tt te vs Q) E) : wLc wi g tt te vs ρ Q E := h
theorem noNd1 (h : noNdB ρ k = true) : noNd ρ [k] := fun j hj t e => by
  have : j = k := by simpa using hj
  subst this
  unfold noNdB at h
  rw [e] at h
  simpa using h
theorem xYesT (q : QT true ρ) : wYes ρ QT E := q
/-- the same, the turn's steps told forward -/
theorem xLcM {xs : List PyData} {te : TwE} (f : PyData → Bool) (h : PyData → PyData) (hn : noNdB ρ k = true) (hl : xs.length ≤ 1000000) (hk : k < ρ.length)
    (step : ∀ x ∈ xs, ∀ (Y : PyData → Rho → Prop) (Z : Rho → Prop), (f x = true → Y (h x) (ρ.set k (some (.d x)))) → (f x = false → Z (ρ.set k (some (.d x)))) → tt (ρ.set k (some (.d x))) (fun b ρ4 => noNd ρ4 [k] ∧ if b = true then te ρ4 (fun t ρ5 => noNd ρ5 [k] ∧ ∃ y, erase t = some y ∧ Y y ρ5) exN else Z ρ4) exN)
    (q : Q (.l (((xs.filter f).map h).map T.d)) ρ) : lcK (wNm k) tt te [k] Q xs ρ := by
  have wp : ∀ x : PyData, wipeR (ρ.set k (some (.d x))) [k] = ρ.set k none := fun x => by unfold wipeR wipeR; rw [List.set_set]
  refine ⟨noNd1 hn, hl, fun i acc ρ2 => acc = ((xs.take i).filter f).map h ∧ ρ2 = ρ.set k none, ⟨rfl, rfl⟩, ?_, ?_⟩
  · rintro i x acc ρ2 e ⟨rfl, rfl⟩
    have tk : xs.take (i + 1) = xs.take i ++ [x] := by rw [List.take_succ, e]; rfl
    refine ⟨by unfold noNdB; rw [List.getElem?_set_self hk], ?_⟩
    rw [List.set_set]
    refine step x (List.mem_of_getElem? e) (fun y ρ5 => (((xs.take i).filter f).map h ++ [y]) = ((xs.take (i + 1)).filter f).map h ∧ wipeR ρ5 [k] = ρ.set k none) (fun ρ4 => ((xs.take i).filter f).map h = ((xs.take (i + 1)).filter f).map h ∧ wipeR ρ4 [k] = ρ.set k none) (fun hf => ⟨?_, wp x⟩) (fun hf => ⟨?_, wp x⟩)
    · rw [tk, List.filter_append, List.map_append]; simp [hf]
    · rw [tk, List.filter_append, List.map_append]; simp [hf]
  · rintro acc ρ2 ⟨rfl, rfl⟩
    have : restR ρ (ρ.set k none) [k] = ρ := rest_wipe [k]
    rw [this, List.take_length]
    exact q
/-- lists of ints -/
theorem pickI {cs : List Int} (h0 : 0 ≤ i) (h1 : i < cs.length) : ∃ w ∈ cs, atI (cs.map PyData.int) i = some (.int w) := by
  obtain ⟨x, e1, e2⟩ := at_in' h0 h1
  exact ⟨x, List.mem_of_getElem? e2, by
    unfold atI at e1 ⊢
    rw [List.length_map]
    cases z : ixN cs.length i with
    | none => rw [z] at e1; cases e1
    | some j => rw [z] at e1; simp only [Option.bind_some] at e1 ⊢; rw [List.getElem?_map, e1]; rfl⟩
theorem atLast {cs : List Int} {l : Int} (h : cs[cs.length - 1]? = some l) : atI (cs.map PyData.int) (-1) = some (.int l) := by
  have hl := (List.getElem?_eq_some_iff.mp h).1
  unfold atI ixN
  rw [List.length_map, if_neg (by omega), if_pos (by omega)]
  simp only [Option.bind_some]
  rw [show ((-1 : Int) + cs.length).toNat = cs.length - 1 by omega, List.getElem?_map, h]; rfl
/-! ### calls -/
def caK (io : List Nat) (np : Nat) (S : SpT) (ts : List T) (ρ1 : Rho) (Q : T → Rho → Prop) (E : ExK) : Prop := ∃ vu us, argsF io ρ1 vu 0 ts = some us ∧ us.length = np ∧ apartB ts = true ∧
  S us (fun t ρ' => ioOk io vu ρ' = true ∧ (vu = true → immT t = true) ∧ noAl t = true ∧ Q t (backA io ts ρ1 ρ')) (fun c ρ' => ioOk io vu ρ' = true ∧ E c (backA io ts ρ1 ρ'))
theorem xCall {io : List Nat} {np : Nat} {S : SpT} (h : tas ρ (fun ts ρ1 => caK io np S ts ρ1 Q E) E) : wCall io np S tas ρ Q E := h
theorem back_nil : backA [] ts ρ ρ' = ρ := by
  unfold backA
  refine List.ext_getElem? fun j => ?_
  rw [List.getElem?_mapIdx]
  cases ρ[j]? with
  | none => rfl
  | some z => rfl
/-- nothing is handed in to be changed, every value is data | looked at (vu) -/
theorem xCaP {np : Nat} {pre : List T → Prop} {post : List T → T → Rho → Prop} (h : argsF [] ρ false 0 ts = some us) (hl : us.length = np) (ha : apartB ts = true) (p : pre us) (q : ∀ t ρ', post us t ρ' → noAl t = true ∧ Q t ρ) : caK [] np (SpP pre post) ts ρ Q E :=
  ⟨false, us, h, hl, ha, p, fun t ρ' z => ⟨rfl, fun z => (nomatch z), (q t ρ' z).1, by rw [back_nil]; exact (q t ρ' z).2⟩⟩
theorem back_one {us : List T} {v : T} (hu : ρ'[0]? = some (some v)) (h : ρ[r]? = some (some t)) (hs : strip t = t) : backA [0] (.a r [] :: us) ρ ρ' = ρ.set r (some v) := by
  unfold backA
  refine List.ext_getElem? fun j => ?_
  rw [List.getElem?_mapIdx]
  by_cases q : j = r
  · subst q
    rw [List.getElem?_set_self (List.getElem?_eq_some_iff.mp h).1, h]
    simp only [Option.map_some]
    unfold backF rmOf
    simp only [List.findSome?_cons, List.getElem?_cons_zero, if_true]
    rw [hu]
    show some (some (retag t v)) = some (some v)
    rw [retag_of hs]
  · rw [List.getElem?_set_ne (fun z => q z.symm)]
    cases ρ[j]? with
    | none => rfl
    | some z =>
      simp only [Option.map_some]
      unfold backF rmOf
      have : ¬ r = j := fun z => q z.symm
      simp [this]
/-- the first value is handed in to be changed, the others are scalar -/
theorem xCaF {np : Nat} {pre : List T → Prop} {post : List T → T → Rho → Prop} (g : ρ[r]? = some (some t)) (hn : isNode t = true) (h : argsF [0] ρ false 1 ts = some us) (hl : us.length + 1 = np) (ha : apartB (.a r [] :: ts) = true) (p : pre (t :: us))
    (q : ∀ u ρ', post (t :: us) u ρ' → ∃ v, ρ'[0]? = some (some v) ∧ isNode v = true ∧ noAl u = true ∧ Q u (ρ.set r (some v))) (hs : strip t = t := by rfl) : caK [0] np (SpP pre post) (.a r [] :: ts) ρ Q E := by
  refine ⟨false, t :: us, ?_, hl, ha, p, fun u ρ' z => ?_⟩
  · unfold argsF argF
    have : getT ρ r [] = some t := by unfold getT; rw [g]; show some (strip t) = _; rw [hs]
    simp only [List.contains_cons, BEq.rfl, Bool.true_or]
    rw [this]
    simp only
    rw [if_pos hn, h]
  · obtain ⟨v, h1, h2, h3, h4⟩ := q u ρ' z
    refine ⟨?_, fun z => (nomatch z), h3, by rw [back_one h1 g hs]; exact h4⟩
    unfold ioOk
    simp only [List.all_cons, List.all_nil, Bool.and_true]
    rw [h1]
    simp [h2]
end
/-! ### sizes -/
theorem log_le {n a : Nat} (h : n < 2 ^ a) : n.log2 ≤ a := by
  by_cases z : n = 0
  · subst z; simp
  · exact Nat.le_of_lt ((Nat.log2_lt z).mpr h)
theorem cmul {i j : Int} (a b : Nat) (h1 : i.natAbs < 2 ^ a) (h2 : j.natAbs < 2 ^ b) (h : a + b < 1000000 := by decide) : CMulW i j := by
  have := log_le h1
  have := log_le h2
  unfold CMulW
  omega
theorem nA {i m : Int} (a : Nat) (h0 : 0 ≤ i) (h1 : i < m) (h2 : m ≤ 2 ^ a) : i.natAbs < 2 ^ a := by
  have : ((2 ^ a : Nat) : Int) = 2 ^ a := by simp
  omega
theorem nM {i m : Int} (a : Nat) (h1 : 0 < m) (h2 : m ≤ 2 ^ a) : (i % m).natAbs < 2 ^ a := nA a (Int.emod_nonneg _ (by omega)) (Int.emod_lt_of_pos _ h1) h2
theorem cdiv64 {i j : Int} (h1 : 0 < j) (h2 : j ≤ 2 ^ 64) : CDivW i j := ⟨h1, Nat.lt_of_le_of_lt (log_le (a := 65) (nA 65 (Int.le_of_lt h1) (Int.lt_add_one_of_le h2) (by decide))) (by decide)⟩
theorem cpow {i j : Int} (a : Nat) (h1 : i.natAbs < 2 ^ a) (h0 : 0 ≤ j) (h2 : (a : Int) * j ≤ 2 ^ 27) : CPowW i j := by
  have h3 : (Builtin.Int.intBits i : Nat) ≤ a := PyProof.Rows.intBits_le h1
  exact ⟨h0, Int.le_trans (Int.mul_le_mul_of_nonneg_right (by omega) h0) h2⟩
theorem at_of {α : Type} {xs : List α} {i : Int} {x : α} (h0 : 0 ≤ i) (h : xs[i.toNat]? = some x) : atI xs i = some x := by
  have := (List.getElem?_eq_some_iff.mp h).1
  exact atI_of (j := i.toNat) (by unfold ixN; rw [if_pos h0, if_pos (by omega)]) h
theorem at_in {α : Type} {xs : List α} {i : Int} (h0 : 0 ≤ i) (h : i < xs.length) : ∃ x, atI xs i = some x ∧ xs[i.toNat]? = some x := by
  have hl : i.toNat < xs.length := by omega
  exact ⟨xs[i.toNat], at_of h0 (List.getElem?_eq_getElem hl), List.getElem?_eq_getElem hl⟩
end TX

/-! Dicts of one's own: keys ints and texts, or tuples of these; values data. -/
namespace TX
open PySem PySem.Spec L2 PyProof.Rows

section
variable {κ : Type} [DecidableEq κ]
def lookD (kvs : List (κ × PyData)) (k : κ) : Option PyData := (kvs.find? fun p => decide (p.1 = k)).map (·.2)
def putD (kvs : List (κ × PyData)) (k : κ) (x : PyData) : List (κ × PyData) := if (kvs.any fun p => decide (p.1 = k)) = true then kvs.map (fun p => if p.1 = k then (p.1, x) else p) else kvs ++ [(k, x)]
/-- two tables with the same keys, the values alike -/
inductive KRp (K : PySem.W.Frag) (M : Hp) : List (κ × V) → List (κ × PyData) → Prop
  | nil : KRp K M [] []
  | cons {k v x t u} : Rp K M v x → KRp K M t u → KRp K M ((k, v) :: t) ((k, x) :: u)
section
variable {K : PySem.W.Frag} {M : Hp} {k : κ}
theorem KRp.of : ∀ {t : List (κ × V)} {u : List (κ × PyData)}, t.map (·.1) = u.map (·.1) → RpAll K M (t.map (·.2)) (u.map (·.2)) → KRp K M t u
  | [], [], _, _ => .nil
  | [], _ :: _, h, _ => by cases h
  | _ :: _, [], h, _ => by cases h
  | (a, v) :: t, (b, x) :: u, h, r => by
    simp only [List.map_cons, List.cons.injEq] at h
    obtain ⟨rfl, h2⟩ := h
    cases r with
    | cons r1 r2 => exact .cons r1 (KRp.of h2 r2)
theorem KRp.keys : ∀ {t : List (κ × V)} {u : List (κ × PyData)}, KRp K M t u → t.map (·.1) = u.map (·.1)
  | _, _, .nil => rfl
  | _, _, .cons _ h => by simp only [List.map_cons]; rw [KRp.keys h]
theorem KRp.vals : ∀ {t : List (κ × V)} {u : List (κ × PyData)}, KRp K M t u → RpAll K M (t.map (·.2)) (u.map (·.2))
  | _, _, .nil => .nil
  | _, _, .cons r h => .cons r (KRp.vals h)
theorem KRp.length {t : List (κ × V)} {u : List (κ × PyData)} (h : KRp K M t u) : t.length = u.length := by have := congrArg List.length h.keys; simpa using this
theorem KRp.look : ∀ {t : List (κ × V)} {u : List (κ × PyData)}, KRp K M t u → (lookD u k = none ∧ valV t k = none) ∨ ∃ v x, valV t k = some v ∧ lookD u k = some x ∧ Rp K M v x
  | [], _, h => by cases h; exact .inl ⟨rfl, rfl⟩
  | (a, v) :: t, _, h => by
    cases h with
    | @cons _ _ x _ u r h =>
    by_cases e : a = k
    · refine .inr ⟨v, x, valV_pos (p := (a, v)) e, ?_, r⟩
      unfold lookD; simp [List.find?_cons, e]
    · rw [valV_neg (p := (a, v)) e]
      have : lookD ((a, x) :: u) k = lookD u k := by unfold lookD; simp [List.find?_cons, e]
      rw [this]; exact KRp.look h
theorem KRp.any : ∀ {t : List (κ × V)} {u : List (κ × PyData)}, KRp K M t u → (t.any fun p => decide (p.1 = k)) = u.any fun p => decide (p.1 = k)
  | _, _, .nil => rfl
  | _, _, .cons _ h => by simp only [List.any_cons]; rw [KRp.any h]
theorem KRp.mono {M' : Hp} (f : ∀ b o, M b = some o → M' b = some o) : ∀ {t : List (κ × V)} {u : List (κ × PyData)}, KRp K M t u → KRp K M' t u
  | _, _, .nil => .nil
  | _, _, .cons q h => .cons (Rp.mono f _ _ q) (KRp.mono f h)
end
end
def tupD (k : List Key) : PyData := .tuple (k.map keyD)
/-- own dicts as trees -/
def mK1 (kvs : List (Key × PyData)) : T := .m false (kvs.map fun p => keyD p.1) ((kvs.map (·.2)).map T.d)
def mK2 (kvs : List (List Key × PyData)) : T := .m true (kvs.map fun p => tupD p.1) ((kvs.map (·.2)).map T.d)
section
variable {K : PySem.W.Frag} {H : Hp} {O : Own} {r : Nat} {p : List Nat} {v : V}
end
/-- a node without nodes in it is written anew -/
theorem relUpdF {K : PySem.W.Frag} {C : Ctx} {n m : Nat} {σ : L2.St} {H : Hp} {O : Own} {ρ : Rho} (R : Rel K C m σ H O ρ) (hn : C.N ≤ n) {r : Nat} {p : List Nat} {a : Addr} {u u' : T} {o' : HO} (g : getT ρ r p = some u) (hu : ∀ q z, subT u q = some z → isNode z = true → q = []) (hnu : isNode u = true) (hnu' : isNode u' = true) (ha : O a = .at r p) (ho : ownable o')
    (tr' : Tr K (upd H a o') (cut n O) r p (.ref a) u') : Rel K C n σ (upd H a o') (cut n O) (TX.putAt ρ r p u') ∧ Frm C.N n H O (upd H a o') (cut n O) := by
  have R0 := R.cut (n := n) hn
  have hr : r < C.N := let ⟨_, e, _⟩ := getT_some g; R.slt e
  have ha1 : cut n O a = .at r p := cut_at.mpr ⟨ha, Nat.lt_of_lt_of_le hr hn⟩
  have ne : ∀ {b : Addr}, cut n O b = .free → b ≠ a := fun {b} h e => by subst e; rw [ha1] at h; cases h
  have ne2 : ∀ {b : Addr}, cut n O b = .foreign → b ≠ a := fun {b} h e => by subst e; rw [ha1] at h; cases h
  refine ⟨R0.upd hn g (fun b o e1 e2 => ⟨by rw [upd_ne (ne e2)]; exact e1, e2⟩) (fun b o e1 e2 => ⟨by rw [upd_ne (ne2 e2)]; exact e1, e2⟩) (fun b o r' p' e1 e2 l h => ⟨?_, e2⟩) (fun b r' p' e _ => e) (fun w h => ?_)
    (fun b h => ?_) R0.lt R0.inj (fun b q e => ?_) (fun b r' p' e _ => .inr e) (fun b e => e), ⟨fun b o e1 e2 => ?_, fun b r' p' e l => cut_at.mpr ⟨e, Nat.lt_of_lt_of_le l hn⟩, fun b o r' p' e1 e2 l1 l2 => ?_, fun b r' p' e _ _ => (cut_at.mp e).1⟩⟩
  · rw [upd_ne (fun z => h (by subst z; rw [ha1] at e2; cases e2; exact ⟨rfl, List.prefix_refl _⟩))]; exact e1
  · obtain ⟨a', rfl, e⟩ := tr_root h hnu
    cases R0.inj a' a r p e ha1
    exact tr'
  · by_cases hb : b = a
    · subst hb; exact ⟨_, upd_same, ho⟩
    · obtain ⟨o, e, w⟩ := R0.nt b h
      exact ⟨o, by rw [upd_ne hb]; exact e, w⟩
  · obtain ⟨t, z, e1, e2, e3⟩ := R0.val b r (p ++ q) e hr
    obtain ⟨t', e4, u0, e5, e6⟩ := getT_some g
    rw [e1] at e4; cases e4
    rw [subT_append e5] at e2
    obtain ⟨z', e7, e8⟩ := sub_strip e2 e3
    rw [e6] at e7
    cases hu q z' e7 e8
    exact ⟨_, rfl, hnu'⟩
  · have : b ≠ a := fun z => by subst z; rw [ha] at e2; cases e2
    exact ⟨by rw [upd_ne this]; exact e1, cut_free e2⟩
  · have : b ≠ a := fun z => by subst z; rw [ha] at e2; cases e2; omega
    exact ⟨by rw [upd_ne this]; exact e1, cut_at.mpr ⟨e2, l2⟩⟩
section
variable {X : Cx} {pos : Pos} {a b c e o i : Expr} {ta tb tc : TwE}
/-! ### {} -/
/-! ### a locked dict, as data -/
section
variable {K : PySem.W.Frag} {H : Hp} {O : Own}
end
def asD : T → T
  | .lk _ ks xs => .d (.dict (ks.zip xs))
  | t => t
/-! ### what is at a key -/
/-- the dict a value shows: keys ints and texts | tuples of these -/
def Dk1 (ρ : Rho) (t : T) (kvs : List (Key × PyData)) : Prop := (∃ r p, t = .a r p ∧ getT ρ r p = some (mK1 kvs)) ∨ (kvs ≠ [] ∧ asD t = .d (.dict (kvs.map fun p => (keyD p.1, p.2))))
def Dk2 (ρ : Rho) (t : T) (kvs : List (List Key × PyData)) : Prop := (∃ r p, t = .a r p ∧ getT ρ r p = some (mK2 kvs)) ∨ (kvs ≠ [] ∧ asD t = .d (.dict (kvs.map fun p => (tupD p.1, p.2))))
def dgK1 (t u : T) (ρ : Rho) (Q : T → Rho → Prop) : Prop := ∃ kvs k x, Dk1 ρ t kvs ∧ vw ρ u = some (keyD k) ∧ lookD kvs k = some x ∧ Q (.d x) ρ
def dgK2 (t u : T) (ρ : Rho) (Q : T → Rho → Prop) : Prop := ∃ kvs k x, Dk2 ρ t kvs ∧ vw ρ u = some (tupD k) ∧ lookD kvs k = some x ∧ Q (.d x) ρ
def wDg1 (ta tb : TwE) : TwE := w2 ta tb dgK1
def wDg2 (ta tb : TwE) : TwE := w2 ta tb dgK2
/-! ### d[k] = data -/
def dpK1 (x : PyData) (t u : T) (ρ : Rho) (N : Rho → Prop) : Prop := ∃ r q kvs k, t = .a r q ∧ getT ρ r q = some (mK1 kvs) ∧ vw ρ u = some (keyD k) ∧ kvs.length < sizeLine ∧ N (TX.putAt ρ r q (mK1 (putD kvs k x)))
def dpK2 (x : PyData) (t u : T) (ρ : Rho) (N : Rho → Prop) : Prop := ∃ r q kvs k, t = .a r q ∧ getT ρ r q = some (mK2 kvs) ∧ vw ρ u = some (tupD k) ∧ kvs.length < sizeLine ∧ N (TX.putAt ρ r q (mK2 (putD kvs k x)))
def wDp1 (ta tb : TwE) : TwG := fun x ρ Q E => ta ρ (fun t ρ1 => tb ρ1 (fun u ρ2 => dpK1 x t u ρ2 Q) E) E
def wDp2 (ta tb : TwE) : TwG := fun x ρ Q E => ta ρ (fun t ρ1 => tb ρ1 (fun u ρ2 => dpK2 x t u ρ2 Q) E) E
end
end TX

/-! More plain steps: dicts, comprehensions with several names, in. -/
namespace TX
open PySem PySem.Spec L2
section
variable {ρ ρ' : Rho} {Q : T → Rho → Prop} {E : ExK} {t u : T} {ts us : List T} {x y : PyData} {i j : Int} {k n r s : Nat} {p q : List Nat} {ds : List PyData} {ta tb tc te : TwE} {tt : TwT} {D : EndsT} {b : Bool} {g : TwG}
theorem xDg1 (h : ta ρ (fun t ρ1 => tb ρ1 (fun u ρ2 => dgK1 t u ρ2 Q) E) E) : wDg1 ta tb ρ Q E := h
theorem xDg2 (h : ta ρ (fun t ρ1 => tb ρ1 (fun u ρ2 => dgK2 t u ρ2 Q) E) E) : wDg2 ta tb ρ Q E := h
theorem xDp1 {N : Rho → Prop} (h : ta ρ (fun t ρ1 => tb ρ1 (fun u ρ2 => dpK1 x t u ρ2 N) E) E) : wDp1 ta tb x ρ N E := h
theorem xDp2 {N : Rho → Prop} (h : ta ρ (fun t ρ1 => tb ρ1 (fun u ρ2 => dpK2 x t u ρ2 N) E) E) : wDp2 ta tb x ρ N E := h
end
end TX

/-! a, b = e1, e2. -/
namespace TX
open PySem PySem.Spec L2
section
variable {K : PySem.W.Frag} {C : Ctx} {n m : Nat} {σ : L2.St} {H H' : Hp} {O O' : Own} {ρ : Rho}
/-- slot i takes the tree at root m, the last one on the way -/
theorem relStoreM (R : Rel K C (m + 1) σ H O ρ) (hm : C.N ≤ m) {i : Nat} (hi : i < C.N) (hio : i ∉ C.io) {v : V} {t : T} (V1 : Val K H O m v t) (ha : ∀ r p, t ≠ .a r p) :
    Rel K C m (σ.set i (some v)) H (mvR m i (dropR i O)) (ρ.set i (some t)) ∧ Fre H O H (mvR m i (dropR i O)) ∧ ∀ b r p, C.N ≤ r → r < m → (mvR m i (dropR i O) b = .at r p ↔ O b = .at r p) := by
  have hl : i < σ.length := by rw [R.ln]; exact hi
  have hl' : i < ρ.length := by rw [R.lr]; exact hi
  have tr : Tr K H O m [] v t ∧ ∀ b p, O b = .at m p → ∃ z, subT t p = some z ∧ isNode z = true := by
    cases t with
    | a r p => exact absurd rfl (ha r p)
    | _ => exact V1
  obtain ⟨V2, V3⟩ := tr
  have hne : m ≠ i := by omega
  have up : ∀ {b : Addr} {r : Nat} {p : List Nat}, O b = .at r p → r ≠ i → r ≠ m → mvR m i (dropR i O) b = .at r p := fun {b r p} e1 e2 e3 => mvR_ne (dropR_at.mpr ⟨e1, e2⟩) e3
  have upN : ∀ {b : Addr} {p : List Nat}, O b = .at m p → mvR m i (dropR i O) b = .at i p := fun {b p} e => mvR_root (dropR_at.mpr ⟨e, hne⟩)
  have dn : ∀ {b : Addr} {r : Nat} {p : List Nat}, mvR m i (dropR i O) b = .at r p → (r = i ∧ O b = .at m p) ∨ (r ≠ i ∧ r ≠ m ∧ O b = .at r p) := fun {b r p} e => by
    rcases mvR_at e with ⟨h1, h2⟩ | ⟨h1, h2⟩
    · exact .inl ⟨h1, (dropR_at.mp h2).1⟩
    · exact .inr ⟨(dropR_at.mp h2).2, h1, (dropR_at.mp h2).1⟩
  have fr : ∀ {b : Addr}, O b = .free → mvR m i (dropR i O) b = .free := fun {b} e => mvR_free.mpr (dropR_free e)
  have ff : ∀ {b : Addr}, O b = .foreign ↔ mvR m i (dropR i O) b = .foreign := fun {b} => by rw [mvR_foreign, dropR_foreign]
  refine ⟨⟨fun b o e1 e2 => ?_, fun b z => R.nt b fun q => z (fr q), fun b r p e => ?_, fun a b r p e1 e2 => ?_, fun b r p e l => ?_, by rw [List.length_set]; exact R.ln, by rw [List.length_set]; exact R.lr,
    fun j u e => ?_, hm, fun b e => R.fo b (ff.mpr e), fun b j p e => ?_, R.sm⟩, fun b o e1 e2 => ⟨e1, fr e2⟩, fun b r p l1 l2 => ⟨fun e => ?_, fun e => up e (by omega) (by omega)⟩⟩
  · obtain ⟨z1, z2⟩ := R.fr b o e1 e2
    refine ⟨z1, ?_⟩
    rcases e2 with e2 | e2
    · rw [e2] at z2 ⊢; exact fr z2
    · rw [e2] at z2 ⊢; exact ff.mp z2
  · rcases dn e with ⟨rfl, _⟩ | ⟨_, h2, h3⟩
    · omega
    · have := R.lt b r p h3; omega
  · rcases dn e1 with ⟨h1, h2⟩ | ⟨h1, _, h2⟩ <;> rcases dn e2 with ⟨h3, h4⟩ | ⟨h3, _, h4⟩
    · exact R.inj a b _ _ h2 h4
    · exact absurd h1 h3
    · exact absurd h3 h1
    · exact R.inj a b _ _ h2 h4
  · rcases dn e with ⟨rfl, h2⟩ | ⟨h1, _, h2⟩
    · obtain ⟨z, z1, z2⟩ := V3 b p h2
      exact ⟨t, z, by rw [set_get hl', if_pos rfl], z1, z2⟩
    · obtain ⟨t', z, g1, g2, g3⟩ := R.val b r p h2 l
      exact ⟨t', z, by rw [set_get hl', if_neg h1]; exact g1, g2, g3⟩
  · rw [set_get hl'] at e
    by_cases hj : j = i
    · subst hj
      rw [if_pos rfl] at e
      cases e
      exact ⟨v, by rw [set_get hl, if_pos rfl], Tr.move (r' := j) (p0 := []) (p1 := []) (fun b o e1 e2 => ⟨e1, fr e2⟩) (fun b o q e1 e2 => ⟨e1, upN e2⟩) t [] v V2⟩
    · rw [if_neg hj] at e
      obtain ⟨w, h2, h3⟩ := R.sl j u e
      have : j < C.N := R.slt e
      exact ⟨w, by rw [set_get hl, if_neg hj]; exact h2, Tr.move (r' := j) (p0 := []) (p1 := []) (fun b o e1 e2 => ⟨e1, fr e2⟩) (fun b o q e1 e2 => ⟨e1, up e2 hj (by omega)⟩) u [] w h3⟩
  · obtain ⟨z1, z2⟩ := R.pz b j p e
    exact ⟨z1, up z2 (fun z => hio (z ▸ R.sm.2 b j p e)) (by omega)⟩
  · rcases dn e with ⟨h, _⟩ | ⟨_, _, h⟩
    · omega
    · exact h
end
section
variable {X : Cx} {io : List Nat} {a b : Expr} {tas : TwA} {px py pt pt2 pos : Pos} {kt k2 : Nat}
def paK (i j : Nat) (D : EndsT) (ts : List T) (ρ : Rho) : Prop := ∃ t u, ts = [t, u] ∧ noAl t = true ∧ noAl u = true ∧ D.nx ((ρ.set i (some t)).set j (some u))
def wPar (i j : Nat) (tas : TwA) : TwS := fun D ρ => tas ρ (fun ts ρ1 => paK i j D ts ρ1) D.ex
theorem noAl_ne {t : T} (h : noAl t = true) : ∀ r p, t ≠ .a r p := fun r p e => by subst e; cases h
theorem ls_par {i j : Nat} {x y : Str} (hc : X.calm = true) (hN : X.N.Nodup) (hi : X.N[i]? = some x) (hj : X.N[j]? = some y) (hij : i ≠ j) (hx : X.env.scope.names.lookup x = some .local) (hy : X.env.scope.names.lookup y = some .local) (ha : LA X [a, b] tas)
    (hw : swappedStores [.Tuple [.Name x px, .Name y py] kt pt] (.Tuple [a, b] k2 pt2) X.env = pure (some [x, y])) (hio : i ∉ io := by decide) (hjo : j ∉ io := by decide)
    (hs : swapsWithSole [.Tuple [.Name x px, .Name y py] kt pt] (.Tuple [a, b] k2 pt2) pos.line X.env = pure false := by rfl) : LS X io (.Assign [.Tuple [.Name x px, .Name y py] kt pt] (.Tuple [a, b] k2 pt2) pos) (wPar i j tas) := by
  refine ⟨fun D D' ρ l q => ha.mono ρ _ _ _ _ (fun ts ρ1 ⟨t, u, e, h1, h2, q⟩ => ⟨t, u, e, h1, h2, l.nx _ q⟩) l.ex q, fun C W hC hio' tk hp => (ps_par hc hN hi hj hij hx hy (ha.run C W C.N hC (Nat.le_refl _) tk) hw hs).imp fun D σ H ⟨O, ρ, R, q⟩ => ?_⟩
  refine ⟨O, ρ, R, ha.mono ρ _ _ _ _ (fun ts ρ1 ⟨t, u, e, h1, h2, q⟩ => ?_) (fun _ _ z => z) q⟩
  subst e
  intro vs H1 O1 R1 F1 V1
  obtain ⟨v, w, rfl, V2, V3⟩ := V1.two
  have li := nlt hC hi
  have lj := nlt hC hj
  obtain ⟨R2, f2, k2'⟩ := relStoreM (m := C.N + 1) R1 (Nat.le_succ _) lj (by rw [hio']; exact hjo) V3 (noAl_ne h2)
  have V4 : Val X.K H1 (mvR (C.N + 1) j (dropR j O1)) C.N v t := by
    have gen : ∀ t : T, (Tr X.K H1 O1 C.N [] v t ∧ ∀ b p, O1 b = .at C.N p → ∃ z, subT t p = some z ∧ isNode z = true) → Tr X.K H1 (mvR (C.N + 1) j (dropR j O1)) C.N [] v t ∧ ∀ b p, mvR (C.N + 1) j (dropR j O1) b = .at C.N p → ∃ z, subT t p = some z ∧ isNode z = true := fun t h =>
      ⟨Tr.move (r' := C.N) (p0 := []) (p1 := []) (fun b o e1 e2 => ⟨e1, (f2 b o e1 e2).2⟩) (fun b o q e1 e2 => ⟨e1, (k2' b _ _ (Nat.le_refl _) (Nat.lt_succ_self _)).mpr e2⟩) t [] v h.1, fun b p e => h.2 b p ((k2' b _ _ (Nat.le_refl _) (Nat.lt_succ_self _)).mp e)⟩
    cases t with
    | a r p => cases h1
    | _ => exact gen _ V2
  obtain ⟨R3, f3, _⟩ := relStoreM (m := C.N) R2 (Nat.le_refl _) li (by rw [hio']; exact hio) V4 (noAl_ne h1)
  refine ⟨v, w, rfl, ?_⟩
  rw [List.set_comm _ _ (fun e => hij e.symm)] at R3
  rw [List.set_comm (i := j) (j := i) _ _ (fun e => hij e.symm)] at R3
  exact q _ H1 _ R3 ((F1.fre.trans f2).trans f3)
end
end TX

/-! A tuple turned round. -/
namespace TX
open PySem PySem.Spec L2 PyProof.Rows
section
variable {prog : Program} {w : World} {A : Around} {E : Value → Shared → Prop} {s : Shared}
end
section
variable {X : Cx} {e : Expr} {te : TE} {k : Nat} {p1 p2 p3 pos : Pos}
def wRevT (ta : TwE) : TwE := fun ρ Q E => ta ρ (fun t ρ1 => ∃ xs, t = .d (.tuple xs) ∧ Q (.d (.tuple xs.reverse)) ρ1) E
end
end TX

/-! Steps for pairs, for tuples turned round; keys in dicts. -/
namespace TX
open PySem PySem.Spec L2
section
variable {ρ : Rho} {Q : T → Rho → Prop} {E : ExK} {t u : T} {x : PyData} {i j : Nat} {ds : List PyData} {ta tb : TwE} {tas : TwA} {D : EndsT} {neg : Bool}
theorem xPar (h : tas ρ (paK i j D) D.ex) : wPar i j tas D ρ := h
theorem xPaK (ht : noAl t = true) (hu : noAl u = true) (q : D.nx ((ρ.set i (some t)).set j (some u))) : paK i j D [t, u] ρ := ⟨t, u, rfl, ht, hu, q⟩
def rtK2 (t : T) (ρ : Rho) (Q : T → Rho → Prop) : Prop := ∃ xs, t = .d (.tuple xs) ∧ Q (.d (.tuple xs.reverse)) ρ
theorem xRevT (h : ta ρ (fun t ρ1 => rtK2 t ρ1 Q) E) : wRevT ta ρ Q E := h
theorem xRevTK (q : Q (.d (.tuple ds.reverse)) ρ) : rtK2 (.d (.tuple ds)) ρ Q := ⟨ds, rfl, q⟩
/-- k in d | k not in d -/
def diK1 (neg : Bool) (u t : T) (ρ : Rho) (Q : T → Rho → Prop) : Prop := ∃ kvs k, Dk1 ρ t kvs ∧ vw ρ u = some (keyD k) ∧ Q (.d (.bool (neg != (lookD kvs k).isSome))) ρ
def diK2 (neg : Bool) (u t : T) (ρ : Rho) (Q : T → Rho → Prop) : Prop := ∃ kvs k, Dk2 ρ t kvs ∧ vw ρ u = some (tupD k) ∧ Q (.d (.bool (neg != (lookD kvs k).isSome))) ρ
def wDi1 (neg : Bool) (ta tb : TwE) : TwE := w2 ta tb (diK1 neg)
def wDi2 (neg : Bool) (ta tb : TwE) : TwE := w2 ta tb (diK2 neg)
theorem xDi1 (h : ta ρ (fun t ρ1 => tb ρ1 (fun u ρ2 => diK1 neg t u ρ2 Q) E) E) : wDi1 neg ta tb ρ Q E := h
theorem xDi2 (h : ta ρ (fun t ρ1 => tb ρ1 (fun u ρ2 => diK2 neg t u ρ2 Q) E) E) : wDi2 neg ta tb ρ Q E := h
end
section
variable {X : Cx} {pos : Pos} {a b : Expr} {ta tb : TwE}
end
end TX

/-! More plain steps. -/
namespace TX
open PySem PySem.Spec L2
section
variable {ρ ρ' : Rho} {Q : T → Rho → Prop} {QI : List PyData → Rho → Prop} {E : ExK} {t u : T} {ts us : List T} {x y : PyData} {i j : Int} {k n r s : Nat} {p q : List Nat} {ds es : List PyData} {ta tb tc : TwE} {tas : TwA} {b : Bool}
/-! ### walks over tuples, zip, range of two -/
def itK (t : T) (ρ : Rho) (QI : List PyData → Rho → Prop) : Prop := ∃ xs, t = .d (.tuple xs) ∧ QI xs ρ
theorem xITup (h : ta ρ (fun t ρ1 => itK t ρ1 QI) E) : wITup ta ρ QI E := h
theorem xITupK (q : QI ds ρ) : itK (.d (.tuple ds)) ρ QI := ⟨ds, rfl, q⟩
def izK (ts : List T) (ρ : Rho) (QI : List PyData → Rho → Prop) : Prop := ∃ t u xs ys, ts = [t, u] ∧ flatL t = some xs ∧ flatL u = some ys ∧ QI (zipD xs ys) ρ
theorem xIZip (h : tas ρ (fun ts ρ1 => izK ts ρ1 QI) E) : wIZip tas ρ QI E := h
def ir2K (ts : List T) (ρ : Rho) (QI : List PyData → Rho → Prop) : Prop := ∃ i j : Int, ts = [.d (.int i), .d (.int j)] ∧ (-(2 ^ 62) ≤ i ∧ i < 2 ^ 62 ∧ -(2 ^ 62) ≤ j ∧ j < 2 ^ 62) ∧ QI (rangeD i (j - i).toNat) ρ
theorem xIR2 (h : tas ρ (fun ts ρ1 => ir2K ts ρ1 QI) E) : wIR2 tas ρ QI E := h
/-! ### is none -/
def isNn : PyData → Bool
  | .none => true
  | _ => false
theorem fIsN_of {neg : Bool} {x : PyData} : fIsN neg x .none (.bool (neg != isNn x)) := ⟨rfl, by cases x <;> rfl⟩
theorem xIsNK {neg : Bool} (h : vw ρ t = some x) (q : Q (.d (.bool (neg != isNn x))) ρ) : opK (fIsN neg) t (.d .none) ρ Q := ⟨x, .none, _, h, rfl, fIsN_of, q⟩
/-! ### methods -/
theorem xRev2 {ts : List T} (g : getT ρ r p = some (.l (ds.map T.d))) (q : Q (.d .none) (TX.putAt ρ r p (.l (ds.reverse.map T.d)))) : kRev (.a r p) [] ρ Q := ⟨r, p, ds, rfl, rfl, g, q⟩
/-- the first value is handed in to be changed, the others are looked at -/
theorem xCaFV {np : Nat} {pre : List T → Prop} {post : List T → T → Rho → Prop} (g : ρ[r]? = some (some t)) (hn : isNode t = true) (h : argsF [0] ρ true 1 ts = some us) (hl : us.length + 1 = np) (ha : apartB (.a r [] :: ts) = true) (p : pre (t :: us))
    (q : ∀ u ρ', post (t :: us) u ρ' → ∃ v, ρ'[0]? = some (some v) ∧ isNode v = true ∧ immT v = true ∧ immT u = true ∧ noAl u = true ∧ Q u (ρ.set r (some v))) (hs : strip t = t := by rfl) : caK [0] np (SpP pre post) (.a r [] :: ts) ρ Q E := by
  refine ⟨true, t :: us, ?_, hl, ha, p, fun u ρ' z => ?_⟩
  · unfold argsF argF
    have : getT ρ r [] = some t := by unfold getT; rw [g]; show some (strip t) = _; rw [hs]
    simp only [List.contains_cons, BEq.rfl, Bool.true_or]
    rw [this]
    simp only
    rw [if_pos hn, h]
  · obtain ⟨v, h1, h2, h5, h6, h3, h4⟩ := q u ρ' z
    refine ⟨?_, fun _ => h6, h3, by rw [back_one h1 g hs]; exact h4⟩
    unfold ioOk
    simp only [List.all_cons, List.all_nil, Bool.and_true]
    rw [h1]
    simp [h2, h5]
end
theorem argV {ρ : Rho} {r : Nat} {t : T} {x : PyData} {io : List Nat} {i : Nat} {ts us : List T} (hi : io.contains i = false) (h : ρ[r]? = some (some t)) (e : erase t = some x) (hs : argsF io ρ true (i + 1) ts = some us) : argsF io ρ true i (.a r [] :: ts) = some (.d x :: us) := by
  unfold argsF argF
  have g : getT ρ r [] = some (strip t) := by unfold getT; rw [h]; rfl
  rw [hi, hs]
  simp only [g, erase_strip, e, Option.map_some]
theorem argD {ρ : Rho} {t : T} {x : PyData} {io : List Nat} {vu : Bool} {i : Nat} {ts us : List T} (hi : io.contains i = false) (ha : noAl t = true) (e : erase t = some x) (hs : argsF io ρ vu (i + 1) ts = some us) : argsF io ρ vu i (t :: ts) = some (.d x :: us) := by
  unfold argsF argF
  rw [hi, hs]
  cases t with
  | a r p => cases ha
  | raw v => cases e
  | fz v => cases e
  | ex v => cases e
  | _ => simp only [e, Option.map_some]
theorem argNil {ρ : Rho} {io : List Nat} {vu : Bool} {i : Nat} : argsF io ρ vu i [] = some [] := rfl
end TX

/-! list(range(n)); a dict of one pair of constants. -/
namespace TX
open PySem PySem.Spec L2 PyProof.Rows
section
variable {X : Cx} {p pos : Pos} {a b c e o i k v : Expr} {ta tb tc : TwE}
def wListR (ta : TwE) : TwE := fun ρ Q E => ta ρ (fun t ρ1 => ∃ n : Int, t = .d (.int n) ∧ RgOk 0 n ∧ Q (.l ((rangeD 0 n.toNat).map T.d)) ρ1) E
def lrK (t : T) (ρ : Rho) (Q : T → Rho → Prop) : Prop := ∃ n : Int, t = .d (.int n) ∧ RgOk 0 n ∧ Q (.l ((rangeD 0 n.toNat).map T.d)) ρ
theorem xListR {ρ : Rho} {Q : T → Rho → Prop} {E : ExK} (h : ta ρ (fun t ρ1 => lrK t ρ1 Q) E) : wListR ta ρ Q E := h
end
end TX

/-! is True; slices of tuples; in a tuple; d.get(k), k not in d. -/
namespace TX
open PySem PySem.Spec L2 PyProof.Rows
def fIsB : PyData → PyData → PyData → Prop := fun x y z => ∃ a b, x = .bool a ∧ y = .bool b ∧ z = .bool (decide (a = b))
section
variable {ρ : Rho} {Q : T → Rho → Prop} {E : ExK} {t u : T} {x y : PyData} {ds : List PyData} {a b : Bool}
theorem xIsB (h1 : vw ρ t = some (.bool a)) (h2 : vw ρ u = some (.bool b)) (q : Q (.d (.bool (decide (a = b)))) ρ) : opK fIsB t u ρ Q := ⟨_, _, _, h1, h2, ⟨a, b, rfl, rfl, rfl⟩, q⟩
end
/-! ### in a tuple -/
def fInT (neg : Bool) : PyData → PyData → PyData → Prop := fun x y z => ∃ ds, y = .tuple ds ∧ SeqAt.shaped x = true ∧ SeqAt.shaped y = true ∧ z = .bool (neg != (ds.any fun w => PyData.eqv w x))
def rInTX (K : PySem.W.Frag) (neg : Bool) : R2 := fun x y H Q => ∃ d ds, Rp K H x d ∧ Rp K H y (.tuple ds) ∧ SeqAt.shaped d = true ∧ SeqAt.shaped (.tuple ds) = true ∧ Q (.bl (neg != (ds.any fun z => PyData.eqv z d))) H
section
variable {X : Cx}
theorem room_in_shapedT {ds : List PyData} {d : PyData} {A : Around} (sd : SeqAt.shaped d = true) (hu : A.units + 65 < cLine) : A.units + 1 + min (PyData.depthAll ds) d.depth < cLine := by
  have : d.depth ≤ 64 := by
    have := (Bool.and_eq_true_iff.mp sd).2
    exact of_decide_eq_true this
  omega
theorem op_inT (hu : X.A.units + 65 < cLine) : OpR X (compareOp .In) (rInTX X.K false) := by
  intro pins s σ H x y v u Q I rx ry h
  obtain ⟨d, ds, hd, he, sd, se, q⟩ := h
  obtain ⟨as, r1, _⟩ := Rp.reads I d x v hd rx
  obtain ⟨bs, r2, _⟩ := Rp.reads I (.tuple ds) y u he ry
  exact SeqAt.in_tuple_reads r2 r1 (SeqAt.canLay_of_shaped se) (SeqAt.canLay_of_shaped sd) (room_in_shapedT sd hu) ⟨.bl _, H, I, rfl, by simpa using q⟩
theorem od_InT {K : PySem.W.Frag} {neg : Bool} : OpD K (rInTX K neg) (fInT neg) := by
  rintro H v u x y z Q h1 h2 ⟨ds, rfl, s1, s2, rfl⟩ q
  exact ⟨x, ds, h1, h2, s1, s2, q _ (.bl _)⟩
theorem xInT {ρ : Rho} {Q : T → Rho → Prop} {t u : T} {x : PyData} {ds : List PyData} {neg : Bool} (h1 : vw ρ t = some x) (h2 : vw ρ u = some (.tuple ds)) (s1 : SeqAt.shaped x = true) (s2 : SeqAt.shaped (.tuple ds) = true) (q : Q (.d (.bool (neg != (ds.any fun w => PyData.eqv w x)))) ρ) : opK (fInT neg) t u ρ Q := ⟨_, _, _, h1, h2, ⟨ds, rfl, s1, s2, rfl⟩, q⟩
end
/-! ### a tuple's slice -/
section
variable {X : Cx} {a b o e : Expr} {ta tb : TwE} {tl th : TwO} {lo hi : Option Expr} {pos p2 apos cpos : Pos}
def wSlT (ta : TwE) (tl th : TwO) : TwE := fun ρ Q E => ta ρ (fun t ρ1 => tl ρ1 (fun lo ρ2 => th ρ2 (fun hi ρ3 => ∃ xs, t = .d (.tuple xs) ∧ Q (.d (.tuple (cutD xs lo hi))) ρ3) E) E) E
def slTK (t : T) (lo hi : Option Int) (ρ : Rho) (Q : T → Rho → Prop) : Prop := ∃ xs, t = .d (.tuple xs) ∧ Q (.d (.tuple (cutD xs lo hi))) ρ
theorem xSlT {ρ : Rho} {Q : T → Rho → Prop} {E : ExK} (h : ta ρ (fun t ρ1 => tl ρ1 (fun lo ρ2 => th ρ2 (fun hi ρ3 => slTK t lo hi ρ3 Q) E) E) E) : wSlT ta tl th ρ Q E := h
theorem xSlTK {ρ : Rho} {Q : T → Rho → Prop} {lo hi : Option Int} {ds : List PyData} (q : Q (.d (.tuple (cutD ds lo hi))) ρ) : slTK (.d (.tuple ds)) lo hi ρ Q := ⟨_, rfl, q⟩
/-! ### d.get(k) -/
def dctTy (ρ : Rho) (t : T) : Prop := (∃ r p tk ks xs, t = .a r p ∧ getT ρ r p = some (.m tk ks xs)) ∨ ∃ ps, t = .d (.dict ps)
def gtK1 (t u : T) (ρ : Rho) (Q : T → Rho → Prop) : Prop := ∃ kvs k, Dk1 ρ t kvs ∧ vw ρ u = some (keyD k) ∧ Q (.d ((lookD kvs k).getD .none)) ρ
def gtK2 (t u : T) (ρ : Rho) (Q : T → Rho → Prop) : Prop := ∃ kvs k, Dk2 ρ t kvs ∧ vw ρ u = some (tupD k) ∧ Q (.d ((lookD kvs k).getD .none)) ρ
def wGt (k : T → T → Rho → (T → Rho → Prop) → Prop) (ta tb : TwE) : TwE := fun ρ Q E => ta ρ (fun t ρ1 => dctTy ρ1 t ∧ tb ρ1 (fun u ρ2 => k t u ρ2 Q) E) E
def wGt1 (ta tb : TwE) : TwE := wGt gtK1 ta tb
def wGt2 (ta tb : TwE) : TwE := wGt gtK2 ta tb
def gtA (tb : TwE) (k : T → T → Rho → (T → Rho → Prop) → Prop) (t : T) (ρ1 : Rho) (Q : T → Rho → Prop) (E : ExK) : Prop := dctTy ρ1 t ∧ tb ρ1 (fun u ρ2 => k t u ρ2 Q) E
theorem xGt1 {ρ : Rho} {Q : T → Rho → Prop} {E : ExK} (h : ta ρ (fun t ρ1 => gtA tb gtK1 t ρ1 Q E) E) : wGt1 ta tb ρ Q E := h
theorem xGt2 {ρ : Rho} {Q : T → Rho → Prop} {E : ExK} (h : ta ρ (fun t ρ1 => gtA tb gtK2 t ρ1 Q E) E) : wGt2 ta tb ρ Q E := h
theorem xGtA {ρ : Rho} {Q : T → Rho → Prop} {E : ExK} {k : T → T → Rho → (T → Rho → Prop) → Prop} {r : Nat} {p : List Nat} {tk : Bool} {ks : List PyData} {xs : List T} (g : getT ρ r p = some (.m tk ks xs)) (q : tb ρ (fun u ρ2 => k (.a r p) u ρ2 Q) E) : gtA tb k (.a r p) ρ Q E := ⟨.inl ⟨r, p, tk, ks, xs, rfl, g⟩, q⟩
theorem xGtD {ρ : Rho} {Q : T → Rho → Prop} {E : ExK} {k : T → T → Rho → (T → Rho → Prop) → Prop} {ps : List (PyData × PyData)} (q : tb ρ (fun u ρ2 => k (.d (.dict ps)) u ρ2 Q) E) : gtA tb k (.d (.dict ps)) ρ Q E := ⟨.inr ⟨ps, rfl⟩, q⟩
/-! ### k not in d -/
end
end TX

/-! a, b = a list; look-ups in dicts that may be empty. -/
namespace TX
open PySem PySem.Spec L2 PyProof.Rows
section
variable {X : Cx} {es : List Expr} {tgs : TwGs} {s1 : List Nat} {pos : Pos}
def wGLst (k : Nat) (t : TwGs) : TwG := fun x ρ Q E => ∃ xs, x = .list xs ∧ xs.length = k ∧ t xs ρ Q E
theorem lg_lst {kk n : Nat} (hc : X.calm = true) (h : LGs X s1 es tgs) (hn : (assignEach es X.env).length = n := by rfl) (hst : (assignEach es X.env).findIdx? (·.1) = none := by rfl) : LG X s1 (.Tuple es kk pos) (wGLst n tgs) := by
  refine ⟨fun x ρ Q Q' E E' k he ⟨xs, e, e2, q⟩ => ⟨xs, e, e2, h.mono _ _ _ _ _ _ k he q⟩, fun C W m hC hm tk => (pg_lst hc (h.run C W m hC hm tk) hn hst).imp fun v σ H Q ⟨O, ρ, x, R, rp, xs, e1, e2, q⟩ => ?_⟩
  subst e1
  cases rp with
  | lst h1 h2 => exact ⟨_, _, rfl, .of (msk_some h1).2, by rw [h2.length]; exact e2, O, ρ, xs, R, h2, q⟩
theorem xGLst {ρ : Rho} {E : ExK} {ds : List PyData} {k : Nat} {tg : TwGs} {N : Rho → Prop} (h : ds.length = k) (q : tg ds ρ N E) : wGLst k tg (.list ds) ρ N E := ⟨ds, rfl, h, q⟩
end
section
variable {X : Cx} {x : Str} {pos : Pos}
theorem le_gS {i : Str} (hg : Gl X x) (hm : ∃ k, X.mg x = some (.str i k)) (hd : (x == ("__debug__" : Str)) = false := by decide) : LE X (.Name x pos) (wC (.d (.str i))) := let ⟨k, h⟩ := hm; le_sc (.str i) (pe_glob hg h ⟨k, rfl⟩ hd)
end
/-! ### look-ups in dicts that may be empty -/
section
variable {X : Cx} {pins : List (Addr × Obj)} {σ : L2.St} {H : Hp} {s : Shared} {a : Addr} {y : V} {u : Value} {A : Around} {E : Value → Shared → Prop}
end
section
variable {X : Cx} {o e f i : Expr} {apos cpos : Pos} {td ty tx : TE}
end
/-! ### over trees -/
def Dk1E (ρ : Rho) (t : T) (kvs : List (Key × PyData)) : Prop := (∃ r p, t = .a r p ∧ getT ρ r p = some (mK1 kvs)) ∨ asD t = .d (.dict (kvs.map fun p => (keyD p.1, p.2)))
def Dk2E (ρ : Rho) (t : T) (kvs : List (List Key × PyData)) : Prop := (∃ r p, t = .a r p ∧ getT ρ r p = some (mK2 kvs)) ∨ asD t = .d (.dict (kvs.map fun p => (tupD p.1, p.2)))
def ge1 (t u : T) (ρ : Rho) (Q : T → Rho → Prop) : Prop := ∃ kvs k, Dk1E ρ t kvs ∧ vw ρ u = some (keyD k) ∧ Q (.d ((lookD kvs k).getD .none)) ρ
def ge2 (t u : T) (ρ : Rho) (Q : T → Rho → Prop) : Prop := ∃ kvs k, Dk2E ρ t kvs ∧ vw ρ u = some (tupD k) ∧ Q (.d ((lookD kvs k).getD .none)) ρ
def wGe1 (ta tb : TwE) : TwE := wGt ge1 ta tb
def wGe2 (ta tb : TwE) : TwE := wGt ge2 ta tb
section
variable {X : Cx} {a b o e : Expr} {ta tb : TwE} {pos apos cpos : Pos}
theorem xGe1 {ρ : Rho} {Q : T → Rho → Prop} {E : ExK} (h : ta ρ (fun t ρ1 => gtA tb ge1 t ρ1 Q E) E) : wGe1 ta tb ρ Q E := h
theorem xGe2 {ρ : Rho} {Q : T → Rho → Prop} {E : ExK} (h : ta ρ (fun t ρ1 => gtA tb ge2 t ρ1 Q E) E) : wGe2 ta tb ρ Q E := h
/-- k in d | k not in d -/
def ie1 (neg : Bool) (u t : T) (ρ : Rho) (Q : T → Rho → Prop) : Prop := ∃ kvs k, Dk1E ρ t kvs ∧ vw ρ u = some (keyD k) ∧ Q (.d (.bool (neg != (lookD kvs k).isSome))) ρ
def ie2 (neg : Bool) (u t : T) (ρ : Rho) (Q : T → Rho → Prop) : Prop := ∃ kvs k, Dk2E ρ t kvs ∧ vw ρ u = some (tupD k) ∧ Q (.d (.bool (neg != (lookD kvs k).isSome))) ρ
def wIe1 (neg : Bool) (ta tb : TwE) : TwE := w2 ta tb (ie1 neg)
def wIe2 (neg : Bool) (ta tb : TwE) : TwE := w2 ta tb (ie2 neg)
theorem xIe1 {ρ : Rho} {Q : T → Rho → Prop} {E : ExK} {neg : Bool} (h : ta ρ (fun t ρ1 => tb ρ1 (fun u ρ2 => ie1 neg t u ρ2 Q) E) E) : wIe1 neg ta tb ρ Q E := h
theorem xIe2 {ρ : Rho} {Q : T → Rho → Prop} {E : ExK} {neg : Bool} (h : ta ρ (fun t ρ1 => tb ρ1 (fun u ρ2 => ie2 neg t u ρ2 Q) E) E) : wIe2 neg ta tb ρ Q E := h
end
end TX

/-! Dicts by comprehensions: values data; {k: [] for ..}: values lists of one's own. -/
namespace TX
open PySem PySem.Spec L2 PyProof.Rows
section
variable {K : PySem.W.Frag} {C : Ctx} {n m : Nat} {σ : L2.St} {H : Hp} {O : Own} {ρ : Rho}
end
/-! ### {k: v for ..}, v data -/
section
variable {wi : TwI} {g : TwG} {tt : TwT} {tk tv : TwE}
def wDc (wi : TwI) (g : TwG) (tt : TwT) (tk tv : TwE) (vs : List Nat) : TwE := fun ρ Q E => wi ρ (fun xs ρ1 => noNd ρ1 vs ∧ xs.length ≤ 1000000 ∧ ∃ P : Nat → List (Key × PyData) → Rho → Prop, P 0 [] (wipeR ρ1 vs) ∧
  (∀ i x acc ρ2, xs[i]? = some x → P i acc ρ2 → g x ρ2 (fun ρ3 => tt ρ3 (fun b ρ4 => if b = true then tk ρ4 (fun t ρ5 => ∃ k, t = .d (keyD k) ∧ tv ρ5 (fun u ρ6 => noNd ρ6 vs ∧ ∃ y, erase u = some y ∧ P (i + 1) (putD acc k y) (wipeR ρ6 vs)) exN) exN else noNd ρ4 vs ∧ P (i + 1) acc (wipeR ρ4 vs)) exN) exN) ∧
  ∀ acc ρ2, P xs.length acc ρ2 → Q (mK1 acc) (restR ρ1 ρ2 vs)) E
theorem KRp.fre {K : PySem.W.Frag} {κ : Type} [DecidableEq κ] {H H' : Hp} {O O' : Own} (f : Fre H O H' O') {t : List (κ × V)} {u : List (κ × PyData)} (h : KRp K (msk O H) t u) : KRp K (msk O' H') t u :=
  KRp.mono (fun b o e => by obtain ⟨e1, e2⟩ := msk_some e; obtain ⟨z1, z2⟩ := f b o e2 e1; rw [msk_of z2]; exact z1) h
end
section
variable {X : Cx} {kx vx tg iter : Expr} {ifs : List Expr} {scope : Scope} {own : List (Str × Nat)} {pos : Pos} {wi : TwI} {g : TwG} {tt : TwT} {tk tv : TwE}
end
end TX

/-! {k: [] for ..}: the lists are the dict's own; d[k] as a place. -/
namespace TX
open PySem PySem.Spec L2 PyProof.Rows
section
variable {wi : TwI} {g : TwG} {tk : TwE}
def mE (acc : List Int) : T := .m false (acc.map PyData.int) (acc.map fun _ => .l [])
def wDcL (wi : TwI) (g : TwG) (tk : TwE) (vs : List Nat) : TwE := fun ρ Q E => wi ρ (fun xs ρ1 => noNd ρ1 vs ∧ xs.length ≤ 1000000 ∧ ∃ P : Nat → List Int → Rho → Prop, P 0 [] (wipeR ρ1 vs) ∧
  (∀ i x acc ρ2, xs[i]? = some x → P i acc ρ2 → g x ρ2 (fun ρ3 => tk ρ3 (fun t ρ5 => noNd ρ5 vs ∧ ∃ k, t = .d (.int k) ∧ k ∉ acc ∧ P (i + 1) (acc ++ [k]) (wipeR ρ5 vs)) exN) exN) ∧
  ∀ acc ρ2, P xs.length acc ρ2 → Q (mE acc) (restR ρ1 ρ2 vs)) E
def kl (acc : List Int) (ps : List Addr) : List (Key × V) := List.zipWith (fun k p => (.inl k, .ref p)) acc ps
end
section
variable {X : Cx} {kx tg iter : Expr} {scope : Scope} {own : List (Str × Nat)} {pos pos2 : Pos} {wi : TwI} {g : TwG} {tk : TwE}
end
end TX

/-! d[k]: a place in a dict of one's own whose values are one's own. -/
namespace TX
open PySem PySem.Spec L2 PyProof.Rows
/-- the place of the first such key -/
def kix (ks : List Int) (k : Int) : Nat := match ks with
  | [] => 0
  | c :: r => if c = k then 0 else kix r k + 1
def dpl (t u : T) (ρ : Rho) (Q : T → Rho → Prop) : Prop := ∃ r p ks ts k c, t = .a r p ∧ getT ρ r p = some (.m false (List.map PyData.int ks) ts) ∧ vw ρ u = some (.int k) ∧ k ∈ ks ∧ ts[kix ks k]? = some c ∧ isNode c = true ∧ Q (.a r (p ++ [kix ks k])) ρ
def wDpl (ta tb : TwE) : TwE := w2 ta tb dpl
section
variable {X : Cx} {a b : Expr} {ta tb : TwE} {pos : Pos}
theorem xDpl {ρ : Rho} {Q : T → Rho → Prop} {E : ExK} (h : ta ρ (fun t ρ1 => tb ρ1 (fun u ρ2 => dpl t u ρ2 Q) E) E) : wDpl ta tb ρ Q E := h
end
end TX

/-! name = {.. for ..}. -/
namespace TX
open PySem PySem.Spec L2 PyProof.Rows
section
variable {X : Cx} {i : Nat} {y : Str} {py : Pos} {kx vx tg iter : Expr} {ifs : List Expr} {scope : Scope} {own : List (Str × Nat)} {pos spos : Pos} {wi : TI} {g : TG} {tt : TT} {tk tv : TE}
end
section
variable {X : Cx} {io : List Nat} {kx vx tg iter : Expr} {ifs : List Expr} {scope : Scope} {own : List (Str × Nat)} {pos pos2 : Pos} {wi : TwI} {g : TwG} {tt : TwT} {tk tv : TwE}
end
section
variable {ρ : Rho} {Q : T → Rho → Prop} {E : ExK} {wi : TwI} {g : TwG} {tt : TwT} {tk tv : TwE} {vs : List Nat}
def dcLK (g : TwG) (tk : TwE) (vs : List Nat) (Q : T → Rho → Prop) (xs : List PyData) (ρ1 : Rho) : Prop := noNd ρ1 vs ∧ xs.length ≤ 1000000 ∧ ∃ P : Nat → List Int → Rho → Prop, P 0 [] (wipeR ρ1 vs) ∧
  (∀ i x acc ρ2, xs[i]? = some x → P i acc ρ2 → g x ρ2 (fun ρ3 => tk ρ3 (fun t ρ5 => noNd ρ5 vs ∧ ∃ k, t = .d (.int k) ∧ k ∉ acc ∧ P (i + 1) (acc ++ [k]) (wipeR ρ5 vs)) exN) exN) ∧
  ∀ acc ρ2, P xs.length acc ρ2 → Q (mE acc) (restR ρ1 ρ2 vs)
theorem xDcL (h : wi ρ (dcLK g tk vs Q) E) : wDcL wi g tk vs ρ Q E := h
def dcK (g : TwG) (tt : TwT) (tk tv : TwE) (vs : List Nat) (Q : T → Rho → Prop) (xs : List PyData) (ρ1 : Rho) : Prop := noNd ρ1 vs ∧ xs.length ≤ 1000000 ∧ ∃ P : Nat → List (Key × PyData) → Rho → Prop, P 0 [] (wipeR ρ1 vs) ∧
  (∀ i x acc ρ2, xs[i]? = some x → P i acc ρ2 → g x ρ2 (fun ρ3 => tt ρ3 (fun b ρ4 => if b = true then tk ρ4 (fun t ρ5 => ∃ k, t = .d (keyD k) ∧ tv ρ5 (fun u ρ6 => noNd ρ6 vs ∧ ∃ y, erase u = some y ∧ P (i + 1) (putD acc k y) (wipeR ρ6 vs)) exN) exN else noNd ρ4 vs ∧ P (i + 1) acc (wipeR ρ4 vs)) exN) exN) ∧
  ∀ acc ρ2, P xs.length acc ρ2 → Q (mK1 acc) (restR ρ1 ρ2 vs)
theorem xDc (h : wi ρ (dcK g tt tk tv vs Q) E) : wDc wi g tt tk tv vs ρ Q E := h
end
end TX

/-! k in d as a test. -/
namespace TX
open PySem PySem.Spec L2 PyProof.Rows
section
variable {X : Cx} {a b : Expr} {ta tb : TwE} {pos : Pos}
end
end TX

/-! A dict of data that is walked: locked while an expression or a statement runs. -/
namespace TX
open PySem PySem.Spec L2
/-! ### no locked dict in a tree -/
mutual
def nlk : T → Bool
  | .l ts => nlks ts
  | .m _ _ ts => nlks ts
  | .o _ _ ts => nlks ts
  | .lk _ _ _ => false
  | .n _ t => nlk t
  | _ => true
def nlks : List T → Bool
  | [] => true
  | t :: ts => nlk t && nlks ts
end
def nlkO : Option T → Bool
  | some t => nlk t
  | none => true
def nlkR (ρ : Rho) : Bool := ρ.all nlkO
theorem nlkR_get {ρ : Rho} (h : nlkR ρ = true) {i : Nat} {t : T} (e : ρ[i]? = some (some t)) : nlk t = true := by
  have := List.all_eq_true.mp h _ (List.mem_of_getElem? e)
  exact this
def isDk : HO → Bool
  | .dK _ => true
  | .dT _ => true
  | _ => false
/-- as it was, or a dict that was locked or unlocked -/
def Shf (o : HO) (x : Option HO) : Prop := x = some o ∨ ∃ od u, isDk u = true ∧ ((o = u ∧ x = some (.frz od u)) ∨ (o = .frz od u ∧ x = some u))
section
variable {K : PySem.W.Frag} {M M' : Hp}
theorem Shf.lst {xs : List V} {x : Option HO} (h : Shf (.lst xs) x) : x = some (.lst xs) := by
  rcases h with h | ⟨od, u, d, ⟨e, _⟩ | ⟨e, _⟩⟩
  · exact h
  · subst e; cases d
  · cases e
theorem Shf.tup {xs : List V} {x : Option HO} (h : Shf (.tup xs) x) : x = some (.tup xs) := by
  rcases h with h | ⟨od, u, d, ⟨e, _⟩ | ⟨e, _⟩⟩
  · exact h
  · subst e; cases d
  · cases e
theorem Shf.exv {cls : Value} {a : Addr} {x : Option HO} (h : Shf (ExV cls a) x) : x = some (ExV cls a) := by
  unfold ExV at h ⊢
  rcases h with h | ⟨od, u, d, ⟨e, _⟩ | ⟨e, _⟩⟩
  · exact h
  · subst e; cases d
  · cases e
theorem rd_sh (k : ∀ b o, M b = some o → Shf o (M' b)) {a : Addr} {u : HO} (hu : isDk u = true) (h : Rd M a u) : Rd M' a u := by
  rcases h with h | ⟨o, h⟩
  · rcases k _ _ h with z | ⟨od, w, d, ⟨e, z⟩ | ⟨e, z⟩⟩
    · exact .inl z
    · subst e; exact .inr ⟨_, z⟩
    · subst e; cases hu
  · rcases k _ _ h with z | ⟨od, w, d, ⟨e, z⟩ | ⟨e, z⟩⟩
    · exact .inr ⟨o, z⟩
    · subst e; cases d
    · cases e; exact .inl z
mutual
theorem Rp.sh (k : ∀ b o, M b = some o → Shf o (M' b)) : ∀ (d : PyData) (v : V), Rp K M v d → Rp K M' v d
  | .none, _, h => by cases h; exact .non
  | .bool b, _, h => by cases h; exact .bl b
  | .int b, _, h => by cases h; exact .int b
  | .str b, _, h => by cases h; exact .str b
  | .list ds, _, h => by
    cases h with
    | lst h1 h2 => exact .lst (k _ _ h1).lst (RpAll.sh k ds _ h2)
  | .tuple ds, _, h => by
    cases h with
    | tup h1 h2 => exact .tup (k _ _ h1).tup (RpAll.sh k ds _ h2)
  | .dict ps, _, h => by
    cases h with
    | dk h1 h2 h3 => exact .dk (rd_sh k rfl h1) h2 (RpAll.shKv k ps _ h3)
    | dt h1 h2 h3 => exact .dt (rd_sh k rfl h1) h2 (RpAll.shKv k ps _ h3)
theorem RpAll.sh (k : ∀ b o, M b = some o → Shf o (M' b)) : ∀ (ds : List PyData) (vs : List V), RpAll K M vs ds → RpAll K M' vs ds
  | [], _, h => by cases h; exact .nil
  | d :: ds, _, h => by
    cases h with
    | cons h1 h2 => exact .cons (Rp.sh k d _ h1) (RpAll.sh k ds _ h2)
theorem RpAll.shKv (k : ∀ b o, M b = some o → Shf o (M' b)) : ∀ (ps : List (PyData × PyData)) (vs : List V), RpAll K M vs (ps.map (·.2)) → RpAll K M' vs (ps.map (·.2))
  | [], _, h => by cases h; exact .nil
  | (a, b) :: ps, _, h => by
    cases h with
    | cons h1 h2 => exact .cons (Rp.sh k b _ h1) (RpAll.shKv k ps _ h2)
end
variable {H H' : Hp} {O : Own}
theorem sql_sh (k : ∀ b o, M b = some o → Shf o (M' b)) {a : Addr} {xs : List V} (h : SqL K M a xs) : SqL K M' a xs := by
  rcases h with h | h
  · refine .inl ?_
    rcases h with h | ⟨o, h⟩
    · exact .inl (k _ _ h).lst
    · rcases k _ _ h with z | ⟨od, w, d, ⟨e, z⟩ | ⟨e, z⟩⟩
      · exact .inr ⟨o, z⟩
      · subst e; cases d
      · cases e; cases d
  · exact .inr h
/-! only the dict at a, which is free, is locked or unlocked -/
mutual
theorem Tr.sh {r : Nat} (k : ∀ b o, H b = some o → O b = .free → Shf o (H' b)) (kl : ∀ b o r p, H b = some o → O b = .at r p → H' b = some o) : ∀ (t : T) (p : List Nat) (v : V), nlk t = true → Tr K H O r p v t → Tr K H' O r p v t
  | .d x, p, v, _, h => by
    cases h with
    | d h => exact .d (Rp.sh (fun b o e => by obtain ⟨e1, e2⟩ := msk_some e; rw [msk_of e1]; exact k b o e2 e1) _ _ h)
  | .l ts, p, v, n, h => by
    cases h with
    | l h1 h2 h3 => exact .l h1 (kl _ _ _ _ h2 h1) (TrAll.sh k kl ts p 0 _ (by simpa [nlk] using n) h3)
  | .m tk ks ts, p, v, n, h => by
    cases h with
    | mk h1 h2 h3 h4 => exact .mk h1 (kl _ _ _ _ h2 h1) h3 (TrAll.sh k kl ts p 0 _ (by simpa [nlk] using n) h4)
    | mt h1 h2 h3 h4 => exact .mt h1 (kl _ _ _ _ h2 h1) h3 (TrAll.sh k kl ts p 0 _ (by simpa [nlk] using n) h4)
  | .o C ns ts, p, v, n, h => by
    cases h with
    | o h1 h2 h3 h4 => exact .o h1 (kl _ _ _ _ h2 h1) h3 (TrAll.sh k kl ts p 0 _ (by simpa [nlk] using n) h4)
  | .s S m, p, v, _, h => by
    cases h with
    | s h1 h2 => exact .s h1 (kl _ _ _ _ h2 h1)
  | .raw v', p, v, _, h => by cases h; exact .raw
  | .fz ns, p, v, _, h => by
    cases h with
    | fz h => exact .fz (sql_sh (fun b o e => by obtain ⟨e1, e2⟩ := msk_some e; rw [msk_of e1]; exact k b o e2 e1) h)
  | .lk _ _ _, p, v, n, h => by cases n
  | .a _ _, p, v, _, h => by cases h
  | .ex c, p, v, _, h => by
    cases h with
    | ex h1 h2 => exact .ex h1 (k _ _ h2 h1).exv
  | .cl c, p, v, _, h => by cases h; exact .cl
  | .n b t, p, v, n, h => by
    cases h with
    | n h0 h1 => exact .n h0 (Tr.sh k kl t p _ (by simpa [nlk] using n) h1)
theorem TrAll.sh {r : Nat} (k : ∀ b o, H b = some o → O b = .free → Shf o (H' b)) (kl : ∀ b o r p, H b = some o → O b = .at r p → H' b = some o) : ∀ (ts : List T) (p : List Nat) (j : Nat) (vs : List V), nlks ts = true → TrAll K H O r p j vs ts → TrAll K H' O r p j vs ts
  | [], p, j, vs, _, h => by cases h; exact .nil
  | t :: ts, p, j, vs, n, h => by
    cases h with
    | cons h1 h2 =>
      simp only [nlks, Bool.and_eq_true] at n
      exact .cons (Tr.sh k kl t _ _ n.1 h1) (TrAll.sh k kl ts p (j + 1) _ n.2 h2)
end
end
/-! ### the frame while the dict at a is locked -/
def lockC (H : Hp) (O : Own) (C : Ctx) : Ctx := ⟨fun b => match O b with | .at _ _ => none | _ => H b, fun b => match O b with | .at _ _ => (match C.O0 b with | .at j p => .at j p | _ => .free) | z => z, C.N, C.io⟩
section
variable {K : PySem.W.Frag} {C : Ctx} {n m : Nat} {σ σ' : St} {H H' H1 : Hp} {O O' : Own} {ρ ρ' : Rho} {a : Addr} {od : Obj} {u : HO}
theorem lockC_no {b : Addr} (h : ∀ r p, O b ≠ .at r p) : (lockC H O C).H0 b = H b ∧ (lockC H O C).O0 b = O b := by
  unfold lockC
  cases e : O b with
  | «at» r p => exact absurd e (h r p)
  | free => simp [e]
  | foreign => simp [e]
theorem lockC_at {b : Addr} {r : Nat} {p : List Nat} (h : O b = .at r p) : (lockC H O C).H0 b = none ∧ (lockC H O C).O0 b ≠ .foreign ∧ ∀ j q, (lockC H O C).O0 b = .at j q → C.O0 b = .at j q := by
  unfold lockC
  simp only [h]
  refine ⟨trivial, fun z => ?_, fun j q z => ?_⟩
  · split at z <;> cases z
  · split at z
    · rename_i e; rw [e]; exact z
    · cases z
theorem lockC_io {b : Addr} {j : Nat} {p : List Nat} (h : (lockC H O C).O0 b = .at j p) : C.O0 b = .at j p := by
  cases e : O b with
  | «at» r q => exact (lockC_at e).2.2 j p h
  | free => have := lockC_no (H := H) (C := C) (O := O) (b := b) (by rw [e]; intro r p z; cases z); rw [this.2, e] at h; cases h
  | foreign => have := lockC_no (H := H) (C := C) (O := O) (b := b) (by rw [e]; intro r p z; cases z); rw [this.2, e] at h; cases h
theorem io_lock {b : Addr} {j : Nat} {p : List Nat} (h : C.O0 b = .at j p) (h2 : O b = .at j p) : (lockC H O C).O0 b = .at j p := by
  unfold lockC
  simp only [h2, h]
/-- the frame, seen from here on as if it were just entered -/
theorem Rel.entS (R : Rel K C n σ H O ρ) (nt : ∀ b, O b ≠ .free → ∃ o, H1 b = some o ∧ ownable o) (sl : ∀ (i : Nat) (t : T), ρ[i]? = some (some t) → ∃ v, σ[i]? = some (some v) ∧ Tr K H1 O i [] v t) : Rel K (lockC H1 O C) n σ H1 O ρ := by
  refine ⟨fun b o e1 e2 => ?_, nt, R.lt, R.inj, R.val, R.ln, R.lr, sl, R.hN, fun b e => ?_, fun b j p e => R.pz b j p (lockC_io e), ⟨trivial, fun b j p e => R.sm.2 b j p (lockC_io e)⟩⟩
  · cases h : O b with
    | «at» r p => rw [(lockC_at h).1] at e1; cases e1
    | free => have := lockC_no (H := H1) (C := C) (O := O) (b := b) (by rw [h]; intro r p z; cases z); rw [this.1] at e1; exact ⟨e1, by rw [this.2, h]⟩
    | foreign => have := lockC_no (H := H1) (C := C) (O := O) (b := b) (by rw [h]; intro r p z; cases z); rw [this.1] at e1; exact ⟨e1, by rw [this.2, h]⟩
  · obtain ⟨o, h, _⟩ := nt b (by rw [e]; intro z; cases z)
    have := lockC_no (H := H1) (C := C) (O := O) (b := b) (by rw [e]; intro r p z; cases z)
    exact ⟨o, by rw [this.1]; exact h, by rw [this.2]; exact e⟩
/-- what stood at that entry stands -/
theorem since {R' : Rel K (lockC H1 O C) m σ' H' O' ρ'} {b : Addr} {o : HO} (h : H1 b = some o) (hf : ∀ r p, O b ≠ .at r p) : H' b = some o ∧ O' b = O b := by
  have := lockC_no (H := H1) (C := C) hf
  have := R'.fr b o (by rw [this.1]; exact h) (by
    rw [this.2]
    cases e : O b with
    | «at» r p => exact absurd e (hf r p)
    | free => exact .inl rfl
    | foreign => exact .inr rfl)
  rw [(lockC_no (H := H1) (C := C) hf).2] at this
  exact this
theorem noat_free {b : Addr} (h : O b = .free) : ∀ r p, O b ≠ .at r p := fun r p z => by rw [h] at z; cases z
theorem Rel.locked (R : Rel K C n σ H O ρ) (ha : O a = .free) (hu : H a = some u) (du : isDk u = true) (nl : nlkR ρ = true) (od : Obj) : Rel K (lockC (L2.upd H a (.frz od u)) O C) n σ (L2.upd H a (.frz od u)) O ρ := by
  have hs : ∀ b o, H b = some o → b ≠ a → L2.upd H a (.frz od u) b = some o := fun b o e z => by rw [upd_ne z]; exact e
  refine R.entS (fun b e => ?_) fun i t e => ?_
  · obtain ⟨o, h, w⟩ := R.nt b e
    exact ⟨o, hs b o h fun z => e (z ▸ ha), w⟩
  · obtain ⟨v, h1, h2⟩ := R.sl i t e
    refine ⟨v, h1, Tr.sh (fun b o e _ => ?_) (fun b o r p e z => hs b o e fun y => by subst y; rw [ha] at z; cases z) t [] v (nlkR_get nl e) h2⟩
    by_cases z : b = a
    · subst z; rw [hu] at e; cases e; exact .inr ⟨od, u, du, .inl ⟨rfl, upd_same⟩⟩
    · exact .inl (hs b o e z)
/-- back in the frame as it was entered, the dict unlocked -/
theorem Rel.unlocked (R : Rel K C n σ H O ρ) (ha : O a = .free) (hu : H a = some u) (du : isDk u = true) (R' : Rel K (lockC (L2.upd H a (.frz od u)) O C) m σ' H' O' ρ') (nl : nlkR ρ' = true) : H' a = some (.frz od u) ∧ Rel K C m σ' (L2.upd H' a u) O' ρ' := by
  obtain ⟨ha', oa'⟩ := since (R' := R') (b := a) upd_same (noat_free ha)
  rw [ha] at oa'
  have hs : ∀ b o, H' b = some o → b ≠ a → L2.upd H' a u b = some o := fun b o e z => by rw [upd_ne z]; exact e
  refine ⟨ha', fun b o e1 e2 => ?_, fun b e => ?_, R'.lt, R'.inj, R'.val, R'.ln, R'.lr, fun i t e => ?_, R'.hN, fun b e => ?_, fun b j p e => ?_, R.sm⟩
  · obtain ⟨h1, h2⟩ := R.fr b o e1 e2
    by_cases z : b = a
    · subst z
      rw [hu] at h1; cases h1
      exact ⟨upd_same, by rw [oa', ← h2, ha]⟩
    · have hf : ∀ r p, O b ≠ .at r p := fun r p z => by rw [h2] at z; rcases e2 with e2 | e2 <;> rw [e2] at z <;> cases z
      obtain ⟨h3, h4⟩ := since (R' := R') (b := b) (by rw [upd_ne z]; exact h1) hf
      exact ⟨hs b o h3 z, h4.trans h2⟩
  · obtain ⟨o, h, w⟩ := R'.nt b e
    exact ⟨o, hs b o h fun z => e (z ▸ oa'), w⟩
  · obtain ⟨v, h1, h2⟩ := R'.sl i t e
    refine ⟨v, h1, Tr.sh (fun b o e _ => ?_) (fun b o r p e z => hs b o e fun y => by subst y; rw [oa'] at z; cases z) t [] v (nlkR_get nl e) h2⟩
    by_cases z : b = a
    · subst z; rw [ha'] at e; cases e; exact .inr ⟨od, u, du, .inr ⟨rfl, upd_same⟩⟩
    · exact .inl (hs b o e z)
  · obtain ⟨o, h1, h2⟩ := R'.fo b e
    cases h : O b with
    | «at» r p => exact absurd h2 (lockC_at h).2.1
    | free => have := lockC_no (H := L2.upd H a (.frz od u)) (C := C) (O := O) (b := b) (by rw [h]; intro r p z; cases z); rw [this.2, h] at h2; cases h2
    | foreign => exact R.fo b h
  · obtain ⟨h1, h2⟩ := R.pz b j p e
    exact R'.pz b j p (io_lock e h2)
end
section
variable {K : PySem.W.Frag} {C : Ctx} {n m : Nat} {σ σ' : St} {H H' H1 : Hp} {O O' : Own} {ρ ρ' : Rho} {a : Addr} {od : Obj} {u : HO} {i : Nat} {tk : Bool} {ps : List (PyData × PyData)}
end
section
variable {X : Cx} {io : List Nat} {e : Expr} {st : Stmt} {ta : TwE} {tw : TwS} {pos : Pos}
end
end TX

/-! for k in d, d locked; d's items and values. -/
namespace TX
open PySem PySem.Spec L2
section
variable {K : PySem.W.Frag} {H : Hp} {O : Own} {a : Addr} {od : Obj}
end
section
variable {X : Cx} {tg e : Expr} {ta : TwE}
def wIDc (ta : TwE) : TwI := fun ρ Q E => ta ρ (fun t ρ1 => ∃ tk ks xs, t = .lk tk ks xs ∧ Q ks ρ1) E
def idK (t : T) (ρ : Rho) (QI : List PyData → Rho → Prop) : Prop := ∃ tk ks xs, t = .lk tk ks xs ∧ QI ks ρ
theorem xIDc {ρ : Rho} {QI : List PyData → Rho → Prop} {E : ExK} (h : ta ρ (fun t ρ1 => idK t ρ1 QI) E) : wIDc ta ρ QI E := h
theorem xIDcK {ρ : Rho} {QI : List PyData → Rho → Prop} {tk : Bool} {ks xs : List PyData} (q : QI ks ρ) : idK (.lk tk ks xs) ρ QI := ⟨tk, ks, xs, rfl, q⟩
end
/-! ### the steps -/
section
variable {ρ : Rho} {Q : T → Rho → Prop} {E : ExK} {D : EndsT} {i : Nat} {ta : TwE} {tw : TwS} {ps : List (PyData × PyData)}
theorem xVarL {k : Nat} {tk : Bool} {ks xs : List PyData} (h : ρ[k]? = some (some (.lk tk ks xs))) (q : Q (.lk tk ks xs) ρ) : wVar k ρ Q E := ⟨_, h, q⟩
end
end TX

/-! == and != of two dicts whose values are data without dicts. -/
namespace TX
open PySem PySem.Spec L2 PyProof.Rows
section
variable {prog : Program} {w : World} {A : Around} {E : Value → Shared → Prop} {s : Shared}
end
/-! ### tables of the machine as entries -/
section
variable {P : Program} {w : World} {H : Hp} {s : Shared} {a : Addr}
/-- what a table of the machine is, entry by entry; k is the kind's look at an entry's key -/
structure Tab {κ : Type} [DecidableEq κ] (P : Program) (w : World) (s : Shared) (Ky : κ → DictEntry → Prop) (a : Addr) (kvs : List (κ × V)) : Prop where
  sm : (a == sysModules) = false
  ty : s.TypeIs (.ref a) "dict"
  ob : ∃ o es ep, s.heap.get? a = some o ∧ o.data = .dict es ep ∧ es.size = kvs.length ∧ (∀ (i : Nat) (k : κ) (v : V), kvs[i]? = some (k, v) → ∃ e, es[i]? = some e ∧ Ky k e ∧ RelV v e.val) ∧
    ∀ (A : Around) (k : κ) (e : DictEntry), A.units < cLine → Ky k e → (valV kvs k = none ∧ ∀ (E : Value → Shared → Prop) (Q : Option Nat → Shared → Prop), Q none s → wpAny (model P w) A (dictFind a e.key e.hash) Q E s) ∨
      ∃ j v e', es[j]? = some e' ∧ RelV v e'.val ∧ valV kvs k = some v ∧ ∀ (E : Value → Shared → Prop) (Q : Option Nat → Shared → Prop), Q (some j) s → wpAny (model P w) A (dictFind a e.key e.hash) Q E s
end
/-! ### dicts as data -/
def okI {α : Type} (f : α → Bool) (ps : List α) (i : Nat) : Bool := match ps[i]? with
  | some p => f p
  | none => true
section
variable {X : Cx} {pins : List (Addr × Obj)} {σ : L2.St} {H : Hp} {s : Shared}
end
/-! ### the operators -/
theorem hu66 {k : Nat} {A : Around} (r : Room k A) : A.units + 66 < cLine := by have := r.un; omega
section
variable {ρ : Rho} {Q : T → Rho → Prop} {t u : T} {ps qs : List (PyData × PyData)}
end
end TX

/-! A dict of one's own that is walked: locked and looked at while an expression runs, one's own again behind it. -/
namespace TX
open PySem PySem.Spec L2
/-- the frame as if just entered, no parameter handed in to be changed -/
def lockZ (H : Hp) (O : Own) (C : Ctx) : Ctx := ⟨fun b => match O b with | .at _ _ => none | _ => H b, fun b => match O b with | .at _ _ => .free | z => z, C.N, C.io⟩
section
variable {K : PySem.W.Frag} {C : Ctx} {n m : Nat} {σ : St} {H H' : Hp} {O O' : Own} {ρ : Rho} {a : Addr} {od : Obj} {u : HO} {i : Nat}
theorem lockZ_no {b : Addr} (h : ∀ r p, O b ≠ .at r p) : (lockZ H O C).H0 b = H b ∧ (lockZ H O C).O0 b = O b := by
  unfold lockZ
  cases e : O b with
  | «at» r p => exact absurd e (h r p)
  | free => simp [e]
  | foreign => simp [e]
theorem lockZ_at {b : Addr} {r : Nat} {p : List Nat} (h : O b = .at r p) : (lockZ H O C).H0 b = none ∧ (lockZ H O C).O0 b = .free := by
  unfold lockZ
  simp [h]
theorem lockZ_io {b : Addr} {j : Nat} {p : List Nat} : (lockZ H O C).O0 b ≠ .at j p := fun h => by
  cases e : O b with
  | «at» r q => rw [(lockZ_at e).2] at h; cases h
  | free => have := lockZ_no (H := H) (C := C) (O := O) (b := b) (by rw [e]; intro r p z; cases z); rw [this.2, e] at h; cases h
  | foreign => have := lockZ_no (H := H) (C := C) (O := O) (b := b) (by rw [e]; intro r p z; cases z); rw [this.2, e] at h; cases h
/-- the own dict at slot i, locked and looked at -/
theorem Rel.look {tk : Bool} {ks : List PyData} {ts : List T} {xs : List PyData} (R : Rel K C n σ H O ρ) (e : ρ[i]? = some (some (.m tk ks ts))) (ex : eraseAll ts = some xs) :
    ∃ a u, σ[i]? = some (some (.ref a)) ∧ O a = .at i [] ∧ H a = some u ∧ isDk u = true ∧ ∀ od, Rel K (lockZ (L2.upd H a (.frz od u)) (dropR i O) C) n σ (L2.upd H a (.frz od u)) (dropR i O) (ρ.set i (some (.lk tk ks xs))) := by
  have hi : i < ρ.length := (List.getElem?_eq_some_iff.mp e).1
  have hiN := R.slt e
  obtain ⟨v, hv, tr⟩ := R.sl i _ e
  have main : ∀ (a : Addr) (u : HO), v = .ref a → O a = .at i [] → H a = some u → isDk u = true → (∀ od, Tr K (L2.upd H a (.frz od u)) (dropR i O) i [] (.ref a) (.lk tk ks xs)) →
      ∃ a u, σ[i]? = some (some (.ref a)) ∧ O a = .at i [] ∧ H a = some u ∧ isDk u = true ∧ ∀ od, Rel K (lockZ (L2.upd H a (.frz od u)) (dropR i O) C) n σ (L2.upd H a (.frz od u)) (dropR i O) (ρ.set i (some (.lk tk ks xs))) := by
    intro a u ev oa ha du htr
    subst ev
    refine ⟨a, u, hv, oa, ha, du, fun od => ⟨fun b o e1 e2 => ?_, fun b h => ?_, fun b r p h => R.lt b r p (dropR_at.mp h).1, fun x y r p e1 e2 => R.inj x y r p (dropR_at.mp e1).1 (dropR_at.mp e2).1, fun b r p h l => ?_, R.ln, by rw [List.length_set]; exact R.lr, fun j t h => ?_, R.hN, fun b h => ?_, fun b j p h => absurd h lockZ_io, ⟨trivial, fun b j p h => absurd h lockZ_io⟩⟩⟩
    · cases h : dropR i O b with
      | «at» r p => rw [(lockZ_at h).1] at e1; cases e1
      | free => have := lockZ_no (H := L2.upd H a (.frz od u)) (C := C) (O := dropR i O) (b := b) (by rw [h]; intro r p z; cases z); rw [this.1] at e1; exact ⟨e1, by rw [this.2, h]⟩
      | foreign => have := lockZ_no (H := L2.upd H a (.frz od u)) (C := C) (O := dropR i O) (b := b) (by rw [h]; intro r p z; cases z); rw [this.1] at e1; exact ⟨e1, by rw [this.2, h]⟩
    · obtain ⟨o, h1, h2⟩ := R.nt b fun z => h (dropR_free z)
      exact ⟨o, by rw [upd_ne fun z => h (by subst z; unfold dropR; rw [oa]; simp)]; exact h1, h2⟩
    · obtain ⟨h1, h2⟩ := dropR_at.mp h
      obtain ⟨t, z, g1, g2, g3⟩ := R.val b r p h1 l
      exact ⟨t, z, by rw [List.getElem?_set_ne (fun z => h2 z.symm)]; exact g1, g2, g3⟩
    · rw [set_get hi] at h
      split at h
      · rename_i z; subst z; cases h; exact ⟨_, hv, htr od⟩
      · rename_i z
        obtain ⟨w, h1, h2⟩ := R.sl j t h
        refine ⟨w, h1, Tr.move (r' := j) (p0 := []) (p1 := []) (fun b o e1 e2 => ?_) (fun b o q e1 e2 => ?_) t [] w h2⟩
        · exact ⟨by rw [upd_ne fun y => by subst y; rw [oa] at e2; cases e2]; exact e1, dropR_free e2⟩
        · have nb : b ≠ a := fun y => by
            subst y
            have e2' : O b = .at j q := e2
            rw [oa] at e2'
            cases e2'
            exact z rfl
          exact ⟨by rw [upd_ne nb]; exact e1, dropR_at.mpr ⟨e2, z⟩⟩
    · have h1 := dropR_foreign.mp h
      obtain ⟨o, h2, _⟩ := R.nt b (by rw [h1]; intro z; cases z)
      have := lockZ_no (H := L2.upd H a (.frz od u)) (C := C) (O := dropR i O) (b := b) (by rw [h]; intro r p z; cases z)
      exact ⟨o, by rw [this.1, upd_ne fun z => by subst z; rw [oa] at h1; cases h1]; exact h2, by rw [this.2]; exact h⟩
  have sh : ∀ {a : Addr} {u : HO} (od : Obj), O a = .at i [] → H a = some u → isDk u = true → ∀ b o, vis i O H b = some o → Shf o (msk (dropR i O) (L2.upd H a (.frz od u)) b) := fun {a u} od oa ha du b o h => by
    have hb : dropR i O b = .free := by
      unfold vis at h
      split at h
      · rename_i z; exact dropR_free z
      · cases h
      · rename_i r p z
        split at h
        · rename_i y; unfold dropR; rw [z]; simp [y]
        · cases h
    rw [msk_of hb]
    have h' := vis_le b o h
    by_cases z : b = a
    · subst z; rw [ha] at h'; cases h'; exact .inr ⟨od, _, du, .inl ⟨rfl, upd_same⟩⟩
    · exact .inl (by rw [upd_ne z]; exact h')
  cases tr with
  | mk h1 h2 h3 h4 =>
    refine main _ _ rfl h1 h2 rfl fun od => .lk (by unfold dropR; rw [h1]; simp) upd_same h3 (RpAll.sh (sh od h1 h2 rfl) _ _ (TrAll.view ts [] 0 _ xs ex h4))
  | mt h1 h2 h3 h4 =>
    refine main _ _ rfl h1 h2 rfl fun od => .lt (by unfold dropR; rw [h1]; simp) upd_same h3 (RpAll.sh (sh od h1 h2 rfl) _ _ (TrAll.view ts [] 0 _ xs ex h4))
end
end TX

/-! d.clear() as a statement: behind it the slot's dict is an empty one, shared. -/
namespace TX
open PySem PySem.Spec L2
section
variable {X : Cx} {io : List Nat} {pos p2 apos cpos : Pos} {x : Str}
end
end TX

/-! The keys of a dict of data: sorted(d), list(d), len(d). -/
namespace TX
open PySem PySem.Spec L2 PyProof.Rows
section
variable {X : Cx} {pins : List (Addr × Obj)} {σ : L2.St} {H : Hp} {s : Shared} {a : Addr} {ks : List PyData}
end
/-! ### over trees -/
section
variable {X : Cx} {e : Expr} {tas : TwA} {p pos : Pos}
end
end TX

/-! Dicts by comprehensions whose keys are tuples. -/
namespace TX
open PySem PySem.Spec L2
section
variable {X : Cx}
end
section
variable {wi : TwI} {g : TwG} {tt : TwT} {tk tv : TwE}
def wDcT (wi : TwI) (g : TwG) (tt : TwT) (tk tv : TwE) (vs : List Nat) : TwE := fun ρ Q E => wi ρ (fun xs ρ1 => noNd ρ1 vs ∧ xs.length ≤ 1000000 ∧ ∃ P : Nat → List (List Key × PyData) → Rho → Prop, P 0 [] (wipeR ρ1 vs) ∧
  (∀ i x acc ρ2, xs[i]? = some x → P i acc ρ2 → g x ρ2 (fun ρ3 => tt ρ3 (fun b ρ4 => if b = true then tk ρ4 (fun t ρ5 => ∃ k, t = .d (tupD k) ∧ tv ρ5 (fun u ρ6 => noNd ρ6 vs ∧ ∃ y, erase u = some y ∧ P (i + 1) (putD acc k y) (wipeR ρ6 vs)) exN) exN else noNd ρ4 vs ∧ P (i + 1) acc (wipeR ρ4 vs)) exN) exN) ∧
  ∀ acc ρ2, P xs.length acc ρ2 → Q (mK2 acc) (restR ρ1 ρ2 vs)) E
end
section
variable {X : Cx} {kx vx tg iter : Expr} {ifs : List Expr} {scope : Scope} {own : List (Str × Nat)} {pos : Pos} {wi : TwI} {g : TwG} {tt : TwT} {tk tv : TwE}
end
section
variable {X : Cx} {i : Nat} {y : Str} {py : Pos} {kx vx tg iter : Expr} {ifs : List Expr} {scope : Scope} {own : List (Str × Nat)} {pos spos : Pos} {wi : TI} {g : TG} {tt : TT} {tk tv : TE}
end
section
variable {X : Cx} {io : List Nat} {kx vx tg iter : Expr} {ifs : List Expr} {scope : Scope} {own : List (Str × Nat)} {pos pos2 : Pos} {wi : TwI} {g : TwG} {tt : TwT} {tk tv : TwE}
end
section
variable {ρ : Rho} {Q : T → Rho → Prop} {E : ExK} {wi : TwI} {g : TwG} {tt : TwT} {tk tv : TwE} {vs : List Nat}
def dcTK (g : TwG) (tt : TwT) (tk tv : TwE) (vs : List Nat) (Q : T → Rho → Prop) (xs : List PyData) (ρ1 : Rho) : Prop := noNd ρ1 vs ∧ xs.length ≤ 1000000 ∧ ∃ P : Nat → List (List Key × PyData) → Rho → Prop, P 0 [] (wipeR ρ1 vs) ∧
  (∀ i x acc ρ2, xs[i]? = some x → P i acc ρ2 → g x ρ2 (fun ρ3 => tt ρ3 (fun b ρ4 => if b = true then tk ρ4 (fun t ρ5 => ∃ k, t = .d (tupD k) ∧ tv ρ5 (fun u ρ6 => noNd ρ6 vs ∧ ∃ y, erase u = some y ∧ P (i + 1) (putD acc k y) (wipeR ρ6 vs)) exN) exN else noNd ρ4 vs ∧ P (i + 1) acc (wipeR ρ4 vs)) exN) exN) ∧
  ∀ acc ρ2, P xs.length acc ρ2 → Q (mK2 acc) (restR ρ1 ρ2 vs)
theorem xDcT (h : wi ρ (dcTK g tt tk tv vs Q) E) : wDcT wi g tt tk tv vs ρ Q E := h
end
end TX

/-! Comprehensions with two sources. -/
namespace TX
open PySem PySem.Spec L2
section
variable {K : PySem.W.Frag} {C : Ctx} {W : WX} {n m : Nat} {vs vs1 : List Nat} {σ σ4 : St} {H H2 H6 : Hp} {O O2 O6 : Own} {ρ ρ5 : Rho} {Q : VK} {D : Addr} {ws : List V} {acc : List PyData}
/-- the list that is made, at root n -/
structure DSt (K : PySem.W.Frag) (n : Nat) (D : Addr) (O2 : Own) (H2 : Hp) (ws : List V) (acc : List PyData) : Prop where
  o : O2 D = .at n []
  u : ∀ b q, O2 b = .at n q → b = D ∧ q = []
  h : H2 D = some (.lst ws)
  r : RpAll K (msk O2 H2) ws acc
theorem DSt.frm (d : DSt K n D O2 H2 ws acc) (hn : C.N ≤ n) (F : Frm C.N (n + 1) H2 O2 H6 O6) : DSt K n D O6 H6 ws acc :=
  let ⟨h1, h2⟩ := F.tm D _ n [] d.h d.o hn (Nat.lt_succ_self n)
  ⟨h2, fun b q e => d.u b q (F.nw b n q e hn (Nat.lt_succ_self n)), h1, d.r.fre F.fre⟩
theorem DSt.cut (d : DSt K n D O2 H2 ws acc) : DSt K n D (TX.cut (n + 1) O2) H2 ws acc :=
  ⟨cut_at.mpr ⟨d.o, Nat.lt_succ_self n⟩, fun b q e => d.u b q (cut_at.mp e).1, d.h, d.r.fre (fre_cut _)⟩
end
def wLc2 (wi : TwI) (g : TwG) (tt : TwT) (wi1 : TwI) (g1 : TwG) (tt1 : TwT) (te : TwE) (vs vs1 : List Nat) : TwE := fun ρ Q E => wi ρ (fun xs ρ1 => noNd ρ1 vs ∧ xs.length ≤ 1000 ∧ ∃ P : Nat → List PyData → Rho → Prop, P 0 [] (wipeR ρ1 vs) ∧
  (∀ i x acc ρ2, xs[i]? = some x → P i acc ρ2 → g x ρ2 (fun ρ3 => tt ρ3 (fun b ρ4 => if b = true then wi1 ρ4 (fun ys ρ5 => noNd ρ5 vs1 ∧ ys.length ≤ 1000 ∧ ∃ P1 : Nat → List PyData → Rho → Prop, P1 0 acc (wipeR ρ5 vs1) ∧
      (∀ j y acc1 ρ6, ys[j]? = some y → P1 j acc1 ρ6 → g1 y ρ6 (fun ρ7 => tt1 ρ7 (fun b ρ8 => noNd ρ8 vs1 ∧ if b = true then te ρ8 (fun t ρ9 => noNd ρ9 vs1 ∧ ∃ z, erase t = some z ∧ P1 (j + 1) (acc1 ++ [z]) (wipeR ρ9 vs1)) exN else P1 (j + 1) acc1 (wipeR ρ8 vs1)) exN) exN) ∧
      ∀ acc1 ρ6, P1 ys.length acc1 ρ6 → noNd ρ6 vs ∧ P (i + 1) acc1 (wipeR ρ6 vs)) exN else noNd ρ4 vs ∧ P (i + 1) acc (wipeR ρ4 vs)) exN) exN) ∧
  (∀ acc ρ2, P xs.length acc ρ2 → Q (.l (acc.map T.d)) (restR ρ1 ρ2 vs))) E
section
variable {wi wi1 : TwI} {g g1 : TwG} {tt tt1 : TwT} {te : TwE}
end
section
variable {X : Cx} {io : List Nat} {tg iter tg1 iter1 elt : Expr} {ifs ifs1 : List Expr} {wi wi1 : TwI} {g g1 : TwG} {tt tt1 : TwT} {te : TwE} {pos : Pos} {scope : Scope} {own : List (Str × Nat)} {vs1 : List Nat}
end
end TX

/-! Steps of comprehensions of two sources; d.get(k, x); xs[a:b] = ys. -/
namespace TX
open PySem PySem.Spec L2 PyProof.Rows
/-! ### two sources -/
section
variable {wi wi1 : TwI} {g g1 : TwG} {tt tt1 : TwT} {te : TwE} {vs vs1 : List Nat} {ρ : Rho} {Q : T → Rho → Prop} {E : ExK}
def lc2I (g1 : TwG) (tt1 : TwT) (te : TwE) (vs vs1 : List Nat) (acc : List PyData) (N : List PyData → Rho → Prop) (ys : List PyData) (ρ5 : Rho) : Prop := noNd ρ5 vs1 ∧ ys.length ≤ 1000 ∧ ∃ P1 : Nat → List PyData → Rho → Prop, P1 0 acc (wipeR ρ5 vs1) ∧
      (∀ j y acc1 ρ6, ys[j]? = some y → P1 j acc1 ρ6 → g1 y ρ6 (fun ρ7 => tt1 ρ7 (fun b ρ8 => noNd ρ8 vs1 ∧ if b = true then te ρ8 (fun t ρ9 => noNd ρ9 vs1 ∧ ∃ z, erase t = some z ∧ P1 (j + 1) (acc1 ++ [z]) (wipeR ρ9 vs1)) exN else P1 (j + 1) acc1 (wipeR ρ8 vs1)) exN) exN) ∧
      ∀ acc1 ρ6, P1 ys.length acc1 ρ6 → noNd ρ6 vs ∧ N acc1 (wipeR ρ6 vs)
def lc2K (g : TwG) (tt : TwT) (wi1 : TwI) (g1 : TwG) (tt1 : TwT) (te : TwE) (vs vs1 : List Nat) (Q : T → Rho → Prop) (xs : List PyData) (ρ1 : Rho) : Prop := noNd ρ1 vs ∧ xs.length ≤ 1000 ∧ ∃ P : Nat → List PyData → Rho → Prop, P 0 [] (wipeR ρ1 vs) ∧
  (∀ i x acc ρ2, xs[i]? = some x → P i acc ρ2 → g x ρ2 (fun ρ3 => tt ρ3 (fun b ρ4 => if b = true then wi1 ρ4 (lc2I g1 tt1 te vs vs1 acc (P (i + 1))) exN else noNd ρ4 vs ∧ P (i + 1) acc (wipeR ρ4 vs)) exN) exN) ∧
  (∀ acc ρ2, P xs.length acc ρ2 → Q (.l (acc.map T.d)) (restR ρ1 ρ2 vs))
theorem xLc2 (h : wi ρ (lc2K g tt wi1 g1 tt1 te vs vs1 Q) E) : wLc2 wi g tt wi1 g1 tt1 te vs vs1 ρ Q E := h
def F2 (f : PyData → Bool) (ys : PyData → List PyData) (f1 : PyData → PyData → Bool) (h : PyData → PyData → PyData) (x : PyData) : List PyData := if f x = true then ((ys x).filter (f1 x)).map (h x) else []
end
/-! ### d.get(k, x) -/
section
variable {X : Cx} {pins : List (Addr × Obj)} {σ : L2.St} {H : Hp} {s : Shared} {a : Addr} {y z : V} {u r : Value} {A : Around} {E : Value → Shared → Prop}
end
section
variable {X : Cx} {o e f : Expr} {apos cpos : Pos} {td ty tx : TE} {ta tb tc : TwE}
def gd1 (t u w : T) (ρ : Rho) (Q : T → Rho → Prop) : Prop := ∃ kvs k x, Dk1E ρ t kvs ∧ vw ρ u = some (keyD k) ∧ w = .d x ∧ Q (.d ((lookD kvs k).getD x)) ρ
def gd2 (t u w : T) (ρ : Rho) (Q : T → Rho → Prop) : Prop := ∃ kvs k x, Dk2E ρ t kvs ∧ vw ρ u = some (tupD k) ∧ w = .d x ∧ Q (.d ((lookD kvs k).getD x)) ρ
def wGdd (k : T → T → T → Rho → (T → Rho → Prop) → Prop) (ta tb tc : TwE) : TwE := fun ρ Q E => ta ρ (fun t ρ1 => dctTy ρ1 t ∧ tb ρ1 (fun u ρ2 => tc ρ2 (fun w ρ3 => k t u w ρ3 Q) E) E) E
def wGd1 (ta tb tc : TwE) : TwE := wGdd gd1 ta tb tc
def wGd2 (ta tb tc : TwE) : TwE := wGdd gd2 ta tb tc
def gdA (tb tc : TwE) (k : T → T → T → Rho → (T → Rho → Prop) → Prop) (t : T) (ρ1 : Rho) (Q : T → Rho → Prop) (E : ExK) : Prop := dctTy ρ1 t ∧ tb ρ1 (fun u ρ2 => tc ρ2 (fun w ρ3 => k t u w ρ3 Q) E) E
theorem xGd1 {ρ : Rho} {Q : T → Rho → Prop} {E : ExK} (h : ta ρ (fun t ρ1 => gdA tb tc gd1 t ρ1 Q E) E) : wGd1 ta tb tc ρ Q E := h
theorem xGd2 {ρ : Rho} {Q : T → Rho → Prop} {E : ExK} (h : ta ρ (fun t ρ1 => gdA tb tc gd2 t ρ1 Q E) E) : wGd2 ta tb tc ρ Q E := h
theorem xGdA {ρ : Rho} {Q : T → Rho → Prop} {E : ExK} {k : T → T → T → Rho → (T → Rho → Prop) → Prop} {r : Nat} {p : List Nat} {tk : Bool} {ks : List PyData} {xs : List T} (g : getT ρ r p = some (.m tk ks xs)) (q : tb ρ (fun u ρ2 => tc ρ2 (fun w ρ3 => k (.a r p) u w ρ3 Q) E) E) : gdA tb tc k (.a r p) ρ Q E := ⟨.inl ⟨r, p, tk, ks, xs, rfl, g⟩, q⟩
theorem xGdD {ρ : Rho} {Q : T → Rho → Prop} {E : ExK} {k : T → T → T → Rho → (T → Rho → Prop) → Prop} {ps : List (PyData × PyData)} (q : tb ρ (fun u ρ2 => tc ρ2 (fun w ρ3 => k (.d (.dict ps)) u w ρ3 Q) E) E) : gdA tb tc k (.d (.dict ps)) ρ Q E := ⟨.inr ⟨ps, rfl⟩, q⟩
end
end TX

/-! xs[a:c] = ys, xs a flat list of one's own; c may lie beyond the end. -/
namespace TX
open PySem PySem.Spec L2 PyProof.Rows
section
variable {prog : Program} {w : World} {A : Around} {E : Value → Shared → Prop} {s : Shared}
set_option maxRecDepth 100000 in
end
section
variable {X : Cx}
end
end TX

/-! xs[a:c] = ys as a target. -/
namespace TX
open PySem PySem.Spec L2 PyProof.Rows
section
variable {X : Cx} {o : Expr} {lo hi : Option Expr} {to : TE} {tl th : TO} {pos p2 : Pos}
end
def wClip (ta : TwE) (tl th : TwO) : TwG := fun x ρ Q E => ta ρ (fun t ρ1 => tl ρ1 (fun lo ρ2 => th ρ2 (fun hi ρ3 => ∃ r q, ∃ ds ys : List PyData, ∃ a c, t = .a r q ∧ x = .list ys ∧ lo = some a ∧ hi = some c ∧ getT ρ3 r q = some (.l (ds.map T.d)) ∧ 0 ≤ a ∧ a ≤ c ∧ a ≤ (ds.length : Int) ∧ ds.length + ys.length ≤ sizeLine ∧
  Q (putAt ρ3 r q (.l ((ds.take a.toNat ++ ys ++ ds.drop c.toNat).map T.d)))) E) E) E
section
variable {X : Cx} {o : Expr} {lo hi : Option Expr} {ta : TwE} {tl th : TwO} {pos p2 : Pos}
theorem xClip {ρ : Rho} {x : PyData} {Q : Rho → Prop} {E : ExK} (h : ta ρ (fun t ρ1 => tl ρ1 (fun lo ρ2 => th ρ2 (fun hi ρ3 => ∃ r q, ∃ ds ys : List PyData, ∃ a c, t = .a r q ∧ x = .list ys ∧ lo = some a ∧ hi = some c ∧ getT ρ3 r q = some (.l (ds.map T.d)) ∧ 0 ≤ a ∧ a ≤ c ∧ a ≤ (ds.length : Int) ∧ ds.length + ys.length ≤ sizeLine ∧
  Q (putAt ρ3 r q (.l ((ds.take a.toNat ++ ys ++ ds.drop c.toNat).map T.d)))) E) E) E) : wClip ta tl th x ρ Q E := h
end
end TX

/-! Defs with defaults. -/
namespace TX
open PySem PySem.Spec L2 PyProof.Rows
section
variable {P : Program} {w : World} {K : PySem.W.Frag} {mg : Str → Option Value} {base : Heap}
theorem _root_.L2.FunD.okG {x qual : Str} {st : Stmt} {dvs : List V} {f : Addr} {fd : FuncData} {N ps : List Str} {k : Nat} {sp : Sp} (F : FunD K x qual (defArgs st) (defBody st) (defScope st) dvs [] f fd) (S : FnScope N ps (defScope st)) (len : ∀ vs H Q E, sp vs H Q E → vs.length = ps.length)
    (hbody : ∀ (cv : Value) (B : Around) (out : List Env) (s : Shared) (H : Hp) (vs : List V) (Q : VK) (E : XK), Room k (B.deeper (envOfC qual (defScope st) s.heap.objs.size f cv)) → B.guards = some [] → sp vs H Q E →
      ∃ t, PSs (cxOf (L2N.CX P w) P w K mg base N qual (defScope st) f cv B out s H E) (defBody st) t ∧ t { nx := fun _ H' => Q .non H', rt := Q } (L2.start N vs) H) : FnG P w K mg base (k + 1) f fd ps sp := by
  obtain ⟨oc, od, dV, kV, doc, pm, an, cv, ct, osl, rfl, lk, hcd, _, _⟩ := F.ex
  refine ⟨len, fun B out s H ar us vs Q E room gu e0 bind vals hsp => ?_⟩
  have lenV := len _ _ _ _ hsp
  have kin : K.In s.heap := e0.mod.kin.keeps (fun b o e => (e0.bs b o e).1)
  have lim : s.heap.NoLimit := e0.mod.nolimit.keeps (fun b o e => (e0.bs b o e).1)
  refine codeAny_call_function room.depth (kin _ _ lk) rfl S.co S.gen rfl (PySem.W.codeRec_of kin hcd) (bind _ _ _ _ ?_)
  refine wpAny_newFunctionEnv_cells S.kind (fun ⟨n, v⟩ hy => ?_) fun env he s1 x => ?_
  · rcases S.par n (List.of_mem_zip hy).1 with q | q
    · exact Or.inl q
    · exact Or.inr ⟨q, PySem.W.cellsFrom_some _ _ _ (Or.inl q)⟩
  · subst he
    refine ⟨lim.keeps x.toInCall.keep, codeAny_func ?_⟩
    obtain ⟨t, ht, hq⟩ := hbody cv B out s H vs Q E (room.deeper _) gu hsp
    have J := inv_start (CX := L2N.CX P w) (E := E) (cd := cv) S room.hd e0 lenV vals x
    refine wpAny_mono (ht.run [] s1 (L2.start N vs) H _ J hq) (fun fl s2 hs => ?_) fun _ _ z => z
    cases fl with
    | ret u => obtain ⟨v, _, H', J', rv, q⟩ := hs; exact ⟨v, H', J'.os, J'.bare, J'.base, J'.hok, rv, q⟩
    | next => obtain ⟨_, H', J', q⟩ := hs; exact ⟨V.non, H', J'.os, J'.bare, J'.base, J'.hok, rfl, q⟩
    | brk => obtain ⟨_, _, _, q⟩ := hs; exact q.elim
    | cont => obtain ⟨_, _, _, q⟩ := hs; exact q.elim
theorem _root_.L2.FunD.okT {x qual : Str} {st : Stmt} {dvs : List V} {f : Addr} {fd : FuncData} {N ps : List Str} {k np : Nat} {io : List Nat} {S : SpT} (F : FunD K x qual (defArgs st) (defBody st) (defScope st) dvs [] f fd) (Sc : FnScope N ps (defScope st)) (hnp : np = ps.length := by rfl) (hN : np ≤ N.length := by decide)
    (hbody : ∀ (cv : Value) (B : Around) (out : List Env) (s : Shared) (H : Hp) (E : XK), Room k (B.deeper (envOfC qual (defScope st) s.heap.objs.size f cv)) → (B.deeper (envOfC qual (defScope st) s.heap.objs.size f cv)).guards = some [] →
      ∃ tw, LSs (cxOf (L2N.CX P w) P w K mg base N qual (defScope st) f cv B out s H E) io (defBody st) tw ∧
        ∀ ts Q Ex, S ts Q Ex → tw { nx := fun ρ => Q (.d .none) ρ, rt := fun t ρ => noAl t = true ∧ Q t ρ, ex := Ex } (rho0 N ts)) : FnG P w K mg base (k + 1) f fd ps (lfSp K np io S) := by
  refine F.okG Sc (fun vs H Q E ⟨O, ts, En, _⟩ => by rw [En.lv, hnp]) fun cv B out s H vs Q E room gu ⟨O, ts, En, hS⟩ => ?_
  obtain ⟨tw, hw, hq⟩ := hbody cv B out s H E room gu
  let C : Ctx := ⟨H, O, N.length, io⟩
  have run := hw.run C (fun cls d _ H => E cls d H) rfl rfl (L2N.takes_of rfl rfl rfl rfl) (passes_of rfl)
  refine ⟨_, run, O, rho0 N ts, ?_, ?_⟩
  · have l1 : (L2.start N vs).length = N.length := by unfold L2.start; rw [List.length_append, List.length_map, List.length_replicate, En.lv]; omega
    have l2 : (rho0 N ts).length = N.length := by unfold rho0; rw [List.length_append, List.length_map, List.length_replicate, En.lt]; omega
    exact ⟨fun b o e1 e2 => ⟨e1, rfl⟩, En.nt, fun b r p e => Nat.lt_of_lt_of_le (En.val b r p e).1 hN, En.inj, fun b r p e _ => let ⟨_, _, t, z, h1, h2, h3⟩ := En.val b r p e; ⟨t, z, rho0_of h1, h2, h3⟩, l1, l2,
      fun i t e => let ⟨v, h1, h2⟩ := En.tr i t (rho0_get e); ⟨v, start_of h1, h2⟩, Nat.le_refl _, fun b e => let ⟨o, h, _⟩ := En.nt b (by rw [e]; intro z; cases z); ⟨o, h, e⟩, fun b j p e => ⟨Nat.lt_of_lt_of_le (En.val b j p e).1 hN, e⟩, En.sm, fun b j p e => (En.val b j p e).2.1⟩
  · have fin : ∀ {t : T} {v : V} {σ' : L2.St} {H' : Hp} {O' : Own} {ρ' : Rho} {m : Nat}, (∀ v H' O', Exi K np io vs H O H' O' ρ' → Val K H' O' np v t → Q v H') → Rel K C m σ' H' O' ρ' → Val K H' O' C.N v t → noAl t = true → Q v H' := fun {t v σ' H' O' ρ' m} q R' V' hal => by
      refine q v H' (outL np io C.N O') (exi_of rfl rfl hN En R') ?_
      have gen : ∀ u : T, (Tr K H' O' C.N [] v u ∧ ∀ b p, O' b = .at C.N p → ∃ z, subT u p = some z ∧ isNode z = true) → Tr K H' (outL np io C.N O') np [] v u ∧ ∀ b p, outL np io C.N O' b = .at np p → ∃ z, subT u p = some z ∧ isNode z = true := fun u h =>
        ⟨Tr.move (r' := np) (p0 := []) (p1 := []) (fun b o e1 e2 => ⟨e1, outL_free e2⟩) (fun b o q e1 e2 => ⟨e1, outL_res e2⟩) u [] v h.1, fun b p e => by
          rcases outL_at e with ⟨_, h2⟩ | ⟨h1, _⟩
          · exact h.2 b p h2
          · omega⟩
      cases t with
      | a r p => cases hal
      | _ => exact gen _ V'
    have hq' := hq ts _ _ hS
    refine hw.mono _ _ _ (LeD.mk (fun ρ' q => ?_) (fun t ρ' q => ?_) (fun _ z => False.elim z) (fun _ z => False.elim z) (fun c ρ' q => ?_)) hq'
    · intro σ' H' O' R' F'
      exact fin q R' (R'.val_d .non) rfl
    · intro v σ' H' O' R' F' V'
      exact fin q.2 R' V' q.1
    · intro σ' H' O' R' F'
      refine q H' _ (exi_of rfl rfl hN En R') fun b p e => ?_
      rcases outL_at e with ⟨_, h2⟩ | ⟨h1, _⟩
      · exact absurd (R'.lt b _ p h2) (Nat.lt_irrefl _)
      · omega
end
/-! ### the call, defaults behind -/
inductive Scs : List V → List PyData → Prop
  | nil : Scs [] []
  | cons {v x vs xs} : Sc v x → Scs vs xs → Scs (v :: vs) (x :: xs)
structure FdD (K : PySem.W.Frag) (mg : Str → Option Value) (x : Str) (st : Stmt) (ps : List Str) (dvs : List V) (dts : List PyData) (f : Addr) (fd : FuncData) : Prop where
  F : FunD K x x (defArgs st) (defBody st) (defScope st) dvs [] f fd
  g : mg x = some (.ref f)
  b : ∃ ds, Vals dvs ds ∧ Binds K fd ps ds
  a : ∃ ds, Vals [] ds ∧ Binds K fd ps ds
  s : Scs dvs dts
section
variable {P : Program} {w : World} {K : PySem.W.Frag} {mg : Str → Option Value} {base : Heap} {x : Str} {st : Stmt} {f : Addr} {fd : FuncData} {ps : List Str} {dvs : List V} {dts : List PyData} {k np : Nat} {io : List Nat} {S : SpT}
theorem FdD.df (D : FdD K mg x st ps dvs dts f fd) (G : FnG P w K mg base k f fd ps (lfSp K np io S)) : Df P w K mg base x k ps np io S := by
  obtain ⟨ds, v, b⟩ := D.a
  cases v
  exact ⟨f, fd, G, D.g, D.F.kp, b⟩
end
def wApp (dts : List PyData) (tas : TwA) : TwA := fun ρ Q E => tas ρ (fun ts ρ1 => Q (ts ++ dts.map T.d) ρ1) E
def appK (dts : List PyData) (ts : List T) (Q : List T → Rho → Prop) (ρ : Rho) : Prop := Q (ts ++ dts.map T.d) ρ
theorem xAppD {dts : List PyData} {tas : TwA} {ρ : Rho} {Q : List T → Rho → Prop} {E : ExK} (h : tas ρ (fun ts ρ1 => appK dts ts Q ρ1) E) : wApp dts tas ρ Q E := h
theorem xAppD11 {x : PyData} {t : T} {ρ : Rho} {Q : List T → Rho → Prop} (h : Q [t, .d x] ρ) : appK [x] [t] Q ρ := h
theorem xAppD21 {x : PyData} {t u : T} {ρ : Rho} {Q : List T → Rho → Prop} (h : Q [t, u, .d x] ρ) : appK [x] [t, u] Q ρ := h
theorem ValAll.app {K : PySem.W.Frag} {H : Hp} {O : Own} : ∀ {n : Nat} {vs ws : List V} {ts us : List T}, ValAll K H O n vs ts → ValAll K H O (n + ts.length) ws us → ValAll K H O n (vs ++ ws) (ts ++ us)
  | _, _, _, _, _, .nil, h => by simpa using h
  | n, _, _, _, _, .cons (ts := ts) a b, h => .cons a (ValAll.app b (by rw [List.length_cons] at h; rw [show n + 1 + ts.length = n + (ts.length + 1) by omega]; exact h))
section
variable {X : Cx} {k np : Nat} {f : Addr} {fd : FuncData} {ps : List Str} {sp : Sp} {E : L2.St → XK} {x : Str} {p pos : Pos} {e : Expr} {es : List Expr} {t : TA} {io : List Nat} {S : SpT} {tas : TwA} {dvs : List V} {ds : List Value} {dts : List PyData}
end
end TX

/-! Products of which one side is short. -/
namespace TX
open PySem PySem.Spec L2 PyProof.Rows
section
variable {X : Cx} {a b : Expr} {ta tb : TwE} {pos : Pos}
end
end TX

/-! a, b = e1, e2 where a name is a cell: over a tuple. -/
namespace TX
open PySem PySem.Spec L2 PyProof.Rows
section
variable {X : Cx} {io : List Nat} {a b : Expr} {tas : TwA} {px py pt pt2 pos : Pos} {kt k2 : Nat}
end
end TX

/-! Dicts by comprehensions, nothing but their own names changed. -/
namespace TX
open PySem PySem.Spec L2 PyProof.Rows
section
variable {ρ : Rho} {Q : T → Rho → Prop} {g : TwG} {tt : TwT} {tk tv : TwE} {vs : List Nat}
end
end TX

/-! Texts: split, join, int of a text, a sign in a text, a text walked. -/
namespace TX
open PySem PySem.Spec L2 PyProof.Rows
/-! ### text.split(sep), sep.join(texts) -/
section
variable {X : Cx} {o e i : Expr} {apos cpos p pos : Pos} {ta tb : TwE} {tas : TwA} {tg : Expr}
/-! ### int(text) -/
/-! ### sign in text -/
/-! ### a text walked -/
end
end TX

/-! A list or a tuple, walked. -/
namespace TX
open PySem PySem.Spec L2 PyProof.Rows
section
variable {X : Cx} {tg e : Expr} {ta : TwE}
end
end TX

/-! zip of two tuples. -/
namespace TX
open PySem PySem.Spec L2 PyProof.Rows RZ
section
variable {X : Cx} {a b : Expr} {tas : TwA} {p pos tpos : Pos} {elts : List Expr} {kk : Nat}
end
end TX

/-! A tree of one's own, looked at as data while an expression runs; one's own again behind it. -/
namespace TX
open PySem PySem.Spec L2
section
variable {K : PySem.W.Frag} {C : Ctx} {n m : Nat} {σ : L2.St} {H H' : Hp} {O O' : Own} {ρ : Rho} {i : Nat} {t0 : T} {x : PyData}
theorem Rel.lookD (R : Rel K C n σ H O ρ) (e : ρ[i]? = some (some t0)) (ex : erase t0 = some x) : Rel K (lockZ H (dropR i O) C) n σ H (dropR i O) (ρ.set i (some (.d x))) := by
  have hi : i < ρ.length := (List.getElem?_eq_some_iff.mp e).1
  have hiN := R.slt e
  obtain ⟨v, hv, tr⟩ := R.sl i _ e
  have rp : Rp K (msk (dropR i O) H) v x := Rp.mono (fun b o h => by
    have hb : dropR i O b = .free := by
      unfold vis at h
      split at h
      · rename_i z; exact dropR_free z
      · cases h
      · rename_i r p z
        split at h
        · rename_i y; unfold dropR; rw [z]; simp [y]
        · cases h
    rw [msk_of hb]
    exact vis_le b o h) _ _ (Tr.view t0 [] v x ex tr)
  refine ⟨fun b o e1 e2 => ?_, fun b h => R.nt b fun z => h (dropR_free z), fun b r p h => R.lt b r p (dropR_at.mp h).1, fun x y r p e1 e2 => R.inj x y r p (dropR_at.mp e1).1 (dropR_at.mp e2).1, fun b r p h l => ?_, R.ln, by rw [List.length_set]; exact R.lr, fun j t h => ?_, R.hN, fun b h => ?_, fun b j p h => absurd h lockZ_io, ⟨trivial, fun b j p h => absurd h lockZ_io⟩⟩
  · cases h : dropR i O b with
    | «at» r p => rw [(lockZ_at h).1] at e1; cases e1
    | free => have := lockZ_no (H := H) (C := C) (O := dropR i O) (b := b) (by rw [h]; intro r p z; cases z); rw [this.1] at e1; exact ⟨e1, by rw [this.2, h]⟩
    | foreign => have := lockZ_no (H := H) (C := C) (O := dropR i O) (b := b) (by rw [h]; intro r p z; cases z); rw [this.1] at e1; exact ⟨e1, by rw [this.2, h]⟩
  · obtain ⟨h1, h2⟩ := dropR_at.mp h
    obtain ⟨t, z, g1, g2, g3⟩ := R.val b r p h1 l
    exact ⟨t, z, by rw [List.getElem?_set_ne (fun z => h2 z.symm)]; exact g1, g2, g3⟩
  · rw [set_get hi] at h
    split at h
    · rename_i z; subst z; cases h; exact ⟨_, hv, .d rp⟩
    · rename_i z
      obtain ⟨w, h1, h2⟩ := R.sl j t h
      exact ⟨w, h1, Tr.move (r' := j) (p0 := []) (p1 := []) (fun b o e1 e2 => ⟨e1, dropR_free e2⟩) (fun b o q e1 e2 => ⟨e1, dropR_at.mpr ⟨e2, z⟩⟩) t [] w h2⟩
  · have h1 := dropR_foreign.mp h
    obtain ⟨o, h2, _⟩ := R.nt b (by rw [h1]; intro z; cases z)
    have := lockZ_no (H := H) (C := C) (O := dropR i O) (b := b) (by rw [h]; intro r p z; cases z)
    exact ⟨o, by rw [this.1]; exact h2, by rw [this.2]; exact h⟩
end
end TX

/-! A target that may set more slots. -/
namespace TX
open PySem PySem.Spec L2
theorem LG.wid {X : Cx} {s s' : List Nat} {e : Expr} {tg : TwG} (h : LG X s e tg) (hs : ∀ i ∈ s, i ∈ s') : LG X s' e tg := by
  refine ⟨h.mono, fun C W n hC hn tk => (h.run C W n hC hn tk).imp fun v σ H Q ⟨O, ρ, x, R, rp, q⟩ => ⟨O, ρ, x, R, rp, h.mono _ _ _ _ _ _ (fun ρ' q' => ?_) (fun _ _ z => z) q⟩⟩
  intro σ' H' O' R' F w
  exact q' σ' H' O' R' (F.wid hs) (wipe_wid w hs (R'.ln.trans R.ln.symm))
end TX

/-! x = e1; y = e2, while a tree of one's own at slot i is looked at as data: behind them it is one's own again, and what might be it is forgotten. -/
namespace TX
open PySem PySem.Spec L2
section
variable {K : PySem.W.Frag} {C : Ctx} {n m : Nat} {σ σ' : L2.St} {H H' : Hp} {O O' : Own} {ρ ρ' ρ4 : Rho} {i k1 k2 : Nat} {t0 : T} {x : PyData}
end
section
variable {X : Cx} {rest : List Stmt} {u : TwS} {e1 e2 : Expr} {ta tb : TwE} {p1 p2 q1 q2 : Pos}
end
end TX

/-! dict(pairs with tuple keys), list(d.items()), sum of ints. -/
namespace TX
open PySem PySem.Spec L2 PyProof.Rows
section
variable {X : Cx} {pins : List (Addr × Obj)} {σ : L2.St} {H : Hp} {s : Shared}
end
/-! ### over trees -/
section
variable {K : PySem.W.Frag} {M : Hp}
end
section
variable {X : Cx} {e : Expr} {tas : TwA} {p pos : Pos}
end
/-! ### sum -/
section
variable {X : Cx} {e : Expr} {tas : TwA} {p pos : Pos}
end
end TX

/-! list(d.items()) of any dict of data. -/
namespace TX
open PySem PySem.Spec L2 PyProof.Rows
section
variable {prog : Program} {w : World} {A : Around} {E : Value → Shared → Prop} {s : Shared} {vw d : Addr} {es : Array DictEntry} {ep : Nat}
end
section
variable {X : Cx} {pins : List (Addr × Obj)} {σ : L2.St} {H : Hp} {s : Shared} {a : Addr} {kd : List PyData} {vs : List V}
end
/-! ### over trees -/
/-- more shared objects -/
theorem Rel.more {K : PySem.W.Frag} {C : Ctx} {n : Nat} {σ : L2.St} {H H' : Hp} {O : Own} {ρ : Rho} (R : Rel K C n σ H O ρ) (k : ∀ b o, H b = some o → H' b = some o) : Rel K C n σ H' O ρ :=
  ⟨fun b o e1 e2 => let ⟨z1, z2⟩ := R.fr b o e1 e2; ⟨k b o z1, z2⟩, fun b h => let ⟨o, z1, z2⟩ := R.nt b h; ⟨o, k b o z1, z2⟩, R.lt, R.inj, R.val, R.ln, R.lr, fun i t e => by
    obtain ⟨v, h1, h2⟩ := R.sl i t e
    exact ⟨v, h1, Tr.move (r' := i) (p0 := []) (p1 := []) (fun b o e1 e2 => ⟨k b o e1, e2⟩) (fun b o q e1 e2 => ⟨k b o e1, e2⟩) t [] v h2⟩, R.hN, R.fo, R.pz, R.sm⟩
/-- the dict's pairs, as data -/
def dpairs (ρ : Rho) : T → Option (List (PyData × PyData))
  | .a r p => match getT ρ r p with
    | some (.m _ ks ts) => (allD ts).map fun xs => ks.zip xs
    | _ => none
  | .d (.dict ps) => some ps
  | .lk _ ks xs => some (ks.zip xs)
  | .m _ ks ts => (allD ts).map fun xs => ks.zip xs
  | _ => none
def itP (p : PyData × PyData) : PyData := .tuple [p.1, p.2]
def liK (t : T) (ρ : Rho) (Q : T → Rho → Prop) : Prop := ∃ ps, dpairs ρ t = some ps ∧ Q (.l ((ps.map itP).map T.d)) ρ
def wLi (ta : TwE) : TwE := fun ρ Q E => ta ρ (fun t ρ1 => liK t ρ1 Q) E
section
variable {X : Cx} {e : Expr} {ta : TwE} {p apos cpos pos : Pos}
end
theorem xLi {ρ : Rho} {Q : T → Rho → Prop} {E : ExK} {ta : TwE} (h : ta ρ (fun t ρ1 => liK t ρ1 Q) E) : wLi ta ρ Q E := h
end TX

/-! for i, (x, y) in enumerate(zip(xs, ys)). -/
namespace TX
open PySem PySem.Spec L2 PyProof.Rows
section
variable {prog : Program} {w : World} {A : Around} {E : Value → Shared → Prop} {s : Shared} {z TI TO i1 i2 a b e : Addr}
end
end TX

/-! for i, (x, y) in enumerate(zip(xs, ys)), over trees. -/
namespace TX
open PySem PySem.Spec L2 PyProof.Rows
/-! ### enumerate(zip(xs, ys)) is made -/
section
variable {prog : Program} {w : World} {A : Around} {E : Value → Shared → Prop} {s : Shared} {z TI TO : Addr}
set_option maxHeartbeats 4000000 in
end
/-! ### over trees -/
section
variable {X : Cx} {a b : Expr} {tas : TwA} {p p2 pos pos2 tpos : Pos} {elts : List Expr} {kk : Nat}
def wIEz (tas : TwA) : TwI := fun ρ Q E => tas ρ (fun ts ρ1 => ∃ t u xs ys, ts = [t, u] ∧ flatL t = some xs ∧ flatL u = some ys ∧ Q (enumD (zipD xs ys)) ρ1) E
end
def iezK (ts : List T) (ρ : Rho) (QI : List PyData → Rho → Prop) : Prop := ∃ t u xs ys, ts = [t, u] ∧ flatL t = some xs ∧ flatL u = some ys ∧ QI (enumD (zipD xs ys)) ρ
theorem xIEz {ρ : Rho} {QI : List PyData → Rho → Prop} {E : ExK} {tas : TwA} (h : tas ρ (fun ts ρ1 => iezK ts ρ1 QI) E) : wIEz tas ρ QI E := h
end TX

namespace TX
open PySem PySem.Spec L2
/-! ### len of a dict -/
section
variable {X : Cx} {e : Expr} {tas : TwA} {p pos : Pos}
end
end TX

namespace TX
open PySem PySem.Spec L2
/-! ### a slot shared from here on, if it holds something -/
section
variable {X : Cx} {io : List Nat} {st : Stmt} {t : TwS}
end
end TX

/-! A dict display whose keys are tuples and whose values are texts, all written out. -/
namespace TX
open PySem PySem.Spec L2 PyProof.Rows
section
variable {prog : Program} {w : World} {K : Type} [DecidableEq K] {knd : HeapKind prog w K} {A : Around} {E : Value → Shared → Prop} {s : Shared} {env : Env}
end
section
variable {X : Cx} {pos p1 p2 p3 p4 : Pos}
end
end TX

/-! x is True, x is not True: of any thing x. -/
namespace TX
open PySem PySem.Spec L2 PyProof.Rows
section
variable {M : Model} {A : Around} {E : Value → Shared → Prop} {s : Shared} {Q : Value → Shared → Prop}
end
section
variable {X : Cx}
end
end TX

/-! t + u of tuples; sorted(set(t)) of a tuple of whole numbers. -/
namespace TX
open PySem PySem.Spec L2 PyProof.Rows
section
variable {X : Cx} {a b e : Expr} {ta tb : TwE} {p p2 p3 pos : Pos}
end
end TX

/-! dict([(k, []) for ..]): the lists are the dict's own. -/
namespace TX
open PySem PySem.Spec L2 PyProof.Rows
section
variable {K : PySem.W.Frag} {C : Ctx} {n m : Nat} {σ : L2.St} {H : Hp} {O : Own} {ρ : Rho}
end
section
variable {wi : TwI} {g : TwG} {tk : TwE}
end
section
variable {X : Cx} {kx tg iter : Expr} {scope : Scope} {own : List (Str × Nat)} {pos pos2 pos3 pos4 p : Pos} {ld : Nat} {wi : TwI} {g : TwG} {tk : TwE}
end
end TX

/-! {k: v, ..} of any keys (numbers, texts) and any values (data); d[k] = v where d is used no more. -/
namespace TX
open PySem PySem.Spec L2 PyProof.Rows
abbrev TwP := Rho → (List (Key × PyData) → Rho → Prop) → ExK → Prop
def lfP (K : PySem.W.Frag) (C : Ctx) (W : WX) (n l : Nat) (tw : TwP) (σ : L2.St) (H : Hp) (Q : List (V × V) → Hp → Prop) : Prop := ∃ O ρ, Rel K C n σ H O ρ ∧
  tw ρ (fun kvs ρ' => ∀ ws H' O', Rel K C (n + 2 * l) σ H' O' ρ' → Frm C.N n H O H' O' → KRp K (msk (cut n O') H') ws kvs → ws.length = l → Q (ws.map fun kv => (kV kv.1, kv.2)) H') (exK K C W H O)
structure LP (X : Cx) (pos : Pos) (ks : List (Option Expr)) (vs : List Expr) (tw : TwP) : Prop where
  mono : MonE tw
  run : ∀ (C : Ctx) (W : WX) (n : Nat), C.N = X.N.length → C.N ≤ n → Takes X W → ∃ trs, PPs X pos ks vs trs ∧ ∀ σ H Q, lfP X.K C W n vs.length tw σ H Q → tPairs trs σ H Q
section
variable {X : Cx} {pos : Pos} {k v : Expr} {ks : List (Option Expr)} {vs : List Expr} {tk tv : TwE} {tr : TwP}
end
/-! ### d[k] = v, d no more used -/
section
variable {X : Cx} {io : List Nat} {pos p2 p3 p4 : Pos} {x : Str} {e kx : Expr} {ta tb : TwE}
end
end TX

/-! Errors of the program's own: raise, try .. except, what is caught as a value. -/
namespace TX
open PySem PySem.Spec L2 PyProof.Rows
/-! ### the classes -/
def subX (c d : Str) : Bool := c == d || d == "CrossError"
def veMro : List Value := [.type "ValueError", .type "Exception", .type "BaseException", .type "object"]
def xcOne (K : PySem.W.Frag) (x : Str) : Bool := match PySem.W.nsIn K mainGlobals x with
  | some (some (.ref a)) => PySem.W.excIn K a veMro "ValueError.__new__" && PySem.W.keepIn K (.ref a) && (PySem.W.subIn K (.ref a) (.type "BaseException") == some true) && (PySem.W.typeIn K (.ref a) == some (.type "type"))
      && (PySem.W.findIn K (.ref a) "__getattribute__" == some (some (.builtin "BaseException.__getattribute__"))) && (PySem.W.findIn K (.ref a) "__getattr__" == some none) && PySem.W.hasDictIn K a
      && (PySem.W.findIn K (.ref a) "__class__" == some (some (.builtin "object.__class__"))) && (PySem.W.mroIn K a (.type "object") == some true) && (PySem.W.kitOne K (.ref a) (.type "ValueError") == some true)
  | _ => false
def xcOk (K : PySem.W.Frag) (xs : List Str) : Bool := xs.all (xcOne K) && (xs.all fun x => xs.all fun y => PySem.W.exmOne K (.ref (clsA K x)) (.ref (clsA K y)) == some (subX x y) && PySem.W.kitOne K (.ref (clsA K x)) (.ref (clsA K y)) == some (subX x y))
  && (PySem.W.specialIn K (.builtin "object.__class__") "__get__" == some (some (.builtin "getset_descriptor.__get__"))) && (PySem.W.takesIn K (.builtin "object.__class__") == some true)
structure Xc (K : PySem.W.Frag) (mg : Str → Option Value) (x : Str) : Prop where
  g : mg x = some (.ref (clsA K x))
  k : PySem.W.keepIn K (.ref (clsA K x)) = true
  e : PySem.W.excIn K (clsA K x) veMro "ValueError.__new__" = true
  s : PySem.W.subIn K (.ref (clsA K x)) (.type "BaseException") = some true
  t : PySem.W.typeIn K (.ref (clsA K x)) = some (.type "type")
  i : ExcC K (clsA K x)
  v : PySem.W.kitOne K (.ref (clsA K x)) (.type "ValueError") = some true
structure Xcs (K : PySem.W.Frag) (mg : Str → Option Value) (xs : List Str) : Prop where
  one : ∀ x ∈ xs, Xc K mg x
  exm : ∀ x ∈ xs, ∀ y ∈ xs, PySem.W.exmOne K (.ref (clsA K x)) (.ref (clsA K y)) = some (subX x y)
  kit : ∀ x ∈ xs, ∀ y ∈ xs, PySem.W.kitOne K (.ref (clsA K x)) (.ref (clsA K y)) = some (subX x y)
theorem xcs_of {K : PySem.W.Frag} {h : Heap} {mg : Str → Option Value} {xs : List Str} (X : K.In h) (G : h.Ns mainGlobals mg) (ok : xcOk K xs = true) : Xcs K mg xs := by
  unfold xcOk at ok
  simp only [Bool.and_eq_true, List.all_eq_true, beq_iff_eq] at ok
  obtain ⟨⟨⟨h1, h2⟩, h3⟩, h4⟩ := ok
  refine ⟨fun x hx => ?_, fun x hx y hy => (h2 x hx y hy).1, fun x hx y hy => (h2 x hx y hy).2⟩
  have o := h1 x hx
  unfold xcOne at o
  split at o
  · rename_i a e
    simp only [Bool.and_eq_true, beq_iff_eq] at o
    have ea : clsA K x = a := by unfold clsA; rw [e]
    obtain ⟨⟨⟨⟨⟨⟨⟨⟨⟨o1, o2⟩, o3⟩, o4⟩, o5⟩, o6⟩, o7⟩, o8⟩, o9⟩, o10⟩ := o
    exact ⟨by rw [ea]; exact PySem.W.mg_of X G e, by rw [ea]; exact o2, by rw [ea]; exact o1, by rw [ea]; exact o3, by rw [ea]; exact o4, by rw [ea]; exact ⟨o5, o6, o3, o7, o8, h3, h4, o9⟩, by rw [ea]; exact o10⟩
  · cases o
/-! ### raise -/
def wRaise (c : Str) : TwS := fun D ρ => D.ex c ρ
section
variable {X : Cx} {io : List Nat} {x m : Str} {j : Nat} {p p2 pos pos' : Pos} {e : Expr} {xs : List Str}
theorem ls_raise (hc : X.calm = true) (T : Xcs X.K X.mg xs) (hx : x ∈ xs) (hg : Gl X x) (hdb : (x == ("__debug__" : Str)) = false := by decide) : LS X io (.Raise (some (.Call (.Name x p) [.Constant (.str m) j p2] [] pos)) none pos') (wRaise x) :=
  ⟨fun D D' ρ l q => l.ex _ _ q, fun C W hC hio tk hp => (L2N.ps_raise hc tk (L2N.pmk_own PySem.F.excBase_ValueError (T.one x hx).e (T.one x hx).g (T.one x hx).k (raises_own (T.one x hx).s (T.one x hx).t) hg hdb)).imp fun D σ H ⟨O, ρ, R, q⟩ => q σ H O R .refl⟩
/-! ### a class -/
end
/-! ### isinstance of an error -/
section
variable {X : Cx} {a b e : Expr} {es : List Expr} {tas : TwA} {ta : TwE} {p pos pos2 : Pos} {xs : List Str} {ld : Nat}
end
/-! ### is None, of anything -/
section
variable {X : Cx} {a : Expr} {ta : TwE} {pos p2 : Pos} {j : Nat}
end
end TX

/-! try: .. except C as e: .., what is caught a value. -/
namespace TX
open PySem PySem.Spec L2 PyProof.Rows
section
variable {X : Cx} {pins : List (Addr × Obj)} {σ : L2.St} {H : Hp} {s : Shared}
end
section
variable {X : Cx} {x n : Str} {c : Value} {i : Nat} {body suite : List Stmt} {b₀ : Stmt} {np pos pos' : Pos} {tb : WX → TS} {ts : TS} {Wout : WX}
end
/-! ### over trees -/
section
variable {K : PySem.W.Frag} {C : Ctx} {n m : Nat} {σ : L2.St} {H H' : Hp} {O O' : Own} {ρ : Rho}
end
section
variable {X : Cx} {io : List Nat} {c n : Str} {i : Nat} {xs : List Str} {body suite : List Stmt} {b₀ : Stmt} {np pos pos' : Pos} {tb ts : TwS}
end
end TX

/-! d[k] = data, d a dict at a slot whose values are lists of one's own (or data); is None as a test. -/
namespace TX
open PySem PySem.Spec L2 PyProof.Rows
section
variable {K : PySem.W.Frag} {C : Ctx} {n m : Nat} {σ : L2.St} {H : Hp} {O : Own} {ρ : Rho}
end
section
variable {X : Cx} {o kx : Expr} {i : Nat} {x : Str} {tb : TwE} {pos p2 : Pos}
variable {io : List Nat} {e : Expr} {ta : TwE} {p3 : Pos}
end
/-! ### is None, as a test -/
section
variable {X : Cx} {a : Expr} {ta : TwE} {pos p2 : Pos} {j : Nat}
end
end TX

/-! dict([(k, list(..)) for ..]): the lists are the dict's own. -/
namespace TX
open PySem PySem.Spec L2 PyProof.Rows
section
variable {K : PySem.W.Frag} {C : Ctx} {n m : Nat} {σ : L2.St} {H : Hp} {O : Own} {ρ : Rho}
end
section
variable {wi : TwI} {g : TwG} {tk tv : TwE}
end
section
variable {X : Cx} {kx vx tg iter : Expr} {scope : Scope} {own : List (Str × Nat)} {pos pos3 pos4 p : Pos} {ld : Nat} {wi : TwI} {g : TwG} {tk tv : TwE}
end
/-! ### reading -/
end TX

/-! d.clear() of a dict with tuples as keys. -/
namespace L2
open PySem PySem.Spec PyProof.Rows
section
variable {X : Cx} {o : Expr} {to : TE} {apos cpos : Pos}
end
end L2
namespace TX
open PySem PySem.Spec L2 PyProof.Rows
section
variable {X : Cx} {io : List Nat} {pos p2 apos cpos : Pos} {x : Str}
end
end TX

/-! Objects of the program's own classes: o.f, o.f = e. -/
namespace TX
open PySem PySem.Spec L2 PyProof.Rows
/-! ### classes -/
structure Ob (K : PySem.W.Frag) (mg : Str → Option Value) (c : Str) (fs : List Str) : Prop where
  g : mg c = some (.ref (clsA K c))
  cl : Cls K (clsA K c)
  ms : PySem.W.makesIn K (clsA K c) = true
  kp : PySem.W.keepIn K (.ref (clsA K c)) = true
  no : ∀ f ∈ fs, NoAttr K (clsA K c) f
def obOk (K : PySem.W.Frag) (c : Str) (fs : List Str) : Bool := match PySem.W.nsIn K mainGlobals c with
  | some (some (.ref a)) => PySem.W.plainGet K a Str.empty && PySem.W.hasDictIn K a && PySem.W.plainOver K a && (PySem.W.findIn K (.ref a) "__setattr__" == some (some (.builtin "object.__setattr__"))) && PySem.W.makesIn K a && PySem.W.keepIn K (.ref a)
      && (fs.all fun f => PySem.W.findIn K (.ref a) f == some none)
  | _ => false
theorem ob_of {K : PySem.W.Frag} {h : Heap} {mg : Str → Option Value} {c : Str} {fs : List Str} (X : K.In h) (G : h.Ns mainGlobals mg) (ok : obOk K c fs = true) : Ob K mg c fs := by
  unfold obOk at ok
  split at ok
  · rename_i a e
    simp only [Bool.and_eq_true, List.all_eq_true, beq_iff_eq] at ok
    have ea : clsA K c = a := by unfold clsA; rw [e]
    obtain ⟨⟨⟨⟨⟨⟨o1, o2⟩, o3⟩, o4⟩, o5⟩, o6⟩, o7⟩ := ok
    exact ⟨by rw [ea]; exact PySem.W.mg_of X G e, by rw [ea]; exact ⟨o1, o2, o3, o4⟩, by rw [ea]; exact o5, by rw [ea]; exact o6, fun f hf => by rw [ea]; exact o7 f hf⟩
  · cases ok
/-! ### attributes by place -/
def ixS : List Str → Str → Option Nat
  | [], _ => none
  | a :: as, f => if a = f then some 0 else (ixS as f).map (· + 1)
def putNs : List Str → Str → List Str
  | [], f => [f]
  | a :: as, f => if a = f then a :: as else a :: putNs as f
def putXs : List Str → List PyData → Str → PyData → List PyData
  | a :: as, x :: xs, f, y => if a = f then y :: xs else x :: putXs as xs f y
  | _, _, _, y => [y]
theorem ixS_look : ∀ {fs : List (Str × V)} {f : Str} {k : Nat}, ixS (fs.map (·.1)) f = some k → ∃ v, fs[k]? = some (f, v) ∧ fs.lookup f = some v
  | [], f, k, h => by cases h
  | (a, v) :: fs, f, k, h => by
    simp only [List.map_cons, ixS] at h
    by_cases e : a = f
    · rw [if_pos e] at h
      cases h
      subst e
      exact ⟨v, rfl, by simp [List.lookup]⟩
    · rw [if_neg e] at h
      cases h1 : ixS (fs.map (·.1)) f with
      | none => rw [h1] at h; cases h
      | some j =>
        rw [h1] at h
        cases h
        obtain ⟨w, e1, e2⟩ := ixS_look h1
        have hb : (f == a) = false := beq_eq_false_iff_ne.mpr fun z => e z.symm
        exact ⟨w, by simpa using e1, by simp only [List.lookup, hb]; exact e2⟩
theorem ixS_none : ∀ {fs : List (Str × V)} {f : Str}, ixS (fs.map (·.1)) f = none → fs.lookup f = none
  | [], _, _ => rfl
  | (a, v) :: fs, f, h => by
    simp only [List.map_cons, ixS] at h
    by_cases e : a = f
    · rw [if_pos e] at h; cases h
    · rw [if_neg e] at h
      have hb : (f == a) = false := beq_eq_false_iff_ne.mpr fun z => e z.symm
      simp only [List.lookup, hb]
      exact ixS_none (by cases h1 : ixS (fs.map (·.1)) f with | none => rfl | some j => rw [h1] at h; cases h)
theorem putF_ns {f : Str} {v : V} : ∀ {fs : List (Str × V)}, (putF f v fs).map (·.1) = putNs (fs.map (·.1)) f
  | [] => rfl
  | (a, x) :: fs => by
    rw [show putF f v ((a, x) :: fs) = (if a = f then (a, v) :: fs else (a, x) :: putF f v fs) from rfl]
    simp only [List.map_cons, putNs]
    by_cases e : a = f
    · rw [if_pos e, if_pos e]; rfl
    · rw [if_neg e, if_neg e, List.map_cons, putF_ns]
theorem putF_vs {K : PySem.W.Frag} {M : Hp} {f : Str} {v : V} {y : PyData} (r : Rp K M v y) : ∀ {fs : List (Str × V)} {xs : List PyData}, RpAll K M (fs.map (·.2)) xs → RpAll K M ((putF f v fs).map (·.2)) (putXs (fs.map (·.1)) xs f y)
  | [], _, h => by cases h; exact .cons r .nil
  | (a, x) :: fs, _, h => by
    cases h with
    | cons h1 h2 =>
      rw [show putF f v ((a, x) :: fs) = (if a = f then (a, v) :: fs else (a, x) :: putF f v fs) from rfl]
      simp only [List.map_cons, putXs]
      by_cases e : a = f
      · rw [if_pos e, if_pos e]; exact .cons r h2
      · rw [if_neg e, if_neg e]; exact .cons h1 (putF_vs r h2)
/-- an object whose attributes are data -/
def oD (c : Str) (ns : List Str) (xs : List PyData) : T := .o c ns (xs.map T.d)
theorem sub_o {c : Str} {ns : List Str} {ds : List PyData} : ∀ {q : List Nat} {z : T}, subT (oD c ns ds) q = some z → isNode z = true → q = []
  | [], _, _, _ => rfl
  | k :: q, z, h, hn => by
    simp only [subT, oD, kid, kid0, strip, List.getElem?_map] at h
    cases e : ds[k]? with
    | none => rw [e] at h; cases h
    | some x =>
      rw [e] at h
      cases q with
      | nil => cases h; cases hn
      | cons j q => simp [subT, kid, kid0, strip] at h
section
variable {X : Cx} {io : List Nat} {c f : Str} {fs : List Str} {pos pos' : Pos} {o e value : Expr} {ta tv : TwE}
/-! ### o.f -/
def fldK (c f : Str) (t : T) (ρ : Rho) (Q : T → Rho → Prop) : Prop := ∃ r p ns xs k u, t = .a r p ∧ getT ρ r p = some (.o c ns xs) ∧ ixS ns f = some k ∧ xs[k]? = some u ∧ Q (if isNode u then .a r (p ++ [k]) else u) ρ
def wFld (c f : Str) (ta : TwE) : TwE := fun ρ Q E => ta ρ (fun t ρ1 => fldK c f t ρ1 Q) E
theorem le_fld (Tc : Ob X.K X.mg c fs) (hf : f ∈ fs) (ha : LE X e ta) (hb : attributeBase e f X.env (eval e X.env) = eval e X.env := by rfl) : LE X (.Attribute e f pos) (wFld c f ta) := by
  refine ⟨fun ρ Q Q' E E' h he q => ha.mono ρ _ _ E E' (fun t ρ1 ⟨r, p, ns, xs, k, u, h1, h2, h3, h4, q⟩ => ⟨r, p, ns, xs, k, u, h1, h2, h3, h4, h _ _ q⟩) he q,
    fun C W n hC hn tk => (pe_fld (ha.run C W n hC hn tk) hb).imp fun σ H Q ⟨O, ρ, R, q⟩ => ⟨O, ρ, R, ha.mono ρ _ _ _ _ (fun t ρ1 ⟨r, p, ns, xs, k, u, et, g, hk, hx, q⟩ => ?_) (fun _ _ z => z) q⟩⟩
  intro v H2 O2 R2 F V1
  subst et
  obtain ⟨⟨ad, rfl, ha2, hr⟩, hno⟩ := V1
  have tr := R2.alias g rfl ha2
  cases tr with
  | o h1 h2 h3 h4 =>
    subst h3
    obtain ⟨v', e1, e2⟩ := ixS_look hk
    obtain ⟨v2, e6, e7⟩ := h4.get hx
    rw [List.getElem?_map, e1] at e6
    cases e6
    refine ⟨ad, _, _, _, v', rfl, h2, Tc.cl, Tc.no f hf, e2, ?_⟩
    have FF := F.trans (frm_cut C.N n H2 O2 hn) (Nat.le_refl _)
    by_cases hc : isNode u = true
    · rw [if_pos hc] at q
      obtain ⟨a', rfl, ha'⟩ := tr_root e7 hc
      rw [Nat.zero_add] at ha'
      have hrN : r < C.N := let ⟨_, e8, _⟩ := getT_some g; R2.slt e8
      exact q _ H2 _ ((R2.cut hn).up (Nat.le_succ _)) FF ⟨⟨a', rfl, cut_at.mpr ⟨ha', Nat.lt_of_lt_of_le hrN hn⟩, Nat.lt_of_lt_of_le hrN hn⟩, fun b q z => Nat.lt_irrefl _ (cut_at.mp z).2⟩
    · rw [if_neg hc] at q
      cases e7 with
      | d e7 => exact Fin.dat hn R2 F q e7
      | raw => exact q _ H2 _ ((R2.cut hn).up (Nat.le_succ _)) FF (R2.cut hn).val_raw
      | fz h => exact q _ H2 _ ((R2.cut hn).up (Nat.le_succ _)) FF ((R2.cut hn).val_fz (sql_mono (fun b o z => by obtain ⟨z1, z2⟩ := msk_some z; rw [msk_of (cut_free z1)]; exact z2) h))
      | lk h1 h2 h3 h4 => exact q _ H2 _ ((R2.cut hn).up (Nat.le_succ _)) FF ((R2.cut hn).val_lk (cut_free h1) h2 h3 (RpAll.mono (fun b o z => by obtain ⟨z1, z2⟩ := msk_some z; rw [msk_of (cut_free z1)]; exact z2) _ _ h4))
      | lt h1 h2 h3 h4 => exact q _ H2 _ ((R2.cut hn).up (Nat.le_succ _)) FF ((R2.cut hn).val_lt (cut_free h1) h2 h3 (RpAll.mono (fun b o z => by obtain ⟨z1, z2⟩ := msk_some z; rw [msk_of (cut_free z1)]; exact z2) _ _ h4))
      | l _ _ _ => exact absurd rfl hc
      | mk _ _ _ _ => exact absurd rfl hc
      | mt _ _ _ _ => exact absurd rfl hc
      | o _ _ _ _ => exact absurd rfl hc
      | s _ _ => exact absurd rfl hc
      | ex h1 h2 => exact q _ H2 _ ((R2.cut hn).up (Nat.le_succ _)) FF ((R2.cut hn).val_ex (cut_free h1) h2)
      | cl => exact q _ H2 _ ((R2.cut hn).up (Nat.le_succ _)) FF (R2.cut hn).val_cl
      | n h0 h => exact absurd h0 hc
theorem xFld {ρ : Rho} {Q : T → Rho → Prop} {E : ExK} (h : ta ρ (fun t ρ1 => fldK c f t ρ1 Q) E) : wFld c f ta ρ Q E := h
theorem xFldD {ρ : Rho} {Q : T → Rho → Prop} {r k : Nat} {p : List Nat} {ns : List Str} {xs : List PyData} {x : PyData} (g : getT ρ r p = some (oD c ns xs)) (hk : ixS ns f = some k) (hx : xs[k]? = some x) (q : Q (.d x) ρ) : fldK c f (.a r p) ρ Q :=
  ⟨r, p, ns, _, k, .d x, rfl, g, hk, by rw [List.getElem?_map, hx]; rfl, q⟩
/-! ### o.f = data, all attributes data -/
def stFK (c f : Str) (u t : T) (ρ : Rho) (N : Rho → Prop) : Prop := ∃ r p ns xs y, t = .a r p ∧ getT ρ r p = some (oD c ns xs) ∧ erase u = some y ∧ ns.length < 1000 ∧ N (TX.putAt ρ r p (oD c (putNs ns f) (putXs ns xs f y)))
def wSetF (c f : Str) (ta tv : TwE) : TwS := fun D ρ => tv ρ (fun u ρ1 => ta ρ1 (fun t ρ2 => stFK c f u t ρ2 D.nx) D.ex) D.ex
theorem ls_fld (Tc : Ob X.K X.mg c fs) (hf : f ∈ fs) (ha : LE X o ta) (hv : LE X value tv) (hs : swapsWith value (some (.Attribute o f pos')) pos.line X.env = pure false := by rfl) : LS X io (.Assign [.Attribute o f pos'] value pos) (wSetF c f ta tv) := by
  refine ⟨fun D D' ρ l q => hv.mono ρ _ _ _ _ (fun u ρ1 q1 => ha.mono ρ1 _ _ _ _ (fun t ρ2 ⟨r, p, ns, xs, y, h1, h2, h3, h4, q2⟩ => ⟨r, p, ns, xs, y, h1, h2, h3, h4, l.nx _ q2⟩) l.ex q1) l.ex q,
    fun C W hC hio tk hp => (ps_fld (ha.run C W (C.N + 1) hC (Nat.le_succ _) tk) (hv.run C W C.N hC (Nat.le_refl _) tk) hs).imp fun D σ H ⟨O, ρ, R, q⟩ => ?_⟩
  refine ⟨O, ρ, R, hv.mono ρ _ _ _ _ (fun u ρ1 q1 => ?_) (fun _ _ z => z) q⟩
  intro v H1 O1 R1 F1 V1
  refine ⟨O1, ρ1, R1, ha.mono ρ1 _ _ _ _ (fun t ρ2 ⟨r, p, ns, xs, y, h1, h2, h3, h4, q2⟩ => ?_) (fun c ρ' z => exK.on F1.fre c ρ' z) q1⟩
  intro w H2 O2 R2 F2 V2
  subst h1
  obtain ⟨⟨a, rfl, e, _⟩, _⟩ := V2
  have tr := R2.alias h2 rfl e
  have rp := (V1.carry (Nat.le_refl _) R1.lt R1.nt F2).asD (Nat.le_refl _) h3
  have hr : r < C.N := let ⟨_, e, _⟩ := getT_some h2; R2.slt e
  have ha1 : cut C.N O2 a = .at r p := cut_at.mpr ⟨e, hr⟩
  unfold oD at tr
  cases tr with
  | o g1 g2 g3 g4 =>
    rename_i dx fs'
    have up : ∀ {o : HO} b u, msk O2 H2 b = some u → msk (cut C.N O2) (upd H2 a o) b = some u := fun {o} b u z => by
      obtain ⟨z1, z2⟩ := msk_some z
      rw [msk_of (cut_free z1), upd_ne (fun e' => by subst e'; rw [e] at z1; cases z1)]; exact z2
    have up2 : ∀ {o : HO} b u, msk (cut C.N O2) H2 b = some u → msk (cut C.N O2) (upd H2 a o) b = some u := fun {o} b u z => by
      obtain ⟨z1, z2⟩ := msk_some z
      rw [msk_of z1, upd_ne (fun e' => by subst e'; rw [ha1] at z1; cases z1)]; exact z2
    have rps := RpAll.mono (fun b u z => up (o := .ins (clsA X.K c) dx (putF f v fs')) b u z) _ _ g4.data
    have rv := Rp.mono (fun b u z => up2 (o := .ins (clsA X.K c) dx (putF f v fs')) b u z) _ _ rp
    obtain ⟨R3, F3⟩ := relUpdF (u' := oD c (putNs ns f) (putXs ns xs f y)) (o' := .ins (clsA X.K c) dx (putF f v fs')) R2 (Nat.le_refl _) h2 (fun q z a b => sub_o a b) rfl rfl e trivial
      (by subst g3; exact .o ha1 upd_same putF_ns.symm (TrAll.ofData (putF_vs rv rps)))
    exact ⟨a, _, dx, fs', rfl, g2, Tc.cl, Tc.no f hf, by rw [g3, List.length_map] at h4; exact h4, q2 σ _ _ R3 ((F1.fre.trans F2.fre).trans F3.fre)⟩
theorem xSetF {D : EndsT} {ρ : Rho} (h : tv ρ (fun u ρ1 => ta ρ1 (fun t ρ2 => stFK c f u t ρ2 D.nx) D.ex) D.ex) : wSetF c f ta tv D ρ := h
theorem xSetFD {ρ : Rho} {N : Rho → Prop} {u : T} {r : Nat} {p : List Nat} {ns ns' : List Str} {xs xs' : List PyData} {y : PyData} (g : getT ρ r p = some (oD c ns xs)) (e : erase u = some y) (l : ns.length < 1000) (h1 : putNs ns f = ns') (h2 : putXs ns xs f y = xs') (q : N (TX.putAt ρ r p (oD c ns' xs'))) : stFK c f u (.a r p) ρ N :=
  ⟨r, p, ns, xs, y, rfl, g, e, l, by rw [h1, h2]; exact q⟩
end
end TX

/-! Methods of the program's own classes, and C(..). -/
namespace TX
open PySem PySem.Spec L2 PyProof.Rows
section
variable {X : Cx} {k : Nat} {f C : Addr} {fd : FuncData} {ps : List Str} {sp : Sp} {E : L2.St → XK} {x m : Str} {p pos apos : Pos} {e o : Expr} {es : List Expr} {t : TA} {ta : TE}
def tMethG (C : Addr) (m : Str) (sp : Sp) (E : L2.St → XK) (ta : TE) (t : TA) : TE := fun σ H Q => ta σ H fun x H1 => ∃ a dx fs, x = .ref a ∧ H1 a = some (.ins C dx fs) ∧ fs.lookup m = none ∧
  t σ H1 fun vs H2 => sp (x :: vs) H2 Q (E σ)
theorem pe_methG {pl : Sem Bool} (he : PE X o ta) (c : Cls X.K C) (hm : Meth X.K C m f) (F : FnG X.prog X.w X.K X.mg X.base k f fd ps sp) (room : Room k X.A) (gu : X.A.guards = some []) (bind : Binds X.K fd ps []) (pass : ∀ σ, PassesAt (L2N.CX X.prog X.w) X σ (E σ)) (ha : PA X (e :: es) t)
    (hst : starEach (e :: es) X.env = (false, eval e X.env) :: starEach es X.env := by rfl) (hpl : (backTo pos (starEach es X.env)).any (·.1) = false := by rfl)
    (ht : eval (.Call (.Attribute o m apos) (e :: es) [] pos) X.env = (do
      let ov ← eval o X.env
      standAt apos.atName
      let (f, first) ← holding [ov] (getMethod ov m pl)
      callWith pos f first (backTo pos (starEach (e :: es) X.env)) (backToKw pos (keywordEach [] X.env))) := by rfl) :
    PE X (.Call (.Attribute o m apos) (e :: es) [] pos) (tMethG C m sp E ta t) := by
  refine ⟨fun pins s σ H Q I h => ?_⟩
  refine PySem.W.methodCall_KW (pl := pl) (thn (he.run pins s σ H _ I h) fun u s1 ⟨x, H1, I1, rx, a, dx, fs, ex, ea, l, q⟩ => ?_) ht
  subst ex
  obtain rfl : u = Value.ref a := rx
  refine getmeth_ok I1 ea c hm l ?_
  refine PySem.W.callWith_K (first := [.ref a]) (h₀ := X.base) I.ok.mod.kin hm.kp (thn (ha.run pos pins s1 σ H1 _ I1 q) fun us s2 ⟨vs, H2, I2, r, q2⟩ => ⟨I2.kIn, ?_⟩) hst hpl
  exact run_fnG (us := .ref a :: us) (vs := .ref a :: vs) F room gu bind (pass σ) I2 (.cons rfl r) q2
theorem pe_methG0 {pl : Sem Bool} (he : PE X o ta) (c : Cls X.K C) (hm : Meth X.K C m f) (F : FnG X.prog X.w X.K X.mg X.base k f fd ps sp) (room : Room k X.A) (gu : X.A.guards = some []) (bind : Binds X.K fd ps []) (pass : ∀ σ, PassesAt (L2N.CX X.prog X.w) X σ (E σ))
    (ht : eval (.Call (.Attribute o m apos) [] [] pos) X.env = (do
      let ov ← eval o X.env
      standAt apos.atName
      let (f, first) ← holding [ov] (getMethod ov m pl)
      callWith pos f first (backTo pos (starEach [] X.env)) (backToKw pos (keywordEach [] X.env))) := by rfl) :
    PE X (.Call (.Attribute o m apos) [] [] pos) (tMethG C m sp E ta tNil) := by
  refine ⟨fun pins s σ H Q I h => ?_⟩
  refine PySem.W.methodCall_KW (pl := pl) (thn (he.run pins s σ H _ I h) fun u s1 ⟨x, H1, I1, rx, a, dx, fs, ex, ea, l, q⟩ => ?_) ht
  subst ex
  obtain rfl : u = Value.ref a := rx
  refine getmeth_ok I1 ea c hm l ?_
  exact PySem.W.callWith_K0 (first := [.ref a]) I1.kIn hm.kp (run_fnG (us := [.ref a]) (vs := [.ref a]) F room gu bind (pass σ) I1 (.cons rfl .nil) q)
def tMakeG (C : Addr) (sp : Sp) (E : L2.St → XK) (t : TA) : TE := fun σ H Q => t σ H fun vs H1 => ∀ x dx, H1 x = none → H1 dx = none → dx ≠ x →
  sp (.ref x :: vs) (L2.upd (L2.upd H1 dx (.own x)) x (.ins C dx [])) (fun v H2 => v = .non ∧ Q (.ref x) H2) (E σ)
theorem run_makeG {E : XK} {pins : List (Addr × Obj)} {σ : L2.St} {H : Hp} {s : Shared} {Q : VK} {us : List Value} {vs : List V} (M : Mk X.K C f) (F : FnG X.prog X.w X.K X.mg X.base k f fd ps sp) (hr : Room (k + 1) X.A) (gu : X.A.guards = some []) (hb : Binds X.K fd ps [])
    (hx : PassesAt (L2N.CX X.prog X.w) X σ E) (I : Inv X pins σ H s) (r : Vals vs us)
    (h : ∀ x dx, H x = none → H dx = none → dx ≠ x → sp (.ref x :: vs) (L2.upd (L2.upd H dx (.own x)) x (.ins C dx [])) (fun v H2 => v = .non ∧ Q (.ref x) H2) E) :
    wpAny (model X.prog X.w) X.A (call (.ref C) us) (EP X pins σ Q) X.xe s := by
  have hq := h (s.heap.objs.size + 1) s.heap.objs.size (I.hok.fresh (Nat.le_succ _)) (I.hok.fresh (Nat.le_refl _)) (Nat.ne_of_lt (Nat.lt_succ_self _))
  have I2 := Inv.made (C := C) I
  have r2 : Vals (V.ref (s.heap.objs.size + 1) :: vs) (Value.ref (s.heap.objs.size + 1) :: us) := .cons rfl r
  have hl : (Value.ref (s.heap.objs.size + 1) :: us).length = ps.length := by
    have e := r2.length
    rw [F.len _ _ _ _ hq] at e
    exact e.symm
  have bd := hb _ (Value.ref (s.heap.objs.size + 1) :: us) I2.kIn (by simpa using hl)
  simp only [List.append_nil] at bd
  refine wpAny_call (make_map (f := f) I.kIn M.makes M.init (beq_iff_eq.mp M.fn) (codeAny_mono (F.run _ X.stack _ _ ⟨Value.ref (s.heap.objs.size + 1) :: us, []⟩ (Value.ref (s.heap.objs.size + 1) :: us) _ _ E (hr.make C us []) gu
    (I2.env0.make C us []) bd r2 hq) fun r s' hq' => ?_))
  cases r with
  | error e => exact hx pins _ _ e s' I2 hq'
  | ok fl =>
    cases fl with
    | ret u =>
      obtain ⟨v, H', I3, rv, ev, q3⟩ := I2.after hq'
      subst ev
      exact ⟨rv, ⟨V.ref (s.heap.objs.size + 1), H', I3, rfl, q3⟩⟩
    | next => exact False.elim hq'
    | brk => exact False.elim hq'
    | cont => exact False.elim hq'
theorem pe_makeG (M : Mk X.K C f) (F : FnG X.prog X.w X.K X.mg X.base k f fd ps sp) (hr : Room (k + 1) X.A) (gu : X.A.guards = some []) (hg : Gl X x) (hm : X.mg x = some (.ref C)) (hb : Binds X.K fd ps []) (hx : ∀ σ, PassesAt (L2N.CX X.prog X.w) X σ (E σ))
    (ha : PA X (e :: es) t) (hdb : (x == ("__debug__" : Str)) = false := by decide) (he : starEach (e :: es) X.env = (false, eval e X.env) :: starEach es X.env := by rfl) (hpl : (backTo pos (starEach es X.env)).any (·.1) = false := by rfl) :
    PE X (.Call (.Name x p) (e :: es) [] pos) (tMakeG C sp E t) := by
  refine ⟨fun pins s σ H Q I h => ?_⟩
  refine wpAny_Call_Name_kw (ld_glob I hg hm ?_ hdb)
  refine PySem.W.callWith_K (h₀ := X.base) I.ok.mod.kin M.kp (thn (ha.run pos pins s σ H _ I h) fun us s1 ⟨vs, H1, I1, r, q⟩ => ⟨I1.kIn, ?_⟩) he hpl
  exact run_makeG M F hr gu hb (hx σ) I1 r q
end
/-! ### a method of the text -/
structure Fm (K : PySem.W.Frag) (c m q : Str) (st : Stmt) (ps : List Str) (f : Addr) (fd : FuncData) : Prop where
  F : L2.Fun K m q st f fd
  m : Meth K (clsA K c) m f
  b : Binds K fd ps []
def Dm (P : Program) (w : World) (K : PySem.W.Frag) (mg : Str → Option Value) (base : Heap) (c m : Str) (k : Nat) (ps : List Str) (np : Nat) (io : List Nat) (S : SpT) : Prop :=
  ∃ f fd, FnG P w K mg base k f fd ps (lfSp K np io S) ∧ Meth K (clsA K c) m f ∧ Binds K fd ps []
theorem Fm.dm {P : Program} {w : World} {K : PySem.W.Frag} {mg : Str → Option Value} {base : Heap} {c m q : Str} {st : Stmt} {f : Addr} {fd : FuncData} {ps : List Str} {k np : Nat} {io : List Nat} {S : SpT} (D : Fm K c m q st ps f fd) (G : FnG P w K mg base k f fd ps (lfSp K np io S)) : Dm P w K mg base c m k ps np io S := ⟨f, fd, G, D.m, D.b⟩
/-- the object whose method is asked -/
def obM (c m : Str) (ρ : Rho) (t : T) : Prop := ∃ r p ns xs, t = .a r p ∧ getT ρ r p = some (.o c ns xs) ∧ ixS ns m = none
def mtK (io : List Nat) (np : Nat) (S : SpT) (t : T) (ts : List T) (ρ2 : Rho) (Q : T → Rho → Prop) (E : ExK) : Prop := ∃ vu us, argsF io ρ2 vu 0 (t :: ts) = some us ∧ us.length = np ∧ apartB (t :: ts) = true ∧
  S us (fun u ρ' => ioOk io vu ρ' = true ∧ (vu = true → immT u = true) ∧ noAl u = true ∧ Q u (backA io (t :: ts) ρ2 ρ')) (fun x ρ' => ioOk io vu ρ' = true ∧ E x (backA io (t :: ts) ρ2 ρ'))
def wMeth (c m : Str) (io : List Nat) (np : Nat) (S : SpT) (ta : TwE) (tas : TwA) : TwE := fun ρ Q E => ta ρ (fun t ρ1 => obM c m ρ1 t ∧ tas ρ1 (fun ts ρ2 => mtK io np S t ts ρ2 Q E) E) E
theorem wMeth_mono {c m : Str} {io : List Nat} {np : Nat} {S : SpT} {ta : TwE} {tas : TwA} (mS : MonSp S) (ha : MonE ta) (hs : MonE tas) : MonE (wMeth c m io np S ta tas) := fun ρ Q Q' E E' h he q =>
  ha ρ _ _ E E' (fun t ρ1 ⟨h0, q1⟩ => ⟨h0, hs ρ1 _ _ E E' (fun ts ρ2 ⟨vu, us, h1, h2, h3, h4⟩ => ⟨vu, us, h1, h2, h3, mS us _ _ _ _ (fun t ρ' ⟨z1, z2, z3, z4⟩ => ⟨z1, z2, z3, h _ _ z4⟩) (fun c ρ' ⟨z1, z2⟩ => ⟨z1, he _ _ z2⟩) h4⟩) he q1⟩) he q
section
variable {X : Cx} {k np : Nat} {ps : List Str} {io : List Nat} {S : SpT} {c m : Str} {fs : List Str} {p pos apos : Pos} {e o : Expr} {es : List Expr} {ta : TwE} {tas : TwA}
theorem obM_val {C : Ctx} {n : Nat} {σ : L2.St} {H : Hp} {O : Own} {ρ : Rho} {t : T} {v : V} {n' : Nat} (R : Rel X.K C n' σ H O ρ) (V1 : Val X.K H O n v t) (h : obM c m ρ t) : ∃ a dx fs, v = .ref a ∧ H a = some (.ins (clsA X.K c) dx fs) ∧ fs.lookup m = none := by
  obtain ⟨r, q, ns, xs, rfl, g, hm⟩ := h
  obtain ⟨⟨a, rfl, e2, _⟩, _⟩ := V1
  have tr := R.alias g rfl e2
  cases tr with
  | o h1 h2 h3 h4 => subst h3; exact ⟨a, _, _, rfl, h2, ixS_none hm⟩
theorem le_meth {j : Nat} {pl : Sem Bool} (Tc : Ob X.K X.mg c fs) (D : Dm X.prog X.w X.K X.mg X.base c m k ps np io S) (room : Room j X.A) (hj : k ≤ j) (gu : X.A.guards = some []) (mS : MonSp S) (ho : LE X o ta) (ha : LA X (e :: es) tas)
    (hst : starEach (e :: es) X.env = (false, eval e X.env) :: starEach es X.env := by rfl) (hpl : (backTo pos (starEach es X.env)).any (·.1) = false := by rfl)
    (ht : eval (.Call (.Attribute o m apos) (e :: es) [] pos) X.env = (do
      let ov ← eval o X.env
      standAt apos.atName
      let (f, first) ← holding [ov] (getMethod ov m pl)
      callWith pos f first (backTo pos (starEach (e :: es) X.env)) (backToKw pos (keywordEach [] X.env))) := by rfl) :
    LE X (.Call (.Attribute o m apos) (e :: es) [] pos) (wMeth c m io np S ta tas) := by
  obtain ⟨f, fd, F, h1, h3⟩ := D
  refine ⟨wMeth_mono mS ho.mono ha.mono, fun C W n hC hn tk => (pe_methG (pl := pl) (ho.run C W n hC hn tk) Tc.cl h1 F (room.mono hj) gu h3 (fun σ => L2N.passAt tk σ) (ha.run C W (n + 1) hC (by omega) tk) hst hpl ht).imp fun σ H Q ⟨O, ρ, R, q⟩ => ⟨O, ρ, R, ho.mono ρ _ _ _ _ (fun t ρ1 ⟨h0, q1⟩ => ?_) (fun _ _ z => z) q⟩⟩
  intro v H0 O0 R0 F0 V0
  obtain ⟨a, dx, gs, rfl, e1, e2⟩ := obM_val R0 V0 h0
  refine ⟨a, dx, gs, rfl, e1, e2, O0, ρ1, R0, ha.mono ρ1 _ _ _ _ (fun ts ρ2 ⟨vu, us, h1, h2, h3, h4⟩ => ?_) (fun x ρ' z => exK.on F0.fre x ρ' z) q1⟩
  intro vs H1 O1 R1' F1' V1'
  have R1 : Rel X.K C (n + (t :: ts).length) σ H1 O1 ρ2 := by rw [List.length_cons, show n + (ts.length + 1) = n + 1 + ts.length by omega]; exact R1'
  have F1 := F0.trans F1' (Nat.le_succ n)
  have V1 : ValAll X.K H1 O1 n (.ref a :: vs) (t :: ts) := .cons (V0.carry hn R0.lt R0.nt F1') V1'
  refine ⟨inL C.N n io (t :: ts) vu O1, us, ent_of R1 hn V1 h1 h2 h3, mS us _ _ _ _ (fun t' ρ' ⟨z1, z2, z3, z4⟩ => ?_) (fun x ρ' ⟨z1, z2⟩ => ?_) h4⟩
  · intro v H' O' Ex V'
    have B : BkC X.K C n np io (t :: ts) us (.ref a :: vs) vu H1 O1 ρ2 H' O' ρ' := ⟨hn, V1, h1, h2, h3, Ex, z1⟩
    exact z4 v H' _ (B.rel R1) (F1.trans (B.frm R1) (Nat.le_refl _)) (B.val R1 V' z3 z2)
  · intro H' O' Ex _
    have B : BkC X.K C n np io (t :: ts) us (.ref a :: vs) vu H1 O1 ρ2 H' O' ρ' := ⟨hn, V1, h1, h2, h3, Ex, z1⟩
    exact z2 σ H' _ ((B.rel R1).cut (Nat.le_refl _)) (F1.fre.trans ((B.frm R1).fre.trans (fre_cut _)))
theorem le_meth0 {j : Nat} {pl : Sem Bool} (Tc : Ob X.K X.mg c fs) (D : Dm X.prog X.w X.K X.mg X.base c m k ps np io S) (room : Room j X.A) (hj : k ≤ j) (gu : X.A.guards = some []) (mS : MonSp S) (ho : LE X o ta)
    (ht : eval (.Call (.Attribute o m apos) [] [] pos) X.env = (do
      let ov ← eval o X.env
      standAt apos.atName
      let (f, first) ← holding [ov] (getMethod ov m pl)
      callWith pos f first (backTo pos (starEach [] X.env)) (backToKw pos (keywordEach [] X.env))) := by rfl) :
    LE X (.Call (.Attribute o m apos) [] [] pos) (wMeth c m io np S ta wNil) := by
  obtain ⟨f, fd, F, h1, h3⟩ := D
  refine ⟨wMeth_mono mS ho.mono (fun ρ Q Q' E E' h _ q => h _ _ q), fun C W n hC hn tk => (pe_methG0 (pl := pl) (ho.run C W n hC hn tk) Tc.cl h1 F (room.mono hj) gu h3 (fun σ => L2N.passAt tk σ) ht).imp fun σ H Q ⟨O, ρ, R, q⟩ => ⟨O, ρ, R, ho.mono ρ _ _ _ _ (fun t ρ1 ⟨h0, q1⟩ => ?_) (fun _ _ z => z) q⟩⟩
  intro v H1 O1 R1' F1 V0
  obtain ⟨a, dx, gs, rfl, e1, e2⟩ := obM_val R1' V0 h0
  obtain ⟨vu, us, h1, h2, h3, h4⟩ := q1
  have R1 : Rel X.K C (n + [t].length) σ H1 O1 ρ1 := R1'
  have V1 : ValAll X.K H1 O1 n [.ref a] [t] := .cons V0 .nil
  refine ⟨a, dx, gs, rfl, e1, e2, inL C.N n io [t] vu O1, us, ent_of R1 hn V1 h1 h2 h3, mS us _ _ _ _ (fun t' ρ' ⟨z1, z2, z3, z4⟩ => ?_) (fun x ρ' ⟨z1, z2⟩ => ?_) h4⟩
  · intro v H' O' Ex V'
    have B : BkC X.K C n np io [t] us [.ref a] vu H1 O1 ρ1 H' O' ρ' := ⟨hn, V1, h1, h2, h3, Ex, z1⟩
    exact z4 v H' _ (B.rel R1) (F1.trans (B.frm R1) (Nat.le_refl _)) (B.val R1 V' z3 z2)
  · intro H' O' Ex _
    have B : BkC X.K C n np io [t] us [.ref a] vu H1 O1 ρ1 H' O' ρ' := ⟨hn, V1, h1, h2, h3, Ex, z1⟩
    exact z2 σ H' _ ((B.rel R1).cut (Nat.le_refl _)) (F1.fre.trans ((B.frm R1).fre.trans (fre_cut _)))
def moK (c m : Str) (io : List Nat) (np : Nat) (S : SpT) (tas : TwA) (t : T) (ρ : Rho) (Q : T → Rho → Prop) (E : ExK) : Prop := obM c m ρ t ∧ tas ρ (fun ts ρ2 => mtK io np S t ts ρ2 Q E) E
theorem xMeth {ρ : Rho} {Q : T → Rho → Prop} {E : ExK} (h : ta ρ (fun t ρ1 => moK c m io np S tas t ρ1 Q E) E) : wMeth c m io np S ta tas ρ Q E := h
theorem xMo {ρ : Rho} {Q : T → Rho → Prop} {E : ExK} {r : Nat} {p : List Nat} {ns : List Str} {xs : List T} (g : getT ρ r p = some (.o c ns xs)) (h : ixS ns m = none) (q : tas ρ (fun ts ρ2 => mtK io np S (.a r p) ts ρ2 Q E) E) : moK c m io np S tas (.a r p) ρ Q E := ⟨⟨r, p, ns, xs, rfl, g, h⟩, q⟩
theorem xMt {ρ : Rho} {Q : T → Rho → Prop} {E : ExK} {t : T} {ts : List T} (h : caK io np S (t :: ts) ρ Q E) : mtK io np S t ts ρ Q E := h
/-! ### C(..) -/
def lab0 (O : Own) : Own := fun b => match O b with
  | .at r q => if r = 0 then .at 0 q else .free
  | z => z
def inM (x : Addr) (O : Own) : Own := fun b => if b = x then .at 0 [] else O b
theorem backA_nil {ts : List T} {ρ ρ' : Rho} : backA [] ts ρ ρ' = ρ := by
  unfold backA
  have : backF [] ts ρ' = fun _ x => x := by funext r x; unfold backF rmOf; rfl
  rw [this]
  exact List.ext_getElem? fun i => by rw [List.getElem?_mapIdx]; cases ρ[i]? <;> rfl
theorem inL_noat {N n : Nat} {ts : List T} {vu : Bool} {O : Own} {b : Addr} {r : Nat} {q : List Nat} : inL N n [] ts vu O b ≠ .at r q := by
  unfold inL
  cases O b with
  | free => exact fun z => nomatch z
  | foreign => exact fun z => nomatch z
  | «at» r' q' =>
    simp only
    have : rmOf [] ts r' = none := rfl
    rw [this]
    split
    · cases vu <;> exact fun z => nomatch z
    · split <;> exact fun z => nomatch z
theorem inL_ts {N n : Nat} {ts ts' : List T} {vu : Bool} {O : Own} : inL N n [] ts vu O = inL N n [] ts' vu O := by
  funext b
  unfold inL
  cases O b with
  | «at» r q => rfl
  | _ => rfl
def mkK (c : Str) (np : Nat) (S : SpT) (ts : List T) (ρ1 : Rho) (Q : T → Rho → Prop) (E : ExK) : Prop := ∃ vu us, argsF [] ρ1 vu 0 ts = some us ∧ us.length = np ∧ apartB ts = true ∧
  S (.o c [] [] :: us) (fun t ρ' => t = .d .none ∧ ∃ u, ρ'[0]? = some (some u) ∧ isNode u = true ∧ (vu = true → immT u = true) ∧ Q u ρ1) (fun x _ => E x ρ1)
def wMake (c : Str) (np : Nat) (S : SpT) (tas : TwA) : TwE := fun ρ Q E => tas ρ (fun ts ρ1 => mkK c np S ts ρ1 Q E) E
theorem le_make {j : Nat} (Tc : Ob X.K X.mg c fs) (D : Dm X.prog X.w X.K X.mg X.base c "__init__" k ps (np + 1) [0] S) (room : Room j X.A) (hj : k + 1 ≤ j) (gu : X.A.guards = some []) (mS : MonSp S) (hg : Gl X c)
    (ha : LA X (e :: es) tas) (hdb : (c == ("__debug__" : Str)) = false := by decide) (he : starEach (e :: es) X.env = (false, eval e X.env) :: starEach es X.env := by rfl) (hpl : (backTo pos (starEach es X.env)).any (·.1) = false := by rfl) :
    LE X (.Call (.Name c p) (e :: es) [] pos) (wMake c np S tas) := by
  obtain ⟨f, fd, F, hM, hB⟩ := D
  refine ⟨fun ρ Q Q' E E' h he q => ha.mono ρ _ _ E E' (fun ts ρ1 ⟨vu, us, h1, h2, h3, h4⟩ => ⟨vu, us, h1, h2, h3, mS _ _ _ _ _ (fun t ρ' ⟨z1, u, z2, z3, z4, z5⟩ => ⟨z1, u, z2, z3, z4, h _ _ z5⟩) (fun x ρ' z => he _ _ z) h4⟩) he q,
    fun C W n hC hn tk => (pe_makeG ⟨Tc.ms, hM.at_, hM.fn, Tc.kp⟩ F (room.mono hj) gu hg Tc.g hB (fun σ => L2N.passAt tk σ) (ha.run C W n hC hn tk) hdb he hpl).imp fun σ H Q ⟨O, ρ, R, q⟩ => ⟨O, ρ, R, ha.mono ρ _ _ _ _ (fun ts ρ1 ⟨vu, us, h1, h2, h3, h4⟩ => ?_) (fun _ _ z => z) q⟩⟩
  intro vs H1 O1 R1 F1 V1
  intro x dx hx hdx hne
  have En := ent_of R1 hn V1 h1 h2 h3
  have kp : ∀ {b : Addr} {u : HO}, H1 b = some u → b ≠ x ∧ L2.upd (L2.upd H1 dx (.own x)) x (.ins (clsA X.K c) dx []) b = some u := fun {b u} h => by
    have n1 := ne_of_none h hx
    exact ⟨n1, by rw [upd_ne n1, upd_ne (ne_of_none h hdx)]; exact h⟩
  have lx : ∀ {b : Addr}, b ≠ x → inM x (inL C.N n [] ts vu O1) b = inL C.N n [] ts vu O1 b := fun {b} h => by unfold inM; rw [if_neg h]
  have lxx : inM x (inL C.N n [] ts vu O1) x = .at 0 [] := by unfold inM; rw [if_pos rfl]
  have at0 : ∀ {b : Addr} {r : Nat} {q : List Nat}, inM x (inL C.N n [] ts vu O1) b = .at r q → b = x ∧ r = 0 ∧ q = [] := fun {b r q} h => by
    by_cases e : b = x
    · subst e; rw [lxx] at h; cases h; exact ⟨rfl, rfl, rfl⟩
    · rw [lx e] at h; exact absurd h inL_noat
  have tr0 : Tr X.K (L2.upd (L2.upd H1 dx (.own x)) x (.ins (clsA X.K c) dx [])) (inM x (inL C.N n [] ts vu O1)) 0 [] (.ref x) (.o c [] []) := .o lxx upd_same rfl .nil
  have mv : ∀ {i : Nat} {v : V} {t : T}, Tr X.K H1 (inL C.N n [] ts vu O1) i [] v t → Tr X.K (L2.upd (L2.upd H1 dx (.own x)) x (.ins (clsA X.K c) dx [])) (inM x (inL C.N n [] ts vu O1)) (i + 1) [] v t := fun {i v t} h =>
    Tr.move (p0 := []) (p1 := []) (fun b o e1 e2 => ⟨(kp e1).2, (lx (kp e1).1).trans e2⟩) (fun b o q e1 e2 => absurd e2 inL_noat) t [] v h
  have En2 : Ent X.K (np + 1) [0] (.ref x :: vs) (L2.upd (L2.upd H1 dx (.own x)) x (.ins (clsA X.K c) dx [])) (inM x (inL C.N n [] ts vu O1)) (.o c [] [] :: us) := by
    refine ⟨by rw [List.length_cons, En.lv], by rw [List.length_cons, En.lt], fun i t e => ?_, fun b z => ?_, fun a b r q e1 e2 => ?_, fun b r q e => ?_, trivial⟩
    · cases i with
      | zero => cases e; exact ⟨_, rfl, tr0⟩
      | succ i =>
        obtain ⟨v, g1, g2⟩ := En.tr i t (by simpa using e)
        exact ⟨v, by simpa using g1, mv g2⟩
    · by_cases e : b = x
      · subst e; exact ⟨_, upd_same, trivial⟩
      · rw [lx e] at z
        obtain ⟨o, g1, g2⟩ := En.nt b z
        exact ⟨o, (kp g1).2, g2⟩
    · rw [(at0 e1).1, (at0 e2).1]
    · obtain ⟨rfl, rfl, rfl⟩ := at0 e
      exact ⟨Nat.succ_pos _, List.mem_singleton.mpr rfl, _, _, rfl, rfl, rfl⟩
  have lab : ∀ {O' : Own} {b : Addr} {r : Nat} {q : List Nat}, lab0 O' b = .at r q ↔ r = 0 ∧ O' b = .at 0 q := fun {O' b r q} => by
    unfold lab0
    cases e : O' b with
    | free => simp
    | foreign => simp
    | «at» r' q' =>
      simp only
      by_cases hr : r' = 0
      · subst hr; rw [if_pos rfl]
        constructor
        · intro z; cases z; exact ⟨rfl, rfl⟩
        · rintro ⟨rfl, z⟩; exact z
      · rw [if_neg hr]
        constructor
        · intro z; cases z
        · rintro ⟨_, z⟩; cases z; exact absurd rfl hr
  have exi : ∀ {H' : Hp} {O' : Own} {ρ' : Rho}, Exi X.K (np + 1) [0] (.ref x :: vs) (L2.upd (L2.upd H1 dx (.own x)) x (.ins (clsA X.K c) dx [])) (inM x (inL C.N n [] ts vu O1)) H' O' ρ' → Exi X.K 0 [] [] H1 (inL C.N n [] [] vu O1) H' (lab0 O') ρ' := fun {H' O' ρ'} Ex => by
    rw [inL_ts (ts' := ts)]
    refine ⟨fun b o e1 e2 => ?_, fun b z => Ex.nt b fun y => z (by unfold lab0; rw [y]), fun a b r q e1 e2 => ?_, fun b j q e => absurd e inL_noat, fun b e => ?_, fun b r q e => ?_, fun b r q _ l => absurd l (Nat.not_lt_zero _), fun i _ _ _ _ h => by cases h⟩
    · obtain ⟨n1, k1⟩ := kp e1
      obtain ⟨z1, z2⟩ := Ex.fr b o k1 (by rw [lx n1]; exact e2)
      refine ⟨z1, ?_⟩
      rw [lx n1] at z2
      unfold lab0
      rcases e2 with e2 | e2 <;> rw [e2] at z2 ⊢ <;> rw [z2]
    · obtain ⟨rfl, h1⟩ := lab.mp e1
      obtain ⟨_, h2⟩ := lab.mp e2
      exact Ex.inj a b _ _ h1 h2
    · have : O' b = .foreign := by
        unfold lab0 at e
        split at e
        · split at e <;> cases e
        · exact e
      have z := Ex.fo b this
      by_cases hb : b = x
      · subst hb; rw [lxx] at z; cases z
      · rw [lx hb] at z; exact z
    · exact Nat.le_of_eq (lab.mp e).1
  have Bk : ∀ {H' : Hp} {O' : Own} {ρ' : Rho}, Exi X.K (np + 1) [0] (.ref x :: vs) (L2.upd (L2.upd H1 dx (.own x)) x (.ins (clsA X.K c) dx [])) (inM x (inL C.N n [] ts vu O1)) H' O' ρ' → BkC X.K C n 0 [] [] [] [] vu H1 O1 ρ1 H' (lab0 O') ρ' := fun {H' O' ρ'} Ex =>
    ⟨hn, .nil, rfl, rfl, rfl, exi Ex, rfl⟩
  refine ⟨inM x (inL C.N n [] ts vu O1), .o c [] [] :: us, En2, mS _ _ _ _ _ (fun t ρ' ⟨z1, u, z2, z3, z4, z5⟩ => ?ok) (fun y ρ' z => ?bad) h4⟩
  case ok =>
    intro v H' O' Ex V'
    subst z1
    have ev : v = .non := by have h := V'.1; cases h with | d h => cases h; rfl
    refine ⟨ev, ?_⟩
    have B := Bk Ex
    have tru := Ex.tr 0 (.ref x) u _ [] (List.mem_singleton.mpr rfl) rfl tr0 rfl z2 z3
    have hu : noAl u = true := by
      cases u with
      | a r p => cases tru
      | _ => rfl
    have V2 : Val X.K H' (lab0 O') 0 (.ref x) u := by
      have : Tr X.K H' (lab0 O') 0 [] (.ref x) u ∧ ∀ b q, lab0 O' b = .at 0 q → ∃ z, subT u q = some z ∧ isNode z = true := by
        refine ⟨Tr.move (r' := 0) (p0 := []) (p1 := []) (fun b o e1 e2 => ⟨e1, by unfold lab0; rw [e2]⟩) (fun b o q e1 e2 => ⟨e1, lab.mpr ⟨rfl, e2⟩⟩) u [] _ tru, fun b q e => ?_⟩
        obtain ⟨_, t', z, y1, y2, y3⟩ := Ex.val b 0 q (lab.mp e).2 (Nat.succ_pos _)
        rw [z2] at y1; cases y1
        exact ⟨z, y2, y3⟩
      cases u with
      | a r p => cases hu
      | _ => exact this
    have R2 := B.rel R1
    rw [backA_nil] at R2
    exact z5 _ H' _ R2 (F1.trans (B.frm R1) (Nat.le_refl _)) (B.val R1 V2 hu z4)
  case bad =>
    intro H' O' Ex _
    have B := Bk Ex
    have R2 := B.rel R1
    rw [backA_nil] at R2
    exact z σ H' _ (R2.cut (Nat.le_refl _)) (F1.fre.trans ((B.frm R1).fre.trans (fre_cut _)))
theorem xMake {ρ : Rho} {Q : T → Rho → Prop} {E : ExK} (h : tas ρ (fun ts ρ1 => mkK c np S ts ρ1 Q E) E) : wMake c np S tas ρ Q E := h
end
end TX

/-! try: .. except C: .. except D: .. -/
namespace TX
open PySem PySem.Spec L2 PyProof.Rows
def hdlK (D : EndsT) : List (Str × TwS) → Str → Rho → Prop
  | [], x, ρ => D.ex x ρ
  | (c, t) :: r, x, ρ => if subX x c = true then t { D with ex := fun _ _ => False } ρ else hdlK D r x ρ
def wTryM (xs : List Str) (hs : List (Str × TwS)) (tb : TwS) : TwS := fun D ρ => tb { D with ex := fun x ρ' => x ∈ xs ∧ hdlK D hs x ρ' } ρ
section
variable {X : Cx} {io : List Nat} {xs : List Str}
inductive LHds (X : Cx) (io : List Nat) (xs : List Str) : List ExceptHandler → List (Str × TwS) → Prop
  | nil : LHds X io xs [] []
  | cons {c : Str} {ts : TwS} {b₀ : Stmt} {suite : List Stmt} {np pos' : Pos} {hds : List ExceptHandler} {l : List (Str × TwS)} (hc : c ∈ xs) (hg : Gl X c) (hdb : (c == ("__debug__" : Str)) = false) (hsu : ∀ (a : Addr) (pn : List (Addr × Obj)), LSs (X.suite a pn) io (b₀ :: suite) ts) (r : LHds X io xs hds l) :
      LHds X io xs (.ExceptHandler (some (.Name c np)) none (b₀ :: suite) pos' :: hds) ((c, ts) :: l)
theorem hdl_mono {hds : List ExceptHandler} {l : List (Str × TwS)} (h : LHds X io xs hds l) {D D' : EndsT} (le : LeD D D') : ∀ x ρ, hdlK D l x ρ → hdlK D' l x ρ := by
  induction h with
  | nil => exact fun x ρ q => le.ex _ _ q
  | @cons c ts b₀ suite np pos' hds l hc hg hdb hsu r ih =>
    intro x ρ q
    unfold hdlK at q ⊢
    split at q
    · rename_i hx
      rw [if_pos hx]
      exact (hsu 0 []).mono { D with ex := fun _ _ => False } { D' with ex := fun _ _ => False } ρ (LeD.mk le.nx le.rt le.bk le.ct fun _ _ z => z) q
    · rename_i hx
      rw [if_neg hx]
      exact ih x ρ q
def hdlL (K : PySem.W.Frag) (C : Ctx) (l : List (Str × TwS)) : List (Value × (Addr → Value → Option Addr → TS)) := l.map fun q => (.ref (clsA K q.1), fun _ _ _ => lfS K C (fun _ _ _ _ => False) q.2)
theorem hdl_ok (Tx : Xcs X.K X.mg xs) {C : Ctx} (hC : C.N = X.N.length) (hio : C.io = io) {hds : List ExceptHandler} {l : List (Str × TwS)} (h : LHds X io xs hds l) : L2N.HdsOk X hds (hdlL X.K C l) := by
  induction h with
  | nil => exact .nil
  | @cons c ts b₀ suite np pos' hds l hc hg hdb hsu r ih => exact .cons ⟨hg, hdb, .inl (Tx.one c hc).g⟩ (fun a oe cls d pn _ _ => (hsu a ((a, oe) :: pn)).run C (fun _ _ _ _ => False) hC hio takes0 PassesOwn.never) ih
theorem hdl_run (Tx : Xcs X.K X.mg xs) {C : Ctx} {W : WX} {D : Ends} {σ' : L2.St} {H H' : Hp} {O O' : Own} {ρ' : Rho} {x : Str} (hx : x ∈ xs) (R' : Rel X.K C C.N σ' H' O' ρ') (F' : Fre H O H' O') {hds : List ExceptHandler} {l : List (Str × TwS)} (h : LHds X io xs hds l) :
    hdlK (enK X.K C W H O D) l x ρ' → wMany X.K W D (hdlL X.K C l) (.ref (clsA X.K x)) none σ' H' := by
  induction h with
  | nil => exact fun q => q σ' H' O' R' F'
  | @cons c ts b₀ suite np pos' hds l hc hg hdb hsu r ih =>
    intro q
    refine ⟨subX x c, Tx.exm x hx c hc, fun hb a ha => ?_, fun hb => ?_⟩
    · unfold hdlK at q
      rw [if_pos hb] at q
      refine ⟨O', ρ', R', (hsu 0 []).mono { enK X.K C W H O D with ex := fun _ _ => False } _ ρ' (LeD.mk (fun ρ2 z => nxK.on F' _ z) (fun t ρ2 z => rtK.on F' _ _ z) (fun ρ2 z => nxK.on F' _ z) (fun ρ2 z => nxK.on F' _ z) (fun _ _ z => z.elim)) q⟩
    · unfold hdlK at q
      rw [if_neg (by rw [hb]; exact Bool.false_ne_true)] at q
      exact ih q
variable {body : List Stmt} {h₀ : ExceptHandler} {hds : List ExceptHandler} {l : List (Str × TwS)} {pos : Pos} {tb : TwS}
theorem ls_tryM (Tx : Xcs X.K X.mg xs) (hs : X.stack = X.env :: X.outer) (hf : X.env.frame = some X.env.locals)
    (hb : ∀ (pn : List (Addr × Obj)) (xe : Value → Shared → Prop), LSs (X.tr pn xe) io body tb) (hh : LHds X io xs (h₀ :: hds) l) :
    LS X io (.Try body (h₀ :: hds) [] [] pos) (wTryM xs l tb) := by
  have mb : MonS tb := (hb [] fun _ _ => False).mono
  refine ⟨fun D D' ρ le q => mb { D with ex := fun x ρ' => x ∈ xs ∧ hdlK D l x ρ' } { D' with ex := fun x ρ' => x ∈ xs ∧ hdlK D' l x ρ' } ρ (LeD.mk le.nx le.rt le.bk le.ct fun x ρ' z => ⟨z.1, hdl_mono hh le x ρ' z.2⟩) q, fun C W hC hio tk hp => ?_⟩
  refine (L2N.ps_try_many (tb := fun W' => lfS X.K C W' tb) (Wout := W) hs hf tk (fun W' pn xe tk' hp' => (hb pn xe).run C W' hC hio tk' hp') (hdl_ok Tx hC hio hh)).imp fun D σ H ⟨O, ρ, R, q⟩ => ?_
  refine ⟨O, ρ, R, mb { enK X.K C W H O D with ex := fun x ρ' => x ∈ xs ∧ hdlK (enK X.K C W H O D) l x ρ' } _ ρ (LeD.mk (fun _ z => z) (fun _ _ z => z) (fun _ z => z) (fun _ z => z) ?_) q⟩
  rintro x ρ' ⟨hx, q'⟩ σ' H' O' R' F'
  exact hdl_run Tx hx R' F' hh q'
theorem xTryM {D : EndsT} {ρ : Rho} (h : tb { D with ex := fun x ρ' => x ∈ xs ∧ hdlK D l x ρ' } ρ) : wTryM xs l tb D ρ := h
end
end TX

/-! a, b, c = e1, e2, e3. -/
namespace TX
open PySem PySem.Spec L2
section
variable {K : PySem.W.Frag} {C : Ctx} {n m : Nat} {σ : L2.St} {H H' : Hp} {O O' : Own} {ρ : Rho}
end
section
variable {X : Cx} {io : List Nat} {a b c : Expr} {tas : TwA} {px py pz pt pt2 pos : Pos} {kt k2 : Nat}
def pa3K (i j l : Nat) (D : EndsT) (ts : List T) (ρ : Rho) : Prop := ∃ t u w, ts = [t, u, w] ∧ noAl t = true ∧ noAl u = true ∧ noAl w = true ∧ D.nx (((ρ.set i (some t)).set j (some u)).set l (some w))
def wPar3 (i j l : Nat) (tas : TwA) : TwS := fun D ρ => tas ρ (fun ts ρ1 => pa3K i j l D ts ρ1) D.ex
theorem xPar3 {D : EndsT} {ρ : Rho} {i j l : Nat} (h : tas ρ (fun ts ρ1 => pa3K i j l D ts ρ1) D.ex) : wPar3 i j l tas D ρ := h
theorem xPa3K {D : EndsT} {ρ : Rho} {i j l : Nat} {t u w : T} (h1 : noAl t = true) (h2 : noAl u = true) (h3 : noAl w = true) (q : D.nx (((ρ.set i (some t)).set j (some u)).set l (some w))) : pa3K i j l D [t, u, w] ρ := ⟨t, u, w, rfl, h1, h2, h3, q⟩
end
end TX

/-! Defs that may hand back a place of what was handed in to be changed; promises that may raise. -/
namespace TX
open PySem PySem.Spec L2 PyProof.Rows
def okAl (io : List Nat) (np : Nat) : T → Bool
  | .a r _ => io.contains r && decide (r < np)
  | _ => true
section
variable {P : Program} {w : World} {K : PySem.W.Frag} {mg : Str → Option Value} {base : Heap}
theorem _root_.L2.Fun.okTP {x qual : Str} {st : Stmt} {f : Addr} {fd : FuncData} {N ps : List Str} {k np : Nat} {io : List Nat} {S : SpT} (F : Fun K x qual st f fd) (Sc : FnScope N ps (defScope st)) (hnp : np = ps.length := by rfl) (hN : np ≤ N.length := by decide)
    (hbody : ∀ (cv : Value) (B : Around) (out : List Env) (s : Shared) (H : Hp) (E : XK), Room k (B.deeper (envOfC qual (defScope st) s.heap.objs.size f cv)) → (B.deeper (envOfC qual (defScope st) s.heap.objs.size f cv)).guards = some [] →
      ∃ tw, LSs (cxOf (L2N.CX P w) P w K mg base N qual (defScope st) f cv B out s H E) io (defBody st) tw ∧
        ∀ ts Q Ex, S ts Q Ex → tw { nx := fun ρ => Q (.d .none) ρ, rt := fun t ρ => okAl io np t = true ∧ Q t ρ, ex := Ex } (rho0 N ts)) : FnG P w K mg base (k + 1) f fd ps (lfSp K np io S) := by
  refine F.okG Sc (fun vs H Q E ⟨O, ts, En, _⟩ => by rw [En.lv, hnp]) fun cv B out s H vs Q E room gu ⟨O, ts, En, hS⟩ => ?_
  obtain ⟨tw, hw, hq⟩ := hbody cv B out s H E room gu
  let C : Ctx := ⟨H, O, N.length, io⟩
  have run := hw.run C (fun cls d _ H => E cls d H) rfl rfl (L2N.takes_of rfl rfl rfl rfl) (passes_of rfl)
  refine ⟨_, run, O, rho0 N ts, ?_, ?_⟩
  · have l1 : (L2.start N vs).length = N.length := by unfold L2.start; rw [List.length_append, List.length_map, List.length_replicate, En.lv]; omega
    have l2 : (rho0 N ts).length = N.length := by unfold rho0; rw [List.length_append, List.length_map, List.length_replicate, En.lt]; omega
    exact ⟨fun b o e1 e2 => ⟨e1, rfl⟩, En.nt, fun b r p e => Nat.lt_of_lt_of_le (En.val b r p e).1 hN, En.inj, fun b r p e _ => let ⟨_, _, t, z, h1, h2, h3⟩ := En.val b r p e; ⟨t, z, rho0_of h1, h2, h3⟩, l1, l2,
      fun i t e => let ⟨v, h1, h2⟩ := En.tr i t (rho0_get e); ⟨v, start_of h1, h2⟩, Nat.le_refl _, fun b e => let ⟨o, h, _⟩ := En.nt b (by rw [e]; intro z; cases z); ⟨o, h, e⟩, fun b j p e => ⟨Nat.lt_of_lt_of_le (En.val b j p e).1 hN, e⟩, En.sm, fun b j p e => (En.val b j p e).2.1⟩
  · have fin : ∀ {t : T} {v : V} {σ' : L2.St} {H' : Hp} {O' : Own} {ρ' : Rho} {m : Nat}, (∀ v H' O', Exi K np io vs H O H' O' ρ' → Val K H' O' np v t → Q v H') → Rel K C m σ' H' O' ρ' → Val K H' O' C.N v t → okAl io np t = true → Q v H' := fun {t v σ' H' O' ρ' m} q R' V' hal => by
      refine q v H' (outL np io C.N O') (exi_of rfl rfl hN En R') ?_
      have gen : ∀ u : T, (Tr K H' O' C.N [] v u ∧ ∀ b p, O' b = .at C.N p → ∃ z, subT u p = some z ∧ isNode z = true) → Tr K H' (outL np io C.N O') np [] v u ∧ ∀ b p, outL np io C.N O' b = .at np p → ∃ z, subT u p = some z ∧ isNode z = true := fun u h =>
        ⟨Tr.move (r' := np) (p0 := []) (p1 := []) (fun b o e1 e2 => ⟨e1, outL_free e2⟩) (fun b o q e1 e2 => ⟨e1, outL_res e2⟩) u [] v h.1, fun b p e => by
          rcases outL_at e with ⟨_, h2⟩ | ⟨h1, _⟩
          · exact h.2 b p h2
          · omega⟩
      cases t with
      | a r p =>
        simp only [okAl, Bool.and_eq_true, List.contains_eq_mem, decide_eq_true_eq] at hal
        obtain ⟨⟨a, e1, e2, l⟩, h2⟩ := V'
        refine ⟨⟨a, e1, outL_io e2 hal.2 hal.1 (Nat.ne_of_lt l), hal.2⟩, fun b p' e => ?_⟩
        rcases outL_at e with ⟨_, h3⟩ | ⟨h1, _⟩
        · exact h2 b p' h3
        · omega
      | _ => exact gen _ V'
    have hq' := hq ts _ _ hS
    refine hw.mono _ _ _ (LeD.mk (fun ρ' q => ?_) (fun t ρ' q => ?_) (fun _ z => False.elim z) (fun _ z => False.elim z) (fun c ρ' q => ?_)) hq'
    · intro σ' H' O' R' F'
      exact fin q R' (R'.val_d .non) rfl
    · intro v σ' H' O' R' F' V'
      exact fin q.2 R' V' q.1
    · intro σ' H' O' R' F'
      refine q H' _ (exi_of rfl rfl hN En R') fun b p e => ?_
      rcases outL_at e with ⟨_, h2⟩ | ⟨h1, _⟩
      · exact absurd (R'.lt b _ p h2) (Nat.lt_irrefl _)
      · omega
end
/-- the place as the caller sees it -/
def resA (ts : List T) : T → T
  | .a j q => match ts[j]? with
    | some (.a r p) => .a r (p ++ q)
    | _ => .a j q
  | t => t
theorem resA_no {ts : List T} {t : T} (h : noAl t = true) : resA ts t = t := by
  cases t with
  | a r p => cases h
  | _ => rfl
section
variable {K : PySem.W.Frag} {C : Ctx} {n m np : Nat} {σ : L2.St} {H H' : Hp} {O O' : Own} {ρ ρ' : Rho} {io : List Nat} {ts us : List T} {vs : List V} {vu : Bool}
theorem BkC.valP (B : BkC K C n np io ts us vs vu H O ρ H' O' ρ') (R : Rel K C m σ H O ρ) {v : V} {t : T} (h : Val K H' O' np v t) (ht : okAl io np t = true) (hi : vu = true → immT t = true) : Val K H' (bkL C.N n np io ts O O') n v (resA ts t) := by
  cases hn : noAl t with
  | true => rw [resA_no hn]; exact B.val R h hn hi
  | false =>
    cases t with
    | a j q =>
      simp only [okAl, Bool.and_eq_true, List.contains_eq_mem, decide_eq_true_eq] at ht
      obtain ⟨⟨a, rfl, e2, l⟩, h2⟩ := h
      obtain ⟨_, t', z, y1, y2, y3⟩ := B.X.val a j q e2 ht.2
      have hmj : ∃ r p, rmI io ts j = some (r, p) := by
        have hu : j < us.length := by rw [B.hl]; exact ht.2
        have hl := argsF_len B.ha
        obtain ⟨t2, g1, g2⟩ := argsF_get B.ha (List.getElem?_eq_getElem hu)
        rw [Nat.zero_add] at g2
        unfold argF at g2
        rw [show io.contains j = true by simpa using ht.1] at g2
        cases t2 with
        | a r p => exact ⟨r, p, rmI_of ht.1 g1⟩
        | _ => cases g2
      obtain ⟨r, p, hr⟩ := hmj
      have ets := (rmI_some hr).2
      have pl := B.plc R hr
      unfold resA
      simp only [ets]
      refine ⟨⟨a, rfl, bk_io e2 (Nat.ne_of_lt ht.2) hr, Nat.lt_of_lt_of_le pl.1 B.hn⟩, fun b q' e => ?_⟩
      rcases B.cases R e with ⟨_, h'⟩ | ⟨i, p0, q2, hne, h', h3, rfl⟩ | ⟨h', h3, _⟩
      · exact h2 b q' h'
      · have := (B.plc R h3).1; have := B.hn; omega
      · omega
    | _ => cases hn
end
def caP (io : List Nat) (np : Nat) (S : SpT) (ts : List T) (ρ1 : Rho) (Q : T → Rho → Prop) (E : ExK) : Prop := ∃ vu us, argsF io ρ1 vu 0 ts = some us ∧ us.length = np ∧ apartB ts = true ∧
  S us (fun t ρ' => ioOk io vu ρ' = true ∧ (vu = true → immT t = true) ∧ okAl io np t = true ∧ Q (resA ts t) (backA io ts ρ1 ρ')) (fun c ρ' => ioOk io vu ρ' = true ∧ E c (backA io ts ρ1 ρ'))
def wCallP (io : List Nat) (np : Nat) (S : SpT) (tas : TwA) : TwE := fun ρ Q E => tas ρ (fun ts ρ1 => caP io np S ts ρ1 Q E) E
section
variable {X : Cx} {k np : Nat} {f : Addr} {fd : FuncData} {ps : List Str} {io : List Nat} {S : SpT} {x : Str} {p pos : Pos} {e : Expr} {es : List Expr} {tas : TwA}
theorem le_callP (F : FnG X.prog X.w X.K X.mg X.base k f fd ps (lfSp X.K np io S)) (room : Room k X.A) (gu : X.A.guards = some []) (mS : MonSp S) (hg : Gl X x) (hm : X.mg x = some (.ref f)) (hk : PySem.W.keepIn X.K (.ref f) = true) (bind : Binds X.K fd ps [])
    (ha : LA X (e :: es) tas) (hdb : (x == ("__debug__" : Str)) = false := by decide) (he : starEach (e :: es) X.env = (false, eval e X.env) :: starEach es X.env := by rfl) (hpl : (backTo pos (starEach es X.env)).any (·.1) = false := by rfl) :
    LE X (.Call (.Name x p) (e :: es) [] pos) (wCallP io np S tas) := by
  refine ⟨fun ρ Q Q' E E' h he q => ha.mono ρ _ _ E E' (fun ts ρ1 ⟨vu, us, h1, h2, h3, h4⟩ => ⟨vu, us, h1, h2, h3, mS us _ _ _ _ (fun t ρ' ⟨z1, z2, z3, z4⟩ => ⟨z1, z2, z3, h _ _ z4⟩) (fun c ρ' ⟨z1, z2⟩ => ⟨z1, he _ _ z2⟩) h4⟩) he q,
    fun C W n hC hn tk => (pe_callG F room gu hg hm hk bind (fun σ => L2N.passAt tk σ) (ha.run C W n hC hn tk) hdb he hpl).imp fun σ H Q ⟨O, ρ, R, q⟩ => ⟨O, ρ, R, ha.mono ρ _ _ _ _ (fun ts ρ1 ⟨vu, us, h1, h2, h3, h4⟩ => ?_) (fun _ _ z => z) q⟩⟩
  intro vs H1 O1 R1 F1 V1
  refine ⟨inL C.N n io ts vu O1, us, ent_of R1 hn V1 h1 h2 h3, mS us _ _ _ _ (fun t ρ' ⟨z1, z2, z3, z4⟩ => ?_) (fun c ρ' ⟨z1, z2⟩ => ?_) h4⟩
  · intro v H' O' Ex V'
    have B : BkC X.K C n np io ts us vs vu H1 O1 ρ1 H' O' ρ' := ⟨hn, V1, h1, h2, h3, Ex, z1⟩
    exact z4 v H' _ (B.rel R1) (F1.trans (B.frm R1) (Nat.le_refl _)) (B.valP R1 V' z3 z2)
  · intro H' O' Ex _
    have B : BkC X.K C n np io ts us vs vu H1 O1 ρ1 H' O' ρ' := ⟨hn, V1, h1, h2, h3, Ex, z1⟩
    exact z2 σ H' _ ((B.rel R1).cut (Nat.le_refl _)) (F1.fre.trans ((B.frm R1).fre.trans (fre_cut _)))
theorem le_callDP {j : Nat} (D : Df X.prog X.w X.K X.mg X.base x k ps np io S) (room : Room j X.A) (hj : k ≤ j) (gu : X.A.guards = some []) (mS : MonSp S) (hg : Gl X x)
    (ha : LA X (e :: es) tas) (hdb : (x == ("__debug__" : Str)) = false := by decide) (he : starEach (e :: es) X.env = (false, eval e X.env) :: starEach es X.env := by rfl) (hpl : (backTo pos (starEach es X.env)).any (·.1) = false := by rfl) :
    LE X (.Call (.Name x p) (e :: es) [] pos) (wCallP io np S tas) := by
  obtain ⟨f, fd, F, h1, h2, h3⟩ := D
  exact le_callP F (room.mono hj) gu mS hg h1 h2 h3 ha hdb he hpl
theorem xCallP {ρ : Rho} {Q : T → Rho → Prop} {E : ExK} (h : tas ρ (fun ts ρ1 => caP io np S ts ρ1 Q E) E) : wCallP io np S tas ρ Q E := h
end
abbrev PlDP (S : SpT) (w : TwS) (N : List Str) (io : List Nat) (np : Nat) : Prop := ∀ ts Q Ex, S ts Q Ex → w { nx := fun ρ => Q (.d .none) ρ, rt := fun t ρ => okAl io np t = true ∧ Q t ρ, ex := Ex } (rho0 N ts)
/-! ### x = a value, or x's own place -/
def stPK (i : Nat) (D : EndsT) (t : T) (ρ : Rho) : Prop := (t = .a i [] ∧ D.nx ρ) ∨ ((∀ r p, t ≠ .a r p) ∧ D.nx (ρ.set i (some t)))
def wSetP (i : Nat) (ta : TwE) : TwS := fun D ρ => ta ρ (stPK i D) D.ex
section
variable {X : Cx} {io : List Nat} {e : Expr} {ta : TwE} {pos pos' : Pos}
theorem ls_setP {i : Nat} {x : Str} (hN : X.N.Nodup) (hi : X.N[i]? = some x) (hx : Loc X.env.scope x) (he : LE X e ta) (hio : i ∉ io := by decide) (hs : swapsWith e (some (.Name x pos')) pos.line X.env = pure false := by rfl) (hf : X.fn x = true ∨ X.env.scope.names.lookup x = some .local := by first | exact .inl rfl | exact .inr rfl | assumption) :
    LS X io (.Assign [.Name x pos'] e pos) (wSetP i ta) := by
  refine ⟨fun D D' ρ l q => he.mono ρ _ _ _ _ (fun t ρ1 h => h.elim (fun ⟨h, q⟩ => .inl ⟨h, l.nx _ q⟩) fun ⟨h, q⟩ => .inr ⟨h, l.nx _ q⟩) l.ex q, fun C W hC hio' tk hp => (ps_set hN hi hx (he.run C W C.N hC (Nat.le_refl _) tk) hs hf).imp fun D σ H ⟨O, ρ, R, q⟩ => ?_⟩
  refine ⟨O, ρ, R, he.mono ρ _ _ _ _ (fun t ρ1 h => ?_) (fun _ _ z => z) q⟩
  intro v H1 O1 R1 F1 V1
  rcases h with ⟨rfl, q⟩ | ⟨ha, q⟩
  · obtain ⟨⟨a, rfl, e2, l⟩, h2⟩ := V1
    have hiN : i < C.N := nlt hC hi
    obtain ⟨t, z, g1, g2, g3⟩ := R1.val a i [] e2 hiN
    obtain ⟨w, h3, h4⟩ := R1.sl i t g1
    cases g2
    obtain ⟨a', rfl, e4⟩ := tr_root h4 g3
    cases R1.inj a a' i [] e2 e4
    have es : σ.set i (some (.ref a)) = σ := by
      obtain ⟨h5, h6⟩ := List.getElem?_eq_some_iff.mp h3
      rw [← h6]; exact List.set_getElem_self h5
    show D.nx (σ.set i (some (.ref a))) H1
    rw [es]
    exact q σ H1 _ (R1.cut (Nat.le_refl _)) (F1.fre.trans (fre_cut _))
  · obtain ⟨O', R', F'⟩ := relStoreT R1 (nlt hC hi) (by rw [hio']; exact hio) V1 ha
    exact q _ H1 O' R' (F1.fre.trans F')
theorem xSetP {D : EndsT} {ρ : Rho} {i : Nat} (h : ta ρ (stPK i D) D.ex) : wSetP i ta D ρ := h
theorem xStPV {D : EndsT} {ρ : Rho} {i : Nat} {t : T} (h : noAl t = true) (q : D.nx (ρ.set i (some t))) : stPK i D t ρ := .inr ⟨fun r p z => (by subst z; cases h), q⟩
theorem xStPP {D : EndsT} {ρ : Rho} {i : Nat} (q : D.nx ρ) : stPK i D (.a i []) ρ := .inl ⟨rfl, q⟩
end
/-! ### promises that may raise -/
section
variable {io : List Nat} {np : Nat} {S : SpT} {bad : List T → Str → Prop} {ts us : List T} {ρ : Rho} {Q : T → Rho → Prop} {E : ExK} {vu : Bool}
end
end TX

/-! One of two readings. -/
namespace TX
open PySem PySem.Spec L2 PyProof.Rows
def wEi (ta tb : TwE) : TwE := fun ρ Q E => ta ρ Q E ∨ tb ρ Q E
def wEiS (ta tb : TwS) : TwS := fun D ρ => ta D ρ ∨ tb D ρ
section
variable {X : Cx} {io : List Nat} {e : Expr} {st : Stmt} {ta tb : TwE} {sa sb : TwS}
theorem le_ei (ha : LE X e ta) (hb : LE X e tb) : LE X e (wEi ta tb) :=
  ⟨fun ρ Q Q' E E' h he q => q.elim (fun q => .inl (ha.mono ρ Q Q' E E' h he q)) fun q => .inr (hb.mono ρ Q Q' E E' h he q), fun C W n hC hn tk => ⟨fun pins s σ H Q I ⟨O, ρ, R, q⟩ =>
    q.elim (fun q => (ha.run C W n hC hn tk).run pins s σ H Q I ⟨O, ρ, R, q⟩) fun q => (hb.run C W n hC hn tk).run pins s σ H Q I ⟨O, ρ, R, q⟩⟩⟩
theorem ls_ei (ha : LS X io st sa) (hb : LS X io st sb) : LS X io st (wEiS sa sb) :=
  ⟨fun D D' ρ l q => q.elim (fun q => .inl (ha.mono D D' ρ l q)) fun q => .inr (hb.mono D D' ρ l q), fun C W hC hio tk hp => ⟨fun pins s σ H D I ⟨O, ρ, R, q⟩ =>
    q.elim (fun q => (ha.run C W hC hio tk hp).run pins s σ H D I ⟨O, ρ, R, q⟩) fun q => (hb.run C W hC hio tk hp).run pins s σ H D I ⟨O, ρ, R, q⟩⟩⟩
theorem xEiL {ρ : Rho} {Q : T → Rho → Prop} {E : ExK} (h : ta ρ Q E) : wEi ta tb ρ Q E := .inl h
theorem xEiR {ρ : Rho} {Q : T → Rho → Prop} {E : ExK} (h : tb ρ Q E) : wEi ta tb ρ Q E := .inr h
theorem xEsL {ρ : Rho} {D : EndsT} (h : sa D ρ) : wEiS sa sb D ρ := .inl h
theorem xEsR {ρ : Rho} {D : EndsT} (h : sb D ρ) : wEiS sa sb D ρ := .inr h
end
/-! ### a, b = xs, xs a flat list, one's own or not -/
def wAsgL (ta : TwE) (k : Nat) (t : TwGs) : TwS := fun D ρ => ta ρ (fun u ρ1 => ∃ xs, lsq ρ1 u = some xs ∧ xs.length = k ∧ t xs ρ1 D.nx D.ex) D.ex
section
variable {X : Cx} {io : List Nat} {es : List Expr} {tgs : TwGs} {s1 : List Nat} {e : Expr} {ta : TwE} {pos pos2 : Pos} {kk n : Nat}
theorem ls_asgL (hc : X.calm = true) (he : LE X e ta) (h : LGs X s1 es tgs) (hn : (assignEach es X.env).length = n := by rfl) (hst : (assignEach es X.env).findIdx? (·.1) = none := by rfl)
    (hs : swapsWithSole [.Tuple es kk pos2] e pos.line X.env = pure false := by rfl) (hw : swappedStores [.Tuple es kk pos2] e X.env = pure none := by rfl) (h1 : (assignEach [.Tuple es kk pos2] X.env).map (·.2) = [assign (.Tuple es kk pos2) X.env] := by rfl) :
    LS X io (.Assign [.Tuple es kk pos2] e pos) (wAsgL ta n tgs) := by
  refine ⟨fun D D' ρ l q => he.mono ρ _ _ _ _ (fun t ρ1 ⟨xs, h1, h2, q⟩ => ⟨xs, h1, h2, h.mono _ _ _ _ _ _ l.nx l.ex q⟩) l.ex q, fun C W hC hio tk hp => (ps_asg (he.run C W C.N hC (Nat.le_refl _) tk) (pg_lst hc (h.run C W C.N hC (Nat.le_refl _) tk) hn hst) hs hw h1).imp fun D σ H ⟨O, ρ, R, q⟩ => ?_⟩
  refine ⟨O, ρ, R, he.mono ρ _ _ _ _ (fun t ρ1 ⟨xs, ex, el, q⟩ => ?_) (fun _ _ z => z) q⟩
  intro v H1 O1 R1 F1 V1
  obtain ⟨a, vs, rfl, g1, g2⟩ := R1.lsqV V1 ex
  have F := F1.fre.trans (fre_cut (H := H1) (O := O1) C.N)
  refine ⟨_, _, rfl, .of g1, by rw [g2.length]; exact el, cut C.N O1, ρ1, xs, R1.cut (Nat.le_refl _), RpAll.mono (fun b o z => by obtain ⟨z1, z2⟩ := msk_some z; rw [msk_of (cut_free z1)]; exact z2) _ _ g2, h.mono _ _ _ _ _ _ (fun ρ2 q2 => ?_) (fun c ρ' z => exK.on F c ρ' z) q⟩
  intro σ2 H2 O2 R2 F2 _
  exact q2 σ2 H2 O2 R2 (F.trans F2.fre)
def aslK (k : Nat) (t : TwGs) (D : EndsT) (u : T) (ρ : Rho) : Prop := ∃ xs, lsq ρ u = some xs ∧ xs.length = k ∧ t xs ρ D.nx D.ex
theorem xAsgL {D : EndsT} {ρ : Rho} {k : Nat} (h : ta ρ (aslK k tgs D) D.ex) : wAsgL ta k tgs D ρ := h
theorem xAslK {D : EndsT} {ρ : Rho} {k : Nat} {u : T} {xs : List PyData} (h : lsq ρ u = some xs) (l : xs.length = k) (q : tgs xs ρ D.nx D.ex) : aslK k tgs D u ρ := ⟨xs, h, l, q⟩
end
end TX

namespace LW
open PySem PySem.Spec L2 TX
/-! ### lists of ints and pairs, plainly -/
def leI (a b : Int) : Bool := decide (a ≤ b)
def pr (p : Int × Int) : PyData := .tuple [.int p.1, .int p.2]
def sI (cs : List Int) : List Int := cs.mergeSort leI
/-- the first place of y -/
def pos : List Int → Int → Nat
  | [], _ => 0
  | c :: cs, y => if c = y then 0 else pos cs y + 1
/-- the pairs that stand wrong, at each place the smaller ones behind it -/
def wp : List Int → List (Int × Int)
  | [] => []
  | c :: cs => (cs.filter fun x => decide (x < c)).map (fun x => (x, c)) ++ wp cs
/-- the same by the smaller one, upwards -/
def dp (row : List Int) : List Int → List (Int × Int)
  | [] => []
  | l :: s => (s.filter fun g => decide (pos row g < pos row l)).map (fun g => (l, g)) ++ dp row s
/-! ### as data -/
/-! ### what a repr asks -/
theorem wt_int {i : Int} (h : i.natAbs < 10 ^ 12) : (PyData.int i).weight ≤ 41 := by
  have := log_le (a := 40) (show i.natAbs < 2 ^ 40 by omega)
  simp only [PyData.weight]
  split <;> omega
theorem shb_int {i : Int} (h : i.natAbs < 10 ^ 12) : (PyData.int i).showable = true := by
  have := log_le (a := 40) (show i.natAbs < 2 ^ 40 by omega)
  simp only [PyData.showable, decide_eq_true_eq]
  omega
def smallP (p : Int × Int) : Prop := p.1.natAbs < 10 ^ 12 ∧ p.2.natAbs < 10 ^ 12
end LW

namespace LW
open PySem PySem.Spec L2 TX
/-! ### triples, plainly -/
abbrev I3 := Int × Int × Int
/-! ### the crossing threes -/
def wt : List Int → List I3
  | [] => []
  | c :: cs => (wp (cs.filter fun x => decide (x < c))).map (fun p => (p.1, p.2, c)) ++ wt cs
/-! ### all threes of a rising row -/
def p2 : List Int → List (Int × Int)
  | [] => []
  | y :: s => s.map (fun z => (y, z)) ++ p2 s
def th : List Int → List I3
  | [] => []
  | x :: s => (p2 s).map (fun p => (x, p.1, p.2)) ++ th s
def dt (row : List Int) : List I3 := (th (sI row)).filter fun p => decide (pos row p.2.2 < pos row p.2.1) && decide (pos row p.2.1 < pos row p.1)
end LW

namespace LW
open PySem PySem.Spec L2 TX

local macro_rules | `(tactic| trivial) => `(tactic| with_reducible refine xIEz ?_)
local macro_rules | `(tactic| trivial) => `(tactic| with_reducible refine xLi ?_)
local macro_rules | `(tactic| trivial) => `(tactic| with_reducible refine xAppD21 ?_)
local macro_rules | `(tactic| trivial) => `(tactic| with_reducible refine xAppD11 ?_)
local macro_rules | `(tactic| trivial) => `(tactic| with_reducible refine xAppD ?_)
local macro_rules | `(tactic| trivial) => `(tactic| with_reducible refine xClip ?_)
local macro_rules | `(tactic| trivial) => `(tactic| with_reducible refine xDcT ?_)
local macro_rules | `(tactic| trivial) => `(tactic| with_reducible refine xGdD ?_)
local macro_rules | `(tactic| trivial) => `(tactic| with_reducible refine xGdA (by with_unfolding_all rfl) ?_)
local macro_rules | `(tactic| trivial) => `(tactic| with_reducible refine xGd2 ?_)
local macro_rules | `(tactic| trivial) => `(tactic| with_reducible refine xGd1 ?_)
local macro_rules | `(tactic| trivial) => `(tactic| with_reducible refine xLc2 ?_)
local macro_rules | `(tactic| trivial) => `(tactic| with_reducible refine xIDcK ?_)
local macro_rules | `(tactic| trivial) => `(tactic| with_reducible refine xIDc ?_)
local macro_rules | `(tactic| trivial) => `(tactic| with_reducible refine xVarL (by with_unfolding_all rfl) ?_)
local macro_rules | `(tactic| trivial) => `(tactic| with_reducible refine xIsB (by with_unfolding_all rfl) (by with_unfolding_all rfl) ?_)
local macro_rules | `(tactic| trivial) => `(tactic| with_reducible refine xGLst (by with_unfolding_all rfl) ?_)
local macro_rules | `(tactic| trivial) => `(tactic| with_reducible refine xIe2 ?_)
local macro_rules | `(tactic| trivial) => `(tactic| with_reducible refine xIe1 ?_)
local macro_rules | `(tactic| trivial) => `(tactic| with_reducible refine xGe2 ?_)
local macro_rules | `(tactic| trivial) => `(tactic| with_reducible refine xGe1 ?_)
local macro_rules | `(tactic| trivial) => `(tactic| with_reducible refine xDpl ?_)
local macro_rules | `(tactic| trivial) => `(tactic| with_reducible refine xDc ?_)
local macro_rules | `(tactic| trivial) => `(tactic| with_reducible refine xDcL ?_)
local macro_rules | `(tactic| trivial) => `(tactic| with_reducible refine xRep ?_)
local macro_rules | `(tactic| trivial) => `(tactic| with_reducible refine xGtD ?_)
local macro_rules | `(tactic| trivial) => `(tactic| with_reducible refine xGtA (by with_unfolding_all rfl) ?_)
local macro_rules | `(tactic| trivial) => `(tactic| with_reducible refine xGt2 ?_)
local macro_rules | `(tactic| trivial) => `(tactic| with_reducible refine xGt1 ?_)
local macro_rules | `(tactic| trivial) => `(tactic| with_reducible refine xSlTK ?_)
local macro_rules | `(tactic| trivial) => `(tactic| with_reducible refine xSlT ?_)
local macro_rules | `(tactic| trivial) => `(tactic| with_reducible refine xListR ?_)
local macro_rules | `(tactic| trivial) => `(tactic| with_reducible refine xRev2 ?_)
local macro_rules | `(tactic| trivial) => `(tactic| with_reducible refine xIsNK (by with_unfolding_all rfl) ?_)
local macro_rules | `(tactic| trivial) => `(tactic| with_reducible refine xIR2 ?_)
local macro_rules | `(tactic| trivial) => `(tactic| with_reducible refine xIZip ?_)
local macro_rules | `(tactic| trivial) => `(tactic| with_reducible refine xITupK ?_)
local macro_rules | `(tactic| trivial) => `(tactic| with_reducible refine xITup ?_)
local macro_rules | `(tactic| trivial) => `(tactic| with_reducible refine xDi2 ?_)
local macro_rules | `(tactic| trivial) => `(tactic| with_reducible refine xDi1 ?_)
local macro_rules | `(tactic| trivial) => `(tactic| with_reducible refine xRevTK ?_)
local macro_rules | `(tactic| trivial) => `(tactic| with_reducible refine xRevT ?_)
local macro_rules | `(tactic| trivial) => `(tactic| with_reducible refine xPaK (by with_unfolding_all rfl) (by with_unfolding_all rfl) ?_)
local macro_rules | `(tactic| trivial) => `(tactic| with_reducible refine xPar ?_)
local macro_rules | `(tactic| trivial) => `(tactic| with_reducible refine xDp2 ?_)
local macro_rules | `(tactic| trivial) => `(tactic| with_reducible refine xDg2 ?_)
local macro_rules | `(tactic| trivial) => `(tactic| with_reducible refine xDp1 ?_)
local macro_rules | `(tactic| trivial) => `(tactic| with_reducible refine xDg1 ?_)
local macro_rules | `(tactic| trivial) => `(tactic| with_reducible refine xYesT ?_)
local macro_rules | `(tactic| trivial) => `(tactic| with_reducible refine xGsNil ?_)
local macro_rules | `(tactic| trivial) => `(tactic| with_reducible refine xGsCons ?_)
local macro_rules | `(tactic| trivial) => `(tactic| with_reducible refine xGTup (by with_unfolding_all rfl) ?_)
local macro_rules | `(tactic| trivial) => `(tactic| with_reducible refine xNm (by with_unfolding_all rfl) ?_)
local macro_rules | `(tactic| trivial) => `(tactic| with_reducible refine xLenSet ?_)
local macro_rules | `(tactic| trivial) => `(tactic| with_reducible refine xCat ?_)
local macro_rules | `(tactic| trivial) => `(tactic| with_reducible refine xRevS ?_)
local macro_rules | `(tactic| trivial) => `(tactic| with_reducible refine xPartK ?_)
local macro_rules | `(tactic| trivial) => `(tactic| with_reducible refine xPart ?_)
local macro_rules | `(tactic| trivial) => `(tactic| with_reducible refine xNoPart ?_)
local macro_rules | `(tactic| trivial) => `(tactic| with_reducible refine xSl ?_)
local macro_rules | `(tactic| trivial) => `(tactic| with_reducible refine xIEn ?_)
local macro_rules | `(tactic| trivial) => `(tactic| with_reducible refine xIR1 ?_)
local macro_rules | `(tactic| trivial) => `(tactic| with_reducible refine xILK (by with_unfolding_all rfl) ?_)
local macro_rules | `(tactic| trivial) => `(tactic| with_reducible refine xILst ?_)
local macro_rules | `(tactic| trivial) => `(tactic| with_reducible refine xFor ?_)
local macro_rules | `(tactic| trivial) => `(tactic| with_reducible refine xLc ?_)
local macro_rules | `(tactic| trivial) => `(tactic| with_reducible refine xMD ?_)
local macro_rules | `(tactic| trivial) => `(tactic| with_reducible refine xMA (by with_unfolding_all rfl) ?_)
local macro_rules | `(tactic| trivial) => `(tactic| with_reducible refine xM ?_)
local macro_rules | `(tactic| trivial) => `(tactic| with_reducible refine xCall ?_)
local macro_rules | `(tactic| trivial) => `(tactic| with_reducible refine xIs (by with_unfolding_all rfl) (by with_unfolding_all rfl) ?_)
local macro_rules | `(tactic| trivial) => `(tactic| with_reducible refine xNo (by with_unfolding_all rfl) ?_)
local macro_rules | `(tactic| trivial) => `(tactic| with_reducible refine xYes (by with_unfolding_all rfl) ?_)
local macro_rules | `(tactic| trivial) => `(tactic| with_reducible refine xMin (by with_unfolding_all rfl) (by with_unfolding_all rfl) ?_)
local macro_rules | `(tactic| trivial) => `(tactic| with_reducible refine xMax (by with_unfolding_all rfl) (by with_unfolding_all rfl) ?_)
local macro_rules | `(tactic| trivial) => `(tactic| with_reducible refine xLen (by with_unfolding_all rfl) ?_)
local macro_rules | `(tactic| trivial) => `(tactic| with_reducible refine xTupK (by with_unfolding_all rfl) ?_)
local macro_rules | `(tactic| trivial) => `(tactic| with_reducible refine xTup ?_)
local macro_rules | `(tactic| trivial) => `(tactic| with_reducible refine xLstK (by with_unfolding_all rfl) ?_)
local macro_rules | `(tactic| trivial) => `(tactic| with_reducible refine xLst ?_)
local macro_rules | `(tactic| trivial) => `(tactic| with_reducible refine xFn ?_)
local macro_rules | `(tactic| trivial) => `(tactic| with_reducible refine xCons ?_)
local macro_rules | `(tactic| trivial) => `(tactic| with_reducible refine xNil ?_)
local macro_rules | `(tactic| trivial) => `(tactic| with_reducible refine xIxA (by with_unfolding_all rfl) (by with_unfolding_all rfl) (by with_unfolding_all rfl) ?_)
local macro_rules | `(tactic| trivial) => `(tactic| with_reducible refine xIx ?_)
local macro_rules | `(tactic| trivial) => `(tactic| with_reducible refine xCh2 (by with_unfolding_all rfl) (by with_unfolding_all rfl) ?_)
local macro_rules | `(tactic| trivial) => `(tactic| with_reducible refine xCh1 (by with_unfolding_all rfl) (by with_unfolding_all rfl) ?_)
local macro_rules | `(tactic| trivial) => `(tactic| with_reducible refine xCh ?_)
local macro_rules | `(tactic| trivial) => `(tactic| with_reducible refine xIf ?_)
local macro_rules | `(tactic| trivial) => `(tactic| with_reducible refine xBK ?_)
local macro_rules | `(tactic| trivial) => `(tactic| with_reducible refine xNotV ?_)
local macro_rules | `(tactic| trivial) => `(tactic| with_reducible refine xOrV ?_)
local macro_rules | `(tactic| trivial) => `(tactic| with_reducible refine xAndV ?_)
local macro_rules | `(tactic| trivial) => `(tactic| with_reducible refine xOr ?_)
local macro_rules | `(tactic| trivial) => `(tactic| with_reducible refine xAnd ?_)
local macro_rules | `(tactic| trivial) => `(tactic| with_reducible refine xNot ?_)
local macro_rules | `(tactic| trivial) => `(tactic| with_reducible refine xTK ?_)
local macro_rules | `(tactic| trivial) => `(tactic| with_reducible refine xT ?_)
local macro_rules | `(tactic| trivial) => `(tactic| with_reducible refine xIc (by with_unfolding_all rfl) (by with_unfolding_all rfl) (by with_unfolding_all first | omega | exact ⟨by decide, by decide +kernel⟩) ?_)
local macro_rules | `(tactic| trivial) => `(tactic| with_reducible refine xNegK ?_)
local macro_rules | `(tactic| trivial) => `(tactic| with_reducible refine xNeg ?_)
local macro_rules | `(tactic| trivial) => `(tactic| with_reducible refine xNeI (by with_unfolding_all rfl) (by with_unfolding_all rfl) ?_)
local macro_rules | `(tactic| trivial) => `(tactic| with_reducible refine xEqI (by with_unfolding_all rfl) (by with_unfolding_all rfl) ?_)
local macro_rules | `(tactic| trivial) => `(tactic| with_reducible refine xB (by with_unfolding_all rfl) (by with_unfolding_all rfl) ?_)
local macro_rules | `(tactic| trivial) => `(tactic| with_reducible refine xI (by with_unfolding_all rfl) (by with_unfolding_all rfl) ?_)
local macro_rules | `(tactic| trivial) => `(tactic| with_reducible refine xOp ?_)
local macro_rules | `(tactic| trivial) => `(tactic| with_reducible refine xC ?_)
local macro_rules | `(tactic| trivial) => `(tactic| with_reducible refine xVarN (by with_unfolding_all rfl) (by with_unfolding_all rfl) ?_)
local macro_rules | `(tactic| trivial) => `(tactic| with_reducible refine xVarZ (by with_unfolding_all rfl) ?_)
local macro_rules | `(tactic| trivial) => `(tactic| with_reducible refine xVarD (by with_unfolding_all rfl) ?_)
local macro_rules | `(tactic| trivial) => `(tactic| with_reducible refine xSbK (by with_unfolding_all rfl) (by with_unfolding_all rfl) (by with_unfolding_all rfl) ?_)
local macro_rules | `(tactic| trivial) => `(tactic| with_reducible refine xSub ?_)
local macro_rules | `(tactic| trivial) => `(tactic| with_reducible refine xAsK (by with_unfolding_all rfl) ?_)
local macro_rules | `(tactic| trivial) => `(tactic| with_reducible refine xAsg ?_)
local macro_rules | `(tactic| trivial) => `(tactic| with_reducible refine xRet ?_)
local macro_rules | `(tactic| trivial) => `(tactic| with_reducible refine xDrop ?_)
local macro_rules | `(tactic| trivial) => `(tactic| with_reducible refine xIfS ?_)
local macro_rules | `(tactic| trivial) => `(tactic| with_reducible refine xNext ?_)
local macro_rules | `(tactic| trivial) => `(tactic| with_reducible refine xSetK (by with_unfolding_all rfl) ?_)
local macro_rules | `(tactic| trivial) => `(tactic| with_reducible refine xSet ?_)
local macro_rules | `(tactic| trivial) => `(tactic| with_reducible refine xSeq ?_)

/-! ### the pot -/
def potT (a b c : Int) : T := .l [.d (.int a), .d (.int b), .d (.int c)]
/-- a pot that may be dipped into k times more -/
def Pot (a b c k : Int) : Prop := 0 ≤ a ∧ 0 ≤ b ∧ b < 2 ^ 200 ∧ 0 ≤ c ∧ c + k ≤ 2 ^ 40
/-- the pot of slot 0 behind at most k dips -/
def PotTo (k a b c : Int) (ρ : Rho) : Prop := ∃ a' c', ρ[0]? = some (some (potT a' b c')) ∧ 0 ≤ a' ∧ c ≤ c' ∧ c' ≤ c + k
def S_law_pot : SpT := SpP (fun ts => ∃ (ns : List Int) (k : Int), ts = [.fz ns, .d (.int k)] ∧ 0 ≤ k ∧ k ≤ 1000) fun _ t _ => ∃ a b, t = potT a b 0 ∧ Pot a b 0 (2 ^ 40)
def S_law_dip : SpT := SpP (fun ts => ∃ a b c m, ts = [potT a b c, .d (.int m)] ∧ Pot a b c 1 ∧ 1 ≤ m ∧ m ≤ 2 ^ 64) fun ts t ρ => ∀ a b c m, ts = [potT a b c, .d (.int m)] → ∃ i, t = .d (.int i) ∧ 0 ≤ i ∧ i < m ∧ PotTo 1 a b c ρ
theorem pot_inj {a b c a' b' c' : Int} (h : potT a b c = potT a' b' c') : a = a' ∧ b = b' ∧ c = c' := by
  unfold potT at h
  simpa only [T.l.injEq, List.cons.injEq, T.d.injEq, PyData.int.injEq, and_true] using h
theorem potn_inj {a b c a' b' c' m m' : Int} (h : [potT a b c, T.d (.int m)] = [potT a' b' c', T.d (.int m')]) : a = a' ∧ b = b' ∧ c = c' ∧ m = m' := by
  simp only [List.cons.injEq, T.d.injEq, PyData.int.injEq, and_true] at h
  obtain ⟨h1, h2, h3⟩ := pot_inj h.1
  exact ⟨h1, h2, h3, h.2⟩
theorem mS_law_pot : MonSp S_law_pot := mon_SpP
abbrev N_law_pot : List Str := ["_law_script", "_law_k", "_law_cell"]
abbrev w0_law_pot : TwS := (wRet (wLst (wCons (wFn (k2 fMax) (wCons (wC (.d (.int 0))) (wCons (wOp (fI (· - ·)) (wVar 2) (wOp (fIc CPowW (fun i j => i ^ j.toNat)) (wC (.d (.int 10))) (wC (.d (.int 18))))) wNil))) (wCons (wOp (fI (· + ·)) (wOp (fI (· + ·)) (wOp (fIc CMulW (· * ·)) (wOp (fIc (fun _ j => 0 < j) (· % ·)) (wVar 2) (wOp (fI (· + ·)) (wOp (fIc CPowW (fun i j => i ^ j.toNat)) (wC (.d (.int 10))) (wC (.d (.int 44)))) (wC (.d (.int 57))))) (wC (.d (.int 512)))) (wOp (fIc CMulW (· * ·)) (wC (.d (.int 3))) (wVar 1))) (wC (.d (.int 2)))) (wCons (wC (.d (.int 0))) wNil)))))
def w_law_pot : TwS := (wSeq (wSet 2 (wC (.d (.int 0))))
    (wSeq (wIfS (wT (wOp (fB fun i j => decide (i < j)) (wVar 1) (wFn kLen (wCons (wVar 0) wNil)))) (wSet 2 (wIx (wVar 0) (wVar 1))) wNext)
    w0_law_pot))
theorem pl_law_pot : PlD S_law_pot w_law_pot N_law_pot := by
  rintro ts Q Ex ⟨⟨ns, k, rfl, k0, k1⟩, q⟩
  unfold w_law_pot
  have fin : ∀ c : Int, Q (potT (max 0 (c - 10 ^ (18 : Int).toNat)) (c % (10 ^ (44 : Int).toNat + 57) * 512 + 3 * k + 2) 0) [some (.fz ns), some (.d (.int k)), some (.d (.int c))] := fun c => q _ _ ⟨_, _, rfl, Int.le_max_left _ _, by
    have := Int.emod_nonneg c (b := 10 ^ (44 : Int).toNat + 57) (by decide +kernel)
    omega, by
    have h1 := Int.emod_lt_of_pos c (b := 10 ^ (44 : Int).toNat + 57) (by decide +kernel)
    have h2 : (10 : Int) ^ (44 : Int).toNat + 57 ≤ 2 ^ 180 := by decide +kernel
    have h3 : (2 : Int) ^ 200 = 2 ^ 180 * 1048576 := by decide +kernel
    omega, Int.le_refl _, by decide⟩
  repeat trivial
  refine xIte (fun h => ?_) fun h => ?_
  · have h' : k < ns.length := of_decide_eq_true h
    obtain ⟨c, hc, _⟩ := at_in k0 h'
    repeat trivial
    refine xIxZ hc ?_
    repeat trivial
    refine xIc rfl rfl (by decide +kernel) ?_
    repeat trivial
    refine xIc rfl rfl (cmul 160 20 (nM 160 (by decide +kernel) (by decide +kernel)) (by decide)) ?_
    repeat trivial
    refine xIc rfl rfl (cmul 2 20 (by decide) (by omega)) ?_
    repeat trivial
    exact ⟨rfl, fin c⟩
  · repeat trivial
    refine xIc rfl rfl (by decide +kernel) ?_
    repeat trivial
    refine xIc rfl rfl (cmul 160 20 (nM 160 (by decide +kernel) (by decide +kernel)) (by decide)) ?_
    repeat trivial
    refine xIc rfl rfl (cmul 2 20 (by decide) (by omega)) ?_
    repeat trivial
    exact ⟨rfl, fin 0⟩
theorem xDip {ρ : Rho} {Q : T → Rho → Prop} {E : ExK} {r : Nat} {a b c m k : Int} (hg : ρ[r]? = some (some (potT a b c))) (hp : Pot a b c k) (hk : 1 ≤ k) (hm : 1 ≤ m) (hm2 : m ≤ 2 ^ 64)
    (q : ∀ i a' c', 0 ≤ i → i < m → Pot a' b c' (k - 1) → c ≤ c' → c' ≤ c + 1 → Q (.d (.int i)) (ρ.set r (some (potT a' b c')))) : caK [0] 2 S_law_dip [.a r [], .d (.int m)] ρ Q E := by
  obtain ⟨h1, h2, h3, h4, h5⟩ := hp
  refine xCaF hg rfl rfl rfl rfl ⟨a, b, c, m, rfl, ⟨h1, h2, h3, h4, by omega⟩, hm, hm2⟩ fun u ρ' h => ?_
  obtain ⟨i, rfl, i0, i1, a', c', e, g1, g2, g3⟩ := h a b c m rfl
  exact ⟨_, e, rfl, rfl, q i a' c' i0 i1 ⟨g1, h2, h3, by omega, by omega⟩ g2 g3⟩
/-! ### cards -/
def intL (cs : List Int) : T := .l ((cs.map PyData.int).map T.d)
def Cards (cs : List Int) : Prop := ∀ c ∈ cs, 0 ≤ c ∧ c ≤ 999999999
def S_law_cards : SpT := SpP (fun ts => ∃ a b c m, ts = [potT a b c, .d (.int m)] ∧ Pot a b c 32 ∧ 1 ≤ m ∧ m ≤ 24) fun ts t ρ => ∀ a b c m, ts = [potT a b c, .d (.int m)] → ∃ cs, t = intL cs ∧ Cards cs ∧ (cs.length : Int) = m ∧ cs.Pairwise (· < ·) ∧ PotTo 32 a b c ρ
theorem mS_law_cards : MonSp S_law_cards := mon_SpP
abbrev N_law_cards : List Str := ["_law_pot_here", "_law_many", "_law_wide", "_law_found", "_law_more", "_law_card"]
abbrev w0_law_cards : TwS := (wDrop (wM isLst kApp (wVar 3) (wCons (wOp (fI (· + ·)) (wOp (fI (· + ·)) (wIx (wVar 3) (wNeg (wC (.d (.int 1))))) (wC (.d (.int 1)))) (wCall [0] 2 S_law_dip (wCons (wVar 0) (wCons (wVar 2) wNil)))) wNil)))
abbrev w1_law_cards : TwS := (wSeq (wSet 4 (wIx (wLst (wCons (wC (.d (.int 0))) (wCons (wC (.d (.int 0))) (wCons (wOp (fI (· - ·)) (wC (.d (.int 999999999))) (wIx (wVar 3) (wNeg (wC (.d (.int 1)))))) wNil)))) (wCall [0] 2 S_law_dip (wCons (wVar 0) (wCons (wC (.d (.int 3))) wNil)))))
    (wFrz 3 (wRet (wLc (wILst (wVar 3)) (wNm 5) wYes (wOp (fI (· + ·)) (wVar 5) (wVar 4)) [5]))))
abbrev w2_law_cards : TwS := (wSeq (wSet 3 (wLst (wCons (wIx (wLst (wCons (wC (.d (.int 0))) (wCons (wCall [0] 2 S_law_dip (wCons (wVar 0) (wCons (wC (.d (.int 200000000))) wNil))) wNil))) (wCall [0] 2 S_law_dip (wCons (wVar 0) (wCons (wC (.d (.int 2))) wNil)))) wNil)))
    (wSeq (wWhile (wT (wOp (fB fun i j => decide (i < j)) (wFn kLen (wCons (wVar 3) wNil)) (wVar 1))) w0_law_cards)
    w1_law_cards))
def w_law_cards : TwS := (wSeq (wSet 2 (wIx (wLst (wCons (wC (.d (.int 1))) (wCons (wC (.d (.int 9))) (wCons (wC (.d (.int 30000000))) wNil)))) (wCall [0] 2 S_law_dip (wCons (wVar 0) (wCons (wC (.d (.int 3))) wNil)))))
    w2_law_cards)
theorem erase_intL {cs : List Int} : erase (intL cs) = some (.list (cs.map PyData.int)) := by unfold intL; simp only [erase, eraseAll_d, Option.map_some]
theorem pl_law_cards : PlD S_law_cards w_law_cards N_law_cards := by
  rintro ts Q Ex ⟨⟨a, b, c, m, rfl, hp, m1, m2⟩, q⟩
  unfold w_law_cards
  repeat trivial
  refine xDip rfl hp (by decide) (by decide) (by decide) fun i1 a1 c1 i10 i11 hp1 c10 c11 => ?_
  obtain ⟨wd, hw, ew⟩ := pickI (cs := [1, 9, 30000000]) i10 i11
  have hw' : 1 ≤ wd ∧ wd ≤ 30000000 := by simp only [List.mem_cons, List.not_mem_nil, or_false] at hw; omega
  refine xIxL ew ?_
  repeat trivial
  refine xDip rfl hp1 (by decide) (by decide) (by decide) fun i2 a2 c2 i20 i21 hp2 c20 c21 => ?_
  repeat trivial
  refine xDip rfl hp2 (by decide) (by decide) (by decide) fun i3 a3 c3 i30 i31 hp3 c30 c31 => ?_
  obtain ⟨z, hz, ez⟩ := pickI (cs := [0, i2]) i30 i31
  have hz' : 0 ≤ z ∧ z ≤ 199999999 := by simp only [List.mem_cons, List.not_mem_nil, or_false] at hz; omega
  refine xIxL ez ?_
  repeat trivial
  obtain ⟨p1, p2, p3, p4, p5⟩ := hp3
  obtain ⟨_, _, _, q4, q5⟩ := hp
  refine xWhile (fun ρ => ∃ (a' c' : Int) (cs : List Int) (l : Int), ρ = [some (potT a' b c'), some (.d (.int m)), some (.d (.int wd)), some (intL cs), none, none] ∧ 0 ≤ a' ∧ c ≤ c' ∧ c' ≤ c + 2 + cs.length ∧ 1 ≤ cs.length ∧ (cs.length : Int) ≤ m ∧
    cs.Pairwise (· < ·) ∧ cs[cs.length - 1]? = some l ∧ l + 30000000 ≤ 199999999 + 30000000 * cs.length ∧ ∀ x ∈ cs, 0 ≤ x ∧ x ≤ l)
    (fun ρ => match ρ[3]? with | some (some (T.l ts)) => 100 - ts.length | _ => 0) ⟨a3, c3, [z], z, rfl, p1, by omega, by simp; omega, by simp, by simp; omega, by simp, rfl, by simp; omega, by simp; omega⟩ ?_
  rintro ρ1 ⟨a', c', cs, l, rfl, g1, g2, g3, g4, g5, g6, g7, g8, g9⟩
  repeat trivial
  have len : (List.map T.d (List.map PyData.int cs)).length = cs.length := by simp
  refine xIte (fun h => ?_) fun h => ?_
  · have h' := of_decide_eq_true h
    repeat trivial
    refine xIxAL rfl (atLast g7) ?_
    repeat trivial
    refine xDip (k := 5) rfl ⟨g1, p2, p3, by omega, by omega⟩ (by decide) (by omega) (by omega) fun i a'' c'' i0 i1 hp' d0 d1 => ?_
    repeat trivial
    obtain ⟨e1, _, _, e4, e5⟩ := hp'
    refine xApp rfl rfl (small1000 (by simp; omega)) ?_
    have gl : ∀ x ∈ cs, x < l + 1 + i := fun x hx => by have := (g9 x hx).2; omega
    refine ⟨⟨a'', c'', cs ++ [l + 1 + i], l + 1 + i, ?_, e1, by omega, by simp; omega, by simp, by simp; omega, List.pairwise_append.mpr ⟨g6, List.pairwise_singleton .., fun x hx y hy => by simp at hy; subst hy; exact gl x hx⟩, by simp, by simp; omega, fun x hx => ?_⟩, ?_⟩
    · simp [intL, TX.putAt, putT, rho0]
    · rcases List.mem_append.mp hx with hx | hx
      · have := g9 x hx; have := gl x hx; omega
      · simp at hx; subst hx; have := g9 l (List.mem_of_getElem? g7); omega
    · simp [intL, TX.putAt, putT, rho0]; omega
  · have h' := of_decide_eq_false h
    have lm : (cs.length : Int) = m := by omega
    have l0 := g9 l (List.mem_of_getElem? g7)
    repeat trivial
    refine xIxAL rfl (atLast g7) ?_
    repeat trivial
    refine xDip (k := 3) rfl ⟨g1, p2, p3, by omega, by omega⟩ (by decide) (by omega) (by omega) fun i a'' c'' i0 i1 hp' d0 d1 => ?_
    obtain ⟨e1, _, _, e4, e5⟩ := hp'
    obtain ⟨mo, hm, em⟩ := pickI (cs := [0, 0, 999999999 - l]) i0 i1
    have hm' : 0 ≤ mo ∧ mo ≤ 999999999 - l := by simp only [List.mem_cons, List.not_mem_nil, or_false] at hm; omega
    refine xIxL em ?_
    repeat trivial
    refine xFrz rfl erase_intL ?_
    repeat trivial
    refine xLcM (fun _ => true) (fun x => match x with | .int z => .int (z + mo) | y => y) rfl (by simp; omega) (by simp [rho0]) (fun x hx Y Z hY _ => ?_) ?_
    · obtain ⟨z, _, rfl⟩ := List.mem_map.mp hx
      refine xYesT ⟨noNd1 rfl, xYes rfl ?_⟩
      repeat trivial
      exact ⟨noNd1 rfl, _, rfl, hY rfl⟩
    · refine ⟨rfl, ?_⟩
      have e : ((List.filter (fun _ => true) (cs.map PyData.int)).map fun x => match x with | .int z => PyData.int (z + mo) | y => y) = (cs.map (· + mo)).map PyData.int := by
        rw [List.filter_eq_self.mpr (fun _ _ => rfl), List.map_map, List.map_map]; rfl
      rw [e]
      refine q _ _ fun a9 b9 c9 m9 e9 => ?_
      obtain ⟨rfl, rfl, rfl, rfl⟩ := potn_inj e9
      refine ⟨cs.map (· + mo), rfl, fun x hx => ?_, by simpa using lm, List.pairwise_map.mpr (g6.imp fun h => by omega), _, _, rfl, e1, by omega, by omega⟩
      obtain ⟨y, hy, rfl⟩ := List.mem_map.mp hx
      have := g9 y hy
      omega
theorem xCards {ρ : Rho} {Q : T → Rho → Prop} {E : ExK} {r : Nat} {a b c m k : Int} (hg : ρ[r]? = some (some (potT a b c))) (hp : Pot a b c k) (hk : 32 ≤ k) (hm : 1 ≤ m) (hm2 : m ≤ 24)
    (q : ∀ cs a' c', Cards cs → (cs.length : Int) = m → cs.Pairwise (· < ·) → Pot a' b c' (k - 32) → c ≤ c' → c' ≤ c + 32 → Q (intL cs) (ρ.set r (some (potT a' b c')))) : caK [0] 2 S_law_cards [.a r [], .d (.int m)] ρ Q E := by
  obtain ⟨h1, h2, h3, h4, h5⟩ := hp
  refine xCaF hg rfl rfl rfl rfl ⟨a, b, c, m, rfl, ⟨h1, h2, h3, h4, by omega⟩, hm, hm2⟩ fun u ρ' h => ?_
  obtain ⟨cs, rfl, i0, i1, i2, a', c', e, g1, g2, g3⟩ := h a b c m rfl
  exact ⟨_, e, rfl, rfl, q cs a' c' i0 i1 i2 ⟨g1, h2, h3, by omega, by omega⟩ g2 g3⟩
/-! ### own lists of ints -/
theorem map_eraseI (cs : List Int) (j : Nat) : (cs.map PyData.int).eraseIdx j = (cs.eraseIdx j).map PyData.int := by
  rw [List.eraseIdx_eq_take_drop_succ, List.eraseIdx_eq_take_drop_succ, List.map_append, List.map_take, List.map_drop]
theorem xPopI {ρ : Rho} {Q : T → Rho → Prop} {r : Nat} {p : List Nat} {cs : List Int} {i : Int} (g : getT ρ r p = some (intL cs)) (h0 : 0 ≤ i) (h1 : i < cs.length) (h2 : cs.length ≤ 100000) (q : ∀ y, cs[i.toNat]? = some y → Q (.d (.int y)) (TX.putAt ρ r p (intL (cs.eraseIdx i.toNat)))) : kPopAt (.a r p) [.d (.int i)] ρ Q := by
  obtain ⟨y, _, e⟩ := at_in' h0 h1
  have := q y e
  unfold intL at this g
  rw [← map_eraseI] at this
  exact xPopAt g h0 (by simp; omega) (by simp; omega) (by rw [List.getElem?_map, e]; rfl) this
theorem noNd_o {ρ : Rho} {k : Nat} {x : Option PyData} (h : ρ[k]? = some (x.map T.d)) : noNdB ρ k = true := by
  unfold noNdB
  rw [h]
  cases x <;> rfl
/-! ### rows -/
def RowOk (cs : List Int) : Prop := Cards cs ∧ cs.Nodup ∧ 1 ≤ cs.length ∧ cs.length ≤ 24
theorem perm_pop : ∀ {cs : List Int} {j : Nat} {y : Int}, cs[j]? = some y → (y :: cs.eraseIdx j).Perm cs
  | [], _, _, h => by simp at h
  | x :: cs, 0, y, h => by simp at h; subst h; simp
  | x :: cs, j + 1, y, h => by
    rw [List.eraseIdx_cons_succ]
    exact (List.Perm.swap x y _).trans ((perm_pop (j := j) (by simpa using h)).cons x)
theorem len_pop {cs : List Int} {j : Nat} {y : Int} (h : cs[j]? = some y) : (cs.eraseIdx j).length + 1 = cs.length := by
  have := (perm_pop h).length_eq
  simpa using this
end LW

namespace LW
open PySem PySem.Spec L2 TX

local macro_rules | `(tactic| trivial) => `(tactic| with_reducible refine xIEz ?_)
local macro_rules | `(tactic| trivial) => `(tactic| with_reducible refine xLi ?_)
local macro_rules | `(tactic| trivial) => `(tactic| with_reducible refine xAppD21 ?_)
local macro_rules | `(tactic| trivial) => `(tactic| with_reducible refine xAppD11 ?_)
local macro_rules | `(tactic| trivial) => `(tactic| with_reducible refine xAppD ?_)
local macro_rules | `(tactic| trivial) => `(tactic| with_reducible refine xClip ?_)
local macro_rules | `(tactic| trivial) => `(tactic| with_reducible refine xDcT ?_)
local macro_rules | `(tactic| trivial) => `(tactic| with_reducible refine xGdD ?_)
local macro_rules | `(tactic| trivial) => `(tactic| with_reducible refine xGdA (by with_unfolding_all rfl) ?_)
local macro_rules | `(tactic| trivial) => `(tactic| with_reducible refine xGd2 ?_)
local macro_rules | `(tactic| trivial) => `(tactic| with_reducible refine xGd1 ?_)
local macro_rules | `(tactic| trivial) => `(tactic| with_reducible refine xLc2 ?_)
local macro_rules | `(tactic| trivial) => `(tactic| with_reducible refine xIDcK ?_)
local macro_rules | `(tactic| trivial) => `(tactic| with_reducible refine xIDc ?_)
local macro_rules | `(tactic| trivial) => `(tactic| with_reducible refine xVarL (by with_unfolding_all rfl) ?_)
local macro_rules | `(tactic| trivial) => `(tactic| with_reducible refine xIsB (by with_unfolding_all rfl) (by with_unfolding_all rfl) ?_)
local macro_rules | `(tactic| trivial) => `(tactic| with_reducible refine xGLst (by with_unfolding_all rfl) ?_)
local macro_rules | `(tactic| trivial) => `(tactic| with_reducible refine xIe2 ?_)
local macro_rules | `(tactic| trivial) => `(tactic| with_reducible refine xIe1 ?_)
local macro_rules | `(tactic| trivial) => `(tactic| with_reducible refine xGe2 ?_)
local macro_rules | `(tactic| trivial) => `(tactic| with_reducible refine xGe1 ?_)
local macro_rules | `(tactic| trivial) => `(tactic| with_reducible refine xDpl ?_)
local macro_rules | `(tactic| trivial) => `(tactic| with_reducible refine xDc ?_)
local macro_rules | `(tactic| trivial) => `(tactic| with_reducible refine xDcL ?_)
local macro_rules | `(tactic| trivial) => `(tactic| with_reducible refine xRep ?_)
local macro_rules | `(tactic| trivial) => `(tactic| with_reducible refine xGtD ?_)
local macro_rules | `(tactic| trivial) => `(tactic| with_reducible refine xGtA (by with_unfolding_all rfl) ?_)
local macro_rules | `(tactic| trivial) => `(tactic| with_reducible refine xGt2 ?_)
local macro_rules | `(tactic| trivial) => `(tactic| with_reducible refine xGt1 ?_)
local macro_rules | `(tactic| trivial) => `(tactic| with_reducible refine xSlTK ?_)
local macro_rules | `(tactic| trivial) => `(tactic| with_reducible refine xSlT ?_)
local macro_rules | `(tactic| trivial) => `(tactic| with_reducible refine xListR ?_)
local macro_rules | `(tactic| trivial) => `(tactic| with_reducible refine xRev2 ?_)
local macro_rules | `(tactic| trivial) => `(tactic| with_reducible refine xIsNK (by with_unfolding_all rfl) ?_)
local macro_rules | `(tactic| trivial) => `(tactic| with_reducible refine xIR2 ?_)
local macro_rules | `(tactic| trivial) => `(tactic| with_reducible refine xIZip ?_)
local macro_rules | `(tactic| trivial) => `(tactic| with_reducible refine xITupK ?_)
local macro_rules | `(tactic| trivial) => `(tactic| with_reducible refine xITup ?_)
local macro_rules | `(tactic| trivial) => `(tactic| with_reducible refine xDi2 ?_)
local macro_rules | `(tactic| trivial) => `(tactic| with_reducible refine xDi1 ?_)
local macro_rules | `(tactic| trivial) => `(tactic| with_reducible refine xRevTK ?_)
local macro_rules | `(tactic| trivial) => `(tactic| with_reducible refine xRevT ?_)
local macro_rules | `(tactic| trivial) => `(tactic| with_reducible refine xPaK (by with_unfolding_all rfl) (by with_unfolding_all rfl) ?_)
local macro_rules | `(tactic| trivial) => `(tactic| with_reducible refine xPar ?_)
local macro_rules | `(tactic| trivial) => `(tactic| with_reducible refine xDp2 ?_)
local macro_rules | `(tactic| trivial) => `(tactic| with_reducible refine xDg2 ?_)
local macro_rules | `(tactic| trivial) => `(tactic| with_reducible refine xDp1 ?_)
local macro_rules | `(tactic| trivial) => `(tactic| with_reducible refine xDg1 ?_)
local macro_rules | `(tactic| trivial) => `(tactic| with_reducible refine xYesT ?_)
local macro_rules | `(tactic| trivial) => `(tactic| with_reducible refine xGsNil ?_)
local macro_rules | `(tactic| trivial) => `(tactic| with_reducible refine xGsCons ?_)
local macro_rules | `(tactic| trivial) => `(tactic| with_reducible refine xGTup (by with_unfolding_all rfl) ?_)
local macro_rules | `(tactic| trivial) => `(tactic| with_reducible refine xNm (by with_unfolding_all rfl) ?_)
local macro_rules | `(tactic| trivial) => `(tactic| with_reducible refine xLenSet ?_)
local macro_rules | `(tactic| trivial) => `(tactic| with_reducible refine xCat ?_)
local macro_rules | `(tactic| trivial) => `(tactic| with_reducible refine xRevS ?_)
local macro_rules | `(tactic| trivial) => `(tactic| with_reducible refine xPartK ?_)
local macro_rules | `(tactic| trivial) => `(tactic| with_reducible refine xPart ?_)
local macro_rules | `(tactic| trivial) => `(tactic| with_reducible refine xNoPart ?_)
local macro_rules | `(tactic| trivial) => `(tactic| with_reducible refine xSl ?_)
local macro_rules | `(tactic| trivial) => `(tactic| with_reducible refine xIEn ?_)
local macro_rules | `(tactic| trivial) => `(tactic| with_reducible refine xIR1 ?_)
local macro_rules | `(tactic| trivial) => `(tactic| with_reducible refine xILK (by with_unfolding_all rfl) ?_)
local macro_rules | `(tactic| trivial) => `(tactic| with_reducible refine xILst ?_)
local macro_rules | `(tactic| trivial) => `(tactic| with_reducible refine xFor ?_)
local macro_rules | `(tactic| trivial) => `(tactic| with_reducible refine xLc ?_)
local macro_rules | `(tactic| trivial) => `(tactic| with_reducible refine xMD ?_)
local macro_rules | `(tactic| trivial) => `(tactic| with_reducible refine xMA (by with_unfolding_all rfl) ?_)
local macro_rules | `(tactic| trivial) => `(tactic| with_reducible refine xM ?_)
local macro_rules | `(tactic| trivial) => `(tactic| with_reducible refine xCall ?_)
local macro_rules | `(tactic| trivial) => `(tactic| with_reducible refine xIs (by with_unfolding_all rfl) (by with_unfolding_all rfl) ?_)
local macro_rules | `(tactic| trivial) => `(tactic| with_reducible refine xNo (by with_unfolding_all rfl) ?_)
local macro_rules | `(tactic| trivial) => `(tactic| with_reducible refine xYes (by with_unfolding_all rfl) ?_)
local macro_rules | `(tactic| trivial) => `(tactic| with_reducible refine xMin (by with_unfolding_all rfl) (by with_unfolding_all rfl) ?_)
local macro_rules | `(tactic| trivial) => `(tactic| with_reducible refine xMax (by with_unfolding_all rfl) (by with_unfolding_all rfl) ?_)
local macro_rules | `(tactic| trivial) => `(tactic| with_reducible refine xLen (by with_unfolding_all rfl) ?_)
local macro_rules | `(tactic| trivial) => `(tactic| with_reducible refine xTupK (by with_unfolding_all rfl) ?_)
local macro_rules | `(tactic| trivial) => `(tactic| with_reducible refine xTup ?_)
local macro_rules | `(tactic| trivial) => `(tactic| with_reducible refine xLstK (by with_unfolding_all rfl) ?_)
local macro_rules | `(tactic| trivial) => `(tactic| with_reducible refine xLst ?_)
local macro_rules | `(tactic| trivial) => `(tactic| with_reducible refine xFn ?_)
local macro_rules | `(tactic| trivial) => `(tactic| with_reducible refine xCons ?_)
local macro_rules | `(tactic| trivial) => `(tactic| with_reducible refine xNil ?_)
local macro_rules | `(tactic| trivial) => `(tactic| with_reducible refine xIxA (by with_unfolding_all rfl) (by with_unfolding_all rfl) (by with_unfolding_all rfl) ?_)
local macro_rules | `(tactic| trivial) => `(tactic| with_reducible refine xIx ?_)
local macro_rules | `(tactic| trivial) => `(tactic| with_reducible refine xCh2 (by with_unfolding_all rfl) (by with_unfolding_all rfl) ?_)
local macro_rules | `(tactic| trivial) => `(tactic| with_reducible refine xCh1 (by with_unfolding_all rfl) (by with_unfolding_all rfl) ?_)
local macro_rules | `(tactic| trivial) => `(tactic| with_reducible refine xCh ?_)
local macro_rules | `(tactic| trivial) => `(tactic| with_reducible refine xIf ?_)
local macro_rules | `(tactic| trivial) => `(tactic| with_reducible refine xBK ?_)
local macro_rules | `(tactic| trivial) => `(tactic| with_reducible refine xNotV ?_)
local macro_rules | `(tactic| trivial) => `(tactic| with_reducible refine xOrV ?_)
local macro_rules | `(tactic| trivial) => `(tactic| with_reducible refine xAndV ?_)
local macro_rules | `(tactic| trivial) => `(tactic| with_reducible refine xOr ?_)
local macro_rules | `(tactic| trivial) => `(tactic| with_reducible refine xAnd ?_)
local macro_rules | `(tactic| trivial) => `(tactic| with_reducible refine xNot ?_)
local macro_rules | `(tactic| trivial) => `(tactic| with_reducible refine xTK ?_)
local macro_rules | `(tactic| trivial) => `(tactic| with_reducible refine xT ?_)
local macro_rules | `(tactic| trivial) => `(tactic| with_reducible refine xIc (by with_unfolding_all rfl) (by with_unfolding_all rfl) (by with_unfolding_all first | omega | exact ⟨by decide, by decide +kernel⟩) ?_)
local macro_rules | `(tactic| trivial) => `(tactic| with_reducible refine xNegK ?_)
local macro_rules | `(tactic| trivial) => `(tactic| with_reducible refine xNeg ?_)
local macro_rules | `(tactic| trivial) => `(tactic| with_reducible refine xNeI (by with_unfolding_all rfl) (by with_unfolding_all rfl) ?_)
local macro_rules | `(tactic| trivial) => `(tactic| with_reducible refine xEqI (by with_unfolding_all rfl) (by with_unfolding_all rfl) ?_)
local macro_rules | `(tactic| trivial) => `(tactic| with_reducible refine xB (by with_unfolding_all rfl) (by with_unfolding_all rfl) ?_)
local macro_rules | `(tactic| trivial) => `(tactic| with_reducible refine xI (by with_unfolding_all rfl) (by with_unfolding_all rfl) ?_)
local macro_rules | `(tactic| trivial) => `(tactic| with_reducible refine xOp ?_)
local macro_rules | `(tactic| trivial) => `(tactic| with_reducible refine xC ?_)
local macro_rules | `(tactic| trivial) => `(tactic| with_reducible refine xVarN (by with_unfolding_all rfl) (by with_unfolding_all rfl) ?_)
local macro_rules | `(tactic| trivial) => `(tactic| with_reducible refine xVarZ (by with_unfolding_all rfl) ?_)
local macro_rules | `(tactic| trivial) => `(tactic| with_reducible refine xVarD (by with_unfolding_all rfl) ?_)
local macro_rules | `(tactic| trivial) => `(tactic| with_reducible refine xSbK (by with_unfolding_all rfl) (by with_unfolding_all rfl) (by with_unfolding_all rfl) ?_)
local macro_rules | `(tactic| trivial) => `(tactic| with_reducible refine xSub ?_)
local macro_rules | `(tactic| trivial) => `(tactic| with_reducible refine xAsK (by with_unfolding_all rfl) ?_)
local macro_rules | `(tactic| trivial) => `(tactic| with_reducible refine xAsg ?_)
local macro_rules | `(tactic| trivial) => `(tactic| with_reducible refine xRet ?_)
local macro_rules | `(tactic| trivial) => `(tactic| with_reducible refine xDrop ?_)
local macro_rules | `(tactic| trivial) => `(tactic| with_reducible refine xIfS ?_)
local macro_rules | `(tactic| trivial) => `(tactic| with_reducible refine xNext ?_)
local macro_rules | `(tactic| trivial) => `(tactic| with_reducible refine xSetK (by with_unfolding_all rfl) ?_)
local macro_rules | `(tactic| trivial) => `(tactic| with_reducible refine xSet ?_)
local macro_rules | `(tactic| trivial) => `(tactic| with_reducible refine xSeq ?_)

/-! ### cards, rows: of anything -/
def rowD (cs : List Int) : T := .d (.list (cs.map PyData.int))
theorem map_int_inj : ∀ {xs ys : List Int}, xs.map PyData.int = ys.map PyData.int → xs = ys
  | [], [], _ => rfl
  | [], _ :: _, h => by cases h
  | _ :: _, [], h => by cases h
  | x :: xs, y :: ys, h => by
    simp only [List.map_cons, List.cons.injEq, PyData.int.injEq] at h
    rw [h.1, map_int_inj h.2]
theorem rowD_inj {xs ys : List Int} (h : rowD xs = rowD ys) : xs = ys := by
  unfold rowD at h
  simp only [T.d.injEq, PyData.list.injEq] at h
  exact map_int_inj h
theorem imm_ints : ∀ ps : List Int, immTs ((ps.map PyData.int).map T.d) = true
  | [] => rfl
  | p :: ps => by
    simp only [List.map_cons, immTs, imm_ints ps, Bool.and_true]
    rfl
def isCardD : PyData → Bool
  | .int i => decide (0 ≤ i) && decide (i ≤ 999999999)
  | _ => false
theorem vw_l {ρ : Rho} {ds : List PyData} : vw ρ (.l (ds.map T.d)) = some (.list ds) := by simp only [vw, erase, eraseAll_d, Option.map_some]
def S_is_card : SpT := SpP (fun ts => ∃ x, ts = [.d x]) fun ts t _ => ∀ x, ts = [.d x] → t = .d (.bool (isCardD x))
theorem mS_is_card : MonSp S_is_card := mon_SpP
theorem d1_inj {x y : PyData} (h : [T.d x] = [T.d y]) : x = y := by simpa using h
abbrev N_is_card : List Str := ["thing"]
def w_is_card : TwS := (wRet (wAndV (wFn kIs (wCons (wVar 0) (wCons (wC (.raw (.ty "int"))) wNil))) (wAndV (wNotV (wFn kIs (wCons (wVar 0) (wCons (wC (.raw (.ty "bool"))) wNil)))) (wCh (fB fun i j => decide (i ≤ j)) (fB fun i j => decide (i ≤ j)) (wC (.d (.int 0))) (wVar 0) (wC (.d (.int 999999999)))))))
theorem pl_is_card : PlD S_is_card w_is_card N_is_card := by
  rintro ts Q Ex ⟨⟨x, rfl⟩, q⟩
  unfold w_is_card
  have fin : ∀ b ρ, b = isCardD x → Q (.d (.bool b)) ρ := fun b ρ e => q _ _ fun y e' => by rw [← d1_inj e', e]
  cases x with
  | int i =>
    repeat trivial
    refine xIte (fun h => ?_) fun h => ?_
    · repeat trivial
      exact ⟨rfl, fin _ _ (by simp only [isCardD, h, Bool.true_and])⟩
    · repeat trivial
      exact ⟨rfl, fin _ _ (by simp only [isCardD, h, Bool.false_and])⟩
  | _ =>
    repeat trivial
    exact ⟨rfl, fin _ _ rfl⟩
theorem xIsCard {ρ : Rho} {Q : T → Rho → Prop} {E : ExK} {x : PyData} (q : Q (.d (.bool (isCardD x))) ρ) : caK [] 1 S_is_card [.d x] ρ Q E :=
  xCaP rfl rfl rfl ⟨x, rfl⟩ fun t ρ' e => by rw [e x rfl]; exact ⟨rfl, q⟩
end LW

namespace LW
open PySem PySem.Spec L2 TX
/-! ### exchanges -/
/-! ### what may come next -/
def nx : List Int → List (Int × Int)
  | b :: a :: r => if a < b then (a, b) :: nx (a :: r) else nx (a :: r)
  | _ => []
end LW

namespace LW
open PySem PySem.Spec L2 TX

local macro_rules | `(tactic| trivial) => `(tactic| with_reducible refine xIEz ?_)
local macro_rules | `(tactic| trivial) => `(tactic| with_reducible refine xLi ?_)
local macro_rules | `(tactic| trivial) => `(tactic| with_reducible refine xAppD21 ?_)
local macro_rules | `(tactic| trivial) => `(tactic| with_reducible refine xAppD11 ?_)
local macro_rules | `(tactic| trivial) => `(tactic| with_reducible refine xAppD ?_)
local macro_rules | `(tactic| trivial) => `(tactic| with_reducible refine xClip ?_)
local macro_rules | `(tactic| trivial) => `(tactic| with_reducible refine xDcT ?_)
local macro_rules | `(tactic| trivial) => `(tactic| with_reducible refine xGdD ?_)
local macro_rules | `(tactic| trivial) => `(tactic| with_reducible refine xGdA (by with_unfolding_all rfl) ?_)
local macro_rules | `(tactic| trivial) => `(tactic| with_reducible refine xGd2 ?_)
local macro_rules | `(tactic| trivial) => `(tactic| with_reducible refine xGd1 ?_)
local macro_rules | `(tactic| trivial) => `(tactic| with_reducible refine xLc2 ?_)
local macro_rules | `(tactic| trivial) => `(tactic| with_reducible refine xIDcK ?_)
local macro_rules | `(tactic| trivial) => `(tactic| with_reducible refine xIDc ?_)
local macro_rules | `(tactic| trivial) => `(tactic| with_reducible refine xVarL (by with_unfolding_all rfl) ?_)
local macro_rules | `(tactic| trivial) => `(tactic| with_reducible refine xIsB (by with_unfolding_all rfl) (by with_unfolding_all rfl) ?_)
local macro_rules | `(tactic| trivial) => `(tactic| with_reducible refine xGLst (by with_unfolding_all rfl) ?_)
local macro_rules | `(tactic| trivial) => `(tactic| with_reducible refine xIe2 ?_)
local macro_rules | `(tactic| trivial) => `(tactic| with_reducible refine xIe1 ?_)
local macro_rules | `(tactic| trivial) => `(tactic| with_reducible refine xGe2 ?_)
local macro_rules | `(tactic| trivial) => `(tactic| with_reducible refine xGe1 ?_)
local macro_rules | `(tactic| trivial) => `(tactic| with_reducible refine xDpl ?_)
local macro_rules | `(tactic| trivial) => `(tactic| with_reducible refine xDc ?_)
local macro_rules | `(tactic| trivial) => `(tactic| with_reducible refine xDcL ?_)
local macro_rules | `(tactic| trivial) => `(tactic| with_reducible refine xRep ?_)
local macro_rules | `(tactic| trivial) => `(tactic| with_reducible refine xGtD ?_)
local macro_rules | `(tactic| trivial) => `(tactic| with_reducible refine xGtA (by with_unfolding_all rfl) ?_)
local macro_rules | `(tactic| trivial) => `(tactic| with_reducible refine xGt2 ?_)
local macro_rules | `(tactic| trivial) => `(tactic| with_reducible refine xGt1 ?_)
local macro_rules | `(tactic| trivial) => `(tactic| with_reducible refine xSlTK ?_)
local macro_rules | `(tactic| trivial) => `(tactic| with_reducible refine xSlT ?_)
local macro_rules | `(tactic| trivial) => `(tactic| with_reducible refine xListR ?_)
local macro_rules | `(tactic| trivial) => `(tactic| with_reducible refine xRev2 ?_)
local macro_rules | `(tactic| trivial) => `(tactic| with_reducible refine xIsNK (by with_unfolding_all rfl) ?_)
local macro_rules | `(tactic| trivial) => `(tactic| with_reducible refine xIR2 ?_)
local macro_rules | `(tactic| trivial) => `(tactic| with_reducible refine xIZip ?_)
local macro_rules | `(tactic| trivial) => `(tactic| with_reducible refine xITupK ?_)
local macro_rules | `(tactic| trivial) => `(tactic| with_reducible refine xITup ?_)
local macro_rules | `(tactic| trivial) => `(tactic| with_reducible refine xDi2 ?_)
local macro_rules | `(tactic| trivial) => `(tactic| with_reducible refine xDi1 ?_)
local macro_rules | `(tactic| trivial) => `(tactic| with_reducible refine xRevTK ?_)
local macro_rules | `(tactic| trivial) => `(tactic| with_reducible refine xRevT ?_)
local macro_rules | `(tactic| trivial) => `(tactic| with_reducible refine xPaK (by with_unfolding_all rfl) (by with_unfolding_all rfl) ?_)
local macro_rules | `(tactic| trivial) => `(tactic| with_reducible refine xPar ?_)
local macro_rules | `(tactic| trivial) => `(tactic| with_reducible refine xDp2 ?_)
local macro_rules | `(tactic| trivial) => `(tactic| with_reducible refine xDg2 ?_)
local macro_rules | `(tactic| trivial) => `(tactic| with_reducible refine xDp1 ?_)
local macro_rules | `(tactic| trivial) => `(tactic| with_reducible refine xDg1 ?_)
local macro_rules | `(tactic| trivial) => `(tactic| with_reducible refine xYesT ?_)
local macro_rules | `(tactic| trivial) => `(tactic| with_reducible refine xGsNil ?_)
local macro_rules | `(tactic| trivial) => `(tactic| with_reducible refine xGsCons ?_)
local macro_rules | `(tactic| trivial) => `(tactic| with_reducible refine xGTup (by with_unfolding_all rfl) ?_)
local macro_rules | `(tactic| trivial) => `(tactic| with_reducible refine xNm (by with_unfolding_all rfl) ?_)
local macro_rules | `(tactic| trivial) => `(tactic| with_reducible refine xLenSet ?_)
local macro_rules | `(tactic| trivial) => `(tactic| with_reducible refine xCat ?_)
local macro_rules | `(tactic| trivial) => `(tactic| with_reducible refine xRevS ?_)
local macro_rules | `(tactic| trivial) => `(tactic| with_reducible refine xPartK ?_)
local macro_rules | `(tactic| trivial) => `(tactic| with_reducible refine xPart ?_)
local macro_rules | `(tactic| trivial) => `(tactic| with_reducible refine xNoPart ?_)
local macro_rules | `(tactic| trivial) => `(tactic| with_reducible refine xSl ?_)
local macro_rules | `(tactic| trivial) => `(tactic| with_reducible refine xIEn ?_)
local macro_rules | `(tactic| trivial) => `(tactic| with_reducible refine xIR1 ?_)
local macro_rules | `(tactic| trivial) => `(tactic| with_reducible refine xILK (by with_unfolding_all rfl) ?_)
local macro_rules | `(tactic| trivial) => `(tactic| with_reducible refine xILst ?_)
local macro_rules | `(tactic| trivial) => `(tactic| with_reducible refine xFor ?_)
local macro_rules | `(tactic| trivial) => `(tactic| with_reducible refine xLc ?_)
local macro_rules | `(tactic| trivial) => `(tactic| with_reducible refine xMD ?_)
local macro_rules | `(tactic| trivial) => `(tactic| with_reducible refine xMA (by with_unfolding_all rfl) ?_)
local macro_rules | `(tactic| trivial) => `(tactic| with_reducible refine xM ?_)
local macro_rules | `(tactic| trivial) => `(tactic| with_reducible refine xCall ?_)
local macro_rules | `(tactic| trivial) => `(tactic| with_reducible refine xIs (by with_unfolding_all rfl) (by with_unfolding_all rfl) ?_)
local macro_rules | `(tactic| trivial) => `(tactic| with_reducible refine xNo (by with_unfolding_all rfl) ?_)
local macro_rules | `(tactic| trivial) => `(tactic| with_reducible refine xYes (by with_unfolding_all rfl) ?_)
local macro_rules | `(tactic| trivial) => `(tactic| with_reducible refine xMin (by with_unfolding_all rfl) (by with_unfolding_all rfl) ?_)
local macro_rules | `(tactic| trivial) => `(tactic| with_reducible refine xMax (by with_unfolding_all rfl) (by with_unfolding_all rfl) ?_)
local macro_rules | `(tactic| trivial) => `(tactic| with_reducible refine xLen (by with_unfolding_all rfl) ?_)
local macro_rules | `(tactic| trivial) => `(tactic| with_reducible refine xTupK (by with_unfolding_all rfl) ?_)
local macro_rules | `(tactic| trivial) => `(tactic| with_reducible refine xTup ?_)
local macro_rules | `(tactic| trivial) => `(tactic| with_reducible refine xLstK (by with_unfolding_all rfl) ?_)
local macro_rules | `(tactic| trivial) => `(tactic| with_reducible refine xLst ?_)
local macro_rules | `(tactic| trivial) => `(tactic| with_reducible refine xFn ?_)
local macro_rules | `(tactic| trivial) => `(tactic| with_reducible refine xCons ?_)
local macro_rules | `(tactic| trivial) => `(tactic| with_reducible refine xNil ?_)
local macro_rules | `(tactic| trivial) => `(tactic| with_reducible refine xIxA (by with_unfolding_all rfl) (by with_unfolding_all rfl) (by with_unfolding_all rfl) ?_)
local macro_rules | `(tactic| trivial) => `(tactic| with_reducible refine xIx ?_)
local macro_rules | `(tactic| trivial) => `(tactic| with_reducible refine xCh2 (by with_unfolding_all rfl) (by with_unfolding_all rfl) ?_)
local macro_rules | `(tactic| trivial) => `(tactic| with_reducible refine xCh1 (by with_unfolding_all rfl) (by with_unfolding_all rfl) ?_)
local macro_rules | `(tactic| trivial) => `(tactic| with_reducible refine xCh ?_)
local macro_rules | `(tactic| trivial) => `(tactic| with_reducible refine xIf ?_)
local macro_rules | `(tactic| trivial) => `(tactic| with_reducible refine xBK ?_)
local macro_rules | `(tactic| trivial) => `(tactic| with_reducible refine xNotV ?_)
local macro_rules | `(tactic| trivial) => `(tactic| with_reducible refine xOrV ?_)
local macro_rules | `(tactic| trivial) => `(tactic| with_reducible refine xAndV ?_)
local macro_rules | `(tactic| trivial) => `(tactic| with_reducible refine xOr ?_)
local macro_rules | `(tactic| trivial) => `(tactic| with_reducible refine xAnd ?_)
local macro_rules | `(tactic| trivial) => `(tactic| with_reducible refine xNot ?_)
local macro_rules | `(tactic| trivial) => `(tactic| with_reducible refine xTK ?_)
local macro_rules | `(tactic| trivial) => `(tactic| with_reducible refine xT ?_)
local macro_rules | `(tactic| trivial) => `(tactic| with_reducible refine xIc (by with_unfolding_all rfl) (by with_unfolding_all rfl) (by with_unfolding_all first | omega | exact ⟨by decide, by decide +kernel⟩) ?_)
local macro_rules | `(tactic| trivial) => `(tactic| with_reducible refine xNegK ?_)
local macro_rules | `(tactic| trivial) => `(tactic| with_reducible refine xNeg ?_)
local macro_rules | `(tactic| trivial) => `(tactic| with_reducible refine xNeI (by with_unfolding_all rfl) (by with_unfolding_all rfl) ?_)
local macro_rules | `(tactic| trivial) => `(tactic| with_reducible refine xEqI (by with_unfolding_all rfl) (by with_unfolding_all rfl) ?_)
local macro_rules | `(tactic| trivial) => `(tactic| with_reducible refine xB (by with_unfolding_all rfl) (by with_unfolding_all rfl) ?_)
local macro_rules | `(tactic| trivial) => `(tactic| with_reducible refine xI (by with_unfolding_all rfl) (by with_unfolding_all rfl) ?_)
local macro_rules | `(tactic| trivial) => `(tactic| with_reducible refine xOp ?_)
local macro_rules | `(tactic| trivial) => `(tactic| with_reducible refine xC ?_)
local macro_rules | `(tactic| trivial) => `(tactic| with_reducible refine xVarN (by with_unfolding_all rfl) (by with_unfolding_all rfl) ?_)
local macro_rules | `(tactic| trivial) => `(tactic| with_reducible refine xVarZ (by with_unfolding_all rfl) ?_)
local macro_rules | `(tactic| trivial) => `(tactic| with_reducible refine xVarD (by with_unfolding_all rfl) ?_)
local macro_rules | `(tactic| trivial) => `(tactic| with_reducible refine xSbK (by with_unfolding_all rfl) (by with_unfolding_all rfl) (by with_unfolding_all rfl) ?_)
local macro_rules | `(tactic| trivial) => `(tactic| with_reducible refine xSub ?_)
local macro_rules | `(tactic| trivial) => `(tactic| with_reducible refine xAsK (by with_unfolding_all rfl) ?_)
local macro_rules | `(tactic| trivial) => `(tactic| with_reducible refine xAsg ?_)
local macro_rules | `(tactic| trivial) => `(tactic| with_reducible refine xRet ?_)
local macro_rules | `(tactic| trivial) => `(tactic| with_reducible refine xDrop ?_)
local macro_rules | `(tactic| trivial) => `(tactic| with_reducible refine xIfS ?_)
local macro_rules | `(tactic| trivial) => `(tactic| with_reducible refine xNext ?_)
local macro_rules | `(tactic| trivial) => `(tactic| with_reducible refine xSetK (by with_unfolding_all rfl) ?_)
local macro_rules | `(tactic| trivial) => `(tactic| with_reducible refine xSet ?_)
local macro_rules | `(tactic| trivial) => `(tactic| with_reducible refine xSeq ?_)

/-! ### histories -/
end LW

namespace LW
open PySem PySem.Spec L2 TX

local macro_rules | `(tactic| trivial) => `(tactic| with_reducible refine xIEz ?_)
local macro_rules | `(tactic| trivial) => `(tactic| with_reducible refine xLi ?_)
local macro_rules | `(tactic| trivial) => `(tactic| with_reducible refine xAppD21 ?_)
local macro_rules | `(tactic| trivial) => `(tactic| with_reducible refine xAppD11 ?_)
local macro_rules | `(tactic| trivial) => `(tactic| with_reducible refine xAppD ?_)
local macro_rules | `(tactic| trivial) => `(tactic| with_reducible refine xClip ?_)
local macro_rules | `(tactic| trivial) => `(tactic| with_reducible refine xDcT ?_)
local macro_rules | `(tactic| trivial) => `(tactic| with_reducible refine xGdD ?_)
local macro_rules | `(tactic| trivial) => `(tactic| with_reducible refine xGdA (by with_unfolding_all rfl) ?_)
local macro_rules | `(tactic| trivial) => `(tactic| with_reducible refine xGd2 ?_)
local macro_rules | `(tactic| trivial) => `(tactic| with_reducible refine xGd1 ?_)
local macro_rules | `(tactic| trivial) => `(tactic| with_reducible refine xLc2 ?_)
local macro_rules | `(tactic| trivial) => `(tactic| with_reducible refine xIDcK ?_)
local macro_rules | `(tactic| trivial) => `(tactic| with_reducible refine xIDc ?_)
local macro_rules | `(tactic| trivial) => `(tactic| with_reducible refine xVarL (by with_unfolding_all rfl) ?_)
local macro_rules | `(tactic| trivial) => `(tactic| with_reducible refine xIsB (by with_unfolding_all rfl) (by with_unfolding_all rfl) ?_)
local macro_rules | `(tactic| trivial) => `(tactic| with_reducible refine xGLst (by with_unfolding_all rfl) ?_)
local macro_rules | `(tactic| trivial) => `(tactic| with_reducible refine xIe2 ?_)
local macro_rules | `(tactic| trivial) => `(tactic| with_reducible refine xIe1 ?_)
local macro_rules | `(tactic| trivial) => `(tactic| with_reducible refine xGe2 ?_)
local macro_rules | `(tactic| trivial) => `(tactic| with_reducible refine xGe1 ?_)
local macro_rules | `(tactic| trivial) => `(tactic| with_reducible refine xDpl ?_)
local macro_rules | `(tactic| trivial) => `(tactic| with_reducible refine xDc ?_)
local macro_rules | `(tactic| trivial) => `(tactic| with_reducible refine xDcL ?_)
local macro_rules | `(tactic| trivial) => `(tactic| with_reducible refine xRep ?_)
local macro_rules | `(tactic| trivial) => `(tactic| with_reducible refine xGtD ?_)
local macro_rules | `(tactic| trivial) => `(tactic| with_reducible refine xGtA (by with_unfolding_all rfl) ?_)
local macro_rules | `(tactic| trivial) => `(tactic| with_reducible refine xGt2 ?_)
local macro_rules | `(tactic| trivial) => `(tactic| with_reducible refine xGt1 ?_)
local macro_rules | `(tactic| trivial) => `(tactic| with_reducible refine xSlTK ?_)
local macro_rules | `(tactic| trivial) => `(tactic| with_reducible refine xSlT ?_)
local macro_rules | `(tactic| trivial) => `(tactic| with_reducible refine xListR ?_)
local macro_rules | `(tactic| trivial) => `(tactic| with_reducible refine xRev2 ?_)
local macro_rules | `(tactic| trivial) => `(tactic| with_reducible refine xIsNK (by with_unfolding_all rfl) ?_)
local macro_rules | `(tactic| trivial) => `(tactic| with_reducible refine xIR2 ?_)
local macro_rules | `(tactic| trivial) => `(tactic| with_reducible refine xIZip ?_)
local macro_rules | `(tactic| trivial) => `(tactic| with_reducible refine xITupK ?_)
local macro_rules | `(tactic| trivial) => `(tactic| with_reducible refine xITup ?_)
local macro_rules | `(tactic| trivial) => `(tactic| with_reducible refine xDi2 ?_)
local macro_rules | `(tactic| trivial) => `(tactic| with_reducible refine xDi1 ?_)
local macro_rules | `(tactic| trivial) => `(tactic| with_reducible refine xRevTK ?_)
local macro_rules | `(tactic| trivial) => `(tactic| with_reducible refine xRevT ?_)
local macro_rules | `(tactic| trivial) => `(tactic| with_reducible refine xPaK (by with_unfolding_all rfl) (by with_unfolding_all rfl) ?_)
local macro_rules | `(tactic| trivial) => `(tactic| with_reducible refine xPar ?_)
local macro_rules | `(tactic| trivial) => `(tactic| with_reducible refine xDp2 ?_)
local macro_rules | `(tactic| trivial) => `(tactic| with_reducible refine xDg2 ?_)
local macro_rules | `(tactic| trivial) => `(tactic| with_reducible refine xDp1 ?_)
local macro_rules | `(tactic| trivial) => `(tactic| with_reducible refine xDg1 ?_)
local macro_rules | `(tactic| trivial) => `(tactic| with_reducible refine xYesT ?_)
local macro_rules | `(tactic| trivial) => `(tactic| with_reducible refine xGsNil ?_)
local macro_rules | `(tactic| trivial) => `(tactic| with_reducible refine xGsCons ?_)
local macro_rules | `(tactic| trivial) => `(tactic| with_reducible refine xGTup (by with_unfolding_all rfl) ?_)
local macro_rules | `(tactic| trivial) => `(tactic| with_reducible refine xNm (by with_unfolding_all rfl) ?_)
local macro_rules | `(tactic| trivial) => `(tactic| with_reducible refine xLenSet ?_)
local macro_rules | `(tactic| trivial) => `(tactic| with_reducible refine xCat ?_)
local macro_rules | `(tactic| trivial) => `(tactic| with_reducible refine xRevS ?_)
local macro_rules | `(tactic| trivial) => `(tactic| with_reducible refine xPartK ?_)
local macro_rules | `(tactic| trivial) => `(tactic| with_reducible refine xPart ?_)
local macro_rules | `(tactic| trivial) => `(tactic| with_reducible refine xNoPart ?_)
local macro_rules | `(tactic| trivial) => `(tactic| with_reducible refine xSl ?_)
local macro_rules | `(tactic| trivial) => `(tactic| with_reducible refine xIEn ?_)
local macro_rules | `(tactic| trivial) => `(tactic| with_reducible refine xIR1 ?_)
local macro_rules | `(tactic| trivial) => `(tactic| with_reducible refine xILK (by with_unfolding_all rfl) ?_)
local macro_rules | `(tactic| trivial) => `(tactic| with_reducible refine xILst ?_)
local macro_rules | `(tactic| trivial) => `(tactic| with_reducible refine xFor ?_)
local macro_rules | `(tactic| trivial) => `(tactic| with_reducible refine xLc ?_)
local macro_rules | `(tactic| trivial) => `(tactic| with_reducible refine xMD ?_)
local macro_rules | `(tactic| trivial) => `(tactic| with_reducible refine xMA (by with_unfolding_all rfl) ?_)
local macro_rules | `(tactic| trivial) => `(tactic| with_reducible refine xM ?_)
local macro_rules | `(tactic| trivial) => `(tactic| with_reducible refine xCall ?_)
local macro_rules | `(tactic| trivial) => `(tactic| with_reducible refine xIs (by with_unfolding_all rfl) (by with_unfolding_all rfl) ?_)
local macro_rules | `(tactic| trivial) => `(tactic| with_reducible refine xNo (by with_unfolding_all rfl) ?_)
local macro_rules | `(tactic| trivial) => `(tactic| with_reducible refine xYes (by with_unfolding_all rfl) ?_)
local macro_rules | `(tactic| trivial) => `(tactic| with_reducible refine xMin (by with_unfolding_all rfl) (by with_unfolding_all rfl) ?_)
local macro_rules | `(tactic| trivial) => `(tactic| with_reducible refine xMax (by with_unfolding_all rfl) (by with_unfolding_all rfl) ?_)
local macro_rules | `(tactic| trivial) => `(tactic| with_reducible refine xLen (by with_unfolding_all rfl) ?_)
local macro_rules | `(tactic| trivial) => `(tactic| with_reducible refine xTupK (by with_unfolding_all rfl) ?_)
local macro_rules | `(tactic| trivial) => `(tactic| with_reducible refine xTup ?_)
local macro_rules | `(tactic| trivial) => `(tactic| with_reducible refine xLstK (by with_unfolding_all rfl) ?_)
local macro_rules | `(tactic| trivial) => `(tactic| with_reducible refine xLst ?_)
local macro_rules | `(tactic| trivial) => `(tactic| with_reducible refine xFn ?_)
local macro_rules | `(tactic| trivial) => `(tactic| with_reducible refine xCons ?_)
local macro_rules | `(tactic| trivial) => `(tactic| with_reducible refine xNil ?_)
local macro_rules | `(tactic| trivial) => `(tactic| with_reducible refine xIxA (by with_unfolding_all rfl) (by with_unfolding_all rfl) (by with_unfolding_all rfl) ?_)
local macro_rules | `(tactic| trivial) => `(tactic| with_reducible refine xIx ?_)
local macro_rules | `(tactic| trivial) => `(tactic| with_reducible refine xCh2 (by with_unfolding_all rfl) (by with_unfolding_all rfl) ?_)
local macro_rules | `(tactic| trivial) => `(tactic| with_reducible refine xCh1 (by with_unfolding_all rfl) (by with_unfolding_all rfl) ?_)
local macro_rules | `(tactic| trivial) => `(tactic| with_reducible refine xCh ?_)
local macro_rules | `(tactic| trivial) => `(tactic| with_reducible refine xIf ?_)
local macro_rules | `(tactic| trivial) => `(tactic| with_reducible refine xBK ?_)
local macro_rules | `(tactic| trivial) => `(tactic| with_reducible refine xNotV ?_)
local macro_rules | `(tactic| trivial) => `(tactic| with_reducible refine xOrV ?_)
local macro_rules | `(tactic| trivial) => `(tactic| with_reducible refine xAndV ?_)
local macro_rules | `(tactic| trivial) => `(tactic| with_reducible refine xOr ?_)
local macro_rules | `(tactic| trivial) => `(tactic| with_reducible refine xAnd ?_)
local macro_rules | `(tactic| trivial) => `(tactic| with_reducible refine xNot ?_)
local macro_rules | `(tactic| trivial) => `(tactic| with_reducible refine xTK ?_)
local macro_rules | `(tactic| trivial) => `(tactic| with_reducible refine xT ?_)
local macro_rules | `(tactic| trivial) => `(tactic| with_reducible refine xIc (by with_unfolding_all rfl) (by with_unfolding_all rfl) (by with_unfolding_all first | omega | exact ⟨by decide, by decide +kernel⟩) ?_)
local macro_rules | `(tactic| trivial) => `(tactic| with_reducible refine xNegK ?_)
local macro_rules | `(tactic| trivial) => `(tactic| with_reducible refine xNeg ?_)
local macro_rules | `(tactic| trivial) => `(tactic| with_reducible refine xNeI (by with_unfolding_all rfl) (by with_unfolding_all rfl) ?_)
local macro_rules | `(tactic| trivial) => `(tactic| with_reducible refine xEqI (by with_unfolding_all rfl) (by with_unfolding_all rfl) ?_)
local macro_rules | `(tactic| trivial) => `(tactic| with_reducible refine xB (by with_unfolding_all rfl) (by with_unfolding_all rfl) ?_)
local macro_rules | `(tactic| trivial) => `(tactic| with_reducible refine xI (by with_unfolding_all rfl) (by with_unfolding_all rfl) ?_)
local macro_rules | `(tactic| trivial) => `(tactic| with_reducible refine xOp ?_)
local macro_rules | `(tactic| trivial) => `(tactic| with_reducible refine xC ?_)
local macro_rules | `(tactic| trivial) => `(tactic| with_reducible refine xVarN (by with_unfolding_all rfl) (by with_unfolding_all rfl) ?_)
local macro_rules | `(tactic| trivial) => `(tactic| with_reducible refine xVarZ (by with_unfolding_all rfl) ?_)
local macro_rules | `(tactic| trivial) => `(tactic| with_reducible refine xVarD (by with_unfolding_all rfl) ?_)
local macro_rules | `(tactic| trivial) => `(tactic| with_reducible refine xSbK (by with_unfolding_all rfl) (by with_unfolding_all rfl) (by with_unfolding_all rfl) ?_)
local macro_rules | `(tactic| trivial) => `(tactic| with_reducible refine xSub ?_)
local macro_rules | `(tactic| trivial) => `(tactic| with_reducible refine xAsK (by with_unfolding_all rfl) ?_)
local macro_rules | `(tactic| trivial) => `(tactic| with_reducible refine xAsg ?_)
local macro_rules | `(tactic| trivial) => `(tactic| with_reducible refine xRet ?_)
local macro_rules | `(tactic| trivial) => `(tactic| with_reducible refine xDrop ?_)
local macro_rules | `(tactic| trivial) => `(tactic| with_reducible refine xIfS ?_)
local macro_rules | `(tactic| trivial) => `(tactic| with_reducible refine xNext ?_)
local macro_rules | `(tactic| trivial) => `(tactic| with_reducible refine xSetK (by with_unfolding_all rfl) ?_)
local macro_rules | `(tactic| trivial) => `(tactic| with_reducible refine xSet ?_)
local macro_rules | `(tactic| trivial) => `(tactic| with_reducible refine xSeq ?_)

/-! ### the law's own histories -/
theorem eqv_nil (ps : List (Int × Int)) : PyData.eqvAll (ps.map pr) [] = decide (ps = []) := by cases ps <;> simp [PyData.eqvAll]
end LW

namespace LW
open PySem PySem.Spec L2 TX
/-! ### what a repr asks -/
structure Rpr (d : PyData) (w k : Nat) : Prop where
  sh : d.showable = true
  lv : d.leavesShort 60 = true
  wt : d.weight ≤ w
  dp : d.depth ≤ k
structure RprA (d : List PyData) (w k : Nat) : Prop where
  sh : PyData.showableAll d = true
  lv : PyData.leavesShortAll 60 d = true
  wt : PyData.weightAll d ≤ w
  dp : PyData.depthAll d ≤ k
theorem lvs60 {i : Int} (h : i.natAbs < 10 ^ 12) : (PyData.int i).leavesShort 60 = true := by
  simp only [PyData.leavesShort, decide_eq_true_eq]
  exact Nat.le_trans (PyData.shown_int_le h) (by decide)
theorem Rpr.int {i : Int} (h : i.natAbs < 10 ^ 12) : Rpr (.int i) 41 1 := ⟨shb_int h, lvs60 h, wt_int h, by simp [PyData.depth]⟩
theorem Rpr.none : Rpr .none 41 1 := ⟨rfl, by decide +kernel, by simp [PyData.weight], by simp [PyData.depth]⟩
theorem Rpr.bool {b : Bool} : Rpr (.bool b) 41 1 := ⟨rfl, by cases b <;> decide +kernel, by simp [PyData.weight], by simp [PyData.depth]⟩
theorem RprA.mono {d : List PyData} {w k w' : Nat} (h : RprA d w k) (h1 : w ≤ w') : RprA d w' k := ⟨h.sh, h.lv, Nat.le_trans h.wt h1, h.dp⟩
theorem RprA.nil {k : Nat} : RprA [] 0 k := ⟨rfl, rfl, Nat.le_refl _, by simp [PyData.depthAll]⟩
theorem RprA.cons {d : PyData} {ds : List PyData} {w w' k : Nat} (h : Rpr d w k) (t : RprA ds w' k) : RprA (d :: ds) (w + 1 + w') k :=
  ⟨by simp only [PyData.showableAll, h.sh, t.sh, Bool.and_self], by simp only [PyData.leavesShortAll, h.lv, t.lv, Bool.and_self], by
    have := h.wt; have := t.wt; simp only [PyData.weightAll]; omega, by
    have := h.dp; have := t.dp; simp only [PyData.depthAll]; omega⟩
theorem Rpr.list {ds : List PyData} {w k : Nat} (h : RprA ds w k) : Rpr (.list ds) w (k + 1) :=
  ⟨by simpa only [PyData.showable] using h.sh, by simpa only [PyData.leavesShort] using h.lv, by simpa only [PyData.weight] using h.wt, by have := h.dp; simp only [PyData.depth]; omega⟩
theorem Rpr.tuple {ds : List PyData} {w k : Nat} (h : RprA ds w k) : Rpr (.tuple ds) w (k + 1) :=
  ⟨by simpa only [PyData.showable] using h.sh, by simpa only [PyData.leavesShort] using h.lv, by simpa only [PyData.weight] using h.wt, by have := h.dp; simp only [PyData.depth]; omega⟩
theorem Rpr.mono {d : PyData} {w k w' k' : Nat} (h : Rpr d w k) (h1 : w ≤ w') (h2 : k ≤ k') : Rpr d w' k' := ⟨h.sh, h.lv, Nat.le_trans h.wt h1, Nat.le_trans h.dp h2⟩
theorem RprA.all {w k : Nat} : ∀ {ds : List PyData}, (∀ d ∈ ds, Rpr d w k) → RprA ds ((w + 1) * ds.length) k
  | [], _ => .nil
  | d :: ds, h => by
    have := RprA.cons (h d List.mem_cons_self) (RprA.all fun x hx => h x (List.mem_cons_of_mem _ hx))
    rw [List.length_cons, Nat.mul_succ, Nat.add_comm]
    exact this
theorem RprA.allN {w k n : Nat} {ds : List PyData} (h : ∀ d ∈ ds, Rpr d w k) (hn : ds.length ≤ n) : RprA ds ((w + 1) * n) k := by
  have := RprA.all h
  exact ⟨this.sh, this.lv, Nat.le_trans this.wt (Nat.mul_le_mul_left _ hn), this.dp⟩
/-- closed data: looked at -/
def chkR (w k : Nat) (x : PyData) : Bool := x.showable && (x.leavesShort 60 && (decide (x.weight ≤ w) && decide (x.depth ≤ k)))
theorem Rpr.of_chk {w k : Nat} {x : PyData} (h : chkR w k x = true) : Rpr x w k := by
  simp only [chkR, Bool.and_eq_true, decide_eq_true_eq] at h
  exact ⟨h.1, h.2.1, h.2.2.1, h.2.2.2⟩
def repK (t u : T) (ρ : Rho) (Q : T → Rho → Prop) : Prop := ∃ xs k, lsq ρ t = some xs ∧ u = .d (.int k) ∧ -(2 ^ 63) ≤ k ∧ k < 2 ^ 63 ∧ xs.length * k.toNat ≤ sizeLine ∧ Q (.l ((List.replicate k.toNat xs).flatten.map T.d)) ρ
theorem xRep {ρ : Rho} {Q : T → Rho → Prop} {E : ExK} {ta tb : TwE} (h : ta ρ (fun t ρ1 => tb ρ1 (fun u ρ2 => repK t u ρ2 Q) E) E) : wRep ta tb ρ Q E := h
theorem Rpr.str {x : Str} (h : (PyData.str x).leavesShort 60 = true) (hw : (PyData.str x).weight ≤ 41) : Rpr (.str x) 41 1 := ⟨rfl, h, hw, by simp [PyData.depth]⟩
theorem RprA.app {w w' k : Nat} : ∀ {xs ys : List PyData}, RprA xs w k → RprA ys w' k → RprA (xs ++ ys) (w + w') k
  | [], ys, h, t => ⟨t.sh, t.lv, by have := t.wt; simp only [List.nil_append]; omega, t.dp⟩
  | x :: xs, ys, h, t => by
    have h1 := h.sh; have h2 := h.lv; have h3 := h.wt; have h4 := h.dp
    simp only [PyData.showableAll, PyData.leavesShortAll, PyData.weightAll, PyData.depthAll, Bool.and_eq_true] at h1 h2 h3 h4
    have := RprA.app (w := w - (x.weight + 1)) ⟨h1.2, h2.2, by omega, by omega⟩ t
    have r := RprA.cons (⟨h1.1, h2.1, Nat.le_refl _, by omega⟩ : Rpr x x.weight k) this
    exact ⟨r.sh, r.lv, by have := r.wt; simp only [List.cons_append]; omega, r.dp⟩
theorem Rpr.pr {p : Int × Int} (h : smallP p) : Rpr (pr p) 84 2 := .tuple (.cons (.int h.1) (.cons (.int h.2) .nil))
theorem Rpr.row {cs : List Int} (ok : RowOk cs) : Rpr (.list (cs.map PyData.int)) 1008 2 := .list (.allN (n := 24) (w := 41) (fun d hd => by
  obtain ⟨c, hc, rfl⟩ := List.mem_map.mp hd
  have := ok.1 c hc
  exact .int (by omega)) (by simpa using ok.2.2.2))
theorem erase_l {ds : List PyData} : erase (.l (ds.map T.d)) = some (.list ds) := by simp only [erase, eraseAll_d, Option.map_some]
theorem xReprR {ρ : Rho} {Q : T → Rho → Prop} {t : T} {x : PyData} {w k : Nat} (h1 : vw ρ t = some x) (h : Rpr x w k) (q : Q (.d (.str x.shown)) ρ) (hw : w ≤ 250000 := by decide) (hk : k ≤ 60 := by decide) : k1 fRepr [t] ρ Q :=
  xReprD h1 h.sh (by
    have := PyData.shown_le 60 (by decide) x h.lv
    have := h.wt
    have hs : sizeLine = 16777216 := by decide
    omega) (Nat.le_trans h.dp hk) q
end LW

namespace LW.H
open PySem PySem.Spec L2 TX

local macro_rules | `(tactic| trivial) => `(tactic| with_reducible first
  | refine xSeq ?_ | refine xSet ?_ | refine xSetK (by with_unfolding_all rfl) ?_ | refine xNext ?_ | refine xIfS ?_ | refine xDrop ?_ | refine xRet ?_ | refine xAsg ?_ | refine xAsK (by with_unfolding_all rfl) ?_ | refine xSub ?_ | refine xSbK (by with_unfolding_all rfl) (by with_unfolding_all rfl) (by with_unfolding_all rfl) ?_
  | refine xVarD (by with_unfolding_all rfl) ?_ | refine xVarZ (by with_unfolding_all rfl) ?_ | refine xVarN (by with_unfolding_all rfl) (by with_unfolding_all rfl) ?_ | refine xC ?_ | refine xOp ?_ | refine xI (by with_unfolding_all rfl) (by with_unfolding_all rfl) ?_ | refine xB (by with_unfolding_all rfl) (by with_unfolding_all rfl) ?_ | refine xEqI (by with_unfolding_all rfl) (by with_unfolding_all rfl) ?_ | refine xNeI (by with_unfolding_all rfl) (by with_unfolding_all rfl) ?_ | refine xNeg ?_ | refine xNegK ?_
  | refine xIc (by with_unfolding_all rfl) (by with_unfolding_all rfl) (by with_unfolding_all first | omega | exact ⟨by decide, by decide +kernel⟩) ?_
  | refine xT ?_ | refine xTK ?_ | refine xNot ?_ | refine xAnd ?_ | refine xOr ?_ | refine xAndV ?_ | refine xOrV ?_ | refine xNotV ?_ | refine xBK ?_ | refine xIf ?_ | refine xCh ?_ | refine xCh1 (by with_unfolding_all rfl) (by with_unfolding_all rfl) ?_ | refine xCh2 (by with_unfolding_all rfl) (by with_unfolding_all rfl) ?_
  | refine xIx ?_ | refine xIxA (by with_unfolding_all rfl) (by with_unfolding_all rfl) (by with_unfolding_all rfl) ?_ | refine xNil ?_ | refine xCons ?_ | refine xFn ?_ | refine xLst ?_ | refine xLstK (by with_unfolding_all rfl) ?_ | refine xTup ?_ | refine xTupK (by with_unfolding_all rfl) ?_ | refine xLen (by with_unfolding_all rfl) ?_ | refine xMax (by with_unfolding_all rfl) (by with_unfolding_all rfl) ?_ | refine xMin (by with_unfolding_all rfl) (by with_unfolding_all rfl) ?_
  | refine xYes (by with_unfolding_all rfl) ?_ | refine xNo (by with_unfolding_all rfl) ?_ | refine xIs (by with_unfolding_all rfl) (by with_unfolding_all rfl) ?_ | refine xCall ?_ | refine xM ?_ | refine xMA (by with_unfolding_all rfl) ?_ | refine xMD ?_ | refine xLc ?_ | refine xFor ?_ | refine xILst ?_ | refine xILK (by with_unfolding_all rfl) ?_ | refine xIR1 ?_ | refine xIEn ?_ | refine xSl ?_ | refine xNoPart ?_ | refine xPart ?_ | refine xPartK ?_ | refine xRevS ?_ | refine xCat ?_ | refine xLenSet ?_
  | refine xNm (by with_unfolding_all rfl) ?_ | refine xGTup (by with_unfolding_all rfl) ?_ | refine xGsCons ?_ | refine xGsNil ?_ | refine xYesT ?_ | refine xDg1 ?_ | refine xDp1 ?_ | refine xDg2 ?_ | refine xDp2 ?_ | refine xPar ?_ | refine xPaK (by with_unfolding_all rfl) (by with_unfolding_all rfl) ?_ | refine xRevT ?_ | refine xRevTK ?_ | refine xDi1 ?_ | refine xDi2 ?_ | refine xITup ?_ | refine xITupK ?_ | refine xIZip ?_ | refine xIR2 ?_ | refine xIsNK (by with_unfolding_all rfl) ?_ | refine xRev2 ?_ | refine xListR ?_ | refine xSlT ?_ | refine xSlTK ?_ | refine xGt1 ?_ | refine xGt2 ?_ | refine xGtA (by with_unfolding_all rfl) ?_ | refine xGtD ?_ | refine xRep ?_ | refine xDcL ?_ | refine xDc ?_ | refine xDpl ?_ | refine xGe1 ?_ | refine xGe2 ?_ | refine xIe1 ?_ | refine xIe2 ?_ | refine xGLst (by with_unfolding_all rfl) ?_ | refine xIsB (by with_unfolding_all rfl) (by with_unfolding_all rfl) ?_ | refine xVarL (by with_unfolding_all rfl) ?_ | refine xIDc ?_ | refine xIDcK ?_ | refine xLc2 ?_ | refine xGd1 ?_ | refine xGd2 ?_ | refine xGdA (by with_unfolding_all rfl) ?_ | refine xGdD ?_ | refine xDcT ?_ | refine xClip ?_ | refine xAppD ?_ | refine xAppD11 ?_ | refine xAppD21 ?_ | refine xLi ?_ | refine xIEz ?_)

/-! ### the hands' pot -/
def S_law_pot : SpT := SpP (fun ts => ∃ (ns : List Int) (k : Int), ts = [.fz ns, .d (.int k)] ∧ 0 ≤ k ∧ k ≤ 1000) fun _ t _ => ∃ a b, t = potT a b 0 ∧ Pot a b 0 (2 ^ 40)
def S_law_take : SpT := SpP (fun ts => ∃ a b c m, ts = [potT a b c, .d (.int m)] ∧ Pot a b c 1 ∧ 1 ≤ m ∧ m ≤ 2 ^ 64) fun ts t ρ => ∀ a b c m, ts = [potT a b c, .d (.int m)] → ∃ i, t = .d (.int i) ∧ 0 ≤ i ∧ i < m ∧ PotTo 1 a b c ρ
theorem mS_law_pot : MonSp S_law_pot := mon_SpP
theorem mS_law_take : MonSp S_law_take := mon_SpP
abbrev N_law_pot : List Str := ["_law_script", "_law_k", "_law_cell"]
def w_law_pot : TwS := (wSeq (wSet 2 (wC (.d (.int 0))))
    (wSeq (wIfS (wT (wOp (fB fun i j => decide (i < j)) (wVar 1) (wFn kLen (wCons (wVar 0) wNil)))) (wSet 2 (wIx (wVar 0) (wVar 1))) wNext)
    (wRet (wLst (wCons (wFn (k2 fMax) (wCons (wC (.d (.int 0))) (wCons (wOp (fI (· - ·)) (wVar 2) (wOp (fIc CPowW (fun i j => i ^ j.toNat)) (wC (.d (.int 10))) (wC (.d (.int 18))))) wNil))) (wCons (wOp (fI (· + ·)) (wOp (fIc (fun _ j => 0 < j) (· % ·)) (wVar 2) (wC (.d (.int 618970019642690137449562111)))) (wOp (fIc CMulW (· * ·)) (wC (.d (.int 7368787))) (wVar 1))) (wCons (wC (.d (.int 0))) wNil)))))))
abbrev N_law_take : List Str := ["_law_pot_here", "_law_many", "_law_found", "_law_mixed"]
def w_law_take : TwS := (wSeq (wIfS (wT (wOp (fB fun i j => decide (j < i)) (wIx (wVar 0) (wC (.d (.int 0)))) (wC (.d (.int 0))))) (wSeq (wSet 2 (wOp (fIc (fun _ j => 0 < j) (· % ·)) (wIx (wVar 0) (wC (.d (.int 0)))) (wVar 1)))
    (wSeq (wAsg (wOp (fIc CDivW (· / ·)) (wIx (wVar 0) (wC (.d (.int 0)))) (wVar 1)) (wSub (wVar 0) (wC (.d (.int 0)))))
    (wRetV 2))) wNext)
    (wSeq (wAsg (wOp (fI (· + ·)) (wIx (wVar 0) (wC (.d (.int 2)))) (wC (.d (.int 1)))) (wSub (wVar 0) (wC (.d (.int 2)))))
    (wSeq (wSet 3 (wOp (fIc (fun _ j => 0 < j) (· % ·)) (wOp (fIc CPowW (fun i j => i ^ j.toNat)) (wOp (fI (· + ·)) (wIx (wVar 0) (wC (.d (.int 1)))) (wOp (fIc CMulW (· * ·)) (wC (.d (.int 15485863))) (wIx (wVar 0) (wC (.d (.int 2)))))) (wC (.d (.int 3)))) (wC (.d (.int 162259276829213363391578010288127)))))
    (wSeq (wSet 3 (wOp (fIc (fun _ j => 0 < j) (· % ·)) (wOp (fIc CPowW (fun i j => i ^ j.toNat)) (wOp (fI (· + ·)) (wVar 3) (wOp (fIc CMulW (· * ·)) (wC (.d (.int 32452843))) (wIx (wVar 0) (wC (.d (.int 2)))))) (wC (.d (.int 5)))) (wC (.d (.int 170141183460469231731687303715884105727)))))
    (wRet (wOp (fIc (fun _ j => 0 < j) (· % ·)) (wOp (fIc CDivW (· / ·)) (wVar 3) (wC (.d (.int 1048576)))) (wVar 1)))))))
theorem pl_law_pot : PlD S_law_pot w_law_pot N_law_pot := by
  rintro ts Q Ex ⟨⟨ns, k, rfl, k0, k1⟩, q⟩
  unfold w_law_pot
  have fin : ∀ c : Int, Q (potT (max 0 (c - 10 ^ (18 : Int).toNat)) (c % 618970019642690137449562111 + 7368787 * k) 0) [some (.fz ns), some (.d (.int k)), some (.d (.int c))] := fun c => q _ _ ⟨_, _, rfl, Int.le_max_left _ _, by
    have := Int.emod_nonneg c (b := 618970019642690137449562111) (by decide +kernel)
    omega, by
    have h1 := Int.emod_lt_of_pos c (b := 618970019642690137449562111) (by decide +kernel)
    have h2 : (618970019642690137449562111 : Int) ≤ 2 ^ 180 := by decide +kernel
    have h3 : (2 : Int) ^ 200 = 2 ^ 180 * 1048576 := by decide +kernel
    omega, Int.le_refl _, by decide⟩
  repeat trivial
  refine xIte (fun h => ?_) fun h => ?_
  · have h' : k < ns.length := of_decide_eq_true h
    obtain ⟨c, hc, _⟩ := at_in k0 h'
    repeat trivial
    refine xIxZ hc ?_
    repeat trivial
    refine xIc rfl rfl (cmul 30 20 (by decide) (by omega)) ?_
    repeat trivial
    exact ⟨rfl, fin c⟩
  · repeat trivial
    refine xIc rfl rfl (cmul 30 20 (by decide) (by omega)) ?_
    repeat trivial
    exact ⟨rfl, fin 0⟩
theorem pl_law_take : PlD S_law_take w_law_take N_law_take := by
  rintro ts Q Ex ⟨⟨a, b, c, m, rfl, ⟨a0, b0, b1, c0, c1⟩, m1, m2⟩, q⟩
  unfold w_law_take
  repeat trivial
  refine xIte (fun h => ?_) fun h => ?_
  · repeat trivial
    refine xIc rfl rfl (cdiv64 (by omega) m2) ?_
    repeat trivial
    refine xRetV rfl ⟨rfl, q _ _ fun a' b' c' m' e => ?_⟩
    obtain ⟨rfl, rfl, rfl, rfl⟩ := potn_inj e
    exact ⟨_, rfl, Int.emod_nonneg _ (by omega), Int.emod_lt_of_pos _ (by omega), _, _, rfl, Int.ediv_nonneg a0 (by omega), Int.le_refl _, by omega⟩
  · repeat trivial
    refine xIc rfl rfl (cmul 30 42 (by decide) (by omega)) ?_
    repeat trivial
    refine xIc rfl rfl (cpow 201 (by omega) (by decide) (by decide)) ?_
    repeat trivial
    refine xIc rfl rfl (cmul 30 42 (by decide) (by omega)) ?_
    repeat trivial
    generalize hz : ((b + 15485863 * (c + 1)) ^ (3 : Int).toNat % 162259276829213363391578010288127) = z
    have z0 : 0 ≤ z := hz ▸ Int.emod_nonneg _ (by decide +kernel)
    have z1 : z < 2 ^ 180 := hz ▸ Int.lt_of_lt_of_le (Int.emod_lt_of_pos _ (by decide +kernel)) (by decide +kernel)
    refine xIc rfl rfl (cpow 201 (by omega) (by decide) (by decide)) ?_
    repeat trivial
    refine ⟨rfl, q _ _ fun a' b' c' m' e => ?_⟩
    obtain ⟨rfl, rfl, rfl, rfl⟩ := potn_inj e
    exact ⟨_, rfl, Int.emod_nonneg _ (by omega), Int.emod_lt_of_pos _ (by omega), _, _, rfl, a0, by omega, Int.le_refl _⟩
theorem xTake {ρ : Rho} {Q : T → Rho → Prop} {E : ExK} {r : Nat} {a b c m k : Int} (hg : ρ[r]? = some (some (potT a b c))) (hp : Pot a b c k) (hk : 1 ≤ k) (hm : 1 ≤ m) (hm2 : m ≤ 2 ^ 64)
    (q : ∀ i a' c', 0 ≤ i → i < m → Pot a' b c' (k - 1) → c ≤ c' → c' ≤ c + 1 → Q (.d (.int i)) (ρ.set r (some (potT a' b c')))) : caK [0] 2 S_law_take [.a r [], .d (.int m)] ρ Q E := by
  obtain ⟨h1, h2, h3, h4, h5⟩ := hp
  refine xCaF hg rfl rfl rfl rfl ⟨a, b, c, m, rfl, ⟨h1, h2, h3, h4, by omega⟩, hm, hm2⟩ fun u ρ' h => ?_
  obtain ⟨i, rfl, i0, i1, a', c', e, g1, g2, g3⟩ := h a b c m rfl
  exact ⟨_, e, rfl, rfl, q i a' c' i0 i1 ⟨g1, h2, h3, by omega, by omega⟩ g2 g3⟩
/-! ### some of them, cards -/
def S_law_some : SpT := SpP (fun ts => ∃ a b c cs m, ts = [potT a b c, rowD cs, .d (.int m)] ∧ Pot a b c 64 ∧ 0 ≤ m ∧ cs.length ≤ 60) fun ts t ρ => ∀ a b c cs m, ts = [potT a b c, rowD cs, .d (.int m)] → ∃ ys zs, t = intL ys ∧ (ys ++ zs).Perm cs ∧ (ys.length : Int) = min m cs.length ∧ PotTo 64 a b c ρ
theorem mS_law_some : MonSp S_law_some := mon_SpP
def S_law_cards : SpT := SpP (fun ts => ∃ a b c m, ts = [potT a b c, .d (.int m)] ∧ Pot a b c 96 ∧ 1 ≤ m ∧ m ≤ 24) fun ts t ρ => ∀ a b c m, ts = [potT a b c, .d (.int m)] → ∃ cs, t = intL cs ∧ Cards cs ∧ (cs.length : Int) = m ∧ cs.Nodup ∧ PotTo 96 a b c ρ
theorem mS_law_cards : MonSp S_law_cards := mon_SpP
theorem pots_inj {a b c a' b' c' m m' : Int} {cs cs' : List Int} (h : [potT a b c, rowD cs, T.d (.int m)] = [potT a' b' c', rowD cs', T.d (.int m')]) : a = a' ∧ b = b' ∧ c = c' ∧ cs = cs' ∧ m = m' := by
  simp only [List.cons.injEq, and_true, T.d.injEq, PyData.int.injEq] at h
  obtain ⟨h1, h2, h3⟩ := pot_inj h.1
  exact ⟨h1, h2, h3, rowD_inj h.2.1, h.2.2⟩
abbrev N_law_some : List Str := ["_law_pot_here", "_law_things", "_law_many", "_law_left", "_law_found"]
def w_law_some : TwS := (wSeq (wSet 3 (wFn kList (wCons (wVar 1) wNil)))
    (wSeq (wSet 4 (wLst wNil))
    (wSeq (wWhile (wAnd (wT (wOp (fNe) (wVar 3) (wLst wNil))) (wT (wOp (fB fun i j => decide (i < j)) (wFn kLen (wCons (wVar 4) wNil)) (wVar 2)))) (wDrop (wM isLst kApp (wVar 4) (wCons (wM isLst kPopAt (wVar 3) (wCons (wCall [0] 2 S_law_take (wCons (wVar 0) (wCons (wFn kLen (wCons (wVar 3) wNil)) wNil))) wNil)) wNil))))
    (wRetV 4))))
abbrev N_law_cards : List Str := ["_law_pot_here", "_law_many", "_law_way", "_law_begin", "_law_steps", "_law_cards_here", "_law_k"]
def w_law_cards : TwS := (wSeq (wSet 2 (wCall [0] 2 S_law_take (wCons (wVar 0) (wCons (wC (.d (.int 3))) wNil))))
    (wSeq (wSet 3 (wCall [0] 2 S_law_take (wCons (wVar 0) (wCons (wC (.d (.int 1000))) wNil))))
    (wSeq (wSet 4 (wLst (wCons (wC (.d (.int 1))) (wCons (wC (.d (.int 1))) (wCons (wOp (fI (· + ·)) (wOp (fIc CPowW (fun i j => i ^ j.toNat)) (wC (.d (.int 10))) (wC (.d (.int 7)))) (wCall [0] 2 S_law_take (wCons (wVar 0) (wCons (wC (.d (.int 1000))) wNil)))) wNil)))))
    (wSeq (wSet 5 (wLc (wIR1 (wCons (wVar 1) wNil)) (wNm 6) wYes (wOp (fI (· + ·)) (wOp (fIc CMulW (· * ·)) (wVar 3) (wFn (k1 fInt) (wCons (wOp (fNe) (wVar 2) (wC (.d (.int 1)))) wNil))) (wOp (fIc CMulW (· * ·)) (wVar 6) (wIx (wVar 4) (wVar 2)))) [6]))
    (wSeq (wIfS (wT (wOp (fEq) (wVar 2) (wC (.d (.int 1))))) (wSet 5 (wLc (wIR1 (wCons (wVar 1) wNil)) (wNm 6) wYes (wOp (fI (· - ·)) (wC (.d (.int 999999999))) (wVar 6)) [6])) wNext)
    (wRet (wCall [0] 3 S_law_some (wCons (wVar 0) (wCons (wVar 5) (wCons (wVar 1) wNil))))))))))
theorem shaped_il (cs : List Int) : SeqAt.shaped (.list (cs.map PyData.int)) = true := by
  have c : ∀ cs : List Int, PyData.canLayAll0 (cs.map PyData.int) = true := fun cs => by
    induction cs with
    | nil => rfl
    | cons b bs ih => simp only [List.map_cons, PyData.canLayAll0, PyData.canLay0, ih, Bool.and_self]
  have d : ∀ cs : List Int, PyData.depthAll (cs.map PyData.int) ≤ 1 := fun cs => by
    induction cs with
    | nil => simp [PyData.depthAll]
    | cons b bs ih => simp only [List.map_cons, PyData.depthAll, PyData.depth]; omega
  have := d cs
  have e : (PyData.list (cs.map PyData.int)).depth ≤ 64 := by simp only [PyData.depth]; omega
  simp only [SeqAt.shaped, PyData.canLay0, c, Bool.true_and, decide_eq_true_eq]
  exact e
theorem eqv_nil (cs : List Int) : PyData.eqv (.list (cs.map PyData.int)) (.list []) = decide (cs = []) := by
  cases cs with
  | nil => rfl
  | cons a cs => simp [PyData.eqv, PyData.eqvAll]
theorem pl_law_some : PlD S_law_some w_law_some N_law_some := by
  rintro ts Q Ex ⟨⟨a, b, c, cs, m, rfl, hp, m0, cl⟩, q⟩
  obtain ⟨p1, p2, p3, p4, p5⟩ := id hp
  unfold w_law_some
  repeat trivial
  refine xList (ds := cs.map PyData.int) rfl ?_
  repeat trivial
  refine xWhile (fun ρ => ∃ (a' c' : Int) (ys zs : List Int), ρ = [some (potT a' b c'), some (rowD cs), some (.d (.int m)), some (intL zs), some (intL ys)] ∧ (ys ++ zs).Perm cs ∧ (ys.length : Int) ≤ m ∧ 0 ≤ a' ∧ c ≤ c' ∧ c' ≤ c + ys.length)
    (fun ρ => match ρ[3]? with | some (some (T.l ts)) => ts.length | _ => 0) ⟨a, c, [], cs, rfl, .refl _, by simpa using m0, p1, by omega, by simp⟩ ?_
  rintro ρ1 ⟨a', c', ys, zs, rfl, pm, ym, g1, g2, g3⟩
  have pl := pm.length_eq
  rw [List.length_append] at pl
  repeat trivial
  refine xNe (x := .list (zs.map PyData.int)) (y := .list []) (by show vw _ (.a 3 []) = _; exact (erase_intL (cs := zs))) rfl (shaped_il zs) rfl ?_
  rw [eqv_nil]
  repeat trivial
  have fin : zs = [] ∨ ¬ (ys.length : Int) < m → ∀ ρ', ρ' = [some (potT a' b c'), some (rowD cs), some (.d (.int m)), some (intL zs), none] → Q (intL ys) ρ' := fun h ρ' e => by
    refine q _ _ fun a9 b9 c9 d9 m9 e9 => ?_
    obtain ⟨rfl, rfl, rfl, rfl, rfl⟩ := pots_inj e9
    refine ⟨ys, zs, rfl, pm, ?_, a', c', by rw [e]; rfl, g1, by omega, by omega⟩
    rcases h with rfl | h
    · simp at pl; omega
    · omega
  refine xIte (fun h => ?_) fun h => ?_
  · have hz : zs ≠ [] := by simpa using h
    have zl : 0 < zs.length := List.length_pos_iff.mpr hz
    repeat trivial
    refine xIte (fun h2 => ?_) fun h2 => ?_
    · have h2' := of_decide_eq_true h2
      simp only [List.length_map] at h2'
      repeat trivial
      refine xTake (k := 1) rfl ⟨g1, p2, p3, by omega, by omega⟩ (by decide) (by simp; omega) (by simp; omega) fun i a'' c'' i0 i1 hp' d0 d1 => ?_
      simp at i1
      repeat trivial
      refine xPopI rfl i0 i1 (by omega) fun y hy => ?_
      have pp := perm_pop hy
      have lp := len_pop hy
      repeat trivial
      refine xApp rfl rfl (small1000 (by simp; omega)) ?_
      refine ⟨⟨a'', c'', ys ++ [y], zs.eraseIdx i.toNat, ?_, ?_, ?_, hp'.1, by omega, by simp; omega⟩, ?_⟩
      · simp [intL, TX.putAt, putT, retag, rho0]
      · rw [List.append_assoc]
        exact ((pp).append_left ys).trans pm
      · simp; omega
      · simp [intL, TX.putAt, putT, retag, rho0]; omega
    · have h2' := of_decide_eq_false h2
      simp only [List.length_map] at h2'
      repeat trivial
      exact xRetV rfl ⟨rfl, fin (.inr h2') _ rfl⟩
  · have hz : zs = [] := by simpa using h
    repeat trivial
    exact xRetV rfl ⟨rfl, fin (.inl hz) _ rfl⟩
theorem xIntB {ρ : Rho} {Q : T → Rho → Prop} {t : T} {b : Bool} (h1 : vw ρ t = some (.bool b)) (q : Q (.d (.int (if b then 1 else 0))) ρ) : k1 fInt [t] ρ Q := ⟨t, _, _, rfl, h1, .inr ⟨b, rfl, rfl⟩, q⟩
theorem xSome {ρ : Rho} {Q : T → Rho → Prop} {E : ExK} {r s : Nat} {a b c m k : Int} {cs : List Int} (hg : ρ[r]? = some (some (potT a b c))) (hs : ρ[s]? = some (some (intL cs))) (hne : r ≠ s) (hp : Pot a b c k) (hk : 64 ≤ k) (hm : 0 ≤ m) (cl : cs.length ≤ 60)
    (q : ∀ ys zs a' c', (ys ++ zs).Perm cs → (ys.length : Int) = min m cs.length → Pot a' b c' (k - 64) → c ≤ c' → c' ≤ c + 64 → Q (intL ys) (ρ.set r (some (potT a' b c')))) : caK [0] 3 S_law_some [.a r [], .a s [], .d (.int m)] ρ Q E := by
  obtain ⟨h1, h2, h3, h4, h5⟩ := hp
  refine xCaFV (us := [rowD cs, .d (.int m)]) hg rfl ?_ rfl ?_ ⟨a, b, c, cs, m, rfl, ⟨h1, h2, h3, h4, by omega⟩, hm, cl⟩ fun u ρ' h => ?_
  · exact argV rfl hs erase_intL (argD rfl rfl rfl argNil)
  · simp only [apartB, rootT]
    simp [hne, Ne.symm hne]
  obtain ⟨ys, zs, rfl, pm, yl, a', c', e, g1, g2, g3⟩ := h a b c cs m rfl
  exact ⟨_, e, rfl, rfl, by unfold intL; exact imm_ints ys, rfl, q ys zs a' c' pm yl ⟨g1, h2, h3, by omega, by omega⟩ g2 g3⟩
theorem pl_law_cards : PlD S_law_cards w_law_cards N_law_cards := by
  rintro ts Q Ex ⟨⟨a, b, c, m, rfl, hp, m1, m2⟩, q⟩
  unfold w_law_cards
  repeat trivial
  refine xTake rfl hp (by decide) (by decide) (by decide) fun wy a1 c1 w0 w1 hp1 c10 c11 => ?_
  repeat trivial
  refine xTake rfl hp1 (by decide) (by decide) (by decide) fun bg a2 c2 b0 b1 hp2 c20 c21 => ?_
  repeat trivial
  refine xTake rfl hp2 (by decide) (by decide) (by decide) fun st a3 c3 s0 s1 hp3 c30 c31 => ?_
  repeat trivial
  obtain ⟨e31, e32, e33, e34, e35⟩ := id hp3
  have fin : ∀ (cs : List Int) (o6 : Option PyData), Cards cs → cs.Nodup → (cs.length : Int) = m → (wRet (wCall [0] 3 S_law_some (wCons (wVar 0) (wCons (wVar 5) (wCons (wVar 1) wNil))))) { nx := fun ρ => Q (.d .none) ρ, rt := fun t ρ => noAl t = true ∧ Q t ρ, ex := Ex }
      [some (potT a3 b c3), some (.d (.int m)), some (.d (.int wy)), some (.d (.int bg)), some (intL [1, 1, 10 ^ (7 : Int).toNat + st]), some (intL cs), o6.map T.d] := fun cs o6 hc nd hl => by
    repeat trivial
    refine xSome rfl rfl (by decide) hp3 (by decide) (by omega) (by omega) fun ys zs a4 c4 pm yl hp4 c40 c41 => ?_
    refine ⟨rfl, q _ _ fun a9 b9 c9 m9 e9 => ?_⟩
    obtain ⟨rfl, rfl, rfl, rfl⟩ := potn_inj e9
    have zl := pm.length_eq
    rw [List.length_append] at zl
    have : zs = [] := List.length_eq_zero_iff.mp (by omega)
    subst this
    rw [List.append_nil] at pm
    exact ⟨ys, rfl, fun x hx => hc x (pm.mem_iff.mp hx), by omega, pm.nodup_iff.mpr nd, a4, c4, rfl, hp4.1, by omega, by omega⟩
  obtain ⟨sp, hsp, esp⟩ := pickI (cs := [1, 1, 10 ^ (7 : Int).toNat + st]) w0 w1
  have hsp' : 1 ≤ sp ∧ sp ≤ 10001000 := by
    have : (10 : Int) ^ (7 : Int).toNat = 10000000 := by decide +kernel
    simp only [List.mem_cons, List.not_mem_nil, or_false] at hsp; omega
  refine xIRK (by omega) (by omega) ?_
  refine xLcM (fun _ => true) (fun x => match x with | .int z => .int (bg * (if (!(wy == 1)) = true then 1 else 0) + z * sp) | y => y) rfl (by rw [range_len]; omega) (by simp [rho0]) (fun x hx Y Z hY _ => ?_) ?_
  · obtain ⟨i, hi⟩ := List.mem_iff_getElem?.mp hx
    obtain ⟨hi, rfl⟩ := range_get hi
    refine xYesT ⟨noNd1 rfl, xYes rfl ?_⟩
    repeat trivial
    refine xIntB rfl ?_
    repeat trivial
    refine xIc rfl rfl (cmul 20 20 (by omega) (by split <;> decide)) ?_
    repeat trivial
    refine xIxAL rfl esp ?_
    repeat trivial
    refine xIc rfl rfl (cmul 20 42 (by omega) (by omega)) ?_
    repeat trivial
    exact ⟨noNd1 rfl, _, rfl, hY rfl⟩
  · have e : ((List.filter (fun _ => true) (rangeD 0 m.toNat)).map fun x => match x with | .int z => PyData.int (bg * (if (!(wy == 1)) = true then 1 else 0) + z * sp) | y => y) = ((List.range m.toNat).map fun (k : Nat) => bg * (if (!(wy == 1)) = true then 1 else 0) + (k : Int) * sp).map PyData.int := by
      rw [List.filter_eq_self.mpr (fun _ _ => rfl)]
      unfold rangeD
      rw [List.map_map, List.map_map]
      refine List.map_congr_left fun k _ => ?_
      simp
    rw [e]
    refine xSetK rfl ?_
    simp only [List.set_cons_zero, List.set_cons_succ]
    have sm : ∀ k : Nat, k ∈ List.range m.toNat → 0 ≤ (k : Int) * sp ∧ (k : Int) * sp ≤ 23 * 10001000 := fun k hk => by
      have := List.mem_range.mp hk
      have h1 : (k : Int) ≤ 23 := by omega
      exact ⟨Int.mul_nonneg (by omega) (by omega), Int.mul_le_mul h1 hsp'.2 (by omega) (by omega)⟩
    repeat trivial
    refine xIte (fun h => ?_) fun h => ?_
    · repeat trivial
      refine xIRK (by omega) (by omega) ?_
      refine xLcM (fun _ => true) (fun x => match x with | .int z => .int (999999999 - z) | y => y) rfl (by rw [range_len]; omega) (by simp [rho0]) (fun x hx Y Z hY _ => ?_) ?_
      · obtain ⟨i, hi⟩ := List.mem_iff_getElem?.mp hx
        obtain ⟨hi, rfl⟩ := range_get hi
        refine xYesT ⟨noNd1 rfl, xYes rfl ?_⟩
        repeat trivial
        exact ⟨noNd1 rfl, _, rfl, hY rfl⟩
      · have e : ((List.filter (fun _ => true) (rangeD 0 m.toNat)).map fun x => match x with | .int z => PyData.int (999999999 - z) | y => y) = ((List.range m.toNat).map fun (k : Nat) => (999999999 : Int) - (k : Int)).map PyData.int := by
          rw [List.filter_eq_self.mpr (fun _ _ => rfl)]
          unfold rangeD
          rw [List.map_map, List.map_map]
          refine List.map_congr_left fun k _ => ?_
          simp
        rw [e]
        refine xSetK rfl ?_
        simp only [List.set_cons_zero, List.set_cons_succ]
        refine fin _ none (fun x hx => ?_) ?_ ?_
        · obtain ⟨k, hk, rfl⟩ := List.mem_map.mp hx
          have := List.mem_range.mp hk
          omega
        · exact List.pairwise_map.mpr (List.nodup_range.imp fun h z => h (by omega))
        · simp; omega
    · refine xNext ?_
      refine fin _ none (fun x hx => ?_) ?_ ?_
      · obtain ⟨k, hk, rfl⟩ := List.mem_map.mp hx
        have := sm k hk
        split <;> omega
      · refine List.pairwise_map.mpr (List.nodup_range.imp fun {x y} h z => h ?_)
        have z2 : (x : Int) * sp = (y : Int) * sp := by omega
        have := Int.eq_of_mul_eq_mul_right (by omega : sp ≠ 0) z2
        omega
      · simp; omega
theorem xCards {ρ : Rho} {Q : T → Rho → Prop} {E : ExK} {r : Nat} {a b c m k : Int} (hg : ρ[r]? = some (some (potT a b c))) (hp : Pot a b c k) (hk : 96 ≤ k) (hm : 1 ≤ m) (hm2 : m ≤ 24)
    (q : ∀ cs a' c', Cards cs → (cs.length : Int) = m → cs.Nodup → Pot a' b c' (k - 96) → c ≤ c' → c' ≤ c + 96 → Q (intL cs) (ρ.set r (some (potT a' b c')))) : caK [0] 2 S_law_cards [.a r [], .d (.int m)] ρ Q E := by
  obtain ⟨h1, h2, h3, h4, h5⟩ := hp
  refine xCaF hg rfl rfl rfl rfl ⟨a, b, c, m, rfl, ⟨h1, h2, h3, h4, by omega⟩, hm, hm2⟩ fun u ρ' h => ?_
  obtain ⟨cs, rfl, i0, i1, i2, a', c', e, g1, g2, g3⟩ := h a b c m rfl
  exact ⟨_, e, rfl, rfl, q cs a' c' i0 i1 i2 ⟨g1, h2, h3, by omega, by omega⟩ g2 g3⟩
end LW.H

namespace LW.H
open PySem PySem.Spec L2 TX

local macro_rules | `(tactic| trivial) => `(tactic| with_reducible first
  | refine xSeq ?_ | refine xSet ?_ | refine xSetK (by with_unfolding_all rfl) ?_ | refine xNext ?_ | refine xIfS ?_ | refine xDrop ?_ | refine xRet ?_ | refine xAsg ?_ | refine xAsK (by with_unfolding_all rfl) ?_ | refine xSub ?_ | refine xSbK (by with_unfolding_all rfl) (by with_unfolding_all rfl) (by with_unfolding_all rfl) ?_
  | refine xVarD (by with_unfolding_all rfl) ?_ | refine xVarZ (by with_unfolding_all rfl) ?_ | refine xVarN (by with_unfolding_all rfl) (by with_unfolding_all rfl) ?_ | refine xC ?_ | refine xOp ?_ | refine xI (by with_unfolding_all rfl) (by with_unfolding_all rfl) ?_ | refine xB (by with_unfolding_all rfl) (by with_unfolding_all rfl) ?_ | refine xEqI (by with_unfolding_all rfl) (by with_unfolding_all rfl) ?_ | refine xNeI (by with_unfolding_all rfl) (by with_unfolding_all rfl) ?_ | refine xNeg ?_ | refine xNegK ?_
  | refine xIc (by with_unfolding_all rfl) (by with_unfolding_all rfl) (by with_unfolding_all first | omega | exact ⟨by decide, by decide +kernel⟩) ?_
  | refine xT ?_ | refine xTK ?_ | refine xNot ?_ | refine xAnd ?_ | refine xOr ?_ | refine xAndV ?_ | refine xOrV ?_ | refine xNotV ?_ | refine xBK ?_ | refine xIf ?_ | refine xCh ?_ | refine xCh1 (by with_unfolding_all rfl) (by with_unfolding_all rfl) ?_ | refine xCh2 (by with_unfolding_all rfl) (by with_unfolding_all rfl) ?_
  | refine xIx ?_ | refine xIxA (by with_unfolding_all rfl) (by with_unfolding_all rfl) (by with_unfolding_all rfl) ?_ | refine xNil ?_ | refine xCons ?_ | refine xFn ?_ | refine xLst ?_ | refine xLstK (by with_unfolding_all rfl) ?_ | refine xTup ?_ | refine xTupK (by with_unfolding_all rfl) ?_ | refine xLen (by with_unfolding_all rfl) ?_ | refine xMax (by with_unfolding_all rfl) (by with_unfolding_all rfl) ?_ | refine xMin (by with_unfolding_all rfl) (by with_unfolding_all rfl) ?_
  | refine xYes (by with_unfolding_all rfl) ?_ | refine xNo (by with_unfolding_all rfl) ?_ | refine xIs (by with_unfolding_all rfl) (by with_unfolding_all rfl) ?_ | refine xCall ?_ | refine xM ?_ | refine xMA (by with_unfolding_all rfl) ?_ | refine xMD ?_ | refine xLc ?_ | refine xFor ?_ | refine xILst ?_ | refine xILK (by with_unfolding_all rfl) ?_ | refine xIR1 ?_ | refine xIEn ?_ | refine xSl ?_ | refine xNoPart ?_ | refine xPart ?_ | refine xPartK ?_ | refine xRevS ?_ | refine xCat ?_ | refine xLenSet ?_
  | refine xNm (by with_unfolding_all rfl) ?_ | refine xGTup (by with_unfolding_all rfl) ?_ | refine xGsCons ?_ | refine xGsNil ?_ | refine xYesT ?_ | refine xDg1 ?_ | refine xDp1 ?_ | refine xDg2 ?_ | refine xDp2 ?_ | refine xPar ?_ | refine xPaK (by with_unfolding_all rfl) (by with_unfolding_all rfl) ?_ | refine xRevT ?_ | refine xRevTK ?_ | refine xDi1 ?_ | refine xDi2 ?_ | refine xITup ?_ | refine xITupK ?_ | refine xIZip ?_ | refine xIR2 ?_ | refine xIsNK (by with_unfolding_all rfl) ?_ | refine xRev2 ?_ | refine xListR ?_ | refine xSlT ?_ | refine xSlTK ?_ | refine xGt1 ?_ | refine xGt2 ?_ | refine xGtA (by with_unfolding_all rfl) ?_ | refine xGtD ?_ | refine xRep ?_ | refine xDcL ?_ | refine xDc ?_ | refine xDpl ?_ | refine xGe1 ?_ | refine xGe2 ?_ | refine xIe1 ?_ | refine xIe2 ?_ | refine xGLst (by with_unfolding_all rfl) ?_ | refine xIsB (by with_unfolding_all rfl) (by with_unfolding_all rfl) ?_ | refine xVarL (by with_unfolding_all rfl) ?_ | refine xIDc ?_ | refine xIDcK ?_ | refine xLc2 ?_ | refine xGd1 ?_ | refine xGd2 ?_ | refine xGdA (by with_unfolding_all rfl) ?_ | refine xGdD ?_ | refine xDcT ?_ | refine xClip ?_ | refine xAppD ?_ | refine xAppD11 ?_ | refine xAppD21 ?_ | refine xLi ?_ | refine xIEz ?_)

local macro_rules | `(tactic| trivial) => `(tactic| with_reducible first
  | refine xFld ?_ | refine xSetF ?_ | refine xMeth ?_ | refine xMo (by with_unfolding_all rfl) (by decide +kernel) ?_ | refine xMt ?_ | refine xMake ?_ | refine xTryM ?_)

/-! ### a hand, plainly -/
structure HS where
  card : Option Int
  sent : Option Int
  aside : Option Int
  heard : Option Int
  began : Bool
def oi : Option Int → PyData
  | none => .none
  | some i => .int i
def hN : List Str := ["card_held", "sent_away", "put_aside", "heard_last", "has_begun"]
def hO (s : HS) : T := oD "Hand" hN [oi s.card, oi s.sent, oi s.aside, oi s.heard, .bool s.began]
/-- letters -/
def ltD (w : Str) (c : Option Int) : PyData := .tuple [.str w, oi c]
def freshH (c : Int) : HS := ⟨some c, none, none, none, false⟩
def mayGo (s : HS) : Bool := s.began && (match s.card, s.heard with
  | some c, some h => decide (h < c)
  | _, _ => false)
abbrev HR := HS × (Str ⊕ T)
def lets (ds : List PyData) : T := .l (ds.map T.d)
def beginO (s : HS) : HR := if s.began = true then (s, .inl "Twice") else ({ s with began := true }, .inr (lets [ltD "mine" s.card]))
def goO (s : HS) : HR := if mayGo s = true then ({ s with sent := s.card, card := none }, .inr (lets [ltD "over" s.card])) else (s, .inl "Idle")
def noL (s : HS) : HR := (s, .inl "NoLetter")
def mineO (s : HS) (c : Int) : HR := if (match s.heard with | none => true | some h => decide (c < h)) = true then ({ s with heard := some c }, .inr (lets [])) else noL s
def overO (s : HS) (c : Int) : HR := match s.card, s.sent with
  | some l, _ => if l < c ∧ s.aside = none then ({ s with card := some c }, .inr (lets [ltD "back" (some l)])) else noL s
  | none, some l => if l < c ∧ s.aside = none then ({ s with aside := some c }, .inr (lets [])) else noL s
  | none, none => noL s
def backO (s : HS) (c : Int) : HR := match s.sent, s.heard with
  | some t, some h => if c < t ∧ c ≤ h then (match s.aside with
      | none => ({ s with heard := some t, sent := none, card := some c }, .inr (lets [ltD "mine" (some c)]))
      | some a => ({ s with heard := some t, sent := none, card := some a, aside := none }, .inr (lets [ltD "back" (some c)]))) else noL s
  | _, _ => noL s
def letD : PyData → Option (Str × Int)
  | .tuple [.str w, .int c] => if (w = "mine" ∨ w = "over" ∨ w = "back") ∧ isCardD (.int c) = true then some (w, c) else none
  | _ => none
def hearO (s : HS) (x : PyData) : HR := if s.began = true then (match letD x with
  | some (w, c) => if w = "mine" then mineO s c else if w = "over" then overO s c else backO s c
  | none => noL s) else noL s
/-- a promise of a hand's method -/
def SpH {α : Type} (args : α → List T) (pre : α → Prop) (f : HS → α → HR) : SpT := fun ts Q E => ∃ s x, ts = hO s :: args x ∧ pre x ∧
  (∀ c, (f s x).2 = .inl c → ∀ ρ, ρ[0]? = some (some (hO (f s x).1)) → E c ρ) ∧ ∀ t, (f s x).2 = .inr t → ∀ ρ, ρ[0]? = some (some (hO (f s x).1)) → Q t ρ
theorem mon_SpH {α : Type} {args : α → List T} {pre : α → Prop} {f : HS → α → HR} : MonSp (SpH args pre f) := fun ts Q Q' E E' h he ⟨s, x, e, p, q1, q2⟩ => ⟨s, x, e, p, fun c z ρ w => he _ _ (q1 c z ρ w), fun t z ρ w => h _ _ (q2 t z ρ w)⟩
def S_Hand_begin : SpT := SpH (fun _ : Unit => []) (fun _ => True) fun s _ => beginO s
def S_Hand_may_go : SpT := SpH (fun _ : Unit => []) (fun _ => True) fun s _ => (s, .inr (.d (.bool (mayGo s))))
def S_Hand_go : SpT := SpH (fun _ : Unit => []) (fun _ => True) fun s _ => goO s
def letOk (x : PyData) : Prop := ∀ w y, x = .tuple [.str w, y] → PyData.strOk w = true
def S_Hand_hear : SpT := SpH (fun x : PyData => [.d x]) letOk hearO
def S_Hand_hear_mine : SpT := SpH (fun x : Int => [.d (.int x)]) (fun _ => True) mineO
def S_Hand_hear_over : SpT := SpH (fun x : Int => [.d (.int x)]) (fun _ => True) overO
def S_Hand_hear_back : SpT := SpH (fun x : Int => [.d (.int x)]) (fun _ => True) backO
def S_Hand_card : SpT := SpH (fun _ : Unit => []) (fun _ => True) fun s _ => (s, .inr (.d (oi s.card)))
def S_Hand_sent : SpT := SpH (fun _ : Unit => []) (fun _ => True) fun s _ => (s, .inr (.d (oi s.sent)))
def S_Hand_aside : SpT := SpH (fun _ : Unit => []) (fun _ => True) fun s _ => (s, .inr (.d (oi s.aside)))
def S_Hand_heard : SpT := SpH (fun _ : Unit => []) (fun _ => True) fun s _ => (s, .inr (.d (oi s.heard)))
def S_Hand_began : SpT := SpH (fun _ : Unit => []) (fun _ => True) fun s _ => (s, .inr (.d (.bool s.began)))
theorem mS_Hand_begin : MonSp S_Hand_begin := mon_SpH
theorem mS_Hand_may_go : MonSp S_Hand_may_go := mon_SpH
theorem mS_Hand_go : MonSp S_Hand_go := mon_SpH
theorem mS_Hand_hear : MonSp S_Hand_hear := mon_SpH
theorem mS_Hand_hear_mine : MonSp S_Hand_hear_mine := mon_SpH
theorem mS_Hand_hear_over : MonSp S_Hand_hear_over := mon_SpH
theorem mS_Hand_hear_back : MonSp S_Hand_hear_back := mon_SpH
theorem mS_Hand_card : MonSp S_Hand_card := mon_SpH
theorem mS_Hand_sent : MonSp S_Hand_sent := mon_SpH
theorem mS_Hand_aside : MonSp S_Hand_aside := mon_SpH
theorem mS_Hand_heard : MonSp S_Hand_heard := mon_SpH
theorem mS_Hand_began : MonSp S_Hand_began := mon_SpH
/-- a new hand: of a card, or refused -/
def S_Hand_init : SpT := fun ts Q E => ∃ x, ts = [.o "Hand" [] [], .d x] ∧ if isCardD x = true then ∀ c, x = .int c → ∀ ρ, ρ[0]? = some (some (hO (freshH c))) → Q (.d .none) ρ else ∀ ρ, E "NoCard" ρ
theorem mS_Hand_init : MonSp S_Hand_init := fun ts Q Q' E E' h he ⟨x, e, q⟩ => ⟨x, e, by
  by_cases c : isCardD x = true
  · rw [if_pos c] at q ⊢; exact fun c e ρ w => h _ _ (q c e ρ w)
  · rw [if_neg c] at q ⊢; exact fun ρ => he _ _ (q ρ)⟩
/-- refused where it is not good -/
def S_need_letter : SpT := fun ts Q E => ∃ b, ts = [.d (.bool b)] ∧ if b = true then ∀ ρ, Q (.d .none) ρ else ∀ ρ, E "NoLetter" ρ
theorem mS_need_letter : MonSp S_need_letter := fun ts Q Q' E E' h he ⟨b, e, q⟩ => ⟨b, e, by
  cases b with
  | true => exact fun ρ => h _ _ (q ρ)
  | false => exact fun ρ => he _ _ (q ρ)⟩
def S_is_letter : SpT := SpP (fun ts => ∃ x, ts = [.d x] ∧ letOk x) fun ts t _ => ∀ x, ts = [.d x] → t = .d (.bool (letD x).isSome)
theorem mS_is_letter : MonSp S_is_letter := mon_SpP
section
variable {ρ : Rho} {Q : T → Rho → Prop} {N : Rho → Prop} {E : ExK} {r : Nat} {p : List Nat} {a b c d e y : PyData} {u : T}
theorem f0 (g : getT ρ r p = some (oD "Hand" hN [a, b, c, d, e])) (q : Q (.d a) ρ) : fldK "Hand" "card_held" (.a r p) ρ Q := xFldD (k := 0) g (by decide +kernel) rfl q
theorem f1 (g : getT ρ r p = some (oD "Hand" hN [a, b, c, d, e])) (q : Q (.d b) ρ) : fldK "Hand" "sent_away" (.a r p) ρ Q := xFldD (k := 1) g (by decide +kernel) rfl q
theorem f2 (g : getT ρ r p = some (oD "Hand" hN [a, b, c, d, e])) (q : Q (.d c) ρ) : fldK "Hand" "put_aside" (.a r p) ρ Q := xFldD (k := 2) g (by decide +kernel) rfl q
theorem f3 (g : getT ρ r p = some (oD "Hand" hN [a, b, c, d, e])) (q : Q (.d d) ρ) : fldK "Hand" "heard_last" (.a r p) ρ Q := xFldD (k := 3) g (by decide +kernel) rfl q
theorem f4 (g : getT ρ r p = some (oD "Hand" hN [a, b, c, d, e])) (q : Q (.d e) ρ) : fldK "Hand" "has_begun" (.a r p) ρ Q := xFldD (k := 4) g (by decide +kernel) rfl q
theorem pxN {a f : Str} {as : List Str} {x y : PyData} {xs : List PyData} (h : ¬ a = f) : putXs (a :: as) (x :: xs) f y = x :: putXs as xs f y := by show (if a = f then y :: xs else x :: putXs as xs f y) = _; rw [if_neg h]
theorem pxY {f : Str} {as : List Str} {x y : PyData} {xs : List PyData} : putXs (f :: as) (x :: xs) f y = y :: xs := by show (if f = f then y :: xs else x :: putXs as xs f y) = _; rw [if_pos rfl]
theorem s0 (g : getT ρ r p = some (oD "Hand" hN [a, b, c, d, e])) (h : erase u = some y) (q : N (TX.putAt ρ r p (oD "Hand" hN [y, b, c, d, e]))) : stFK "Hand" "card_held" u (.a r p) ρ N := xSetFD g h (by decide) (by decide +kernel) (by unfold hN; rw [pxY]) q
theorem s1 (g : getT ρ r p = some (oD "Hand" hN [a, b, c, d, e])) (h : erase u = some y) (q : N (TX.putAt ρ r p (oD "Hand" hN [a, y, c, d, e]))) : stFK "Hand" "sent_away" u (.a r p) ρ N := xSetFD g h (by decide) (by decide +kernel) (by unfold hN; rw [pxN (by decide +kernel), pxY]) q
theorem s2 (g : getT ρ r p = some (oD "Hand" hN [a, b, c, d, e])) (h : erase u = some y) (q : N (TX.putAt ρ r p (oD "Hand" hN [a, b, y, d, e]))) : stFK "Hand" "put_aside" u (.a r p) ρ N := xSetFD g h (by decide) (by decide +kernel) (by unfold hN; rw [pxN (by decide +kernel), pxN (by decide +kernel), pxY]) q
theorem s3 (g : getT ρ r p = some (oD "Hand" hN [a, b, c, d, e])) (h : erase u = some y) (q : N (TX.putAt ρ r p (oD "Hand" hN [a, b, c, y, e]))) : stFK "Hand" "heard_last" u (.a r p) ρ N := xSetFD g h (by decide) (by decide +kernel) (by unfold hN; rw [pxN (by decide +kernel), pxN (by decide +kernel), pxN (by decide +kernel), pxY]) q
theorem s4 (g : getT ρ r p = some (oD "Hand" hN [a, b, c, d, e])) (h : erase u = some y) (q : N (TX.putAt ρ r p (oD "Hand" hN [a, b, c, d, y]))) : stFK "Hand" "has_begun" u (.a r p) ρ N := xSetFD g h (by decide) (by decide +kernel) (by unfold hN; rw [pxN (by decide +kernel), pxN (by decide +kernel), pxN (by decide +kernel), pxN (by decide +kernel), pxY]) q
end
local macro_rules | `(tactic| trivial) => `(tactic| with_reducible first
  | refine f0 (by with_unfolding_all rfl) ?_ | refine f1 (by with_unfolding_all rfl) ?_ | refine f2 (by with_unfolding_all rfl) ?_ | refine f3 (by with_unfolding_all rfl) ?_ | refine f4 (by with_unfolding_all rfl) ?_
  | refine s0 (by with_unfolding_all rfl) (by with_unfolding_all rfl) ?_ | refine s1 (by with_unfolding_all rfl) (by with_unfolding_all rfl) ?_ | refine s2 (by with_unfolding_all rfl) (by with_unfolding_all rfl) ?_ | refine s3 (by with_unfolding_all rfl) (by with_unfolding_all rfl) ?_ | refine s4 (by with_unfolding_all rfl) (by with_unfolding_all rfl) ?_)

section
variable {ρ : Rho} {Q : T → Rho → Prop} {E : ExK} {r np : Nat} {ts : List T}
/-- a method of the hand that stands in a slot -/
theorem xCaH {α : Type} {args : α → List T} {pre : α → Prop} {f : HS → α → HR} (s : HS) (x : α) (g : ρ[r]? = some (some (hO s))) (h : argsF [0] ρ false 1 ts = some (args x)) (hl : (args x).length + 1 = np) (ha : apartB (.a r [] :: ts) = true) (p : pre x)
    (qe : ∀ c, (f s x).2 = .inl c → E c (ρ.set r (some (hO (f s x).1)))) (q : ∀ t, (f s x).2 = .inr t → noAl t = true ∧ Q t (ρ.set r (some (hO (f s x).1)))) : caK [0] np (SpH args pre f) (.a r [] :: ts) ρ Q E := by
  have ok : ∀ ρ' : Rho, ρ'[0]? = some (some (hO (f s x).1)) → ioOk [0] false ρ' = true := fun ρ' h1 => by
    unfold ioOk
    simp only [List.all_cons, List.all_nil, Bool.and_true]
    rw [h1]; rfl
  refine ⟨false, hO s :: args x, ?_, hl, ha, s, x, rfl, p, fun c ec ρ' h1 => ⟨ok ρ' h1, ?_⟩, fun t et ρ' h1 => ⟨ok ρ' h1, fun z => (nomatch z), (q t et).1, ?_⟩⟩
  · unfold argsF argF
    have : getT ρ r [] = some (hO s) := by unfold getT; rw [g]; rfl
    simp only [List.contains_cons, BEq.rfl, Bool.true_or]
    rw [this]
    simp only
    rw [if_pos (show isNode (hO s) = true from rfl), show (0 + 1 : Nat) = 1 from rfl, h]
  · rw [back_one h1 g rfl]; exact qe c ec
  · rw [back_one h1 g rfl]; exact (q t et).2
/-- what a hand only tells -/
theorem xCaT {f : HS → Unit → T} (s : HS) (g : ρ[r]? = some (some (hO s))) (hl : np = 1) (na : noAl (f s ()) = true) (q : Q (f s ()) ρ) : caK [0] np (SpH (fun _ : Unit => []) (fun _ => True) fun s x => (s, .inr (f s x))) [.a r []] ρ Q E := by
  subst hl
  refine xCaH (args := fun _ : Unit => []) (f := fun s x => (s, .inr (f s x))) s () g rfl rfl rfl trivial (fun c z => nomatch z) fun t e => ?_
  cases e
  refine ⟨na, ?_⟩
  rw [show ρ.set r (some (hO s)) = ρ from by
    have hr := (List.getElem?_eq_some_iff.mp g)
    obtain ⟨h1, h2⟩ := hr
    rw [← h2]; exact List.set_getElem_self h1]
  exact q
end
abbrev N_is_letter : List Str := ["thing"]
def w_is_letter : TwS := (wSeq (wIfS (wOr (wNot (wT (wFn kIs (wCons (wVar 0) (wCons (wC (.raw (.ty "tuple"))) wNil))))) (wOr (wT (wOp (fNe) (wFn kLen (wCons (wVar 0) wNil)) (wC (.d (.int 2))))) (wNot (wT (wFn kIs (wCons (wIx (wVar 0) (wC (.d (.int 0)))) (wCons (wC (.raw (.ty "str"))) wNil))))))) (wRet (wC (.d (.bool false)))) wNext)
    (wRet (wAndV (wOp (fInT false) (wIx (wVar 0) (wC (.d (.int 0)))) (wTup (wCons (wC (.d (.str "mine"))) (wCons (wC (.d (.str "over"))) (wCons (wC (.d (.str "back"))) wNil))))) (wCall [] 1 S_is_card (wCons (wIx (wVar 0) (wC (.d (.int 1)))) wNil)))))
abbrev N_need_letter : List Str := ["good"]
def w_need_letter : TwS := (wIfS (wNot (wT (wVar 0))) (wRaise "NoLetter") wNext)
abbrev N_Hand_init : List Str := ["self", "card"]
def w_Hand_init : TwS := (wSeq (wIfS (wNot (wT (wCall [] 1 S_is_card (wCons (wVar 1) wNil)))) (wRaise "NoCard") wNext)
    (wSeq (wSetF "Hand" "card_held" (wVar 0) (wVar 1))
    (wSeq (wSetF "Hand" "sent_away" (wVar 0) (wC (.d .none)))
    (wSeq (wSetF "Hand" "put_aside" (wVar 0) (wC (.d .none)))
    (wSeq (wSetF "Hand" "heard_last" (wVar 0) (wC (.d .none)))
    (wSetF "Hand" "has_begun" (wVar 0) (wC (.d (.bool false)))))))))
abbrev N_Hand_begin : List Str := ["self"]
def w_Hand_begin : TwS := (wSeq (wIfS (wT (wFld "Hand" "has_begun" (wVar 0))) (wRaise "Twice") wNext)
    (wSeq (wSetF "Hand" "has_begun" (wVar 0) (wC (.d (.bool true))))
    (wRet (wLst (wCons (wTup (wCons (wC (.d (.str "mine"))) (wCons (wFld "Hand" "card_held" (wVar 0)) wNil))) wNil)))))
abbrev N_Hand_may_go : List Str := ["self"]
def w_Hand_may_go : TwS := (wSeq (wIfS (wOr (wNot (wT (wFld "Hand" "has_begun" (wVar 0)))) (wOr (wT (wOp (fIsN false) (wFld "Hand" "card_held" (wVar 0)) (wC (.d .none)))) (wT (wOp (fIsN false) (wFld "Hand" "heard_last" (wVar 0)) (wC (.d .none)))))) (wRet (wC (.d (.bool false)))) wNext)
    (wRet (wOp (fB fun i j => decide (j < i)) (wFld "Hand" "card_held" (wVar 0)) (wFld "Hand" "heard_last" (wVar 0)))))
abbrev N_Hand_go : List Str := ["self"]
def w_Hand_go : TwS := (wSeq (wIfS (wNot (wT (wMeth "Hand" "may_go" [0] 1 S_Hand_may_go (wVar 0) wNil))) (wRaise "Idle") wNext)
    (wSeq (wSetF "Hand" "sent_away" (wVar 0) (wFld "Hand" "card_held" (wVar 0)))
    (wSeq (wSetF "Hand" "card_held" (wVar 0) (wC (.d .none)))
    (wRet (wLst (wCons (wTup (wCons (wC (.d (.str "over"))) (wCons (wFld "Hand" "sent_away" (wVar 0)) wNil))) wNil))))))
abbrev N_Hand_hear : List Str := ["self", "letter", "word", "card"]
def w_Hand_hear : TwS := (wSeq (wDrop (wCall [] 1 S_need_letter (wCons (wAndV (wFld "Hand" "has_begun" (wVar 0)) (wCall [] 1 S_is_letter (wCons (wVar 1) wNil))) wNil)))
    (wSeq (wAsg (wVar 1) (wGTup 2 (wGsCons (wNm 2) (wGsCons (wNm 3) wGsNil))))
    (wSeq (wIfS (wT (wOp (fEq) (wVar 2) (wC (.d (.str "mine"))))) (wRet (wMeth "Hand" "hear_mine" [0] 2 S_Hand_hear_mine (wVar 0) (wCons (wVar 3) wNil))) wNext)
    (wRet (wIf (wT (wOp (fEq) (wVar 2) (wC (.d (.str "over"))))) (wMeth "Hand" "hear_over" [0] 2 S_Hand_hear_over (wVar 0) (wCons (wVar 3) wNil)) (wMeth "Hand" "hear_back" [0] 2 S_Hand_hear_back (wVar 0) (wCons (wVar 3) wNil)))))))
abbrev N_Hand_hear_mine : List Str := ["self", "card"]
def w_Hand_hear_mine : TwS := (wSeq (wDrop (wCall [] 1 S_need_letter (wCons (wOrV (wOp (fIsN false) (wFld "Hand" "heard_last" (wVar 0)) (wC (.d .none))) (wOp (fB fun i j => decide (i < j)) (wVar 1) (wFld "Hand" "heard_last" (wVar 0)))) wNil)))
    (wSeq (wSetF "Hand" "heard_last" (wVar 0) (wVar 1))
    (wRet (wLst wNil))))
abbrev N_Hand_hear_over : List Str := ["self", "card", "least", "less"]
def w_Hand_hear_over : TwS := (wSeq (wSet 2 (wIf (wT (wOp (fIsN false) (wFld "Hand" "card_held" (wVar 0)) (wC (.d .none)))) (wFld "Hand" "sent_away" (wVar 0)) (wFld "Hand" "card_held" (wVar 0))))
    (wSeq (wDrop (wCall [] 1 S_need_letter (wCons (wAndV (wOp (fIsN true) (wVar 2) (wC (.d .none))) (wAndV (wOp (fB fun i j => decide (j < i)) (wVar 1) (wVar 2)) (wOp (fIsN false) (wFld "Hand" "put_aside" (wVar 0)) (wC (.d .none))))) wNil)))
    (wSeq (wIfS (wT (wOp (fIsN false) (wFld "Hand" "card_held" (wVar 0)) (wC (.d .none)))) (wSeq (wSetF "Hand" "put_aside" (wVar 0) (wVar 1))
    (wRet (wLst wNil))) wNext)
    (wSeq (wSet 3 (wFld "Hand" "card_held" (wVar 0)))
    (wSeq (wSetF "Hand" "card_held" (wVar 0) (wVar 1))
    (wRet (wLst (wCons (wTup (wCons (wC (.d (.str "back"))) (wCons (wVar 3) wNil))) wNil))))))))
abbrev N_Hand_hear_back : List Str := ["self", "card"]
def w_Hand_hear_back : TwS := (wSeq (wDrop (wCall [] 1 S_need_letter (wCons (wAndV (wOp (fIsN true) (wFld "Hand" "sent_away" (wVar 0)) (wC (.d .none))) (wOp (fIsN true) (wFld "Hand" "heard_last" (wVar 0)) (wC (.d .none)))) wNil)))
    (wSeq (wDrop (wCall [] 1 S_need_letter (wCons (wAndV (wOp (fB fun i j => decide (i < j)) (wVar 1) (wFld "Hand" "sent_away" (wVar 0))) (wOp (fB fun i j => decide (i ≤ j)) (wVar 1) (wFld "Hand" "heard_last" (wVar 0)))) wNil)))
    (wSeq (wSetF "Hand" "heard_last" (wVar 0) (wFld "Hand" "sent_away" (wVar 0)))
    (wSeq (wSetF "Hand" "sent_away" (wVar 0) (wC (.d .none)))
    (wSeq (wIfS (wT (wOp (fIsN false) (wFld "Hand" "put_aside" (wVar 0)) (wC (.d .none)))) (wSeq (wSetF "Hand" "card_held" (wVar 0) (wVar 1))
    (wRet (wLst (wCons (wTup (wCons (wC (.d (.str "mine"))) (wCons (wVar 1) wNil))) wNil)))) wNext)
    (wSeq (wSetF "Hand" "card_held" (wVar 0) (wFld "Hand" "put_aside" (wVar 0)))
    (wSeq (wSetF "Hand" "put_aside" (wVar 0) (wC (.d .none)))
    (wRet (wLst (wCons (wTup (wCons (wC (.d (.str "back"))) (wCons (wVar 1) wNil))) wNil))))))))))
abbrev N_Hand_card : List Str := ["self"]
def w_Hand_card : TwS := (wRet (wFld "Hand" "card_held" (wVar 0)))
abbrev N_Hand_sent : List Str := ["self"]
def w_Hand_sent : TwS := (wRet (wFld "Hand" "sent_away" (wVar 0)))
abbrev N_Hand_aside : List Str := ["self"]
def w_Hand_aside : TwS := (wRet (wFld "Hand" "put_aside" (wVar 0)))
abbrev N_Hand_heard : List Str := ["self"]
def w_Hand_heard : TwS := (wRet (wFld "Hand" "heard_last" (wVar 0)))
abbrev N_Hand_began : List Str := ["self"]
def w_Hand_began : TwS := (wRet (wFld "Hand" "has_begun" (wVar 0)))
theorem pl_Hand_card : PlD S_Hand_card w_Hand_card N_Hand_card := by
  rintro ts Q Ex ⟨s, x, rfl, _, _, q⟩
  unfold w_Hand_card
  repeat trivial
  exact ⟨rfl, q _ rfl _ rfl⟩
theorem pl_Hand_sent : PlD S_Hand_sent w_Hand_sent N_Hand_sent := by
  rintro ts Q Ex ⟨s, x, rfl, _, _, q⟩
  unfold w_Hand_sent
  repeat trivial
  exact ⟨rfl, q _ rfl _ rfl⟩
theorem pl_Hand_aside : PlD S_Hand_aside w_Hand_aside N_Hand_aside := by
  rintro ts Q Ex ⟨s, x, rfl, _, _, q⟩
  unfold w_Hand_aside
  repeat trivial
  exact ⟨rfl, q _ rfl _ rfl⟩
theorem pl_Hand_heard : PlD S_Hand_heard w_Hand_heard N_Hand_heard := by
  rintro ts Q Ex ⟨s, x, rfl, _, _, q⟩
  unfold w_Hand_heard
  repeat trivial
  exact ⟨rfl, q _ rfl _ rfl⟩
theorem pl_Hand_began : PlD S_Hand_began w_Hand_began N_Hand_began := by
  rintro ts Q Ex ⟨s, x, rfl, _, _, q⟩
  unfold w_Hand_began
  repeat trivial
  exact ⟨rfl, q _ rfl _ rfl⟩
theorem pl_Hand_may_go : PlD S_Hand_may_go w_Hand_may_go N_Hand_may_go := by
  rintro ts Q Ex ⟨s, x, rfl, _, _, q⟩
  have fin : ∀ b, b = mayGo s → ∀ ρ, ρ[0]? = some (some (hO s)) → noAl (T.d (.bool b)) = true ∧ Q (.d (.bool b)) ρ := fun b e ρ h => by subst e; exact ⟨rfl, q _ rfl _ h⟩
  obtain ⟨ca, se, as, he, bg⟩ := s
  unfold w_Hand_may_go
  cases bg with
  | false => repeat trivial
             exact fin false rfl _ rfl
  | true =>
    cases ca with
    | none => repeat trivial
              exact fin false rfl _ rfl
    | some c =>
      cases he with
      | none => repeat trivial
                exact fin false rfl _ rfl
      | some h =>
        repeat trivial
        exact fin _ rfl _ rfl
theorem pl_Hand_begin : PlD S_Hand_begin w_Hand_begin N_Hand_begin := by
  rintro ts Q Ex ⟨s, x, rfl, _, qe, q⟩
  obtain ⟨ca, se, as, he, bg⟩ := s
  unfold w_Hand_begin
  cases bg with
  | false =>
    repeat trivial
    exact ⟨rfl, q _ rfl _ rfl⟩
  | true =>
    repeat trivial
    exact qe _ rfl _ rfl
theorem pl_Hand_go : PlD S_Hand_go w_Hand_go N_Hand_go := by
  rintro ts Q Ex ⟨s, x, rfl, _, qe, q⟩
  unfold w_Hand_go
  repeat trivial
  refine xCaT s rfl rfl rfl ?_
  repeat trivial
  refine xIte (fun h => ?_) fun h => ?_
  · have h' : mayGo s = false := by simpa using h
    have e : goO s = (s, .inl "Idle") := by unfold goO; rw [if_neg (by rw [h']; exact Bool.false_ne_true)]
    exact qe _ (congrArg Prod.snd e) _ (by show _ = some (some (hO (goO s).1)); rw [e]; rfl)
  · have h' : mayGo s = true := by simpa using h
    have e : goO s = ({ s with sent := s.card, card := none }, .inr (lets [ltD "over" s.card])) := by unfold goO; rw [if_pos h']
    repeat trivial
    exact ⟨rfl, q _ (congrArg Prod.snd e) _ (by show _ = some (some (hO (goO s).1)); rw [e]; rfl)⟩
theorem pl_need_letter : PlD S_need_letter w_need_letter N_need_letter := by
  rintro ts Q Ex ⟨b, rfl, q⟩
  unfold w_need_letter
  cases b with
  | true =>
    repeat trivial
    exact q _
  | false =>
    repeat trivial
    exact q _
theorem xNeed {ρ : Rho} {Q : T → Rho → Prop} {E : ExK} {b : Bool} (h1 : b = true → Q (.d .none) ρ) (h2 : b = false → E "NoLetter" ρ) : caK [] 1 S_need_letter [.d (.bool b)] ρ Q E :=
  ⟨false, [.d (.bool b)], rfl, rfl, rfl, b, rfl, by
    cases b with
    | true => exact fun ρ' => ⟨rfl, fun z => (nomatch z), rfl, by rw [back_nil]; exact h1 rfl⟩
    | false => exact fun ρ' => ⟨rfl, by rw [back_nil]; exact h2 rfl⟩⟩
theorem letD_no {x : PyData} (h : ∀ w y, x ≠ .tuple [.str w, y]) : letD x = none := by
  unfold letD
  split
  · exact absurd rfl (h _ _)
  · rfl
theorem letD_two {w : Str} {y : PyData} : (letD (.tuple [.str w, y])).isSome = (([("mine" : Str), "over", "back"].any fun z => z == w) && isCardD y) := by
  cases y with
  | int c =>
    have el : letD (.tuple [.str w, .int c]) = if (w = "mine" ∨ w = "over" ∨ w = "back") ∧ isCardD (.int c) = true then some (w, c) else none := rfl
    rw [el]
    by_cases hw : w = "mine" ∨ w = "over" ∨ w = "back"
    · have : ([("mine" : Str), "over", "back"].any fun z => z == w) = true := by
        simp only [List.any_cons, List.any_nil, Bool.or_false, Bool.or_eq_true, beq_iff_eq]
        rcases hw with h | h | h <;> subst h <;> simp
      rw [this, Bool.true_and]
      by_cases hc : isCardD (.int c) = true
      · rw [if_pos ⟨hw, hc⟩, hc]; rfl
      · rw [if_neg (fun z => hc z.2)]; simp only [Bool.not_eq_true] at hc; rw [hc]; rfl
    · have : ([("mine" : Str), "over", "back"].any fun z => z == w) = false := by
        simp only [List.any_cons, List.any_nil, Bool.or_false, Bool.or_eq_false_iff, beq_eq_false_iff_ne]
        exact ⟨fun z => hw (.inl z.symm), fun z => hw (.inr (.inl z.symm)), fun z => hw (.inr (.inr z.symm))⟩
      rw [this, Bool.false_and, if_neg (fun z => hw z.1)]; rfl
  | _ => simp [letD, isCardD]
theorem pl_is_letter : PlD S_is_letter w_is_letter N_is_letter := by
  rintro ts Q Ex ⟨⟨x, rfl, xk⟩, q⟩
  unfold w_is_letter
  have fin : ∀ b ρ, b = (letD x).isSome → Q (.d (.bool b)) ρ := fun b ρ e => q _ _ fun y e' => by rw [← d1_inj e', e]
  cases x with
  | tuple ds =>
    repeat trivial
    refine xIte (fun h1 => ?_) fun h1 => ?_
    · repeat trivial
      exact ⟨rfl, fin _ _ (by rw [letD_no (fun w y e => by cases e; simp at h1)]; rfl)⟩
    · have l2 : ds.length = 2 := by simp at h1; omega
      match ds, l2 with
      | [u, v], _ =>
        repeat trivial
        refine xIxT rfl ?_
        cases u with
        | str w =>
          repeat trivial
          refine xIxT rfl ?_
          repeat trivial
          refine xInT (x := .str w) (ds := [.str "mine", .str "over", .str "back"]) rfl rfl (by simp [SeqAt.shaped, PyData.canLay0, PyData.depth, xk w v rfl]) (by decide +kernel) ?_
          have e0 : ([PyData.str "mine", .str "over", .str "back"].any fun z => PyData.eqv z (.str w)) = ([("mine" : Str), "over", "back"].any fun z => z == w) := by
            simp only [List.any_cons, List.any_nil, eqv_str]
          rw [e0]
          repeat trivial
          refine xIte (fun h3 => ?_) fun h3 => ?_
          · repeat trivial
            refine xIxT rfl ?_
            repeat trivial
            refine xIsCard ?_
            exact ⟨rfl, fin _ _ (by rw [letD_two]; simp at h3; simp [h3])⟩
          · exact ⟨rfl, fin _ _ (by rw [letD_two]; simp at h3; simp [h3])⟩
        | _ =>
          repeat trivial
          exact ⟨rfl, fin _ _ (by rw [letD_no (fun w y e => by cases e)]; rfl)⟩
  | _ =>
    repeat trivial
    exact ⟨rfl, fin _ _ rfl⟩
theorem xIsLetter {ρ : Rho} {Q : T → Rho → Prop} {E : ExK} {x : PyData} (xk : letOk x) (q : Q (.d (.bool (letD x).isSome)) ρ) : caK [] 1 S_is_letter [.d x] ρ Q E :=
  xCaP rfl rfl rfl ⟨x, rfl, xk⟩ fun t ρ' e => by rw [e x rfl]; exact ⟨rfl, q⟩
theorem pl_Hand_init : PlD S_Hand_init w_Hand_init N_Hand_init := by
  rintro ts Q Ex ⟨x, rfl, q⟩
  unfold w_Hand_init
  repeat trivial
  refine xIsCard ?_
  repeat trivial
  refine xIte (fun h => ?_) fun h => ?_
  · have h' : isCardD x = false := by simpa using h
    rw [if_neg (by rw [h']; exact Bool.false_ne_true)] at q
    exact q _
  · have h' : isCardD x = true := by simpa using h
    rw [if_pos h'] at q
    cases x with
    | int c =>
      repeat trivial
      refine xSetFD (ns := []) (xs := []) (by with_unfolding_all rfl) (by with_unfolding_all rfl) (by decide) rfl rfl ?_
      repeat trivial
      refine xSetFD (ns := ["card_held"]) (xs := [.int c]) (by with_unfolding_all rfl) (by with_unfolding_all rfl) (by decide) (ns' := ["card_held", "sent_away"]) (by decide +kernel) (xs' := [.int c, .none]) (by rw [pxN (by decide +kernel)]; rfl) ?_
      repeat trivial
      refine xSetFD (ns := ["card_held", "sent_away"]) (xs := [.int c, .none]) (by with_unfolding_all rfl) (by with_unfolding_all rfl) (by decide) (ns' := ["card_held", "sent_away", "put_aside"]) (by decide +kernel) (xs' := [.int c, .none, .none]) (by rw [pxN (by decide +kernel), pxN (by decide +kernel)]; rfl) ?_
      repeat trivial
      refine xSetFD (ns := ["card_held", "sent_away", "put_aside"]) (xs := [.int c, .none, .none]) (by with_unfolding_all rfl) (by with_unfolding_all rfl) (by decide) (ns' := ["card_held", "sent_away", "put_aside", "heard_last"]) (by decide +kernel) (xs' := [.int c, .none, .none, .none]) (by rw [pxN (by decide +kernel), pxN (by decide +kernel), pxN (by decide +kernel)]; rfl) ?_
      repeat trivial
      refine xSetFD (ns := ["card_held", "sent_away", "put_aside", "heard_last"]) (xs := [.int c, .none, .none, .none]) (by with_unfolding_all rfl) (by with_unfolding_all rfl) (by decide) (ns' := hN) (by decide +kernel) (xs' := [.int c, .none, .none, .none, .bool false]) (by rw [pxN (by decide +kernel), pxN (by decide +kernel), pxN (by decide +kernel), pxN (by decide +kernel)]; rfl) ?_
      exact q c rfl _ rfl
    | _ => simp [isCardD] at h'
theorem pl_Hand_hear_mine : PlD S_Hand_hear_mine w_Hand_hear_mine N_Hand_hear_mine := by
  rintro ts Q Ex ⟨s, c, rfl, _, qe, q⟩
  obtain ⟨ca, se, as, he, bg⟩ := s
  unfold w_Hand_hear_mine
  cases he with
  | none =>
    repeat trivial
    refine xNeed (fun _ => ?_) (fun z => nomatch z)
    repeat trivial
    exact ⟨rfl, q _ rfl _ rfl⟩
  | some h =>
    repeat trivial
    refine xNeed (fun z => ?_) (fun z => ?_)
    · have e : mineO ⟨ca, se, as, some h, bg⟩ c = (⟨ca, se, as, some c, bg⟩, .inr (lets [])) := by unfold mineO; rw [if_pos z]
      repeat trivial
      exact ⟨rfl, q _ (congrArg Prod.snd e) _ (by show _ = some (some (hO (mineO _ _).1)); rw [e]; rfl)⟩
    · have e : mineO ⟨ca, se, as, some h, bg⟩ c = noL ⟨ca, se, as, some h, bg⟩ := by unfold mineO; rw [if_neg (by rw [show (match some h with | none => true | some h => decide (c < h)) = decide (c < h) from rfl, z]; exact Bool.false_ne_true)]
      exact qe _ (congrArg Prod.snd e) _ (by show _ = some (some (hO (mineO _ _).1)); rw [e]; rfl)
theorem pl_Hand_hear_over : PlD S_Hand_hear_over w_Hand_hear_over N_Hand_hear_over := by
  rintro ts Q Ex ⟨s, c, rfl, _, qe, q⟩
  obtain ⟨ca, se, as, he, bg⟩ := s
  have bad : ∀ ρ, overO ⟨ca, se, as, he, bg⟩ c = noL ⟨ca, se, as, he, bg⟩ → ρ[0]? = some (some (hO ⟨ca, se, as, he, bg⟩)) → Ex "NoLetter" ρ := fun ρ e h => qe _ (congrArg Prod.snd e) _ (by show _ = some (some (hO (overO _ _).1)); rw [e]; exact h)
  have good : ∀ ρ s' t, overO ⟨ca, se, as, he, bg⟩ c = (s', .inr t) → ρ[0]? = some (some (hO s')) → Q t ρ := fun ρ s' t e h => q _ (congrArg Prod.snd e) _ (by show _ = some (some (hO (overO _ _).1)); rw [e]; exact h)
  unfold w_Hand_hear_over
  cases ca with
  | none =>
    cases se with
    | none =>
      repeat trivial
      refine xNeed (fun z => nomatch z) (fun _ => ?_)
      exact bad _ rfl rfl
    | some l =>
      cases as with
      | none =>
        repeat trivial
        refine xIte (fun h => ?_) fun h => ?_
        · repeat trivial
          refine xNeed (fun _ => ?_) (fun z => nomatch z)
          repeat trivial
          exact ⟨rfl, good _ _ _ (if_pos ⟨of_decide_eq_true h, rfl⟩) rfl⟩
        · repeat trivial
          refine xNeed (fun z => nomatch z) (fun _ => ?_)
          exact bad _ (if_neg fun z => absurd z.1 (of_decide_eq_false h)) rfl
      | some a =>
        repeat trivial
        refine xIte (fun h => ?_) fun h => ?_
        · repeat trivial
          refine xNeed (fun z => nomatch z) (fun _ => ?_)
          exact bad _ (if_neg fun z => nomatch z.2) rfl
        · repeat trivial
          refine xNeed (fun z => nomatch z) (fun _ => ?_)
          exact bad _ (if_neg fun z => nomatch z.2) rfl
  | some l =>
    cases as with
    | none =>
      repeat trivial
      refine xIte (fun h => ?_) fun h => ?_
      · repeat trivial
        refine xNeed (fun _ => ?_) (fun z => nomatch z)
        repeat trivial
        exact ⟨rfl, good _ _ _ (by unfold overO; exact if_pos ⟨of_decide_eq_true h, rfl⟩) rfl⟩
      · repeat trivial
        refine xNeed (fun z => nomatch z) (fun _ => ?_)
        exact bad _ (by unfold overO; exact if_neg fun z => absurd z.1 (of_decide_eq_false h)) rfl
    | some a =>
      repeat trivial
      refine xIte (fun h => ?_) fun h => ?_
      · repeat trivial
        refine xNeed (fun z => nomatch z) (fun _ => ?_)
        exact bad _ (by unfold overO; exact if_neg fun z => nomatch z.2) rfl
      · repeat trivial
        refine xNeed (fun z => nomatch z) (fun _ => ?_)
        exact bad _ (by unfold overO; exact if_neg fun z => nomatch z.2) rfl
theorem pl_Hand_hear_back : PlD S_Hand_hear_back w_Hand_hear_back N_Hand_hear_back := by
  rintro ts Q Ex ⟨s, c, rfl, _, qe, q⟩
  obtain ⟨ca, se, as, he, bg⟩ := s
  have bad : ∀ ρ, backO ⟨ca, se, as, he, bg⟩ c = noL ⟨ca, se, as, he, bg⟩ → ρ[0]? = some (some (hO ⟨ca, se, as, he, bg⟩)) → Ex "NoLetter" ρ := fun ρ e h => qe _ (congrArg Prod.snd e) _ (by show _ = some (some (hO (backO _ _).1)); rw [e]; exact h)
  have good : ∀ ρ s' t, backO ⟨ca, se, as, he, bg⟩ c = (s', .inr t) → ρ[0]? = some (some (hO s')) → Q t ρ := fun ρ s' t e h => q _ (congrArg Prod.snd e) _ (by show _ = some (some (hO (backO _ _).1)); rw [e]; exact h)
  unfold w_Hand_hear_back
  cases se with
  | none =>
    repeat trivial
    refine xNeed (fun z => nomatch z) (fun _ => ?_)
    exact bad _ rfl rfl
  | some t =>
    cases he with
    | none =>
      repeat trivial
      refine xNeed (fun z => nomatch z) (fun _ => ?_)
      exact bad _ rfl rfl
    | some h0 =>
      repeat trivial
      refine xNeed (fun _ => ?_) (fun z => nomatch z)
      repeat trivial
      refine xIte (fun h => ?_) fun h => ?_
      · have l1 := of_decide_eq_true h
        repeat trivial
        refine xNeed (fun h2 => ?_) (fun h2 => ?_)
        · have l2 := of_decide_eq_true h2
          cases as with
          | none =>
            repeat trivial
            exact ⟨rfl, good _ _ _ (if_pos ⟨l1, l2⟩) rfl⟩
          | some a =>
            repeat trivial
            exact ⟨rfl, good _ _ _ (if_pos ⟨l1, l2⟩) rfl⟩
        · exact bad _ (if_neg fun z => absurd z.2 (of_decide_eq_false h2)) rfl
      · repeat trivial
        refine xNeed (fun z => nomatch z) (fun _ => ?_)
        exact bad _ (if_neg fun z => absurd z.1 (of_decide_eq_false h)) rfl
theorem letD_some {x : PyData} {w : Str} {c : Int} (h : letD x = some (w, c)) : x = .tuple [.str w, .int c] ∧ (w = "mine" ∨ w = "over" ∨ w = "back") ∧ isCardD (.int c) = true := by
  unfold letD at h
  split at h
  · split at h
    · rename_i h2
      cases h
      exact ⟨rfl, h2⟩
    · cases h
  · cases h
theorem na_mine {s : HS} {c : Int} {t : T} (h : (mineO s c).2 = .inr t) : noAl t = true := by
  unfold mineO noL at h
  by_cases z : (match s.heard with | none => true | some h => decide (c < h)) = true
  · rw [if_pos z] at h; cases h; rfl
  · rw [if_neg z] at h; cases h
theorem na_over {s : HS} {c : Int} {t : T} (h : (overO s c).2 = .inr t) : noAl t = true := by
  unfold overO noL at h
  split at h
  · split at h
    · cases h; rfl
    · cases h
  · split at h
    · cases h; rfl
    · cases h
  · cases h
theorem na_back {s : HS} {c : Int} {t : T} (h : (backO s c).2 = .inr t) : noAl t = true := by
  unfold backO noL at h
  split at h
  · split at h
    · split at h
      · cases h; rfl
      · cases h; rfl
    · cases h
  · cases h
theorem na_hear {s : HS} {x : PyData} {t : T} (h : (hearO s x).2 = .inr t) : noAl t = true := by
  unfold hearO at h
  by_cases b : s.began = true
  · rw [if_pos b] at h
    split at h
    · split at h
      · exact na_mine h
      · split at h
        · exact na_over h
        · exact na_back h
    · cases h
  · rw [if_neg b] at h; cases h
theorem pl_Hand_hear : PlD S_Hand_hear w_Hand_hear N_Hand_hear := by
  rintro ts Q Ex ⟨s, x, rfl, xk, qe, q⟩
  unfold w_Hand_hear
  have bad : ∀ ρ, hearO s x = noL s → ρ[0]? = some (some (hO s)) → Ex "NoLetter" ρ := fun ρ e h => qe _ (congrArg Prod.snd e) _ (by rw [e]; exact h)
  cases bg : s.began with
  | false =>
    repeat trivial
    rw [bg]
    repeat trivial
    refine xNeed (fun z => nomatch z) (fun _ => ?_)
    exact bad _ (by unfold hearO; rw [bg]; rfl) rfl
  | true =>
    repeat trivial
    rw [bg]
    repeat trivial
    refine xIsLetter xk ?_
    repeat trivial
    refine xNeed (fun z => ?_) (fun z => ?_)
    · cases e : letD x with
      | none => rw [e] at z; cases z
      | some wc =>
        obtain ⟨w, c⟩ := wc
        obtain ⟨rfl, hw, hc⟩ := letD_some e
        have eh : hearO s (.tuple [.str w, .int c]) = if w = "mine" then mineO s c else if w = "over" then overO s c else backO s c := by unfold hearO; rw [bg, if_pos rfl, e]
        rw [eh] at qe q
        repeat trivial
        refine xEqS rfl rfl ?_
        repeat trivial
        refine xIte (fun h => ?_) fun h => ?_
        · have hm : w = "mine" := by simpa using h
          rw [if_pos hm] at qe q
          repeat trivial
          exact xCaH s c rfl rfl rfl rfl True.intro (fun c' e' => qe c' e' _ rfl) (fun t e' => ⟨na_mine e', na_mine e', q t e' _ rfl⟩)
        · have hm : ¬ w = "mine" := by simpa using h
          rw [if_neg hm] at qe q
          repeat trivial
          refine xEqS rfl rfl ?_
          repeat trivial
          refine xIte (fun h2 => ?_) fun h2 => ?_
          · have ho : w = "over" := by simpa using h2
            rw [if_pos ho] at qe q
            repeat trivial
            exact xCaH s c rfl rfl rfl rfl True.intro (fun c' e' => qe c' e' _ rfl) (fun t e' => ⟨na_over e', na_over e', q t e' _ rfl⟩)
          · have ho : ¬ w = "over" := by simpa using h2
            rw [if_neg ho] at qe q
            repeat trivial
            exact xCaH s c rfl rfl rfl rfl True.intro (fun c' e' => qe c' e' _ rfl) (fun t e' => ⟨na_back e', na_back e', q t e' _ rfl⟩)
    · exact bad _ (by unfold hearO; rw [bg, if_pos rfl]; cases e : letD x with | none => rfl | some y => rw [e] at z; cases z) rfl
end LW.H

namespace LW.H
open PySem PySem.Spec L2 TX

local macro_rules | `(tactic| trivial) => `(tactic| with_reducible refine xIEz ?_)
local macro_rules | `(tactic| trivial) => `(tactic| with_reducible refine xLi ?_)
local macro_rules | `(tactic| trivial) => `(tactic| with_reducible refine xAppD21 ?_)
local macro_rules | `(tactic| trivial) => `(tactic| with_reducible refine xAppD11 ?_)
local macro_rules | `(tactic| trivial) => `(tactic| with_reducible refine xAppD ?_)
local macro_rules | `(tactic| trivial) => `(tactic| with_reducible refine xClip ?_)
local macro_rules | `(tactic| trivial) => `(tactic| with_reducible refine xDcT ?_)
local macro_rules | `(tactic| trivial) => `(tactic| with_reducible refine xGdD ?_)
local macro_rules | `(tactic| trivial) => `(tactic| with_reducible refine xGdA (by with_unfolding_all rfl) ?_)
local macro_rules | `(tactic| trivial) => `(tactic| with_reducible refine xGd2 ?_)
local macro_rules | `(tactic| trivial) => `(tactic| with_reducible refine xGd1 ?_)
local macro_rules | `(tactic| trivial) => `(tactic| with_reducible refine xLc2 ?_)
local macro_rules | `(tactic| trivial) => `(tactic| with_reducible refine xIDcK ?_)
local macro_rules | `(tactic| trivial) => `(tactic| with_reducible refine xIDc ?_)
local macro_rules | `(tactic| trivial) => `(tactic| with_reducible refine xVarL (by with_unfolding_all rfl) ?_)
local macro_rules | `(tactic| trivial) => `(tactic| with_reducible refine xIsB (by with_unfolding_all rfl) (by with_unfolding_all rfl) ?_)
local macro_rules | `(tactic| trivial) => `(tactic| with_reducible refine xGLst (by with_unfolding_all rfl) ?_)
local macro_rules | `(tactic| trivial) => `(tactic| with_reducible refine xIe2 ?_)
local macro_rules | `(tactic| trivial) => `(tactic| with_reducible refine xIe1 ?_)
local macro_rules | `(tactic| trivial) => `(tactic| with_reducible refine xGe2 ?_)
local macro_rules | `(tactic| trivial) => `(tactic| with_reducible refine xGe1 ?_)
local macro_rules | `(tactic| trivial) => `(tactic| with_reducible refine xDpl ?_)
local macro_rules | `(tactic| trivial) => `(tactic| with_reducible refine xDc ?_)
local macro_rules | `(tactic| trivial) => `(tactic| with_reducible refine xDcL ?_)
local macro_rules | `(tactic| trivial) => `(tactic| with_reducible refine xRep ?_)
local macro_rules | `(tactic| trivial) => `(tactic| with_reducible refine xGtD ?_)
local macro_rules | `(tactic| trivial) => `(tactic| with_reducible refine xGtA (by with_unfolding_all rfl) ?_)
local macro_rules | `(tactic| trivial) => `(tactic| with_reducible refine xGt2 ?_)
local macro_rules | `(tactic| trivial) => `(tactic| with_reducible refine xGt1 ?_)
local macro_rules | `(tactic| trivial) => `(tactic| with_reducible refine xSlTK ?_)
local macro_rules | `(tactic| trivial) => `(tactic| with_reducible refine xSlT ?_)
local macro_rules | `(tactic| trivial) => `(tactic| with_reducible refine xListR ?_)
local macro_rules | `(tactic| trivial) => `(tactic| with_reducible refine xRev2 ?_)
local macro_rules | `(tactic| trivial) => `(tactic| with_reducible refine xIsNK (by with_unfolding_all rfl) ?_)
local macro_rules | `(tactic| trivial) => `(tactic| with_reducible refine xIR2 ?_)
local macro_rules | `(tactic| trivial) => `(tactic| with_reducible refine xIZip ?_)
local macro_rules | `(tactic| trivial) => `(tactic| with_reducible refine xITupK ?_)
local macro_rules | `(tactic| trivial) => `(tactic| with_reducible refine xITup ?_)
local macro_rules | `(tactic| trivial) => `(tactic| with_reducible refine xDi2 ?_)
local macro_rules | `(tactic| trivial) => `(tactic| with_reducible refine xDi1 ?_)
local macro_rules | `(tactic| trivial) => `(tactic| with_reducible refine xRevTK ?_)
local macro_rules | `(tactic| trivial) => `(tactic| with_reducible refine xRevT ?_)
local macro_rules | `(tactic| trivial) => `(tactic| with_reducible refine xPaK (by with_unfolding_all rfl) (by with_unfolding_all rfl) ?_)
local macro_rules | `(tactic| trivial) => `(tactic| with_reducible refine xPar ?_)
local macro_rules | `(tactic| trivial) => `(tactic| with_reducible refine xDp2 ?_)
local macro_rules | `(tactic| trivial) => `(tactic| with_reducible refine xDg2 ?_)
local macro_rules | `(tactic| trivial) => `(tactic| with_reducible refine xDp1 ?_)
local macro_rules | `(tactic| trivial) => `(tactic| with_reducible refine xDg1 ?_)
local macro_rules | `(tactic| trivial) => `(tactic| with_reducible refine xYesT ?_)
local macro_rules | `(tactic| trivial) => `(tactic| with_reducible refine xGsNil ?_)
local macro_rules | `(tactic| trivial) => `(tactic| with_reducible refine xGsCons ?_)
local macro_rules | `(tactic| trivial) => `(tactic| with_reducible refine xGTup (by with_unfolding_all rfl) ?_)
local macro_rules | `(tactic| trivial) => `(tactic| with_reducible refine xNm (by with_unfolding_all rfl) ?_)
local macro_rules | `(tactic| trivial) => `(tactic| with_reducible refine xLenSet ?_)
local macro_rules | `(tactic| trivial) => `(tactic| with_reducible refine xCat ?_)
local macro_rules | `(tactic| trivial) => `(tactic| with_reducible refine xRevS ?_)
local macro_rules | `(tactic| trivial) => `(tactic| with_reducible refine xPartK ?_)
local macro_rules | `(tactic| trivial) => `(tactic| with_reducible refine xPart ?_)
local macro_rules | `(tactic| trivial) => `(tactic| with_reducible refine xNoPart ?_)
local macro_rules | `(tactic| trivial) => `(tactic| with_reducible refine xSl ?_)
local macro_rules | `(tactic| trivial) => `(tactic| with_reducible refine xIEn ?_)
local macro_rules | `(tactic| trivial) => `(tactic| with_reducible refine xIR1 ?_)
local macro_rules | `(tactic| trivial) => `(tactic| with_reducible refine xILK (by with_unfolding_all rfl) ?_)
local macro_rules | `(tactic| trivial) => `(tactic| with_reducible refine xILst ?_)
local macro_rules | `(tactic| trivial) => `(tactic| with_reducible refine xFor ?_)
local macro_rules | `(tactic| trivial) => `(tactic| with_reducible refine xLc ?_)
local macro_rules | `(tactic| trivial) => `(tactic| with_reducible refine xMD ?_)
local macro_rules | `(tactic| trivial) => `(tactic| with_reducible refine xMA (by with_unfolding_all rfl) ?_)
local macro_rules | `(tactic| trivial) => `(tactic| with_reducible refine xM ?_)
local macro_rules | `(tactic| trivial) => `(tactic| with_reducible refine xCall ?_)
local macro_rules | `(tactic| trivial) => `(tactic| with_reducible refine xIs (by with_unfolding_all rfl) (by with_unfolding_all rfl) ?_)
local macro_rules | `(tactic| trivial) => `(tactic| with_reducible refine xNo (by with_unfolding_all rfl) ?_)
local macro_rules | `(tactic| trivial) => `(tactic| with_reducible refine xYes (by with_unfolding_all rfl) ?_)
local macro_rules | `(tactic| trivial) => `(tactic| with_reducible refine xMin (by with_unfolding_all rfl) (by with_unfolding_all rfl) ?_)
local macro_rules | `(tactic| trivial) => `(tactic| with_reducible refine xMax (by with_unfolding_all rfl) (by with_unfolding_all rfl) ?_)
local macro_rules | `(tactic| trivial) => `(tactic| with_reducible refine xLen (by with_unfolding_all rfl) ?_)
local macro_rules | `(tactic| trivial) => `(tactic| with_reducible refine xTupK (by with_unfolding_all rfl) ?_)
local macro_rules | `(tactic| trivial) => `(tactic| with_reducible refine xTup ?_)
local macro_rules | `(tactic| trivial) => `(tactic| with_reducible refine xLstK (by with_unfolding_all rfl) ?_)
local macro_rules | `(tactic| trivial) => `(tactic| with_reducible refine xLst ?_)
local macro_rules | `(tactic| trivial) => `(tactic| with_reducible refine xFn ?_)
local macro_rules | `(tactic| trivial) => `(tactic| with_reducible refine xCons ?_)
local macro_rules | `(tactic| trivial) => `(tactic| with_reducible refine xNil ?_)
local macro_rules | `(tactic| trivial) => `(tactic| with_reducible refine xIxA (by with_unfolding_all rfl) (by with_unfolding_all rfl) (by with_unfolding_all rfl) ?_)
local macro_rules | `(tactic| trivial) => `(tactic| with_reducible refine xIx ?_)
local macro_rules | `(tactic| trivial) => `(tactic| with_reducible refine xCh2 (by with_unfolding_all rfl) (by with_unfolding_all rfl) ?_)
local macro_rules | `(tactic| trivial) => `(tactic| with_reducible refine xCh1 (by with_unfolding_all rfl) (by with_unfolding_all rfl) ?_)
local macro_rules | `(tactic| trivial) => `(tactic| with_reducible refine xCh ?_)
local macro_rules | `(tactic| trivial) => `(tactic| with_reducible refine xIf ?_)
local macro_rules | `(tactic| trivial) => `(tactic| with_reducible refine xBK ?_)
local macro_rules | `(tactic| trivial) => `(tactic| with_reducible refine xNotV ?_)
local macro_rules | `(tactic| trivial) => `(tactic| with_reducible refine xOrV ?_)
local macro_rules | `(tactic| trivial) => `(tactic| with_reducible refine xAndV ?_)
local macro_rules | `(tactic| trivial) => `(tactic| with_reducible refine xOr ?_)
local macro_rules | `(tactic| trivial) => `(tactic| with_reducible refine xAnd ?_)
local macro_rules | `(tactic| trivial) => `(tactic| with_reducible refine xNot ?_)
local macro_rules | `(tactic| trivial) => `(tactic| with_reducible refine xTK ?_)
local macro_rules | `(tactic| trivial) => `(tactic| with_reducible refine xT ?_)
local macro_rules | `(tactic| trivial) => `(tactic| with_reducible refine xIc (by with_unfolding_all rfl) (by with_unfolding_all rfl) (by with_unfolding_all first | omega | exact ⟨by decide, by decide +kernel⟩) ?_)
local macro_rules | `(tactic| trivial) => `(tactic| with_reducible refine xNegK ?_)
local macro_rules | `(tactic| trivial) => `(tactic| with_reducible refine xNeg ?_)
local macro_rules | `(tactic| trivial) => `(tactic| with_reducible refine xNeI (by with_unfolding_all rfl) (by with_unfolding_all rfl) ?_)
local macro_rules | `(tactic| trivial) => `(tactic| with_reducible refine xEqI (by with_unfolding_all rfl) (by with_unfolding_all rfl) ?_)
local macro_rules | `(tactic| trivial) => `(tactic| with_reducible refine xB (by with_unfolding_all rfl) (by with_unfolding_all rfl) ?_)
local macro_rules | `(tactic| trivial) => `(tactic| with_reducible refine xI (by with_unfolding_all rfl) (by with_unfolding_all rfl) ?_)
local macro_rules | `(tactic| trivial) => `(tactic| with_reducible refine xOp ?_)
local macro_rules | `(tactic| trivial) => `(tactic| with_reducible refine xC ?_)
local macro_rules | `(tactic| trivial) => `(tactic| with_reducible refine xVarN (by with_unfolding_all rfl) (by with_unfolding_all rfl) ?_)
local macro_rules | `(tactic| trivial) => `(tactic| with_reducible refine xVarZ (by with_unfolding_all rfl) ?_)
local macro_rules | `(tactic| trivial) => `(tactic| with_reducible refine xVarD (by with_unfolding_all rfl) ?_)
local macro_rules | `(tactic| trivial) => `(tactic| with_reducible refine xSbK (by with_unfolding_all rfl) (by with_unfolding_all rfl) (by with_unfolding_all rfl) ?_)
local macro_rules | `(tactic| trivial) => `(tactic| with_reducible refine xSub ?_)
local macro_rules | `(tactic| trivial) => `(tactic| with_reducible refine xAsK (by with_unfolding_all rfl) ?_)
local macro_rules | `(tactic| trivial) => `(tactic| with_reducible refine xAsg ?_)
local macro_rules | `(tactic| trivial) => `(tactic| with_reducible refine xRet ?_)
local macro_rules | `(tactic| trivial) => `(tactic| with_reducible refine xDrop ?_)
local macro_rules | `(tactic| trivial) => `(tactic| with_reducible refine xIfS ?_)
local macro_rules | `(tactic| trivial) => `(tactic| with_reducible refine xNext ?_)
local macro_rules | `(tactic| trivial) => `(tactic| with_reducible refine xSetK (by with_unfolding_all rfl) ?_)
local macro_rules | `(tactic| trivial) => `(tactic| with_reducible refine xSet ?_)
local macro_rules | `(tactic| trivial) => `(tactic| with_reducible refine xSeq ?_)

local macro_rules | `(tactic| trivial) => `(tactic| with_reducible refine xPa3K (by with_unfolding_all rfl) (by with_unfolding_all rfl) (by with_unfolding_all rfl) ?_)
local macro_rules | `(tactic| trivial) => `(tactic| with_reducible refine xPar3 ?_)
local macro_rules | `(tactic| trivial) => `(tactic| with_reducible refine xSetP ?_)
local macro_rules | `(tactic| trivial) => `(tactic| with_reducible refine xAslK (by with_unfolding_all rfl) (by with_unfolding_all rfl) ?_)
local macro_rules | `(tactic| trivial) => `(tactic| with_reducible refine xAsgL ?_)
local macro_rules | `(tactic| trivial) => `(tactic| with_reducible refine xTryM ?_)
local macro_rules | `(tactic| trivial) => `(tactic| with_reducible refine xMake ?_)
local macro_rules | `(tactic| trivial) => `(tactic| with_reducible refine xMt ?_)
local macro_rules | `(tactic| trivial) => `(tactic| with_reducible refine xMo (by with_unfolding_all rfl) (by decide +kernel) ?_)
local macro_rules | `(tactic| trivial) => `(tactic| with_reducible refine xMeth ?_)
local macro_rules | `(tactic| trivial) => `(tactic| with_reducible refine xSetF ?_)
local macro_rules | `(tactic| trivial) => `(tactic| with_reducible refine xFld ?_)

section
variable {ρ : Rho} {Q : T → Rho → Prop} {E : ExK} {D : EndsT} {c x : Str} {t : TwS} {r : List (Str × TwS)}
theorem xHdY (h : subX x c = true) (q : t { D with ex := fun _ _ => False } ρ) : hdlK D ((c, t) :: r) x ρ := by unfold hdlK; rw [if_pos h]; exact q
theorem xMkH {x : PyData} (h1 : ∀ c, x = .int c → isCardD x = true → Q (hO (freshH c)) ρ) (h2 : isCardD x = false → E "NoCard" ρ) : mkK "Hand" 1 S_Hand_init [.d x] ρ Q E := by
  refine ⟨false, [.d x], rfl, rfl, rfl, x, rfl, ?_⟩
  by_cases h : isCardD x = true
  · rw [if_pos h]
    exact fun c e ρ' h0 => ⟨rfl, _, h0, rfl, fun z => (nomatch z), h1 c e h⟩
  · rw [if_neg h]
    exact fun ρ' => h2 (by simpa using h)
end
theorem xSeqR {sa sb : TwS} {D : EndsT} {ρ : Rho} (P : Rho → Prop) (h2 : ∀ ρ', P ρ' → sb D ρ') (h : ∀ N : Rho → Prop, (∀ ρ', P ρ' → N ρ') → sa { D with nx := N } ρ) : wSeq sa sb D ρ := h _ h2
/-! ### what it tells -/
def toldL (s : HS) : List PyData := [oi s.card, oi s.sent, oi s.aside, oi s.heard, .bool s.began]
def S_law_told : SpT := SpH (fun _ : Unit => []) (fun _ => True) fun s _ => (s, .inr (lets (toldL s)))
theorem mS_law_told : MonSp S_law_told := mon_SpH
abbrev N_law_told : List Str := ["_law_hand"]
def w_law_told : TwS := (wRet (wLst (wCons (wMeth "Hand" "card" [0] 1 S_Hand_card (wVar 0) wNil) (wCons (wMeth "Hand" "sent" [0] 1 S_Hand_sent (wVar 0) wNil) (wCons (wMeth "Hand" "aside" [0] 1 S_Hand_aside (wVar 0) wNil) (wCons (wMeth "Hand" "heard" [0] 1 S_Hand_heard (wVar 0) wNil) (wCons (wMeth "Hand" "began" [0] 1 S_Hand_began (wVar 0) wNil) wNil)))))))
theorem pl_law_told : PlD S_law_told w_law_told N_law_told := by
  rintro ts Q Ex ⟨s, x, rfl, _, _, q⟩
  unfold w_law_told
  repeat trivial
  refine xCaT s rfl rfl rfl ?_
  repeat trivial
  refine xCaT s rfl rfl rfl ?_
  repeat trivial
  refine xCaT s rfl rfl rfl ?_
  repeat trivial
  refine xCaT s rfl rfl rfl ?_
  repeat trivial
  refine xCaT s rfl rfl rfl ?_
  repeat trivial
  exact ⟨rfl, q _ rfl _ rfl⟩
theorem xTold {ρ : Rho} {Q : T → Rho → Prop} {E : ExK} {r : Nat} (s : HS) (g : ρ[r]? = some (some (hO s))) (q : Q (lets (toldL s)) ρ) : caK [0] 1 S_law_told [.a r []] ρ Q E := xCaT s g rfl rfl q
theorem Rpr.oi {o : Option Int} (h : ∀ i, o = some i → 0 ≤ i ∧ i ≤ 999999999) : Rpr (LW.H.oi o) 41 1 := by
  cases o with
  | none => exact .none
  | some i => have := h i rfl; exact .int (by omega)
theorem Rpr.told {s : HS} (h1 : ∀ i, s.card = some i → 0 ≤ i ∧ i ≤ 999999999) (h2 : ∀ i, s.sent = some i → 0 ≤ i ∧ i ≤ 999999999) (h3 : ∀ i, s.aside = some i → 0 ≤ i ∧ i ≤ 999999999) (h4 : ∀ i, s.heard = some i → 0 ≤ i ∧ i ≤ 999999999) : Rpr (.list (toldL s)) 210 2 :=
  .list (.cons (Rpr.oi h1) (.cons (Rpr.oi h2) (.cons (Rpr.oi h3) (.cons (Rpr.oi h4) (.cons .bool .nil)))))
theorem vw_lets {ρ : Rho} {ds : List PyData} : vw ρ (lets ds) = some (.list ds) := vw_l
def CardI (c : Int) : Prop := 0 ≤ c ∧ c ≤ 999999999
theorem rprLt {w : Str} {c : Option Int} (hw : Rpr (.str w) 41 1) (h : ∀ i, c = some i → CardI i) : Rpr (ltD w c) 84 2 := .tuple (.cons hw (.cons (Rpr.oi h) .nil))
theorem eqS_self (x : Str) : (x == x) = true := by simp
theorem xPot {ρ : Rho} {Q : T → Rho → Prop} {E : ExK} {ns : List Int} {k : Int} (h0 : 0 ≤ k) (h1 : k ≤ 1000) (q : ∀ a b, Pot a b 0 (2 ^ 40) → Q (potT a b 0) ρ) : caK [] 2 S_law_pot [.fz ns, .d (.int k)] ρ Q E :=
  xCaP rfl rfl rfl ⟨ns, k, rfl, h0, h1⟩ fun t ρ' ⟨a, b, e, hp⟩ => by subst e; exact ⟨rfl, q a b hp⟩
def S_law : SpT := SpP (fun ts => ∃ ns : List Int, ts = [.fz ns] ∧ ns.length ≤ 63) fun _ t _ => t = .d (.bool true)
theorem mS_law : MonSp S_law := mon_SpP
theorem all_true : ∀ ns : List Int, ns.length ≤ 63 → S_law [.fz ns] (fun t _ => t = .d (.bool true)) fun _ _ => False := fun ns h => ⟨⟨ns, rfl, h⟩, fun _ _ e => e⟩
end LW.H

namespace LW.H
open PySem PySem.Spec L2 TX

local macro_rules | `(tactic| trivial) => `(tactic| with_reducible refine xIEz ?_)
local macro_rules | `(tactic| trivial) => `(tactic| with_reducible refine xLi ?_)
local macro_rules | `(tactic| trivial) => `(tactic| with_reducible refine xAppD21 ?_)
local macro_rules | `(tactic| trivial) => `(tactic| with_reducible refine xAppD11 ?_)
local macro_rules | `(tactic| trivial) => `(tactic| with_reducible refine xAppD ?_)
local macro_rules | `(tactic| trivial) => `(tactic| with_reducible refine xClip ?_)
local macro_rules | `(tactic| trivial) => `(tactic| with_reducible refine xDcT ?_)
local macro_rules | `(tactic| trivial) => `(tactic| with_reducible refine xGdD ?_)
local macro_rules | `(tactic| trivial) => `(tactic| with_reducible refine xGdA (by with_unfolding_all rfl) ?_)
local macro_rules | `(tactic| trivial) => `(tactic| with_reducible refine xGd2 ?_)
local macro_rules | `(tactic| trivial) => `(tactic| with_reducible refine xGd1 ?_)
local macro_rules | `(tactic| trivial) => `(tactic| with_reducible refine xLc2 ?_)
local macro_rules | `(tactic| trivial) => `(tactic| with_reducible refine xIDcK ?_)
local macro_rules | `(tactic| trivial) => `(tactic| with_reducible refine xIDc ?_)
local macro_rules | `(tactic| trivial) => `(tactic| with_reducible refine xVarL (by with_unfolding_all rfl) ?_)
local macro_rules | `(tactic| trivial) => `(tactic| with_reducible refine xIsB (by with_unfolding_all rfl) (by with_unfolding_all rfl) ?_)
local macro_rules | `(tactic| trivial) => `(tactic| with_reducible refine xGLst (by with_unfolding_all rfl) ?_)
local macro_rules | `(tactic| trivial) => `(tactic| with_reducible refine xIe2 ?_)
local macro_rules | `(tactic| trivial) => `(tactic| with_reducible refine xIe1 ?_)
local macro_rules | `(tactic| trivial) => `(tactic| with_reducible refine xGe2 ?_)
local macro_rules | `(tactic| trivial) => `(tactic| with_reducible refine xGe1 ?_)
local macro_rules | `(tactic| trivial) => `(tactic| with_reducible refine xDpl ?_)
local macro_rules | `(tactic| trivial) => `(tactic| with_reducible refine xDc ?_)
local macro_rules | `(tactic| trivial) => `(tactic| with_reducible refine xDcL ?_)
local macro_rules | `(tactic| trivial) => `(tactic| with_reducible refine xRep ?_)
local macro_rules | `(tactic| trivial) => `(tactic| with_reducible refine xGtD ?_)
local macro_rules | `(tactic| trivial) => `(tactic| with_reducible refine xGtA (by with_unfolding_all rfl) ?_)
local macro_rules | `(tactic| trivial) => `(tactic| with_reducible refine xGt2 ?_)
local macro_rules | `(tactic| trivial) => `(tactic| with_reducible refine xGt1 ?_)
local macro_rules | `(tactic| trivial) => `(tactic| with_reducible refine xSlTK ?_)
local macro_rules | `(tactic| trivial) => `(tactic| with_reducible refine xSlT ?_)
local macro_rules | `(tactic| trivial) => `(tactic| with_reducible refine xListR ?_)
local macro_rules | `(tactic| trivial) => `(tactic| with_reducible refine xRev2 ?_)
local macro_rules | `(tactic| trivial) => `(tactic| with_reducible refine xIsNK (by with_unfolding_all rfl) ?_)
local macro_rules | `(tactic| trivial) => `(tactic| with_reducible refine xIR2 ?_)
local macro_rules | `(tactic| trivial) => `(tactic| with_reducible refine xIZip ?_)
local macro_rules | `(tactic| trivial) => `(tactic| with_reducible refine xITupK ?_)
local macro_rules | `(tactic| trivial) => `(tactic| with_reducible refine xITup ?_)
local macro_rules | `(tactic| trivial) => `(tactic| with_reducible refine xDi2 ?_)
local macro_rules | `(tactic| trivial) => `(tactic| with_reducible refine xDi1 ?_)
local macro_rules | `(tactic| trivial) => `(tactic| with_reducible refine xRevTK ?_)
local macro_rules | `(tactic| trivial) => `(tactic| with_reducible refine xRevT ?_)
local macro_rules | `(tactic| trivial) => `(tactic| with_reducible refine xPaK (by with_unfolding_all rfl) (by with_unfolding_all rfl) ?_)
local macro_rules | `(tactic| trivial) => `(tactic| with_reducible refine xPar ?_)
local macro_rules | `(tactic| trivial) => `(tactic| with_reducible refine xDp2 ?_)
local macro_rules | `(tactic| trivial) => `(tactic| with_reducible refine xDg2 ?_)
local macro_rules | `(tactic| trivial) => `(tactic| with_reducible refine xDp1 ?_)
local macro_rules | `(tactic| trivial) => `(tactic| with_reducible refine xDg1 ?_)
local macro_rules | `(tactic| trivial) => `(tactic| with_reducible refine xYesT ?_)
local macro_rules | `(tactic| trivial) => `(tactic| with_reducible refine xGsNil ?_)
local macro_rules | `(tactic| trivial) => `(tactic| with_reducible refine xGsCons ?_)
local macro_rules | `(tactic| trivial) => `(tactic| with_reducible refine xGTup (by with_unfolding_all rfl) ?_)
local macro_rules | `(tactic| trivial) => `(tactic| with_reducible refine xNm (by with_unfolding_all rfl) ?_)
local macro_rules | `(tactic| trivial) => `(tactic| with_reducible refine xLenSet ?_)
local macro_rules | `(tactic| trivial) => `(tactic| with_reducible refine xCat ?_)
local macro_rules | `(tactic| trivial) => `(tactic| with_reducible refine xRevS ?_)
local macro_rules | `(tactic| trivial) => `(tactic| with_reducible refine xPartK ?_)
local macro_rules | `(tactic| trivial) => `(tactic| with_reducible refine xPart ?_)
local macro_rules | `(tactic| trivial) => `(tactic| with_reducible refine xNoPart ?_)
local macro_rules | `(tactic| trivial) => `(tactic| with_reducible refine xSl ?_)
local macro_rules | `(tactic| trivial) => `(tactic| with_reducible refine xIEn ?_)
local macro_rules | `(tactic| trivial) => `(tactic| with_reducible refine xIR1 ?_)
local macro_rules | `(tactic| trivial) => `(tactic| with_reducible refine xILK (by with_unfolding_all rfl) ?_)
local macro_rules | `(tactic| trivial) => `(tactic| with_reducible refine xILst ?_)
local macro_rules | `(tactic| trivial) => `(tactic| with_reducible refine xFor ?_)
local macro_rules | `(tactic| trivial) => `(tactic| with_reducible refine xLc ?_)
local macro_rules | `(tactic| trivial) => `(tactic| with_reducible refine xMD ?_)
local macro_rules | `(tactic| trivial) => `(tactic| with_reducible refine xMA (by with_unfolding_all rfl) ?_)
local macro_rules | `(tactic| trivial) => `(tactic| with_reducible refine xM ?_)
local macro_rules | `(tactic| trivial) => `(tactic| with_reducible refine xCall ?_)
local macro_rules | `(tactic| trivial) => `(tactic| with_reducible refine xIs (by with_unfolding_all rfl) (by with_unfolding_all rfl) ?_)
local macro_rules | `(tactic| trivial) => `(tactic| with_reducible refine xNo (by with_unfolding_all rfl) ?_)
local macro_rules | `(tactic| trivial) => `(tactic| with_reducible refine xYes (by with_unfolding_all rfl) ?_)
local macro_rules | `(tactic| trivial) => `(tactic| with_reducible refine xMin (by with_unfolding_all rfl) (by with_unfolding_all rfl) ?_)
local macro_rules | `(tactic| trivial) => `(tactic| with_reducible refine xMax (by with_unfolding_all rfl) (by with_unfolding_all rfl) ?_)
local macro_rules | `(tactic| trivial) => `(tactic| with_reducible refine xLen (by with_unfolding_all rfl) ?_)
local macro_rules | `(tactic| trivial) => `(tactic| with_reducible refine xTupK (by with_unfolding_all rfl) ?_)
local macro_rules | `(tactic| trivial) => `(tactic| with_reducible refine xTup ?_)
local macro_rules | `(tactic| trivial) => `(tactic| with_reducible refine xLstK (by with_unfolding_all rfl) ?_)
local macro_rules | `(tactic| trivial) => `(tactic| with_reducible refine xLst ?_)
local macro_rules | `(tactic| trivial) => `(tactic| with_reducible refine xFn ?_)
local macro_rules | `(tactic| trivial) => `(tactic| with_reducible refine xCons ?_)
local macro_rules | `(tactic| trivial) => `(tactic| with_reducible refine xNil ?_)
local macro_rules | `(tactic| trivial) => `(tactic| with_reducible refine xIxA (by with_unfolding_all rfl) (by with_unfolding_all rfl) (by with_unfolding_all rfl) ?_)
local macro_rules | `(tactic| trivial) => `(tactic| with_reducible refine xIx ?_)
local macro_rules | `(tactic| trivial) => `(tactic| with_reducible refine xCh2 (by with_unfolding_all rfl) (by with_unfolding_all rfl) ?_)
local macro_rules | `(tactic| trivial) => `(tactic| with_reducible refine xCh1 (by with_unfolding_all rfl) (by with_unfolding_all rfl) ?_)
local macro_rules | `(tactic| trivial) => `(tactic| with_reducible refine xCh ?_)
local macro_rules | `(tactic| trivial) => `(tactic| with_reducible refine xIf ?_)
local macro_rules | `(tactic| trivial) => `(tactic| with_reducible refine xBK ?_)
local macro_rules | `(tactic| trivial) => `(tactic| with_reducible refine xNotV ?_)
local macro_rules | `(tactic| trivial) => `(tactic| with_reducible refine xOrV ?_)
local macro_rules | `(tactic| trivial) => `(tactic| with_reducible refine xAndV ?_)
local macro_rules | `(tactic| trivial) => `(tactic| with_reducible refine xOr ?_)
local macro_rules | `(tactic| trivial) => `(tactic| with_reducible refine xAnd ?_)
local macro_rules | `(tactic| trivial) => `(tactic| with_reducible refine xNot ?_)
local macro_rules | `(tactic| trivial) => `(tactic| with_reducible refine xTK ?_)
local macro_rules | `(tactic| trivial) => `(tactic| with_reducible refine xT ?_)
local macro_rules | `(tactic| trivial) => `(tactic| with_reducible refine xIc (by with_unfolding_all rfl) (by with_unfolding_all rfl) (by with_unfolding_all first | omega | exact ⟨by decide, by decide +kernel⟩) ?_)
local macro_rules | `(tactic| trivial) => `(tactic| with_reducible refine xNegK ?_)
local macro_rules | `(tactic| trivial) => `(tactic| with_reducible refine xNeg ?_)
local macro_rules | `(tactic| trivial) => `(tactic| with_reducible refine xNeI (by with_unfolding_all rfl) (by with_unfolding_all rfl) ?_)
local macro_rules | `(tactic| trivial) => `(tactic| with_reducible refine xEqI (by with_unfolding_all rfl) (by with_unfolding_all rfl) ?_)
local macro_rules | `(tactic| trivial) => `(tactic| with_reducible refine xB (by with_unfolding_all rfl) (by with_unfolding_all rfl) ?_)
local macro_rules | `(tactic| trivial) => `(tactic| with_reducible refine xI (by with_unfolding_all rfl) (by with_unfolding_all rfl) ?_)
local macro_rules | `(tactic| trivial) => `(tactic| with_reducible refine xOp ?_)
local macro_rules | `(tactic| trivial) => `(tactic| with_reducible refine xC ?_)
local macro_rules | `(tactic| trivial) => `(tactic| with_reducible refine xVarN (by with_unfolding_all rfl) (by with_unfolding_all rfl) ?_)
local macro_rules | `(tactic| trivial) => `(tactic| with_reducible refine xVarZ (by with_unfolding_all rfl) ?_)
local macro_rules | `(tactic| trivial) => `(tactic| with_reducible refine xVarD (by with_unfolding_all rfl) ?_)
local macro_rules | `(tactic| trivial) => `(tactic| with_reducible refine xSbK (by with_unfolding_all rfl) (by with_unfolding_all rfl) (by with_unfolding_all rfl) ?_)
local macro_rules | `(tactic| trivial) => `(tactic| with_reducible refine xSub ?_)
local macro_rules | `(tactic| trivial) => `(tactic| with_reducible refine xAsK (by with_unfolding_all rfl) ?_)
local macro_rules | `(tactic| trivial) => `(tactic| with_reducible refine xAsg ?_)
local macro_rules | `(tactic| trivial) => `(tactic| with_reducible refine xRet ?_)
local macro_rules | `(tactic| trivial) => `(tactic| with_reducible refine xDrop ?_)
local macro_rules | `(tactic| trivial) => `(tactic| with_reducible refine xIfS ?_)
local macro_rules | `(tactic| trivial) => `(tactic| with_reducible refine xNext ?_)
local macro_rules | `(tactic| trivial) => `(tactic| with_reducible refine xSetK (by with_unfolding_all rfl) ?_)
local macro_rules | `(tactic| trivial) => `(tactic| with_reducible refine xSet ?_)
local macro_rules | `(tactic| trivial) => `(tactic| with_reducible refine xSeq ?_)

local macro_rules | `(tactic| trivial) => `(tactic| with_reducible refine xPa3K (by with_unfolding_all rfl) (by with_unfolding_all rfl) (by with_unfolding_all rfl) ?_)
local macro_rules | `(tactic| trivial) => `(tactic| with_reducible refine xPar3 ?_)
local macro_rules | `(tactic| trivial) => `(tactic| with_reducible refine xSetP ?_)
local macro_rules | `(tactic| trivial) => `(tactic| with_reducible refine xAslK (by with_unfolding_all rfl) (by with_unfolding_all rfl) ?_)
local macro_rules | `(tactic| trivial) => `(tactic| with_reducible refine xAsgL ?_)
local macro_rules | `(tactic| trivial) => `(tactic| with_reducible refine xTryM ?_)
local macro_rules | `(tactic| trivial) => `(tactic| with_reducible refine xMake ?_)
local macro_rules | `(tactic| trivial) => `(tactic| with_reducible refine xMt ?_)
local macro_rules | `(tactic| trivial) => `(tactic| with_reducible refine xMo (by with_unfolding_all rfl) (by decide +kernel) ?_)
local macro_rules | `(tactic| trivial) => `(tactic| with_reducible refine xMeth ?_)
local macro_rules | `(tactic| trivial) => `(tactic| with_reducible refine xSetF ?_)
local macro_rules | `(tactic| trivial) => `(tactic| with_reducible refine xFld ?_)

/-! ### deeds -/
inductive Deed where
  | begin
  | go
  | hear (w : Str) (c : Int)
def DOk : Deed → Prop
  | .hear w c => (w = "mine" ∨ w = "over" ∨ w = "back") ∧ c.natAbs < 10 ^ 12
  | _ => True
def deedO (s : HS) : Deed → HR
  | .begin => beginO s
  | .go => goO s
  | .hear w c => hearO s (.tuple [.str w, .int c])
def CI (o : Option Int) : Prop := ∀ i, o = some i → CardI i
structure HsOk (s : HS) : Prop where
  kc : CI s.card
  ks : CI s.sent
  ka : CI s.aside
  kh : CI s.heard
  kw : s.card = none → s.sent ≠ none
theorem CI.none : CI none := fun i e => by cases e
theorem CI.some {c : Int} (h : CardI c) : CI (some c) := fun i e => by cases e; exact h
/-- what comes of a deed: the hand as before, letters that are small, or a refusal -/
def AnsOk : Str ⊕ T → Prop
  | .inl _ => True
  | .inr t => ∃ ds, t = lets ds ∧ ds.length ≤ 1 ∧ ∀ d ∈ ds, Rpr d 84 2
theorem cardI_of {c : Int} (h : isCardD (.int c) = true) : CardI c := by unfold CardI; simpa [isCardD] using h
theorem ans0 : AnsOk (.inr (lets [])) := ⟨[], rfl, by simp, fun d h => by cases h⟩
theorem ans1 {w : Str} {c : Option Int} (hw : chkR 41 1 (.str w) = true) (h : CI c) : AnsOk (.inr (lets [ltD w c])) := ⟨_, rfl, by simp, fun d hd => by
  simp only [List.mem_singleton] at hd
  subst hd
  exact rprLt (.of_chk hw) h⟩
theorem mine_or (s : HS) (c : Int) : mineO s c = ({ s with heard := some c }, .inr (lets [])) ∨ mineO s c = noL s := by
  unfold mineO
  by_cases z : (match s.heard with | none => true | some h => decide (c < h)) = true
  · exact .inl (if_pos z)
  · exact .inr (if_neg z)
theorem deed_ok {s : HS} {d : Deed} (ok : HsOk s) (hd : DOk d) : HsOk (deedO s d).1 ∧ AnsOk (deedO s d).2 := by
  obtain ⟨ca, se, as, he, bg⟩ := s
  obtain ⟨h1, h2, h3, h4, h5⟩ := ok
  simp only at h1 h2 h3 h4 h5
  cases d with
  | begin =>
    unfold deedO beginO
    by_cases b : bg = true
    · rw [if_pos b]; exact ⟨⟨h1, h2, h3, h4, h5⟩, trivial⟩
    · rw [if_neg b]; exact ⟨⟨h1, h2, h3, h4, h5⟩, ans1 (by decide +kernel) h1⟩
  | go =>
    unfold deedO goO
    by_cases b : mayGo ⟨ca, se, as, he, bg⟩ = true
    · rw [if_pos b]
      refine ⟨⟨CI.none, h1, h3, h4, fun _ z => ?_⟩, ans1 (by decide +kernel) h1⟩
      simp only at z
      subst z
      unfold mayGo at b
      simp at b
    · rw [if_neg b]; exact ⟨⟨h1, h2, h3, h4, h5⟩, trivial⟩
  | hear w c =>
    show HsOk (hearO _ _).1 ∧ AnsOk (hearO _ _).2
    unfold hearO
    by_cases b : bg = true
    rotate_left
    · rw [if_neg b]; exact ⟨⟨h1, h2, h3, h4, h5⟩, trivial⟩
    rw [if_pos b]
    cases e : letD (.tuple [.str w, .int c]) with
    | none => exact ⟨⟨h1, h2, h3, h4, h5⟩, trivial⟩
    | some wc =>
      obtain ⟨w', c'⟩ := wc
      obtain ⟨e1, _, hc⟩ := letD_some e
      have hc' := cardI_of hc
      simp only
      split
      · rcases mine_or ⟨ca, se, as, he, bg⟩ c' with z | z
        · rw [z]; exact ⟨⟨h1, h2, h3, CI.some hc', h5⟩, ans0⟩
        · rw [z]; exact ⟨⟨h1, h2, h3, h4, h5⟩, trivial⟩
      · split
        · unfold overO noL
          simp only
          cases ca with
          | some l =>
            simp only
            split
            · exact ⟨⟨CI.some hc', h2, h3, h4, fun z => nomatch z⟩, ans1 (by decide +kernel) h1⟩
            · exact ⟨⟨h1, h2, h3, h4, h5⟩, trivial⟩
          | none =>
            cases se with
            | some l =>
              simp only
              split
              · exact ⟨⟨h1, h2, CI.some hc', h4, h5⟩, ans0⟩
              · exact ⟨⟨h1, h2, h3, h4, h5⟩, trivial⟩
            | none => exact ⟨⟨h1, h2, h3, h4, h5⟩, trivial⟩
        · unfold backO noL
          simp only
          cases se with
          | none => exact ⟨⟨h1, h2, h3, h4, h5⟩, trivial⟩
          | some t =>
            cases he with
            | none => exact ⟨⟨h1, h2, h3, h4, h5⟩, trivial⟩
            | some h0 =>
              simp only
              split
              · cases as with
                | none => exact ⟨⟨CI.some hc', CI.none, h3, h2, fun z => nomatch z⟩, ans1 (by decide +kernel) (CI.some hc')⟩
                | some a => exact ⟨⟨h3, CI.none, CI.none, h2, fun z => nomatch z⟩, ans1 (by decide +kernel) (CI.some hc')⟩
              · exact ⟨⟨h1, h2, h3, h4, h5⟩, trivial⟩
theorem fresh_ok {c : Int} (h : CardI c) : HsOk (freshH c) := ⟨CI.some h, CI.none, CI.none, CI.none, fun z => nomatch z⟩
theorem told_ok {s : HS} (ok : HsOk s) : Rpr (.list (toldL s)) 210 2 := Rpr.told ok.kc ok.ks ok.ka ok.kh
theorem hear_no {s : HS} {x : PyData} {c : Str} (e : (hearO s x).2 = .inl c) : c = "NoLetter" := by
  unfold hearO at e
  split at e
  · split at e
    · split at e
      · rename_i c2 _ _
        rcases mine_or s c2 with z | z <;> rw [z] at e <;> cases e; rfl
      · split at e
        · unfold overO noL at e
          split at e
          · split at e <;> cases e; rfl
          · split at e <;> cases e; rfl
          · cases e; rfl
        · unfold backO noL at e
          split at e
          · split at e
            · split at e <;> cases e
            · cases e; rfl
          · cases e; rfl
    · cases e; rfl
  · cases e; rfl
/-! ### what holds of a hand that lives among hands -/
structure HI (s : HS) : Prop where
  ok : HsOk s
  i1 : s.card ≠ none → s.sent = none ∧ s.aside = none
  i2 : s.card = none → s.heard ≠ none
theorem HI.fresh {c : Int} (h : CardI c) : HI (freshH c) := ⟨fresh_ok h, fun _ => ⟨rfl, rfl⟩, fun z => nomatch z⟩
theorem HI.begin {s : HS} (h : HI s) : HI { s with began := true } := ⟨⟨h.ok.kc, h.ok.ks, h.ok.ka, h.ok.kh, h.ok.kw⟩, h.i1, h.i2⟩
theorem HI.go {s : HS} (h : HI s) (m : mayGo s = true) : HI { s with sent := s.card, card := none } := by
  obtain ⟨ca, se, as, he, bg⟩ := s
  have hc : ∃ c, ca = some c := by
    cases ca with
    | none => unfold mayGo at m; simp at m
    | some c => exact ⟨c, rfl⟩
  have hh : he ≠ none := by
    cases he with
    | none => unfold mayGo at m; cases ca <;> simp at m
    | some c => exact fun z => nomatch z
  obtain ⟨c, rfl⟩ := hc
  exact ⟨⟨CI.none, h.ok.kc, h.ok.ka, h.ok.kh, fun _ z => nomatch z⟩, fun z => absurd rfl z, fun _ => hh⟩
theorem HI.hear {s : HS} {w : Str} {c : Int} (h : HI s) (hw : w = "mine" ∨ w = "over" ∨ w = "back") (hc : CardI c) : HI (hearO s (.tuple [.str w, .int c])).1 := by
  have ok := (deed_ok (d := .hear w c) h.ok ⟨hw, by unfold CardI at hc; omega⟩).1
  have key : ∀ s' : HS, (s'.card ≠ none → s'.sent = none ∧ s'.aside = none) ∧ (s'.card = none → s'.heard ≠ none) → s' = (hearO s (.tuple [.str w, .int c])).1 → HI (hearO s (.tuple [.str w, .int c])).1 := fun s' z e => by subst e; exact ⟨ok, z.1, z.2⟩
  have same := key s ⟨h.i1, h.i2⟩
  obtain ⟨ca, se, as, he, bg⟩ := s
  obtain ⟨ho, i1, i2⟩ := h
  simp only at i1 i2
  cases bg with
  | false => exact same rfl
  | true =>
    have cc : isCardD (.int c) = true := by unfold CardI at hc; simpa [isCardD] using hc
    have e1 : letD (.tuple [.str w, .int c]) = some (w, c) := if_pos ⟨hw, cc⟩
    have e2 : hearO ⟨ca, se, as, he, true⟩ (.tuple [.str w, .int c]) = if w = "mine" then mineO ⟨ca, se, as, he, true⟩ c else if w = "over" then overO ⟨ca, se, as, he, true⟩ c else backO ⟨ca, se, as, he, true⟩ c := by
      unfold hearO; rw [if_pos rfl, e1]
    rw [e2] at same key ⊢
    by_cases w1 : w = "mine"
    · rw [if_pos w1] at same key ⊢
      rcases mine_or ⟨ca, se, as, he, true⟩ c with z | z
      · exact key ⟨ca, se, as, some c, true⟩ ⟨i1, fun _ z => nomatch z⟩ (by rw [z])
      · exact same (by rw [z]; rfl)
    rw [if_neg w1] at same key ⊢
    by_cases w2 : w = "over"
    · rw [if_pos w2] at same key ⊢
      cases ca with
      | some l =>
        by_cases q : l < c ∧ as = none
        · exact key ⟨some c, se, as, he, true⟩ ⟨fun _ => i1 (fun z => nomatch z), fun z => nomatch z⟩ (by show _ = (if l < c ∧ as = none then _ else _ : HR).1; rw [if_pos q])
        · exact same (by show _ = (if l < c ∧ as = none then _ else _ : HR).1; rw [if_neg q]; rfl)
      | none =>
        cases se with
        | none => exact same rfl
        | some l =>
          by_cases q : l < c ∧ as = none
          · exact key ⟨none, some l, some c, he, true⟩ ⟨fun z => absurd rfl z, i2⟩ (by show _ = (if l < c ∧ as = none then _ else _ : HR).1; rw [if_pos q])
          · exact same (by show _ = (if l < c ∧ as = none then _ else _ : HR).1; rw [if_neg q]; rfl)
    rw [if_neg w2] at same key ⊢
    cases se with
    | none => exact same rfl
    | some t =>
      cases he with
      | none => exact same rfl
      | some h0 =>
        by_cases q : c < t ∧ c ≤ h0
        · cases as with
          | none => exact key ⟨some c, none, none, some t, true⟩ ⟨fun _ => ⟨rfl, rfl⟩, fun z => nomatch z⟩ (by show _ = (if c < t ∧ c ≤ h0 then _ else _ : HR).1; rw [if_pos q])
          | some a => exact key ⟨some a, none, none, some t, true⟩ ⟨fun _ => ⟨rfl, rfl⟩, fun z => nomatch z⟩ (by show _ = (if c < t ∧ c ≤ h0 then _ else _ : HR).1; rw [if_pos q])
        · exact same (by show _ = (if c < t ∧ c ≤ h0 then _ else _ : HR).1; rw [if_neg q]; rfl)
end LW.H

namespace LW.H
open PySem PySem.Spec L2 TX

local macro_rules | `(tactic| trivial) => `(tactic| with_reducible refine xIEz ?_)
local macro_rules | `(tactic| trivial) => `(tactic| with_reducible refine xLi ?_)
local macro_rules | `(tactic| trivial) => `(tactic| with_reducible refine xAppD21 ?_)
local macro_rules | `(tactic| trivial) => `(tactic| with_reducible refine xAppD11 ?_)
local macro_rules | `(tactic| trivial) => `(tactic| with_reducible refine xAppD ?_)
local macro_rules | `(tactic| trivial) => `(tactic| with_reducible refine xClip ?_)
local macro_rules | `(tactic| trivial) => `(tactic| with_reducible refine xDcT ?_)
local macro_rules | `(tactic| trivial) => `(tactic| with_reducible refine xGdD ?_)
local macro_rules | `(tactic| trivial) => `(tactic| with_reducible refine xGdA (by with_unfolding_all rfl) ?_)
local macro_rules | `(tactic| trivial) => `(tactic| with_reducible refine xGd2 ?_)
local macro_rules | `(tactic| trivial) => `(tactic| with_reducible refine xGd1 ?_)
local macro_rules | `(tactic| trivial) => `(tactic| with_reducible refine xLc2 ?_)
local macro_rules | `(tactic| trivial) => `(tactic| with_reducible refine xIDcK ?_)
local macro_rules | `(tactic| trivial) => `(tactic| with_reducible refine xIDc ?_)
local macro_rules | `(tactic| trivial) => `(tactic| with_reducible refine xVarL (by with_unfolding_all rfl) ?_)
local macro_rules | `(tactic| trivial) => `(tactic| with_reducible refine xIsB (by with_unfolding_all rfl) (by with_unfolding_all rfl) ?_)
local macro_rules | `(tactic| trivial) => `(tactic| with_reducible refine xGLst (by with_unfolding_all rfl) ?_)
local macro_rules | `(tactic| trivial) => `(tactic| with_reducible refine xIe2 ?_)
local macro_rules | `(tactic| trivial) => `(tactic| with_reducible refine xIe1 ?_)
local macro_rules | `(tactic| trivial) => `(tactic| with_reducible refine xGe2 ?_)
local macro_rules | `(tactic| trivial) => `(tactic| with_reducible refine xGe1 ?_)
local macro_rules | `(tactic| trivial) => `(tactic| with_reducible refine xDpl ?_)
local macro_rules | `(tactic| trivial) => `(tactic| with_reducible refine xDc ?_)
local macro_rules | `(tactic| trivial) => `(tactic| with_reducible refine xDcL ?_)
local macro_rules | `(tactic| trivial) => `(tactic| with_reducible refine xRep ?_)
local macro_rules | `(tactic| trivial) => `(tactic| with_reducible refine xGtD ?_)
local macro_rules | `(tactic| trivial) => `(tactic| with_reducible refine xGtA (by with_unfolding_all rfl) ?_)
local macro_rules | `(tactic| trivial) => `(tactic| with_reducible refine xGt2 ?_)
local macro_rules | `(tactic| trivial) => `(tactic| with_reducible refine xGt1 ?_)
local macro_rules | `(tactic| trivial) => `(tactic| with_reducible refine xSlTK ?_)
local macro_rules | `(tactic| trivial) => `(tactic| with_reducible refine xSlT ?_)
local macro_rules | `(tactic| trivial) => `(tactic| with_reducible refine xListR ?_)
local macro_rules | `(tactic| trivial) => `(tactic| with_reducible refine xRev2 ?_)
local macro_rules | `(tactic| trivial) => `(tactic| with_reducible refine xIsNK (by with_unfolding_all rfl) ?_)
local macro_rules | `(tactic| trivial) => `(tactic| with_reducible refine xIR2 ?_)
local macro_rules | `(tactic| trivial) => `(tactic| with_reducible refine xIZip ?_)
local macro_rules | `(tactic| trivial) => `(tactic| with_reducible refine xITupK ?_)
local macro_rules | `(tactic| trivial) => `(tactic| with_reducible refine xITup ?_)
local macro_rules | `(tactic| trivial) => `(tactic| with_reducible refine xDi2 ?_)
local macro_rules | `(tactic| trivial) => `(tactic| with_reducible refine xDi1 ?_)
local macro_rules | `(tactic| trivial) => `(tactic| with_reducible refine xRevTK ?_)
local macro_rules | `(tactic| trivial) => `(tactic| with_reducible refine xRevT ?_)
local macro_rules | `(tactic| trivial) => `(tactic| with_reducible refine xPaK (by with_unfolding_all rfl) (by with_unfolding_all rfl) ?_)
local macro_rules | `(tactic| trivial) => `(tactic| with_reducible refine xPar ?_)
local macro_rules | `(tactic| trivial) => `(tactic| with_reducible refine xDp2 ?_)
local macro_rules | `(tactic| trivial) => `(tactic| with_reducible refine xDg2 ?_)
local macro_rules | `(tactic| trivial) => `(tactic| with_reducible refine xDp1 ?_)
local macro_rules | `(tactic| trivial) => `(tactic| with_reducible refine xDg1 ?_)
local macro_rules | `(tactic| trivial) => `(tactic| with_reducible refine xYesT ?_)
local macro_rules | `(tactic| trivial) => `(tactic| with_reducible refine xGsNil ?_)
local macro_rules | `(tactic| trivial) => `(tactic| with_reducible refine xGsCons ?_)
local macro_rules | `(tactic| trivial) => `(tactic| with_reducible refine xGTup (by with_unfolding_all rfl) ?_)
local macro_rules | `(tactic| trivial) => `(tactic| with_reducible refine xNm (by with_unfolding_all rfl) ?_)
local macro_rules | `(tactic| trivial) => `(tactic| with_reducible refine xLenSet ?_)
local macro_rules | `(tactic| trivial) => `(tactic| with_reducible refine xCat ?_)
local macro_rules | `(tactic| trivial) => `(tactic| with_reducible refine xRevS ?_)
local macro_rules | `(tactic| trivial) => `(tactic| with_reducible refine xPartK ?_)
local macro_rules | `(tactic| trivial) => `(tactic| with_reducible refine xPart ?_)
local macro_rules | `(tactic| trivial) => `(tactic| with_reducible refine xNoPart ?_)
local macro_rules | `(tactic| trivial) => `(tactic| with_reducible refine xSl ?_)
local macro_rules | `(tactic| trivial) => `(tactic| with_reducible refine xIEn ?_)
local macro_rules | `(tactic| trivial) => `(tactic| with_reducible refine xIR1 ?_)
local macro_rules | `(tactic| trivial) => `(tactic| with_reducible refine xILK (by with_unfolding_all rfl) ?_)
local macro_rules | `(tactic| trivial) => `(tactic| with_reducible refine xILst ?_)
local macro_rules | `(tactic| trivial) => `(tactic| with_reducible refine xFor ?_)
local macro_rules | `(tactic| trivial) => `(tactic| with_reducible refine xLc ?_)
local macro_rules | `(tactic| trivial) => `(tactic| with_reducible refine xMD ?_)
local macro_rules | `(tactic| trivial) => `(tactic| with_reducible refine xMA (by with_unfolding_all rfl) ?_)
local macro_rules | `(tactic| trivial) => `(tactic| with_reducible refine xM ?_)
local macro_rules | `(tactic| trivial) => `(tactic| with_reducible refine xCall ?_)
local macro_rules | `(tactic| trivial) => `(tactic| with_reducible refine xIs (by with_unfolding_all rfl) (by with_unfolding_all rfl) ?_)
local macro_rules | `(tactic| trivial) => `(tactic| with_reducible refine xNo (by with_unfolding_all rfl) ?_)
local macro_rules | `(tactic| trivial) => `(tactic| with_reducible refine xYes (by with_unfolding_all rfl) ?_)
local macro_rules | `(tactic| trivial) => `(tactic| with_reducible refine xMin (by with_unfolding_all rfl) (by with_unfolding_all rfl) ?_)
local macro_rules | `(tactic| trivial) => `(tactic| with_reducible refine xMax (by with_unfolding_all rfl) (by with_unfolding_all rfl) ?_)
local macro_rules | `(tactic| trivial) => `(tactic| with_reducible refine xLen (by with_unfolding_all rfl) ?_)
local macro_rules | `(tactic| trivial) => `(tactic| with_reducible refine xTupK (by with_unfolding_all rfl) ?_)
local macro_rules | `(tactic| trivial) => `(tactic| with_reducible refine xTup ?_)
local macro_rules | `(tactic| trivial) => `(tactic| with_reducible refine xLstK (by with_unfolding_all rfl) ?_)
local macro_rules | `(tactic| trivial) => `(tactic| with_reducible refine xLst ?_)
local macro_rules | `(tactic| trivial) => `(tactic| with_reducible refine xFn ?_)
local macro_rules | `(tactic| trivial) => `(tactic| with_reducible refine xCons ?_)
local macro_rules | `(tactic| trivial) => `(tactic| with_reducible refine xNil ?_)
local macro_rules | `(tactic| trivial) => `(tactic| with_reducible refine xIxA (by with_unfolding_all rfl) (by with_unfolding_all rfl) (by with_unfolding_all rfl) ?_)
local macro_rules | `(tactic| trivial) => `(tactic| with_reducible refine xIx ?_)
local macro_rules | `(tactic| trivial) => `(tactic| with_reducible refine xCh2 (by with_unfolding_all rfl) (by with_unfolding_all rfl) ?_)
local macro_rules | `(tactic| trivial) => `(tactic| with_reducible refine xCh1 (by with_unfolding_all rfl) (by with_unfolding_all rfl) ?_)
local macro_rules | `(tactic| trivial) => `(tactic| with_reducible refine xCh ?_)
local macro_rules | `(tactic| trivial) => `(tactic| with_reducible refine xIf ?_)
local macro_rules | `(tactic| trivial) => `(tactic| with_reducible refine xBK ?_)
local macro_rules | `(tactic| trivial) => `(tactic| with_reducible refine xNotV ?_)
local macro_rules | `(tactic| trivial) => `(tactic| with_reducible refine xOrV ?_)
local macro_rules | `(tactic| trivial) => `(tactic| with_reducible refine xAndV ?_)
local macro_rules | `(tactic| trivial) => `(tactic| with_reducible refine xOr ?_)
local macro_rules | `(tactic| trivial) => `(tactic| with_reducible refine xAnd ?_)
local macro_rules | `(tactic| trivial) => `(tactic| with_reducible refine xNot ?_)
local macro_rules | `(tactic| trivial) => `(tactic| with_reducible refine xTK ?_)
local macro_rules | `(tactic| trivial) => `(tactic| with_reducible refine xT ?_)
local macro_rules | `(tactic| trivial) => `(tactic| with_reducible refine xIc (by with_unfolding_all rfl) (by with_unfolding_all rfl) (by with_unfolding_all first | omega | exact ⟨by decide, by decide +kernel⟩) ?_)
local macro_rules | `(tactic| trivial) => `(tactic| with_reducible refine xNegK ?_)
local macro_rules | `(tactic| trivial) => `(tactic| with_reducible refine xNeg ?_)
local macro_rules | `(tactic| trivial) => `(tactic| with_reducible refine xNeI (by with_unfolding_all rfl) (by with_unfolding_all rfl) ?_)
local macro_rules | `(tactic| trivial) => `(tactic| with_reducible refine xEqI (by with_unfolding_all rfl) (by with_unfolding_all rfl) ?_)
local macro_rules | `(tactic| trivial) => `(tactic| with_reducible refine xB (by with_unfolding_all rfl) (by with_unfolding_all rfl) ?_)
local macro_rules | `(tactic| trivial) => `(tactic| with_reducible refine xI (by with_unfolding_all rfl) (by with_unfolding_all rfl) ?_)
local macro_rules | `(tactic| trivial) => `(tactic| with_reducible refine xOp ?_)
local macro_rules | `(tactic| trivial) => `(tactic| with_reducible refine xC ?_)
local macro_rules | `(tactic| trivial) => `(tactic| with_reducible refine xVarN (by with_unfolding_all rfl) (by with_unfolding_all rfl) ?_)
local macro_rules | `(tactic| trivial) => `(tactic| with_reducible refine xVarZ (by with_unfolding_all rfl) ?_)
local macro_rules | `(tactic| trivial) => `(tactic| with_reducible refine xVarD (by with_unfolding_all rfl) ?_)
local macro_rules | `(tactic| trivial) => `(tactic| with_reducible refine xSbK (by with_unfolding_all rfl) (by with_unfolding_all rfl) (by with_unfolding_all rfl) ?_)
local macro_rules | `(tactic| trivial) => `(tactic| with_reducible refine xSub ?_)
local macro_rules | `(tactic| trivial) => `(tactic| with_reducible refine xAsK (by with_unfolding_all rfl) ?_)
local macro_rules | `(tactic| trivial) => `(tactic| with_reducible refine xAsg ?_)
local macro_rules | `(tactic| trivial) => `(tactic| with_reducible refine xRet ?_)
local macro_rules | `(tactic| trivial) => `(tactic| with_reducible refine xDrop ?_)
local macro_rules | `(tactic| trivial) => `(tactic| with_reducible refine xIfS ?_)
local macro_rules | `(tactic| trivial) => `(tactic| with_reducible refine xNext ?_)
local macro_rules | `(tactic| trivial) => `(tactic| with_reducible refine xSetK (by with_unfolding_all rfl) ?_)
local macro_rules | `(tactic| trivial) => `(tactic| with_reducible refine xSet ?_)
local macro_rules | `(tactic| trivial) => `(tactic| with_reducible refine xSeq ?_)

local macro_rules | `(tactic| trivial) => `(tactic| with_reducible refine xPa3K (by with_unfolding_all rfl) (by with_unfolding_all rfl) (by with_unfolding_all rfl) ?_)
local macro_rules | `(tactic| trivial) => `(tactic| with_reducible refine xPar3 ?_)
local macro_rules | `(tactic| trivial) => `(tactic| with_reducible refine xSetP ?_)
local macro_rules | `(tactic| trivial) => `(tactic| with_reducible refine xAslK (by with_unfolding_all rfl) (by with_unfolding_all rfl) ?_)
local macro_rules | `(tactic| trivial) => `(tactic| with_reducible refine xAsgL ?_)
local macro_rules | `(tactic| trivial) => `(tactic| with_reducible refine xTryM ?_)
local macro_rules | `(tactic| trivial) => `(tactic| with_reducible refine xMake ?_)
local macro_rules | `(tactic| trivial) => `(tactic| with_reducible refine xMt ?_)
local macro_rules | `(tactic| trivial) => `(tactic| with_reducible refine xMo (by with_unfolding_all rfl) (by decide +kernel) ?_)
local macro_rules | `(tactic| trivial) => `(tactic| with_reducible refine xMeth ?_)
local macro_rules | `(tactic| trivial) => `(tactic| with_reducible refine xSetF ?_)
local macro_rules | `(tactic| trivial) => `(tactic| with_reducible refine xFld ?_)

def exN : List Str := ["CrossError", "Twice", "Idle", "NoLetter", "NoCard"]
set_option pp.maxSteps 500
/-! ### letters, heard and due -/
def wOk (w : Str) : Prop := w = "mine" ∨ w = "over" ∨ w = "back"
abbrev ltI (w : Str) (c : Int) : PyData := .tuple [.str w, .int c]
def dueOf (r : HR) : PyData := match r.2 with
  | .inl _ => .none
  | .inr t => .tuple [(erase t).getD .none, .list (toldL r.1)]
def dueD (s : HS) (w : Str) (c : Int) : PyData := dueOf (hearO s (ltI w c))
def noneT : Str ⊕ T → T
  | .inl _ => .d .none
  | .inr t => t
def gone (s : HS) : HS := { s with sent := s.card, card := none }
def S_law_fresh : SpT := SpP (fun ts => ∃ c : Int, ts = [.d (.int c)]) fun ts t _ => ∀ c : Int, ts = [.d (.int c)] → t = lets (toldL (freshH c))
def S_law_due : SpT := fun ts Q _ => ∃ s w c, ts = [.d (.list (toldL s)), .d (ltI w c)] ∧ HI s ∧ wOk w ∧ CardI c ∧ ∀ ρ, Q (.d (dueD s w c)) ρ
def S_law_letter : SpT := fun ts Q _ => ∃ a b c s, ts = [potT a b c, .d (.list (toldL s))] ∧ Pot a b c 12 ∧ HI s ∧ ∀ w x a' c' ρ, wOk w → CardI x → 0 ≤ a' → c ≤ c' → c' ≤ c + 12 → ρ[0]? = some (some (potT a' b c')) → Q (.d (ltI w x)) ρ
def S_law_heard : SpT := SpH (fun p : Str × Int => [.d (ltI p.1 p.2)]) (fun p => wOk p.1) fun s p => ((hearO s (ltI p.1 p.2)).1, .inr (noneT (hearO s (ltI p.1 p.2)).2))
def S_law_gone : SpT := fun ts Q _ => ∃ s, ts = [hO s, .d (.list (toldL s))] ∧ HI s ∧ (mayGo s = true → ∀ ρ, ρ[0]? = some (some (hO (gone s))) → Q (lets (toldL (gone s))) ρ) ∧ (mayGo s = false → ∀ ρ, ρ[0]? = some (some (hO s)) → Q (.d (.list (toldL s))) ρ)
def SP_law_gone : SpT := fun ts Q _ => ∃ s, ts = [hO s, lets (toldL s)] ∧ HI s ∧ (mayGo s = true → ∀ ρ, ρ[0]? = some (some (hO (gone s))) → ρ[1]? = some (some (lets (toldL s))) → Q (lets (toldL (gone s))) ρ) ∧ (mayGo s = false → ∀ ρ, ρ[0]? = some (some (hO s)) → ρ[1]? = some (some (lets (toldL s))) → Q (.a 1 []) ρ)
def S_law_right : SpT := SpP (fun ts => ∃ a b c x, ts = [potT a b c, .d (.int x)] ∧ Pot a b c 1000 ∧ CardI x) fun ts t ρ => ∀ a b c x, ts = [potT a b c, .d (.int x)] → t = .d (.bool true) ∧ PotTo 1000 a b c ρ
theorem mS_law_fresh : MonSp S_law_fresh := mon_SpP
theorem mS_law_due : MonSp S_law_due := fun ts Q Q' E E' h he ⟨s, w, c, e, h1, h2, h3, q⟩ => ⟨s, w, c, e, h1, h2, h3, fun ρ => h _ _ (q ρ)⟩
theorem mS_law_letter : MonSp S_law_letter := fun ts Q Q' E E' h he ⟨a, b, c, s, e, hp, ok, q⟩ => ⟨a, b, c, s, e, hp, ok, fun w x a' c' ρ h1 h2 h3 h4 h5 h6 => h _ _ (q w x a' c' ρ h1 h2 h3 h4 h5 h6)⟩
theorem mS_law_heard : MonSp S_law_heard := mon_SpH
theorem mS_law_gone : MonSp S_law_gone := fun ts Q Q' E E' h he ⟨s, e, h1, q1, q2⟩ => ⟨s, e, h1, fun m ρ z => h _ _ (q1 m ρ z), fun m ρ z => h _ _ (q2 m ρ z)⟩
theorem mSP_law_gone : MonSp SP_law_gone := fun ts Q Q' E E' h he ⟨s, e, h1, q1, q2⟩ => ⟨s, e, h1, fun m ρ z z2 => h _ _ (q1 m ρ z z2), fun m ρ z z2 => h _ _ (q2 m ρ z z2)⟩
theorem mS_law_right : MonSp S_law_right := mon_SpP
abbrev N_law_fresh : List Str := ["_law_card"]
def w_law_fresh : TwS := (wRet (wLst (wCons (wVar 0) (wCons (wC (.d .none)) (wCons (wC (.d .none)) (wCons (wC (.d .none)) (wCons (wC (.d (.bool false))) wNil)))))))
abbrev N_law_due : List Str := ["_law_state", "_law_letter_here", "_law_card", "_law_sent", "_law_aside", "_law_heard_here", "_law_began", "_law_word", "_law_came"]
abbrev w0_law_due : TwS := (wRet (wIf (wAnd (wT (wOp (fIsN true) (wVar 5) (wC (.d .none)))) (wT (wOp (fB fun i j => decide (j ≤ i)) (wVar 8) (wVar 5)))) (wC (.d .none)) (wTup (wCons (wLst wNil) (wCons (wLst (wCons (wVar 2) (wCons (wVar 3) (wCons (wVar 4) (wCons (wVar 8) (wCons (wC (.d (.bool true))) wNil)))))) wNil)))))
abbrev w1_law_due : TwS := (wRet (wTup (wCons (wLst wNil) (wCons (wLst (wCons (wC (.d .none)) (wCons (wVar 3) (wCons (wVar 8) (wCons (wVar 5) (wCons (wC (.d (.bool true))) wNil)))))) wNil))))
abbrev w2_law_due : TwS := (wRet (wTup (wCons (wLst (wCons (wTup (wCons (wC (.d (.str "back"))) (wCons (wVar 2) wNil))) wNil)) (wCons (wLst (wCons (wVar 8) (wCons (wC (.d .none)) (wCons (wC (.d .none)) (wCons (wVar 5) (wCons (wC (.d (.bool true))) wNil)))))) wNil))))
abbrev w3_law_due : TwS := (wSeq (wIfS (wOr (wT (wOp (fIsN true) (wVar 4) (wC (.d .none)))) (wT (wOp (fB fun i j => decide (i ≤ j)) (wVar 8) (wIf (wT (wOp (fIsN false) (wVar 2) (wC (.d .none)))) (wVar 3) (wVar 2))))) (wRet (wC (.d .none))) wNext)
    (wSeq (wIfS (wT (wOp (fIsN false) (wVar 2) (wC (.d .none)))) w1_law_due wNext)
    w2_law_due))
abbrev w4_law_due : TwS := (wRet (wTup (wCons (wLst (wCons (wTup (wCons (wC (.d (.str "mine"))) (wCons (wVar 8) wNil))) wNil)) (wCons (wLst (wCons (wVar 8) (wCons (wC (.d .none)) (wCons (wC (.d .none)) (wCons (wVar 3) (wCons (wC (.d (.bool true))) wNil)))))) wNil))))
abbrev w5_law_due : TwS := (wRet (wTup (wCons (wLst (wCons (wTup (wCons (wC (.d (.str "back"))) (wCons (wVar 8) wNil))) wNil)) (wCons (wLst (wCons (wVar 4) (wCons (wC (.d .none)) (wCons (wC (.d .none)) (wCons (wVar 3) (wCons (wC (.d (.bool true))) wNil)))))) wNil))))
abbrev w6_law_due : TwS := (wSeq (wIfS (wOr (wT (wOp (fIsN true) (wVar 2) (wC (.d .none)))) (wOr (wT (wOp (fB fun i j => decide (j ≤ i)) (wVar 8) (wVar 3))) (wT (wOp (fB fun i j => decide (j < i)) (wVar 8) (wVar 5))))) (wRet (wC (.d .none))) wNext)
    (wSeq (wIfS (wT (wOp (fIsN false) (wVar 4) (wC (.d .none)))) w4_law_due wNext)
    w5_law_due))
abbrev w7_law_due : TwS := (wSeq (wIfS (wT (wOp (fEq) (wVar 7) (wC (.d (.str "mine"))))) w0_law_due wNext)
    (wSeq (wIfS (wT (wOp (fEq) (wVar 7) (wC (.d (.str "over"))))) w3_law_due wNext)
    w6_law_due))
def w_law_due : TwS := (wSeq (wAsg (wVar 0) (wGLst 5 (wGsCons (wNm 2) (wGsCons (wNm 3) (wGsCons (wNm 4) (wGsCons (wNm 5) (wGsCons (wNm 6) wGsNil)))))))
    (wSeq (wAsg (wVar 1) (wGTup 2 (wGsCons (wNm 7) (wGsCons (wNm 8) wGsNil))))
    (wSeq (wIfS (wNot (wT (wVar 6))) (wRet (wC (.d .none))) wNext)
    w7_law_due)))
abbrev N_law_letter : List Str := ["_law_pot_here", "_law_state", "_law_card", "_law_sent", "_law_aside", "_law_heard_here", "_law_began", "_law_here", "_law_below", "_law_above", "_law_way", "_law_near"]
abbrev w0_law_letter : TwS := (wSet 8 (wLst (wCons (wOp (fI (· - ·)) (wVar 5) (wC (.d (.int 1)))) (wCons (wOp (fI (· - ·)) (wOp (fI (· - ·)) (wVar 5) (wC (.d (.int 1)))) (wCall [0] 2 S_law_take (wCons (wVar 0) (wCons (wC (.d (.int 5))) wNil)))) (wCons (wCall [0] 2 S_law_take (wCons (wVar 0) (wCons (wOp (fI (· + ·)) (wVar 5) (wC (.d (.int 1)))) wNil))) wNil)))))
abbrev w1_law_letter : TwS := (wRet (wTup (wCons (wC (.d (.str "mine"))) (wCons (wFn (k2 fMax) (wCons (wC (.d (.int 0))) (wCons (wIx (wVar 8) (wCall [0] 2 S_law_take (wCons (wVar 0) (wCons (wC (.d (.int 3))) wNil)))) wNil))) wNil))))
abbrev w2_law_letter : TwS := (wRet (wTup (wCons (wC (.d (.str "over"))) (wCons (wFn (k2 fMin) (wCons (wOp (fI (· - ·)) (wOp (fIc CPowW (fun i j => i ^ j.toNat)) (wC (.d (.int 10))) (wC (.d (.int 9)))) (wC (.d (.int 1)))) (wCons (wIx (wVar 9) (wCall [0] 2 S_law_take (wCons (wVar 0) (wCons (wC (.d (.int 3))) wNil)))) wNil))) wNil))))
abbrev w3_law_letter : TwS := (wRet (wTup (wCons (wC (.d (.str "back"))) (wCons (wFn (k2 fMax) (wCons (wC (.d (.int 0))) (wCons (wFn (k2 fMin) (wCons (wOp (fI (· + ·)) (wIx (wVar 8) (wCall [0] 2 S_law_take (wCons (wVar 0) (wCons (wC (.d (.int 3))) wNil)))) (wCall [0] 2 S_law_take (wCons (wVar 0) (wCons (wC (.d (.int 2))) wNil)))) (wCons (wOp (fI (· - ·)) (wVar 3) (wC (.d (.int 1)))) wNil))) wNil))) wNil))))
abbrev w4_law_letter : TwS := (wRet (wTup (wCons (wIx (wLst (wCons (wC (.d (.str "mine"))) (wCons (wC (.d (.str "over"))) (wCons (wC (.d (.str "back"))) wNil)))) (wCall [0] 2 S_law_take (wCons (wVar 0) (wCons (wC (.d (.int 3))) wNil)))) (wCons (wVar 11) wNil))))
abbrev w5_law_letter : TwS := (wSeq (wSet 11 (wFn (k2 fMax) (wCons (wC (.d (.int 0))) (wCons (wFn (k2 fMin) (wCons (wOp (fI (· - ·)) (wOp (fIc CPowW (fun i j => i ^ j.toNat)) (wC (.d (.int 10))) (wC (.d (.int 9)))) (wC (.d (.int 1)))) (wCons (wOp (fI (· + ·)) (wOp (fI (· - ·)) (wVar 7) (wC (.d (.int 2)))) (wCall [0] 2 S_law_take (wCons (wVar 0) (wCons (wC (.d (.int 5))) wNil)))) wNil))) wNil))))
    w4_law_letter)
abbrev w6_law_letter : TwS := (wSeq (wIfS (wAnd (wT (wOp (fB fun i j => decide (i < j)) (wVar 10) (wC (.d (.int 7))))) (wT (wOp (fIsN true) (wVar 3) (wC (.d .none))))) w3_law_letter wNext)
    w5_law_letter)
abbrev w7_law_letter : TwS := (wSeq (wIfS (wT (wOp (fB fun i j => decide (i < j)) (wVar 10) (wC (.d (.int 3))))) w1_law_letter wNext)
    (wSeq (wIfS (wT (wOp (fB fun i j => decide (i < j)) (wVar 10) (wC (.d (.int 5))))) w2_law_letter wNext)
    w6_law_letter))
abbrev w8_law_letter : TwS := (wSeq (wSet 9 (wLst (wCons (wOp (fI (· + ·)) (wVar 7) (wC (.d (.int 1)))) (wCons (wOp (fI (· + ·)) (wOp (fI (· + ·)) (wVar 7) (wC (.d (.int 1)))) (wCall [0] 2 S_law_take (wCons (wVar 0) (wCons (wC (.d (.int 9))) wNil)))) (wCons (wOp (fI (· + ·)) (wVar 7) (wCall [0] 2 S_law_take (wCons (wVar 0) (wCons (wOp (fI (· - ·)) (wOp (fIc CPowW (fun i j => i ^ j.toNat)) (wC (.d (.int 10))) (wC (.d (.int 9)))) (wVar 7)) wNil)))) wNil)))))
    (wSeq (wSet 10 (wCall [0] 2 S_law_take (wCons (wVar 0) (wCons (wC (.d (.int 8))) wNil))))
    w7_law_letter))
abbrev w9_law_letter : TwS := (wSeq (wSet 8 (wLst (wCons (wVar 7) (wCons (wC (.d (.int 7))) (wCons (wC (.d (.int 0))) wNil)))))
    (wSeq (wIfS (wT (wOp (fIsN true) (wVar 5) (wC (.d .none)))) w0_law_letter wNext)
    w8_law_letter))
def w_law_letter : TwS := (wSeq (wAsg (wVar 1) (wGLst 5 (wGsCons (wNm 2) (wGsCons (wNm 3) (wGsCons (wNm 4) (wGsCons (wNm 5) (wGsCons (wNm 6) wGsNil)))))))
    (wSeq (wSet 7 (wIf (wT (wOp (fIsN false) (wVar 2) (wC (.d .none)))) (wVar 3) (wVar 2)))
    w9_law_letter))
abbrev N_law_heard : List Str := ["_law_hand", "_law_letter_here"]
def w_law_heard : TwS := (wTryM exN [("NoLetter", (wRet (wC (.d .none))))] (wRet (wMeth "Hand" "hear" [0] 2 S_Hand_hear (wVar 0) (wCons (wVar 1) wNil))))
theorem hear_of {s : HS} {w : Str} {c : Int} (hb : s.began = true) (hw : wOk w) (hc : CardI c) : hearO s (ltI w c) = if w = "mine" then mineO s c else if w = "over" then overO s c else backO s c := by
  have cc : isCardD (.int c) = true := by unfold CardI at hc; simpa [isCardD] using hc
  have e1 : letD (ltI w c) = some (w, c) := if_pos ⟨hw, cc⟩
  unfold hearO; rw [if_pos hb, e1]
theorem pl_law_fresh : PlD S_law_fresh w_law_fresh N_law_fresh := by
  rintro ts Q Ex ⟨⟨c, rfl⟩, q⟩
  unfold w_law_fresh
  repeat trivial
  exact ⟨rfl, q _ _ fun c' e => by cases e; rfl⟩
theorem pl_law_heard : PlD S_law_heard w_law_heard N_law_heard := by
  rintro ts Q Ex ⟨s, p, rfl, hw, _, q⟩
  unfold w_law_heard
  repeat trivial
  refine xCaH (f := hearO) s (ltI p.1 p.2) rfl rfl rfl rfl (fun w' y e => by cases e; rcases hw with h | h | h <;> rw [h] <;> decide +kernel) (fun c' e => ?_) (fun t e => ?_)
  · have : c' = "NoLetter" := hear_no e
    subst this
    refine ⟨by decide +kernel, xHdY (by decide +kernel) ?_⟩
    repeat trivial
    have := q _ rfl [some (hO (hearO s (ltI p.1 p.2)).1), some (.d (ltI p.1 p.2))] rfl
    simp only [e, noneT] at this
    exact ⟨rfl, this⟩
  · refine ⟨na_hear e, na_hear e, ?_⟩
    have := q _ rfl [some (hO (hearO s (ltI p.1 p.2)).1), some (.d (ltI p.1 p.2))] rfl
    simp only [e, noneT] at this
    exact this
theorem pl_law_due : PlD S_law_due w_law_due N_law_due := by
  rintro ts Q Ex ⟨⟨ca, se, as, he, bg⟩, w, c, rfl, hi, hw, hc, q⟩
  have fin : ∀ d ρ, dueD ⟨ca, se, as, he, bg⟩ w c = d → Q (.d d) ρ := fun d ρ e => by subst e; exact q ρ
  obtain ⟨ho, i1, i2⟩ := hi
  have kw := ho.kw
  simp only at i1 i2 kw
  unfold w_law_due toldL
  cases bg with
  | false =>
    repeat trivial
    exact ⟨rfl, fin _ _ rfl⟩
  | true =>
    unfold dueD at fin
    rw [hear_of rfl hw hc] at fin
    rcases hw with rfl | rfl | rfl
    · rw [if_pos rfl] at fin
      cases he with
      | none =>
        repeat trivial
        refine xEqS rfl rfl ?_
        repeat trivial
        exact ⟨rfl, fin _ _ rfl⟩
      | some h =>
        repeat trivial
        refine xEqS rfl rfl ?_
        repeat trivial
        refine xIte (fun z => ?_) fun z => ?_
        · have z' := of_decide_eq_true z
          repeat trivial
          exact ⟨rfl, fin _ _ (by unfold mineO; rw [if_neg (by show ¬ decide (c < h) = true; simp; omega)]; rfl)⟩
        · have z' := of_decide_eq_false z
          repeat trivial
          exact ⟨rfl, fin _ _ (by unfold mineO; rw [if_pos (by show decide (c < h) = true; simp; omega)]; rfl)⟩
    · rw [if_neg (by decide +kernel), if_pos rfl] at fin
      cases as with
      | some a =>
        repeat trivial
        refine xEqS rfl rfl ?_
        repeat trivial
        refine xEqS rfl rfl ?_
        repeat trivial
        refine ⟨rfl, fin _ _ ?_⟩
        cases ca with
        | some l => exact absurd (i1 (fun z => nomatch z)).2 (fun z => nomatch z)
        | none =>
          cases se with
          | none => rfl
          | some l => exact congrArg dueOf (if_neg fun z => nomatch z.2)
      | none =>
        cases ca with
        | some l =>
          obtain ⟨rfl, _⟩ := i1 (fun z => nomatch z)
          repeat trivial
          refine xEqS rfl rfl ?_
          repeat trivial
          refine xEqS rfl rfl ?_
          repeat trivial
          refine xIte (fun z => ?_) fun z => ?_
          · have z' := of_decide_eq_true z
            repeat trivial
            exact ⟨rfl, fin _ _ (congrArg dueOf (if_neg fun y => by omega))⟩
          · have z' := of_decide_eq_false z
            repeat trivial
            exact ⟨rfl, fin _ _ (congrArg dueOf (if_pos ⟨by omega, rfl⟩))⟩
        | none =>
          cases se with
          | none => exact absurd rfl (kw rfl)
          | some l =>
            repeat trivial
            refine xEqS rfl rfl ?_
            repeat trivial
            refine xEqS rfl rfl ?_
            repeat trivial
            refine xIte (fun z => ?_) fun z => ?_
            · have z' := of_decide_eq_true z
              repeat trivial
              exact ⟨rfl, fin _ _ (congrArg dueOf (if_neg fun y => by omega))⟩
            · have z' := of_decide_eq_false z
              repeat trivial
              exact ⟨rfl, fin _ _ (congrArg dueOf (if_pos ⟨by omega, rfl⟩))⟩
    · rw [if_neg (by decide +kernel), if_neg (by decide +kernel)] at fin
      cases ca with
      | some l =>
        obtain ⟨rfl, _⟩ := i1 (fun z => nomatch z)
        repeat trivial
        refine xEqS rfl rfl ?_
        repeat trivial
        refine xEqS rfl rfl ?_
        repeat trivial
        exact ⟨rfl, fin _ _ rfl⟩
      | none =>
        cases se with
        | none => exact absurd rfl (kw rfl)
        | some t =>
          cases he with
          | none => exact absurd rfl (i2 rfl)
          | some h =>
            repeat trivial
            refine xEqS rfl rfl ?_
            repeat trivial
            refine xEqS rfl rfl ?_
            repeat trivial
            refine xIte (fun z => ?_) fun z => ?_
            · have z' := of_decide_eq_true z
              repeat trivial
              exact ⟨rfl, fin _ _ (congrArg dueOf (if_neg fun y => by omega))⟩
            · have z' := of_decide_eq_false z
              repeat trivial
              refine xIte (fun y => ?_) fun y => ?_
              · have y' := of_decide_eq_true y
                repeat trivial
                exact ⟨rfl, fin _ _ (congrArg dueOf (if_neg fun y => by omega))⟩
              · have y' := of_decide_eq_false y
                cases as with
                | none =>
                  repeat trivial
                  exact ⟨rfl, fin _ _ (congrArg dueOf (if_pos ⟨by omega, by omega⟩))⟩
                | some a =>
                  repeat trivial
                  exact ⟨rfl, fin _ _ (congrArg dueOf (if_pos ⟨by omega, by omega⟩))⟩
theorem pl_law_letter : PlD S_law_letter w_law_letter N_law_letter := by
  rintro ts Q Ex ⟨a, b, c, ⟨ca, se, as, he, bg⟩, rfl, hp, hi, q⟩
  obtain ⟨ho, i1, i2⟩ := hi
  have kw := ho.kw
  have kc := ho.kc
  have ks := ho.ks
  have kh := ho.kh
  simp only at i1 i2 kw kc ks kh
  unfold w_law_letter toldL
  have p9 : (10 : Int) ^ (9 : Int).toNat = 1000000000 := by decide +kernel
  have early : ∀ w x a' c' k (l : List (Option T)), wOk w → CardI x → Pot a' b c' k → 0 ≤ k → c ≤ c' → c' ≤ c + 12 → Q (.d (ltI w x)) (some (potT a' b c') :: l) := fun w x a' c' k l h1 h2 h3 h4 h5 h6 => q w x a' c' _ h1 h2 h3.1 h5 h6 rfl
  iterate 16 trivial
  with_reducible refine xSeqR (fun ρ => ∃ hr : Int, CardI hr ∧ ρ = [some (potT a b c), some (.d (.list [oi ca, oi se, oi as, oi he, .bool bg])), some (.d (oi ca)), some (.d (oi se)), some (.d (oi as)), some (.d (oi he)), some (.d (.bool bg)), some (.d (.int hr)), none, none, none, none]) ?_ fun N hN => ?_
  · rintro ρ ⟨hr, hhr, rfl⟩
    unfold CardI at hhr
    refine xSeq ?_
    iterate 11 trivial
    with_reducible refine xSeqR (fun ρ => ∃ (y1 y2 y3 a1 c1 : Int), (-10 ≤ y1 ∧ y1 ≤ 999999999) ∧ (-10 ≤ y2 ∧ y2 ≤ 999999999) ∧ (-10 ≤ y3 ∧ y3 ≤ 999999999) ∧ Pot a1 b c1 10 ∧ c ≤ c1 ∧ c1 ≤ c + 2 ∧ ρ = [some (potT a1 b c1), some (.d (.list [oi ca, oi se, oi as, oi he, .bool bg])), some (.d (oi ca)), some (.d (oi se)), some (.d (oi as)), some (.d (oi he)), some (.d (.bool bg)), some (.d (.int hr)), some (intL [y1, y2, y3]), none, none, none]) ?_ fun N hN => ?_
    · rintro ρ ⟨y1, y2, y3, a1, c1, hy1, hy2, hy3, hp1, c10, c11, rfl⟩
      repeat trivial
      refine xTake rfl hp1 (by decide) (by decide) (by decide) fun i2 a2 c2 i20 i21 hp2 c20 c21 => ?_
      repeat trivial
      refine xTake rfl hp2 (by decide) (by omega) (by omega) fun i3 a3 c3 i30 i31 hp3 c30 c31 => ?_
      repeat trivial
      refine xTake rfl hp3 (by decide) (by decide) (by decide) fun wy a4 c4 w0 w1 hp4 c40 c41 => ?_
      have atb : ∀ i, 0 ≤ i → i < 3 → ∃ y, (-10 ≤ y ∧ y ≤ 999999999) ∧ atI [PyData.int y1, .int y2, .int y3] i = some (.int y) := fun i h0 h1 => by
        have : i = 0 ∨ i = 1 ∨ i = 2 := by omega
        rcases this with rfl | rfl | rfl
        · exact ⟨y1, hy1, rfl⟩
        · exact ⟨y2, hy2, rfl⟩
        · exact ⟨y3, hy3, rfl⟩
      have ata : ∀ i, 0 ≤ i → i < 3 → ∃ y, 0 ≤ y ∧ atI [PyData.int (hr + 1), .int (hr + 1 + i2), .int (hr + i3)] i = some (.int y) := fun i h0 h1 => by
        have : i = 0 ∨ i = 1 ∨ i = 2 := by omega
        rcases this with rfl | rfl | rfl
        · exact ⟨_, by omega, rfl⟩
        · exact ⟨_, by omega, rfl⟩
        · exact ⟨_, by omega, rfl⟩
      refine xSetK rfl ?_
      repeat trivial
      refine xIte (fun h => ?_) fun h => ?_
      · repeat trivial
        refine xTake rfl hp4 (by decide) (by decide) (by decide) fun i5 a5 c5 i50 i51 hp5 c50 c51 => ?_
        obtain ⟨y, hy, ey⟩ := atb i5 i50 i51
        refine xIxAL (ds := [.int y1, .int y2, .int y3]) rfl ey ?_
        repeat trivial
        exact ⟨rfl, early "mine" _ _ _ _ _ (.inl rfl) (by unfold CardI; omega) hp5 (by omega) (by omega) (by omega)⟩
      repeat trivial
      refine xIte (fun h => ?_) fun h => ?_
      · repeat trivial
        refine xTake rfl hp4 (by decide) (by decide) (by decide) fun i5 a5 c5 i50 i51 hp5 c50 c51 => ?_
        obtain ⟨y, hy, ey⟩ := ata i5 i50 i51
        refine xIxAL (ds := [.int (hr + 1), .int (hr + 1 + i2), .int (hr + i3)]) rfl ey ?_
        repeat trivial
        exact ⟨rfl, early "over" _ _ _ _ _ (.inr (.inl rfl)) (by unfold CardI; omega) hp5 (by omega) (by omega) (by omega)⟩
      repeat trivial
      have near : ∀ l : Option T, w5_law_letter { nx := fun ρ => Q (.d .none) ρ, rt := fun t ρ => noAl t = true ∧ Q t ρ, ex := Ex } [some (potT a4 b c4), some (.d (.list [oi ca, oi se, oi as, oi he, .bool bg])), some (.d (oi ca)), some (.d (oi se)), some (.d (oi as)), some (.d (oi he)), some (.d (.bool bg)), some (.d (.int hr)), some (intL [y1, y2, y3]), some (intL [hr + 1, hr + 1 + i2, hr + i3]), some (.d (.int wy)), l] := fun l => by
        repeat trivial
        refine xTake rfl hp4 (by decide) (by decide) (by decide) fun i5 a5 c5 i50 i51 hp5 c50 c51 => ?_
        repeat trivial
        refine xTake rfl hp5 (by decide) (by decide) (by decide) fun i6 a6 c6 i60 i61 hp6 c60 c61 => ?_
        obtain ⟨w, hw, ew⟩ : ∃ w : Str, wOk w ∧ atI [PyData.str "mine", .str "over", .str "back"] i6 = some (.str w) := by
          have : i6 = 0 ∨ i6 = 1 ∨ i6 = 2 := by omega
          rcases this with rfl | rfl | rfl
          · exact ⟨_, .inl rfl, rfl⟩
          · exact ⟨_, .inr (.inl rfl), rfl⟩
          · exact ⟨_, .inr (.inr rfl), rfl⟩
        refine xIxL ew ?_
        repeat trivial
        exact ⟨rfl, early w _ _ _ _ _ hw (by unfold CardI; omega) hp6 (by omega) (by omega) (by omega)⟩
      refine xIte (fun h => ?_) fun h => ?_
      · cases se with
        | none =>
          refine xT ?_
          refine xOp ?_
          refine xVarD rfl ?_
          refine xC ?_
          refine xIsNK rfl ?_
          refine xTK ?_
          refine xNo rfl ?_
          refine xNext ?_
          exact near none
        | some t =>
          have := ks t rfl
          unfold CardI at this
          repeat trivial
          refine xTake rfl hp4 (by decide) (by decide) (by decide) fun i5 a5 c5 i50 i51 hp5 c50 c51 => ?_
          obtain ⟨y, hy, ey⟩ := atb i5 i50 i51
          refine xIxAL (ds := [.int y1, .int y2, .int y3]) rfl ey ?_
          repeat trivial
          refine xTake rfl hp5 (by decide) (by decide) (by decide) fun i6 a6 c6 i60 i61 hp6 c60 c61 => ?_
          repeat trivial
          exact ⟨rfl, early "back" _ _ _ _ _ (.inr (.inr rfl)) (by unfold CardI; omega) hp6 (by omega) (by omega) (by omega)⟩
      · refine xNext ?_
        exact near none
    · repeat trivial
      cases he with
      | none =>
        repeat trivial
        exact hN _ ⟨hr, 7, 0, a, c, by omega, by omega, by omega, ⟨hp.1, hp.2.1, hp.2.2.1, hp.2.2.2.1, by have := hp.2.2.2.2; omega⟩, by omega, by omega, rfl⟩
      | some h0 =>
        have := kh h0 rfl
        unfold CardI at this
        repeat trivial
        refine xTake rfl hp (by decide) (by decide) (by decide) fun i2 a2 c2 i20 i21 hp2 c20 c21 => ?_
        repeat trivial
        refine xTake rfl hp2 (by decide) (by omega) (by omega) fun i3 a3 c3 i30 i31 hp3 c30 c31 => ?_
        repeat trivial
        exact hN _ ⟨h0 - 1, h0 - 1 - i2, i3, a3, c3, by omega, by omega, by omega, ⟨hp3.1, hp3.2.1, hp3.2.2.1, hp3.2.2.2.1, by have := hp3.2.2.2.2; omega⟩, by omega, by omega, rfl⟩
  · repeat trivial
    cases ca with
    | none =>
      cases se with
      | none => exact absurd rfl (kw rfl)
      | some t =>
        repeat trivial
        exact hN _ ⟨t, ks t rfl, rfl⟩
    | some t =>
      repeat trivial
      exact hN _ ⟨t, kc t rfl, rfl⟩
end LW.H

namespace LW.H
open PySem PySem.Spec L2 TX

local macro_rules | `(tactic| trivial) => `(tactic| with_reducible refine xIEz ?_)
local macro_rules | `(tactic| trivial) => `(tactic| with_reducible refine xLi ?_)
local macro_rules | `(tactic| trivial) => `(tactic| with_reducible refine xAppD21 ?_)
local macro_rules | `(tactic| trivial) => `(tactic| with_reducible refine xAppD11 ?_)
local macro_rules | `(tactic| trivial) => `(tactic| with_reducible refine xAppD ?_)
local macro_rules | `(tactic| trivial) => `(tactic| with_reducible refine xClip ?_)
local macro_rules | `(tactic| trivial) => `(tactic| with_reducible refine xDcT ?_)
local macro_rules | `(tactic| trivial) => `(tactic| with_reducible refine xGdD ?_)
local macro_rules | `(tactic| trivial) => `(tactic| with_reducible refine xGdA (by with_unfolding_all rfl) ?_)
local macro_rules | `(tactic| trivial) => `(tactic| with_reducible refine xGd2 ?_)
local macro_rules | `(tactic| trivial) => `(tactic| with_reducible refine xGd1 ?_)
local macro_rules | `(tactic| trivial) => `(tactic| with_reducible refine xLc2 ?_)
local macro_rules | `(tactic| trivial) => `(tactic| with_reducible refine xIDcK ?_)
local macro_rules | `(tactic| trivial) => `(tactic| with_reducible refine xIDc ?_)
local macro_rules | `(tactic| trivial) => `(tactic| with_reducible refine xVarL (by with_unfolding_all rfl) ?_)
local macro_rules | `(tactic| trivial) => `(tactic| with_reducible refine xIsB (by with_unfolding_all rfl) (by with_unfolding_all rfl) ?_)
local macro_rules | `(tactic| trivial) => `(tactic| with_reducible refine xGLst (by with_unfolding_all rfl) ?_)
local macro_rules | `(tactic| trivial) => `(tactic| with_reducible refine xIe2 ?_)
local macro_rules | `(tactic| trivial) => `(tactic| with_reducible refine xIe1 ?_)
local macro_rules | `(tactic| trivial) => `(tactic| with_reducible refine xGe2 ?_)
local macro_rules | `(tactic| trivial) => `(tactic| with_reducible refine xGe1 ?_)
local macro_rules | `(tactic| trivial) => `(tactic| with_reducible refine xDpl ?_)
local macro_rules | `(tactic| trivial) => `(tactic| with_reducible refine xDc ?_)
local macro_rules | `(tactic| trivial) => `(tactic| with_reducible refine xDcL ?_)
local macro_rules | `(tactic| trivial) => `(tactic| with_reducible refine xRep ?_)
local macro_rules | `(tactic| trivial) => `(tactic| with_reducible refine xGtD ?_)
local macro_rules | `(tactic| trivial) => `(tactic| with_reducible refine xGtA (by with_unfolding_all rfl) ?_)
local macro_rules | `(tactic| trivial) => `(tactic| with_reducible refine xGt2 ?_)
local macro_rules | `(tactic| trivial) => `(tactic| with_reducible refine xGt1 ?_)
local macro_rules | `(tactic| trivial) => `(tactic| with_reducible refine xSlTK ?_)
local macro_rules | `(tactic| trivial) => `(tactic| with_reducible refine xSlT ?_)
local macro_rules | `(tactic| trivial) => `(tactic| with_reducible refine xListR ?_)
local macro_rules | `(tactic| trivial) => `(tactic| with_reducible refine xRev2 ?_)
local macro_rules | `(tactic| trivial) => `(tactic| with_reducible refine xIsNK (by with_unfolding_all rfl) ?_)
local macro_rules | `(tactic| trivial) => `(tactic| with_reducible refine xIR2 ?_)
local macro_rules | `(tactic| trivial) => `(tactic| with_reducible refine xIZip ?_)
local macro_rules | `(tactic| trivial) => `(tactic| with_reducible refine xITupK ?_)
local macro_rules | `(tactic| trivial) => `(tactic| with_reducible refine xITup ?_)
local macro_rules | `(tactic| trivial) => `(tactic| with_reducible refine xDi2 ?_)
local macro_rules | `(tactic| trivial) => `(tactic| with_reducible refine xDi1 ?_)
local macro_rules | `(tactic| trivial) => `(tactic| with_reducible refine xRevTK ?_)
local macro_rules | `(tactic| trivial) => `(tactic| with_reducible refine xRevT ?_)
local macro_rules | `(tactic| trivial) => `(tactic| with_reducible refine xPaK (by with_unfolding_all rfl) (by with_unfolding_all rfl) ?_)
local macro_rules | `(tactic| trivial) => `(tactic| with_reducible refine xPar ?_)
local macro_rules | `(tactic| trivial) => `(tactic| with_reducible refine xDp2 ?_)
local macro_rules | `(tactic| trivial) => `(tactic| with_reducible refine xDg2 ?_)
local macro_rules | `(tactic| trivial) => `(tactic| with_reducible refine xDp1 ?_)
local macro_rules | `(tactic| trivial) => `(tactic| with_reducible refine xDg1 ?_)
local macro_rules | `(tactic| trivial) => `(tactic| with_reducible refine xYesT ?_)
local macro_rules | `(tactic| trivial) => `(tactic| with_reducible refine xGsNil ?_)
local macro_rules | `(tactic| trivial) => `(tactic| with_reducible refine xGsCons ?_)
local macro_rules | `(tactic| trivial) => `(tactic| with_reducible refine xGTup (by with_unfolding_all rfl) ?_)
local macro_rules | `(tactic| trivial) => `(tactic| with_reducible refine xNm (by with_unfolding_all rfl) ?_)
local macro_rules | `(tactic| trivial) => `(tactic| with_reducible refine xLenSet ?_)
local macro_rules | `(tactic| trivial) => `(tactic| with_reducible refine xCat ?_)
local macro_rules | `(tactic| trivial) => `(tactic| with_reducible refine xRevS ?_)
local macro_rules | `(tactic| trivial) => `(tactic| with_reducible refine xPartK ?_)
local macro_rules | `(tactic| trivial) => `(tactic| with_reducible refine xPart ?_)
local macro_rules | `(tactic| trivial) => `(tactic| with_reducible refine xNoPart ?_)
local macro_rules | `(tactic| trivial) => `(tactic| with_reducible refine xSl ?_)
local macro_rules | `(tactic| trivial) => `(tactic| with_reducible refine xIEn ?_)
local macro_rules | `(tactic| trivial) => `(tactic| with_reducible refine xIR1 ?_)
local macro_rules | `(tactic| trivial) => `(tactic| with_reducible refine xILK (by with_unfolding_all rfl) ?_)
local macro_rules | `(tactic| trivial) => `(tactic| with_reducible refine xILst ?_)
local macro_rules | `(tactic| trivial) => `(tactic| with_reducible refine xFor ?_)
local macro_rules | `(tactic| trivial) => `(tactic| with_reducible refine xLc ?_)
local macro_rules | `(tactic| trivial) => `(tactic| with_reducible refine xMD ?_)
local macro_rules | `(tactic| trivial) => `(tactic| with_reducible refine xMA (by with_unfolding_all rfl) ?_)
local macro_rules | `(tactic| trivial) => `(tactic| with_reducible refine xM ?_)
local macro_rules | `(tactic| trivial) => `(tactic| with_reducible refine xCall ?_)
local macro_rules | `(tactic| trivial) => `(tactic| with_reducible refine xIs (by with_unfolding_all rfl) (by with_unfolding_all rfl) ?_)
local macro_rules | `(tactic| trivial) => `(tactic| with_reducible refine xNo (by with_unfolding_all rfl) ?_)
local macro_rules | `(tactic| trivial) => `(tactic| with_reducible refine xYes (by with_unfolding_all rfl) ?_)
local macro_rules | `(tactic| trivial) => `(tactic| with_reducible refine xMin (by with_unfolding_all rfl) (by with_unfolding_all rfl) ?_)
local macro_rules | `(tactic| trivial) => `(tactic| with_reducible refine xMax (by with_unfolding_all rfl) (by with_unfolding_all rfl) ?_)
local macro_rules | `(tactic| trivial) => `(tactic| with_reducible refine xLen (by with_unfolding_all rfl) ?_)
local macro_rules | `(tactic| trivial) => `(tactic| with_reducible refine xTupK (by with_unfolding_all rfl) ?_)
local macro_rules | `(tactic| trivial) => `(tactic| with_reducible refine xTup ?_)
local macro_rules | `(tactic| trivial) => `(tactic| with_reducible refine xLstK (by with_unfolding_all rfl) ?_)
local macro_rules | `(tactic| trivial) => `(tactic| with_reducible refine xLst ?_)
local macro_rules | `(tactic| trivial) => `(tactic| with_reducible refine xFn ?_)
local macro_rules | `(tactic| trivial) => `(tactic| with_reducible refine xCons ?_)
local macro_rules | `(tactic| trivial) => `(tactic| with_reducible refine xNil ?_)
local macro_rules | `(tactic| trivial) => `(tactic| with_reducible refine xIxA (by with_unfolding_all rfl) (by with_unfolding_all rfl) (by with_unfolding_all rfl) ?_)
local macro_rules | `(tactic| trivial) => `(tactic| with_reducible refine xIx ?_)
local macro_rules | `(tactic| trivial) => `(tactic| with_reducible refine xCh2 (by with_unfolding_all rfl) (by with_unfolding_all rfl) ?_)
local macro_rules | `(tactic| trivial) => `(tactic| with_reducible refine xCh1 (by with_unfolding_all rfl) (by with_unfolding_all rfl) ?_)
local macro_rules | `(tactic| trivial) => `(tactic| with_reducible refine xCh ?_)
local macro_rules | `(tactic| trivial) => `(tactic| with_reducible refine xIf ?_)
local macro_rules | `(tactic| trivial) => `(tactic| with_reducible refine xBK ?_)
local macro_rules | `(tactic| trivial) => `(tactic| with_reducible refine xNotV ?_)
local macro_rules | `(tactic| trivial) => `(tactic| with_reducible refine xOrV ?_)
local macro_rules | `(tactic| trivial) => `(tactic| with_reducible refine xAndV ?_)
local macro_rules | `(tactic| trivial) => `(tactic| with_reducible refine xOr ?_)
local macro_rules | `(tactic| trivial) => `(tactic| with_reducible refine xAnd ?_)
local macro_rules | `(tactic| trivial) => `(tactic| with_reducible refine xNot ?_)
local macro_rules | `(tactic| trivial) => `(tactic| with_reducible refine xTK ?_)
local macro_rules | `(tactic| trivial) => `(tactic| with_reducible refine xT ?_)
local macro_rules | `(tactic| trivial) => `(tactic| with_reducible refine xIc (by with_unfolding_all rfl) (by with_unfolding_all rfl) (by with_unfolding_all first | omega | exact ⟨by decide, by decide +kernel⟩) ?_)
local macro_rules | `(tactic| trivial) => `(tactic| with_reducible refine xNegK ?_)
local macro_rules | `(tactic| trivial) => `(tactic| with_reducible refine xNeg ?_)
local macro_rules | `(tactic| trivial) => `(tactic| with_reducible refine xNeI (by with_unfolding_all rfl) (by with_unfolding_all rfl) ?_)
local macro_rules | `(tactic| trivial) => `(tactic| with_reducible refine xEqI (by with_unfolding_all rfl) (by with_unfolding_all rfl) ?_)
local macro_rules | `(tactic| trivial) => `(tactic| with_reducible refine xB (by with_unfolding_all rfl) (by with_unfolding_all rfl) ?_)
local macro_rules | `(tactic| trivial) => `(tactic| with_reducible refine xI (by with_unfolding_all rfl) (by with_unfolding_all rfl) ?_)
local macro_rules | `(tactic| trivial) => `(tactic| with_reducible refine xOp ?_)
local macro_rules | `(tactic| trivial) => `(tactic| with_reducible refine xC ?_)
local macro_rules | `(tactic| trivial) => `(tactic| with_reducible refine xVarN (by with_unfolding_all rfl) (by with_unfolding_all rfl) ?_)
local macro_rules | `(tactic| trivial) => `(tactic| with_reducible refine xVarZ (by with_unfolding_all rfl) ?_)
local macro_rules | `(tactic| trivial) => `(tactic| with_reducible refine xVarD (by with_unfolding_all rfl) ?_)
local macro_rules | `(tactic| trivial) => `(tactic| with_reducible refine xSbK (by with_unfolding_all rfl) (by with_unfolding_all rfl) (by with_unfolding_all rfl) ?_)
local macro_rules | `(tactic| trivial) => `(tactic| with_reducible refine xSub ?_)
local macro_rules | `(tactic| trivial) => `(tactic| with_reducible refine xAsK (by with_unfolding_all rfl) ?_)
local macro_rules | `(tactic| trivial) => `(tactic| with_reducible refine xAsg ?_)
local macro_rules | `(tactic| trivial) => `(tactic| with_reducible refine xRet ?_)
local macro_rules | `(tactic| trivial) => `(tactic| with_reducible refine xDrop ?_)
local macro_rules | `(tactic| trivial) => `(tactic| with_reducible refine xIfS ?_)
local macro_rules | `(tactic| trivial) => `(tactic| with_reducible refine xNext ?_)
local macro_rules | `(tactic| trivial) => `(tactic| with_reducible refine xSetK (by with_unfolding_all rfl) ?_)
local macro_rules | `(tactic| trivial) => `(tactic| with_reducible refine xSet ?_)
local macro_rules | `(tactic| trivial) => `(tactic| with_reducible refine xSeq ?_)

local macro_rules | `(tactic| trivial) => `(tactic| with_reducible refine xPa3K (by with_unfolding_all rfl) (by with_unfolding_all rfl) (by with_unfolding_all rfl) ?_)
local macro_rules | `(tactic| trivial) => `(tactic| with_reducible refine xPar3 ?_)
local macro_rules | `(tactic| trivial) => `(tactic| with_reducible refine xSetP ?_)
local macro_rules | `(tactic| trivial) => `(tactic| with_reducible refine xAslK (by with_unfolding_all rfl) (by with_unfolding_all rfl) ?_)
local macro_rules | `(tactic| trivial) => `(tactic| with_reducible refine xAsgL ?_)
local macro_rules | `(tactic| trivial) => `(tactic| with_reducible refine xTryM ?_)
local macro_rules | `(tactic| trivial) => `(tactic| with_reducible refine xMake ?_)
local macro_rules | `(tactic| trivial) => `(tactic| with_reducible refine xMt ?_)
local macro_rules | `(tactic| trivial) => `(tactic| with_reducible refine xMo (by with_unfolding_all rfl) (by decide +kernel) ?_)
local macro_rules | `(tactic| trivial) => `(tactic| with_reducible refine xMeth ?_)
local macro_rules | `(tactic| trivial) => `(tactic| with_reducible refine xSetF ?_)
local macro_rules | `(tactic| trivial) => `(tactic| with_reducible refine xFld ?_)

set_option pp.maxSteps 500
abbrev N_law_gone : List Str := ["_law_hand", "_law_state", "_law_card", "_law_sent", "_law_aside", "_law_heard_here", "_law_began", "_law_can", "_law_told_here"]
abbrev w0_law_gone : TwS := (wRet (wIf (wT (wVar 7)) (wLst (wCons (wC (.d .none)) (wCons (wVar 2) (wCons (wC (.d .none)) (wCons (wVar 5) (wCons (wC (.d (.bool true))) wNil)))))) (wVar 1)))
abbrev w1_law_gone : TwS := (wSeq (wIfS (wT (wOp (fNe) (wFn (k1 fRepr) (wCons (wVar 8) wNil)) (wFn (k1 fRepr) (wCons (wIf (wT (wVar 7)) (wLst (wCons (wTup (wCons (wC (.d (.str "over"))) (wCons (wVar 2) wNil))) wNil)) (wC (.d .none))) wNil)))) (wRet (wC (.d .none))) wNext)
    w0_law_gone)
abbrev w2_law_gone : TwS := (wSeq (wSet 8 (wC (.d .none)))
    (wSeq (wTryM exN [("Idle", (wSet 8 (wC (.d .none))))] (wSet 8 (wMeth "Hand" "go" [0] 1 S_Hand_go (wVar 0) wNil)))
    w1_law_gone))
abbrev w3_law_gone : TwS := (wSeq (wSet 7 (wAndV (wVar 6) (wAndV (wOp (fIsN true) (wVar 2) (wC (.d .none))) (wAndV (wOp (fIsN true) (wVar 5) (wC (.d .none))) (wOp (fB fun i j => decide (j < i)) (wVar 2) (wVar 5))))))
    w2_law_gone)
def w_law_gone : TwS := (wSeq (wAsgL (wVar 1) 5 (wGsCons (wNm 2) (wGsCons (wNm 3) (wGsCons (wNm 4) (wGsCons (wNm 5) (wGsCons (wNm 6) wGsNil))))))
    w3_law_gone)
def wP_law_gone : TwS := (wSeq (wAsgL (wVar 1) 5 (wGsCons (wNm 2) (wGsCons (wNm 3) (wGsCons (wNm 4) (wGsCons (wNm 5) (wGsCons (wNm 6) wGsNil))))))
    w3_law_gone)
abbrev N_law_right : List Str := ["_law_pot_here", "_law_card", "_law_hand", "_law_state", "_law_turn", "_law_letter_here", "_law_due_here", "_law_told_here"]
abbrev w0_law_right : TwS := (wSeq (wDrop (wM isLst kApp (wVar 7) (wCons (wTup (wCons (wC (.d (.str "over"))) (wCons (wC (.d (.int 5))) wNil))) wNil)))
    (wSet 3 (wIx (wVar 6) (wC (.d (.int 1))))))
abbrev w1_law_right : TwS := (wSeq (wIfS (wT (wOp (fNe) (wFn (k1 fRepr) (wCons (wVar 7) wNil)) (wFn (k1 fRepr) (wCons (wIf (wT (wOp (fIsN false) (wVar 6) (wC (.d .none)))) (wC (.d .none)) (wIx (wVar 6) (wC (.d (.int 0))))) wNil)))) (wRet (wC (.d (.bool false)))) wNext)
    (wIfS (wT (wOp (fIsN true) (wVar 6) (wC (.d .none)))) w0_law_right wNext))
abbrev w2_law_right : TwS := (wSeq (wSet 6 (wCall [] 2 S_law_due (wCons (wVar 3) (wCons (wVar 5) wNil))))
    (wSeq (wSet 7 (wCall [0] 2 S_law_heard (wCons (wVar 2) (wCons (wVar 5) wNil))))
    w1_law_right))
abbrev w3_law_right : TwS := (wIfS (wT (wOp (fEq) (wCall [0] 2 S_law_take (wCons (wVar 0) (wCons (wC (.d (.int 4))) wNil))) (wC (.d (.int 0))))) (wSetP 3 (wEi (wCall [0] 2 S_law_gone (wCons (wVar 2) (wCons (wVar 3) wNil))) (wCallP [0, 1] 2 SP_law_gone (wCons (wVar 2) (wCons (wVar 3) wNil))))) (wSeq (wSet 5 (wCall [0] 2 S_law_letter (wCons (wVar 0) (wCons (wVar 3) wNil))))
    w2_law_right))
abbrev w4_law_right : TwS := (wIfS (wOr (wT (wOp (fIsN false) (wVar 3) (wC (.d .none)))) (wT (wOp (fNe) (wFn (k1 fRepr) (wCons (wCall [0] 1 S_law_told (wCons (wVar 2) wNil)) wNil)) (wFn (k1 fRepr) (wCons (wVar 3) wNil))))) (wRet (wC (.d (.bool false)))) wNext)
abbrev w5_law_right : TwS := (wSeq (wIfS (wAnd (wNot (wT (wIx (wVar 3) (wC (.d (.int 4)))))) (wT (wOp (fB fun i j => decide (j < i)) (wCall [0] 2 S_law_take (wCons (wVar 0) (wCons (wC (.d (.int 3))) wNil))) (wC (.d (.int 0)))))) (wSeq (wDrop (wMeth "Hand" "begin" [0] 1 S_Hand_begin (wVar 2) wNil))
    (wAsg (wC (.d (.bool true))) (wSub (wVar 3) (wC (.d (.int 4)))))) wNext)
    (wSeq (wEiS (wFrz 3 w3_law_right) w3_law_right)
    w4_law_right))
def w_law_right : TwS := (wSeq (wPar 2 3 (wCons (wMake "Hand" 1 S_Hand_init (wCons (wVar 1) wNil)) (wCons (wCall [] 1 S_law_fresh (wCons (wVar 1) wNil)) wNil)))
    (wSeq (wFor (wIR1 (wCons (wC (.d (.int 40))) wNil)) (wNm 4) w5_law_right)
    (wRet (wC (.d (.bool true))))))
abbrev N_law : List Str := ["_law_script", "_law_k", "_law_pot_here", "_law_card"]
abbrev w0_law : TwS := (wFor (wILst (wCall [0] 2 S_law_cards (wCons (wVar 2) (wCons (wC (.d (.int 3))) wNil)))) (wNm 3) (wIfS (wNot (wT (wCall [0] 2 S_law_right (wCons (wVar 2) (wCons (wVar 3) wNil))))) (wRet (wC (.d (.bool false)))) wNext))
def w_law : TwS := (wSeq (wFor (wIR1 (wCons (wFn (k2 fMax) (wCons (wC (.d (.int 1))) (wCons (wFn (k2 fMin) (wCons (wC (.d (.int 6))) (wCons (wFn kLen (wCons (wVar 0) wNil)) wNil))) wNil))) wNil)) (wNm 1) (wSeq (wSet 2 (wCall [] 2 S_law_pot (wCons (wVar 0) (wCons (wVar 1) wNil))))
    w0_law))
    (wRet (wC (.d (.bool true)))))
theorem gone_told {s : HS} (hi : HI s) (m : mayGo s = true) : [PyData.none, oi s.card, .none, oi s.heard, .bool true] = toldL (gone s) := by
  obtain ⟨ca, se, as, he, bg⟩ := s
  have hc : ca ≠ none := fun z => by subst z; unfold mayGo at m; simp at m
  have hb : bg = true := by unfold mayGo at m; simp at m; exact m.1
  obtain ⟨_, h2⟩ := hi.i1 hc
  simp only at h2
  subst h2 hb
  rfl
theorem gone_tail {s : HS} (hi : HI s) (x1 : T) (D : EndsT) (h1 : mayGo s = true → ∀ l, D.rt (lets (toldL (gone s))) (some (hO (gone s)) :: some x1 :: l)) (h2 : mayGo s = false → ∀ l, wVar 1 (some (hO s) :: some x1 :: l) D.rt D.ex) :
    w2_law_gone D [some (hO s), some x1, some (.d (oi s.card)), some (.d (oi s.sent)), some (.d (oi s.aside)), some (.d (oi s.heard)), some (.d (.bool s.began)), some (.d (.bool (mayGo s))), none] := by
  have gt := gone_told hi
  have hok := hi.ok
  have rp : Rpr (.list [ltD "over" s.card]) 100 3 := (Rpr.list (.cons (rprLt (.of_chk (by decide +kernel)) hok.kc) .nil)).mono (by decide) (by decide)
  have rn : Rpr .none 100 3 := Rpr.none.mono (by decide) (by decide)
  cases m : mayGo s with
  | true =>
    have gt := gt m
    have h1 := h1 m
    have eg : goO s = (gone s, .inr (lets [ltD "over" s.card])) := if_pos m
    repeat trivial
    refine xCaH (args := fun _ : Unit => []) (f := fun s _ => goO s) s () rfl rfl rfl rfl trivial (fun c e => by rw [eg] at e; cases e) (fun t e => ?_)
    rw [eg] at e ⊢
    cases e
    refine ⟨rfl, ?_⟩
    repeat trivial
    refine xReprR (x := .list [ltD "over" s.card]) rfl rp ?_
    repeat trivial
    refine xReprR (x := .list [ltD "over" s.card]) rfl rp ?_
    repeat trivial
    refine xNeS rfl rfl ?_
    rw [eqS_self]
    repeat trivial
    rw [gt]
    exact h1 _
  | false =>
    have eg : goO s = (s, .inl "Idle") := if_neg (by rw [m]; exact fun z => nomatch z)
    repeat trivial
    refine xCaH (args := fun _ : Unit => []) (f := fun s _ => goO s) s () rfl rfl rfl rfl trivial (fun c e => ?_) (fun t e => by rw [eg] at e; cases e)
    rw [eg] at e ⊢
    cases e
    refine ⟨by decide +kernel, xHdY (by decide +kernel) ?_⟩
    repeat trivial
    refine xReprR (x := .none) rfl rn ?_
    repeat trivial
    refine xReprR (x := .none) rfl rn ?_
    repeat trivial
    refine xNeS rfl rfl ?_
    rw [eqS_self]
    repeat trivial
    exact h2 m _
theorem can_walk {s : HS} {x1 : T} {D : EndsT} (q : w2_law_gone D [some (hO s), some x1, some (.d (oi s.card)), some (.d (oi s.sent)), some (.d (oi s.aside)), some (.d (oi s.heard)), some (.d (.bool s.began)), some (.d (.bool (mayGo s))), none]) :
    w3_law_gone D [some (hO s), some x1, some (.d (oi s.card)), some (.d (oi s.sent)), some (.d (oi s.aside)), some (.d (oi s.heard)), some (.d (.bool s.began)), none, none] := by
  with_reducible refine xSeqR (fun ρ => ρ = [some (hO s), some x1, some (.d (oi s.card)), some (.d (oi s.sent)), some (.d (oi s.aside)), some (.d (oi s.heard)), some (.d (.bool s.began)), some (.d (.bool (mayGo s))), none]) (fun ρ' e => by subst e; exact q) fun N hN => ?_
  clear q
  obtain ⟨ca, se, as, he, bg⟩ := s
  cases bg with
  | false =>
    repeat trivial
    exact hN _ rfl
  | true =>
    cases ca with
    | none =>
      repeat trivial
      exact hN _ rfl
    | some c =>
      cases he with
      | none =>
        repeat trivial
        exact hN _ rfl
      | some h =>
        repeat trivial
        exact hN _ rfl
theorem pl_law_gone : PlD S_law_gone w_law_gone N_law_gone := by
  rintro ts Q Ex ⟨s, rfl, hi, q1, q2⟩
  unfold w_law_gone
  refine xSeqR (fun ρ => ρ = [some (hO s), some (.d (.list (toldL s))), some (.d (oi s.card)), some (.d (oi s.sent)), some (.d (oi s.aside)), some (.d (oi s.heard)), some (.d (.bool s.began)), none, none]) (fun ρ' e => ?_) fun N hN => ?_
  · subst e
    refine can_walk (gone_tail hi (.d (.list (toldL s))) _ (fun m l => ⟨rfl, q1 m _ rfl⟩) fun m l => ?_)
    repeat trivial
    exact ⟨rfl, q2 m _ rfl⟩
  · refine xAsgL ?_
    refine xVarD rfl ?_
    refine xAslK (xs := [oi s.card, oi s.sent, oi s.aside, oi s.heard, .bool s.began]) rfl rfl ?_
    repeat trivial
    exact hN _ rfl
theorem plP_law_gone : PlDP SP_law_gone wP_law_gone N_law_gone [0, 1] 2 := by
  rintro ts Q Ex ⟨s, rfl, hi, q1, q2⟩
  unfold wP_law_gone
  refine xSeqR (fun ρ => ρ = [some (hO s), some (lets (toldL s)), some (.d (oi s.card)), some (.d (oi s.sent)), some (.d (oi s.aside)), some (.d (oi s.heard)), some (.d (.bool s.began)), none, none]) (fun ρ' e => ?_) fun N hN => ?_
  · subst e
    refine can_walk (gone_tail hi (lets (toldL s)) _ (fun m l => ⟨rfl, q1 m _ rfl rfl⟩) fun m l => ?_)
    repeat trivial
    exact ⟨rfl, q2 m _ rfl rfl⟩
  · refine xAsgL ?_
    refine xVarN rfl rfl ?_
    refine xAslK (xs := [oi s.card, oi s.sent, oi s.aside, oi s.heard, .bool s.began]) rfl rfl ?_
    repeat trivial
    exact hN _ rfl
section
variable {ρ : Rho} {Q : T → Rho → Prop} {E : ExK} {r r2 : Nat}
theorem back_two {ρ' : Rho} {t t2 v w : T} (hu : ρ'[0]? = some (some v)) (hu2 : ρ'[1]? = some (some w)) (h : ρ[r]? = some (some t)) (h2 : ρ[r2]? = some (some t2)) (hs : strip t = t) (hs2 : strip t2 = t2) (hne : r ≠ r2) : backA [0, 1] [.a r [], .a r2 []] ρ ρ' = (ρ.set r (some v)).set r2 (some w) := by
  unfold backA
  refine List.ext_getElem? fun j => ?_
  rw [List.getElem?_mapIdx]
  by_cases q2 : j = r2
  · subst q2
    rw [List.getElem?_set_self (by rw [List.length_set]; exact (List.getElem?_eq_some_iff.mp h2).1), h2]
    simp only [Option.map_some]
    unfold backF rmOf
    simp only [List.findSome?_cons, List.getElem?_cons_zero, List.getElem?_cons_succ, hne, if_false, if_true]
    rw [hu2]
    show some (some (retag t2 w)) = some (some w)
    rw [retag_of hs2]
  · rw [List.getElem?_set_ne (fun z => q2 z.symm)]
    by_cases q : j = r
    · subst q
      rw [List.getElem?_set_self (List.getElem?_eq_some_iff.mp h).1, h]
      simp only [Option.map_some]
      unfold backF rmOf
      simp only [List.findSome?_cons, List.getElem?_cons_zero, if_true]
      rw [hu]
      show some (some (retag t v)) = some (some v)
      rw [retag_of hs]
    · rw [List.getElem?_set_ne (fun z => q z.symm)]
      cases ρ[j]? with
      | none => rfl
      | some z =>
        simp only [Option.map_some]
        unfold backF rmOf
        have : ¬ r = j := fun z => q z.symm
        have : ¬ r2 = j := fun z => q2 z.symm
        simp [*]
theorem xFresh {x : Int} (q : Q (lets (toldL (freshH x))) ρ) : caK [] 1 S_law_fresh [.d (.int x)] ρ Q E := xCaP rfl rfl rfl ⟨x, rfl⟩ fun t ρ' h => by rw [h x rfl]; exact ⟨rfl, q⟩
theorem xLetter {a b c k : Int} (s : HS) (vu : Bool) {t3 : T} (g : ρ[0]? = some (some (potT a b c))) (h : argF [0] ρ vu 1 t3 = some (.d (.list (toldL s)))) (ap : apartB [.a 0 [], t3] = true) (hp : Pot a b c k) (hk : 12 ≤ k) (hi : HI s)
    (q : ∀ w x a' c', wOk w → CardI x → Pot a' b c' (k - 12) → c ≤ c' → c' ≤ c + 12 → Q (.d (ltI w x)) (ρ.set 0 (some (potT a' b c')))) : caK [0] 2 S_law_letter [.a 0 [], t3] ρ Q E := by
  obtain ⟨h1, h2, h3, h4, h5⟩ := hp
  refine ⟨vu, [potT a b c, .d (.list (toldL s))], ?_, rfl, ap, a, b, c, s, rfl, ⟨h1, h2, h3, h4, by omega⟩, hi, fun w x a' c' ρ' e1 e2 e3 e4 e5 e6 => ⟨?_, fun _ => rfl, rfl, ?_⟩⟩
  · unfold argsF argsF argsF
    rw [h]
    unfold argF
    simp only [show ([0] : List Nat).contains 0 = true from rfl]
    have : getT ρ 0 [] = some (potT a b c) := by unfold getT; rw [g]; rfl
    rw [this]; rfl
  · unfold ioOk
    simp only [List.all_cons, List.all_nil, Bool.and_true]
    rw [e6]
    cases vu <;> rfl
  · rw [back_one e6 g rfl]
    exact q w x a' c' e1 e2 ⟨e3, h2, h3, by omega, by omega⟩ e4 e5
theorem xDue (s : HS) (vu : Bool) {t3 : T} {w : Str} {c : Int} (h : argsF [] ρ vu 0 [t3, .d (ltI w c)] = some [.d (.list (toldL s)), .d (ltI w c)]) (ap : apartB [t3, .d (ltI w c)] = true) (hi : HI s) (hw : wOk w) (hc : CardI c) (im : vu = true → immT (.d (dueD s w c)) = true)
    (q : Q (.d (dueD s w c)) ρ) : caK [] 2 S_law_due [t3, .d (ltI w c)] ρ Q E :=
  ⟨vu, _, h, rfl, ap, s, w, c, rfl, hi, hw, hc, fun ρ' => ⟨rfl, im, rfl, by rw [back_nil]; exact q⟩⟩
theorem na_none {s : HS} {w : Str} {c : Int} : noAl (noneT (hearO s (ltI w c)).2) = true := by
  cases e : (hearO s (ltI w c)).2 with
  | inl c => rfl
  | inr t => exact na_hear e
theorem xHeard (s : HS) {w : Str} {c : Int} (g : ρ[2]? = some (some (hO s))) (hw : wOk w) (q : Q (noneT (hearO s (ltI w c)).2) (ρ.set 2 (some (hO (hearO s (ltI w c)).1)))) : caK [0] 2 S_law_heard [.a 2 [], .d (ltI w c)] ρ Q E :=
  xCaH (args := fun p : Str × Int => [.d (ltI p.1 p.2)]) (f := fun s p => ((hearO s (ltI p.1 p.2)).1, .inr (noneT (hearO s (ltI p.1 p.2)).2))) s (w, c) g rfl rfl rfl hw (fun c z => nomatch z) fun t z => by cases z; exact ⟨na_none, q⟩
theorem set_same {t : T} (g : ρ[r]? = some (some t)) : ρ.set r (some t) = ρ := by
  obtain ⟨h1, h2⟩ := List.getElem?_eq_some_iff.mp g
  rw [← h2]; exact List.set_getElem_self h1
theorem xGone (s : HS) (g : ρ[2]? = some (some (hO s))) (hi : HI s) (q1 : mayGo s = true → Q (lets (toldL (gone s))) (ρ.set 2 (some (hO (gone s))))) (q2 : mayGo s = false → Q (.d (.list (toldL s))) ρ) :
    caK [0] 2 S_law_gone [.a 2 [], .d (.list (toldL s))] ρ Q E := by
  have g' : getT ρ 2 [] = some (hO s) := by unfold getT; rw [g]; rfl
  refine ⟨false, [hO s, .d (.list (toldL s))], ?_, rfl, rfl, s, rfl, hi, fun m ρ' h => ⟨?_, fun z => (nomatch z), rfl, ?_⟩, fun m ρ' h => ⟨?_, fun z => (nomatch z), rfl, ?_⟩⟩
  · unfold argsF argF
    simp only [show ([0] : List Nat).contains 0 = true from rfl]
    rw [g']; rfl
  · unfold ioOk
    simp only [List.all_cons, List.all_nil, Bool.and_true]
    rw [h]; rfl
  · rw [back_one h g rfl]; exact q1 m
  · unfold ioOk
    simp only [List.all_cons, List.all_nil, Bool.and_true]
    rw [h]; rfl
  · rw [back_one h g rfl, set_same g]; exact q2 m
theorem xGoneP (s : HS) (g : ρ[2]? = some (some (hO s))) (g3 : ρ[3]? = some (some (lets (toldL s)))) (hi : HI s) (q1 : mayGo s = true → Q (lets (toldL (gone s))) (ρ.set 2 (some (hO (gone s))))) (q2 : mayGo s = false → Q (.a 3 []) ρ) :
    caP [0, 1] 2 SP_law_gone [.a 2 [], .a 3 []] ρ Q E := by
  have g' : getT ρ 2 [] = some (hO s) := by unfold getT; rw [g]; rfl
  have g4 : getT ρ 3 [] = some (lets (toldL s)) := by unfold getT; rw [g3]; rfl
  refine ⟨false, [hO s, lets (toldL s)], ?_, rfl, rfl, s, rfl, hi, fun m ρ' h h2 => ⟨?_, fun z => (nomatch z), rfl, ?_⟩, fun m ρ' h h2 => ⟨?_, fun z => (nomatch z), rfl, ?_⟩⟩
  · unfold argsF argF argsF argF
    simp only [show ([0, 1] : List Nat).contains 0 = true from rfl, show ([0, 1] : List Nat).contains (0 + 1) = true from rfl]
    rw [g', g4]; rfl
  · unfold ioOk
    simp only [List.all_cons, List.all_nil, Bool.and_true]
    rw [h, h2]; rfl
  · rw [back_two h h2 g g3 rfl rfl (by decide)]
    have : (ρ.set 2 (some (hO (gone s)))).set 3 (some (lets (toldL s))) = ρ.set 2 (some (hO (gone s))) := set_same (by rw [List.getElem?_set_ne (by decide)]; exact g3)
    rw [this]; exact q1 m
  · unfold ioOk
    simp only [List.all_cons, List.all_nil, Bool.and_true]
    rw [h, h2]; rfl
  · rw [back_two h h2 g g3 rfl rfl (by decide), set_same g, set_same g3]; exact q2 m
end
/-- the state behind each statement of a turn -/
def RI (b x lo hi : Int) (ρ : Rho) : Prop := ∃ (a c : Int) (s : HS) (t3 : T) (o4 o5 o6 : Option PyData) (o7 : Option T), ρ = [some (potT a b c), some (.d (.int x)), some (hO s), some t3, o4.map T.d, o5.map T.d, o6.map T.d, o7] ∧ HI s ∧ (t3 = lets (toldL s) ∨ (t3 = .d (.list (toldL s)) ∧ s.began = true)) ∧ 0 ≤ a ∧ lo ≤ c ∧ c ≤ hi
theorem begin_walk {b x c0 c1 : Int} {ρ : Rho} {D : EndsT} (h : RI b x c0 c1 ρ) (hp0 : Pot 0 b c0 0) (h6 : c1 + 1 ≤ 2 ^ 40) (q : ∀ ρ', RI b x c0 (c1 + 1) ρ' → D.nx ρ') :
    wIfS (wAnd (wNot (wT (wIx (wVar 3) (wC (.d (.int 4)))))) (wT (wOp (fB fun i j => decide (j < i)) (wCall [0] 2 S_law_take (wCons (wVar 0) (wCons (wC (.d (.int 3))) wNil))) (wC (.d (.int 0)))))) (wSeq (wDrop (wMeth "Hand" "begin" [0] 1 S_Hand_begin (wVar 2) wNil))
    (wAsg (wC (.d (.bool true))) (wSub (wVar 3) (wC (.d (.int 4)))))) wNext D ρ := by
  obtain ⟨a, c, ⟨ca, se, as, he, bg⟩, t3, o4, o5, o6, o7, rfl, hi, ht, h1, h2, h3⟩ := h
  cases bg with
  | true =>
    rcases ht with rfl | ⟨rfl, _⟩
    · repeat trivial
      exact q _ ⟨a, c, ⟨ca, se, as, he, true⟩, _, o4, o5, o6, o7, rfl, hi, .inl rfl, h1, h2, by omega⟩
    · repeat trivial
      refine xIxD (x := .bool true) rfl ?_
      repeat trivial
      exact q _ ⟨a, c, ⟨ca, se, as, he, true⟩, _, o4, o5, o6, o7, rfl, hi, .inr ⟨rfl, rfl⟩, h1, h2, by omega⟩
  | false =>
    rcases ht with rfl | ⟨_, z⟩
    · have hp : Pot a b c 1 := by obtain ⟨z1, z2, z3, z4, z5⟩ := hp0; exact ⟨h1, z2, z3, by omega, by omega⟩
      repeat trivial
      refine xTake rfl hp (by decide) (by decide) (by decide) fun i a1 c1 i0 i1 hp1 c10 c11 => ?_
      repeat trivial
      refine xIte (fun z => ?_) fun z => ?_
      · repeat trivial
        refine xCaH (args := fun _ : Unit => []) (f := fun s _ => beginO s) ⟨ca, se, as, he, false⟩ () rfl rfl rfl rfl trivial (fun c e => nomatch e) (fun t e => ?_)
        cases e
        refine ⟨rfl, ?_⟩
        repeat trivial
        exact q _ ⟨a1, _, ⟨ca, se, as, he, true⟩, _, o4, o5, o6, o7, rfl, hi.begin, .inl rfl, hp1.1, by omega, by omega⟩
      · repeat trivial
        exact q _ ⟨a1, _, ⟨ca, se, as, he, false⟩, _, o4, o5, o6, o7, rfl, hi, .inl rfl, hp1.1, by omega, by omega⟩
    · cases z
theorem hear_same {s : HS} {x : PyData} {c : Str} (e : (hearO s x).2 = .inl c) : (hearO s x).1 = s := by
  unfold hearO at e ⊢
  split at e
  · rename_i hb
    rw [if_pos hb]
    split at e
    · rename_i w c2 el
      split at e
      · rename_i hw
        rw [if_pos hw]
        rcases mine_or s c2 with z | z <;> rw [z] at e ⊢
        · cases e
        · rfl
      · rename_i hw
        rw [if_neg hw]
        split at e
        · rename_i hw2
          rw [if_pos hw2]
          unfold overO noL at e ⊢
          split at e
          · split at e
            · cases e
            · rename_i z; rw [if_neg z]
          · split at e
            · cases e
            · rename_i z; rw [if_neg z]
          · rfl
        · rename_i hw2
          rw [if_neg hw2]
          unfold backO noL at e ⊢
          split at e
          · split at e
            · split at e <;> cases e
            · rename_i z; rw [if_neg z]
          · rfl
    · rfl
  · rename_i hb
    rw [if_neg hb]; rfl
theorem hear_began {s : HS} {x : PyData} (hb : s.began = true) : (hearO s x).1.began = true := by
  unfold hearO
  rw [if_pos hb]
  split
  · split
    · rcases mine_or s ‹Int› with z | z <;> rw [z] <;> exact hb
    · split
      · unfold overO noL
        split
        · split <;> exact hb
        · split <;> exact hb
        · exact hb
      · unfold backO noL
        split
        · split
          · split <;> exact hb
          · exact hb
        · exact hb
  · exact hb
theorem due_cases {s : HS} {w : Str} {y : Int} (hi : HI s) (hw : wOk w) (hy : CardI y) : (dueD s w y = .none ∧ noneT (hearO s (ltI w y)).2 = .d .none ∧ (hearO s (ltI w y)).1 = s) ∨
    ∃ ds, ds.length ≤ 1 ∧ Rpr (.list ds) 90 3 ∧ noneT (hearO s (ltI w y)).2 = lets ds ∧ dueD s w y = .tuple [.list ds, .list (toldL (hearO s (ltI w y)).1)] := by
  have ok := (deed_ok (d := .hear w y) hi.ok ⟨hw, by unfold CardI at hy; omega⟩).2
  have ok : AnsOk (hearO s (ltI w y)).2 := ok
  unfold dueD dueOf
  cases e : (hearO s (ltI w y)).2 with
  | inl c => exact .inl ⟨rfl, rfl, hear_same e⟩
  | inr t =>
    rw [e] at ok
    obtain ⟨ds, rfl, hl, hd⟩ := ok
    refine .inr ⟨ds, hl, (Rpr.list (RprA.allN hd hl)).mono (by omega) (by omega), rfl, ?_⟩
    show PyData.tuple [(erase (lets ds)).getD .none, _] = _
    rw [show erase (lets ds) = some (.list ds) from erase_l]
    rfl
theorem turn_walk {b x c0 c1 : Int} {ρ : Rho} {D : EndsT} (h : RI b x c0 c1 ρ) (hp0 : Pot 0 b c0 0) (h6 : c1 + 13 ≤ 2 ^ 40) (q : ∀ ρ', RI b x c0 (c1 + 13) ρ' → D.nx ρ') :
    wEiS (wFrz 3 w3_law_right) w3_law_right D ρ := by
  obtain ⟨a, c, s, t3, o4, o5, o6, o7, rfl, hi, ht, h1, h2, h3⟩ := h
  have rn : Rpr .none 100 3 := Rpr.none.mono (by decide) (by decide)
  have hp : Pot a b c 13 := by obtain ⟨z1, z2, z3, z4, z5⟩ := hp0; exact ⟨h1, z2, z3, by omega, by omega⟩
  cases bg : s.began with
  | true =>
    have key : wFrz 3 w3_law_right D [some (potT a b c), some (.d (.int x)), some (hO s), some (.d (.list (toldL s))), o4.map T.d, o5.map T.d, o6.map T.d, o7] → wEiS (wFrz 3 w3_law_right) w3_law_right D [some (potT a b c), some (.d (.int x)), some (hO s), some t3, o4.map T.d, o5.map T.d, o6.map T.d, o7] := fun z => by
      refine xEsL ?_
      rcases ht with rfl | ⟨rfl, _⟩
      · obtain ⟨u, y, e1, e2, e3⟩ := z
        cases e1
        cases e2
        exact xFrz rfl (erase_l) e3
      · exact z
    refine key (xFrz rfl rfl ?_)
    clear key
    repeat trivial
    refine xTake rfl hp (by decide) (by decide) (by decide) fun i a1 c1 i0 i1 hp1 c10 c11 => ?_
    repeat trivial
    refine xIte (fun z => ?_) fun z => ?_
    · repeat trivial
      refine xEiL ?_
      repeat trivial
      refine xGone s rfl hi (fun m => ?_) fun m => ?_
      · refine xStPV rfl ?_
        exact q _ ⟨a1, _, gone s, _, o4, o5, o6, o7, rfl, hi.go m, .inl rfl, hp1.1, by omega, by omega⟩
      · refine xStPV rfl ?_
        exact q _ ⟨a1, _, s, _, o4, o5, o6, o7, rfl, hi, .inr ⟨rfl, bg⟩, hp1.1, by omega, by omega⟩
    · repeat trivial
      refine xLetter s false rfl rfl rfl hp1 (by decide) hi fun w y a2 c2 hw hy hp2 c20 c21 => ?_
      repeat trivial
      refine xDue s false rfl rfl hi hw hy (fun z => nomatch z) ?_
      repeat trivial
      refine xHeard s rfl hw ?_
      have hb := hear_began (x := ltI w y) bg
      have hn := hi.hear hw hy
      rcases due_cases hi hw hy with ⟨e1, e2, e3⟩ | ⟨ds, dl, rd, e2, e1⟩
      · rw [e1, e2, e3]
        repeat trivial
        refine xReprR (x := .none) rfl rn ?_
        repeat trivial
        refine xReprR (x := .none) rfl rn ?_
        repeat trivial
        refine xNeS rfl rfl ?_
        rw [eqS_self]
        repeat trivial
        exact q _ ⟨a2, c2, s, _, o4, some _, some _, some _, rfl, hi, .inr ⟨rfl, bg⟩, hp2.1, by omega, by omega⟩
      · rw [e1, e2]
        repeat trivial
        refine xReprR (x := .list ds) erase_l rd ?_
        repeat trivial
        refine xIxT (x := .list ds) rfl ?_
        repeat trivial
        refine xReprR (x := .list ds) rfl rd ?_
        repeat trivial
        refine xNeS rfl rfl ?_
        rw [eqS_self]
        repeat trivial
        refine xApp (ds := ds) rfl rfl (Nat.lt_of_le_of_lt dl (by decide)) ?_
        repeat trivial
        refine xIxT (x := .list (toldL (hearO s (ltI w y)).1)) rfl ?_
        repeat trivial
        exact q _ ⟨a2, c2, (hearO s (ltI w y)).1, _, o4, some _, some _, some _, rfl, hn, .inr ⟨rfl, hb⟩, hp2.1, by omega, by omega⟩
  | false =>
    have ht : t3 = lets (toldL s) := ht.elim id fun z => by rw [bg] at z; exact nomatch z.2
    subst ht
    refine xEsR ?_
    repeat trivial
    refine xTake rfl hp (by decide) (by decide) (by decide) fun i a1 c1 i0 i1 hp1 c10 c11 => ?_
    repeat trivial
    refine xIte (fun z => ?_) fun z => ?_
    · repeat trivial
      refine xEiR ?_
      refine xCallP ?_
      repeat trivial
      refine xGoneP s rfl rfl hi (fun m => ?_) fun m => ?_
      · refine xStPV rfl ?_
        exact q _ ⟨a1, _, gone s, _, o4, o5, o6, o7, rfl, hi.go m, .inl rfl, hp1.1, by omega, by omega⟩
      · refine xStPP ?_
        exact q _ ⟨a1, _, s, _, o4, o5, o6, o7, rfl, hi, .inl rfl, hp1.1, by omega, by omega⟩
    · repeat trivial
      refine xLetter s true rfl (by rfl) rfl hp1 (by decide) hi fun w y a2 c2 hw hy hp2 c20 c21 => ?_
      repeat trivial
      have e0 : hearO s (ltI w y) = noL s := if_neg (by rw [bg]; exact fun z => nomatch z)
      have e1 : dueD s w y = .none := by unfold dueD; rw [e0]; rfl
      refine xDue s true (by rfl) rfl hi hw hy (fun z => by rw [e1]; rfl) ?_
      rw [e1]
      repeat trivial
      refine xHeard s rfl hw ?_
      rw [e0]
      unfold noL noneT
      repeat trivial
      refine xReprR (x := .none) rfl rn ?_
      repeat trivial
      refine xReprR (x := .none) rfl rn ?_
      repeat trivial
      refine xNeS rfl rfl ?_
      rw [eqS_self]
      repeat trivial
      exact q _ ⟨a2, c2, s, _, o4, some _, some _, some _, rfl, hi, .inl rfl, hp2.1, by omega, by omega⟩
theorem end_walk {b x c0 c1 : Int} {ρ : Rho} {D : EndsT} (h : RI b x c0 c1 ρ) (q : ∀ ρ', RI b x c0 c1 ρ' → D.nx ρ') : w4_law_right D ρ := by
  obtain ⟨a, c, s, t3, o4, o5, o6, o7, rfl, hi, ht, h1, h2, h3⟩ := h
  have fin := q _ ⟨a, c, s, t3, o4, o5, o6, o7, rfl, hi, ht, h1, h2, h3⟩
  clear q
  rcases ht with rfl | ⟨rfl, bg⟩
  · repeat trivial
    refine xTold s rfl ?_
    repeat trivial
    refine xReprR vw_lets (told_ok hi.ok) ?_
    repeat trivial
    refine xReprR (x := .list (toldL s)) rfl (told_ok hi.ok) ?_
    repeat trivial
    refine xNeS rfl rfl ?_
    rw [eqS_self]
    repeat trivial
  · repeat trivial
    refine xTold s rfl ?_
    repeat trivial
    refine xReprR vw_lets (told_ok hi.ok) ?_
    repeat trivial
    refine xReprR (x := .list (toldL s)) rfl (told_ok hi.ok) ?_
    repeat trivial
    refine xNeS rfl rfl ?_
    rw [eqS_self]
    repeat trivial
theorem pl_law_right : PlD S_law_right w_law_right N_law_right := by
  rintro ts Q Ex ⟨⟨a, b, c, x, rfl, hp, hx⟩, q⟩
  unfold w_law_right
  have fin : ∀ (a' c' : Int) (l : List (Option T)), 0 ≤ a' → c ≤ c' → c' ≤ c + 1000 → Q (.d (.bool true)) (some (potT a' b c') :: l) := fun a' c' l h1 h2 h3 => q _ _ fun a0 b0 c0 x0 e => by
    cases e
    exact ⟨rfl, a', c', rfl, h1, h2, h3⟩
  obtain ⟨z1, z2, z3, z4, z5⟩ := hp
  have cc : isCardD (.int x) = true := by unfold CardI at hx; simpa [isCardD] using hx
  repeat trivial
  refine xMkH (fun c e _ => ?_) (fun z => by rw [cc] at z; cases z)
  cases e
  repeat trivial
  refine xFresh ?_
  repeat trivial
  refine xIRK (by omega) (by omega) ?_
  refine xFoK (fun j ρ => RI b x c (c + 14 * j) ρ) ⟨a, c, freshH x, _, none, none, none, none, rfl, .fresh hx, .inl rfl, z1, by omega, by omega⟩ ?_ ?_
  · rintro j d ρ e h
    obtain ⟨hj, rfl⟩ := range_get e
    obtain ⟨a1, c1, s, t3, o4, o5, o6, o7, rfl, hi, ht, h1, h2, h3⟩ := h
    refine xNm (noNd_o rfl) ?_
    with_reducible refine xSeqR (RI b x c (c + 14 * j + 1)) (fun ρ1 r1 => ?_) fun N hN => ?_
    · with_reducible refine xSeqR (RI b x c (c + 14 * j + 14)) (fun ρ1 r1 => ?_) fun N hN => ?_
      · exact end_walk r1 fun ρ2 r2 => by
          have : c + 14 * (j : Int) + 14 = c + 14 * ((j + 1 : Nat) : Int) := by omega
          rw [this] at r2
          exact r2
      · exact turn_walk (c1 := c + 14 * j + 1) r1 ⟨by decide, z2, z3, z4, by omega⟩ (by omega) fun ρ2 r2 => hN _ (by
          have : c + 14 * (j : Int) + 1 + 13 = c + 14 * j + 14 := by omega
          rw [this] at r2
          exact r2)
    · exact begin_walk ⟨a1, c1, s, t3, some _, o5, o6, o7, rfl, hi, ht, h1, h2, h3⟩ ⟨by decide, z2, z3, z4, by omega⟩ (by omega) hN
  · rintro ρ ⟨a1, c1, s, t3, o4, o5, o6, o7, rfl, hi, ht, h1, h2, h3⟩
    repeat trivial
    exact ⟨rfl, fin _ _ _ h1 h2 (by rw [range_len] at h3; omega)⟩
theorem xRight {ρ : Rho} {Q : T → Rho → Prop} {E : ExK} {r : Nat} {a b c x k : Int} (hg : ρ[r]? = some (some (potT a b c))) (hp : Pot a b c k) (hk : 1000 ≤ k) (hx : CardI x)
    (q : ∀ a' c', Pot a' b c' (k - 1000) → c ≤ c' → c' ≤ c + 1000 → Q (.d (.bool true)) (ρ.set r (some (potT a' b c')))) : caK [0] 2 S_law_right [.a r [], .d (.int x)] ρ Q E := by
  obtain ⟨h1, h2, h3, h4, h5⟩ := hp
  refine xCaF hg rfl rfl rfl rfl ⟨a, b, c, x, rfl, ⟨h1, h2, h3, h4, by omega⟩, hx⟩ fun u ρ' h => ?_
  obtain ⟨rfl, a', c', e, g1, g2, g3⟩ := h a b c x rfl
  exact ⟨_, e, rfl, rfl, q a' c' ⟨g1, h2, h3, by omega, by omega⟩ g2 g3⟩
theorem pl_law : PlD S_law w_law N_law := by
  rintro ts Q Ex ⟨⟨ns, rfl, hn⟩, q⟩
  unfold w_law
  repeat trivial
  refine xIRK (by omega) (by omega) ?_
  refine xFoK (fun _ ρ => ∃ (o1 o3 : Option PyData) (x2 : Option T), ρ = [some (.fz ns), o1.map T.d, x2, o3.map T.d]) ⟨none, none, none, rfl⟩ ?_ ?_
  · rintro i x ρ2 e ⟨o1, o3, x2, rfl⟩
    obtain ⟨hi, rfl⟩ := range_get e
    refine xNm (noNd_o rfl) ?_
    repeat trivial
    refine xPot (by omega) (by omega) fun a b hp => ?_
    repeat trivial
    refine xCards rfl hp (by decide) (by decide) (by decide) fun cs a1 c1 hc hl hd hp1 c10 c11 => ?_
    refine xILK flat_map ?_
    refine xFoK (fun j ρ => ∃ (a2 c2 : Int) (o3 : Option PyData), ρ = [some (.fz ns), some (.d (.int (0 + (i : Nat)))), some (potT a2 b c2), o3.map T.d] ∧ 0 ≤ a2 ∧ c1 ≤ c2 ∧ c2 ≤ c1 + 1000 * j) ⟨a1, c1, o3, rfl, hp1.1, by omega, by omega⟩ ?_ ?_
    · rintro j d ρ3 e3 ⟨a2, c2, p3, rfl, g1, g2, g3⟩
      obtain ⟨z1, z2, z3, z4, z5⟩ := id hp1
      have hj : j < 3 := by
        have := (List.getElem?_eq_some_iff.mp e3).1
        simp at this; omega
      obtain ⟨y, hy, rfl⟩ : ∃ y, CardI y ∧ d = .int y := by
        obtain ⟨y, h, rfl⟩ := List.mem_map.mp (List.mem_of_getElem? e3)
        exact ⟨y, hc y h, rfl⟩
      refine xNm (noNd_o rfl) ?_
      repeat trivial
      refine xRight (k := 1000) rfl ⟨g1, z2, z3, by omega, by omega⟩ (by decide) hy fun a3 c3 hp3 h1 h2 => ?_
      repeat trivial
      exact ⟨a3, c3, some _, rfl, hp3.1, by omega, by omega⟩
    · rintro ρ3 ⟨a2, c2, p3, rfl, g1, g2, g3⟩
      exact ⟨some _, p3, some _, rfl⟩
  · rintro ρ2 ⟨o1, o3, x2, rfl⟩
    repeat trivial
    exact ⟨rfl, q _ _ rfl⟩
end LW.H

namespace LW.H
open PySem PySem.Spec L2 TX PyProof.Rows LW
def top (i : Nat) : Stmt := PySem.Challenge.pw_threecrossings_k14_letters_heard.main.body.getD i (.Pass ⟨0, 0, 0, 0⟩)
abbrev s_is_card : Stmt := top 8
theorem sc_is_card : FnScope N_is_card ["thing"] (defScope s_is_card) := ⟨rfl, rfl, rfl, by decide +kernel, rfl, by decide +kernel, by decide +kernel⟩
abbrev s_is_letter : Stmt := top 13
theorem sc_is_letter : FnScope N_is_letter ["thing"] (defScope s_is_letter) := ⟨rfl, rfl, rfl, by decide +kernel, rfl, by decide +kernel, by decide +kernel⟩
abbrev s_need_letter : Stmt := top 14
theorem sc_need_letter : FnScope N_need_letter ["good"] (defScope s_need_letter) := ⟨rfl, rfl, rfl, by decide +kernel, rfl, by decide +kernel, by decide +kernel⟩
abbrev s_Hand_init : Stmt := inClass (top 15) 0
theorem sc_Hand_init : FnScope N_Hand_init ["self", "card"] (defScope s_Hand_init) := ⟨rfl, rfl, rfl, by decide +kernel, rfl, by decide +kernel, by decide +kernel⟩
abbrev s_Hand_begin : Stmt := inClass (top 15) 1
theorem sc_Hand_begin : FnScope N_Hand_begin ["self"] (defScope s_Hand_begin) := ⟨rfl, rfl, rfl, by decide +kernel, rfl, by decide +kernel, by decide +kernel⟩
abbrev s_Hand_may_go : Stmt := inClass (top 15) 2
theorem sc_Hand_may_go : FnScope N_Hand_may_go ["self"] (defScope s_Hand_may_go) := ⟨rfl, rfl, rfl, by decide +kernel, rfl, by decide +kernel, by decide +kernel⟩
abbrev s_Hand_go : Stmt := inClass (top 15) 3
theorem sc_Hand_go : FnScope N_Hand_go ["self"] (defScope s_Hand_go) := ⟨rfl, rfl, rfl, by decide +kernel, rfl, by decide +kernel, by decide +kernel⟩
abbrev s_Hand_hear : Stmt := inClass (top 15) 4
theorem sc_Hand_hear : FnScope N_Hand_hear ["self", "letter"] (defScope s_Hand_hear) := ⟨rfl, rfl, rfl, by decide +kernel, rfl, by decide +kernel, by decide +kernel⟩
abbrev s_Hand_hear_mine : Stmt := inClass (top 15) 5
theorem sc_Hand_hear_mine : FnScope N_Hand_hear_mine ["self", "card"] (defScope s_Hand_hear_mine) := ⟨rfl, rfl, rfl, by decide +kernel, rfl, by decide +kernel, by decide +kernel⟩
abbrev s_Hand_hear_over : Stmt := inClass (top 15) 6
theorem sc_Hand_hear_over : FnScope N_Hand_hear_over ["self", "card"] (defScope s_Hand_hear_over) := ⟨rfl, rfl, rfl, by decide +kernel, rfl, by decide +kernel, by decide +kernel⟩
abbrev s_Hand_hear_back : Stmt := inClass (top 15) 7
theorem sc_Hand_hear_back : FnScope N_Hand_hear_back ["self", "card"] (defScope s_Hand_hear_back) := ⟨rfl, rfl, rfl, by decide +kernel, rfl, by decide +kernel, by decide +kernel⟩
abbrev s_Hand_card : Stmt := inClass (top 15) 8
theorem sc_Hand_card : FnScope N_Hand_card ["self"] (defScope s_Hand_card) := ⟨rfl, rfl, rfl, by decide +kernel, rfl, by decide +kernel, by decide +kernel⟩
abbrev s_Hand_sent : Stmt := inClass (top 15) 9
theorem sc_Hand_sent : FnScope N_Hand_sent ["self"] (defScope s_Hand_sent) := ⟨rfl, rfl, rfl, by decide +kernel, rfl, by decide +kernel, by decide +kernel⟩
abbrev s_Hand_aside : Stmt := inClass (top 15) 10
theorem sc_Hand_aside : FnScope N_Hand_aside ["self"] (defScope s_Hand_aside) := ⟨rfl, rfl, rfl, by decide +kernel, rfl, by decide +kernel, by decide +kernel⟩
abbrev s_Hand_heard : Stmt := inClass (top 15) 11
theorem sc_Hand_heard : FnScope N_Hand_heard ["self"] (defScope s_Hand_heard) := ⟨rfl, rfl, rfl, by decide +kernel, rfl, by decide +kernel, by decide +kernel⟩
abbrev s_Hand_began : Stmt := inClass (top 15) 12
theorem sc_Hand_began : FnScope N_Hand_began ["self"] (defScope s_Hand_began) := ⟨rfl, rfl, rfl, by decide +kernel, rfl, by decide +kernel, by decide +kernel⟩
abbrev s_law_pot : Stmt := top 17
theorem sc_law_pot : FnScope N_law_pot ["_law_script", "_law_k"] (defScope s_law_pot) := ⟨rfl, rfl, rfl, by decide +kernel, rfl, by decide +kernel, by decide +kernel⟩
abbrev s_law_take : Stmt := top 18
theorem sc_law_take : FnScope N_law_take ["_law_pot_here", "_law_many"] (defScope s_law_take) := ⟨rfl, rfl, rfl, by decide +kernel, rfl, by decide +kernel, by decide +kernel⟩
abbrev s_law_some : Stmt := top 19
theorem sc_law_some : FnScope N_law_some ["_law_pot_here", "_law_things", "_law_many"] (defScope s_law_some) := ⟨rfl, rfl, rfl, by decide +kernel, rfl, by decide +kernel, by decide +kernel⟩
abbrev s_law_cards : Stmt := top 20
theorem sc_law_cards : FnScope N_law_cards ["_law_pot_here", "_law_many"] (defScope s_law_cards) := ⟨rfl, rfl, rfl, by decide +kernel, rfl, by decide +kernel, by decide +kernel⟩
abbrev s_law_fresh : Stmt := top 21
theorem sc_law_fresh : FnScope N_law_fresh ["_law_card"] (defScope s_law_fresh) := ⟨rfl, rfl, rfl, by decide +kernel, rfl, by decide +kernel, by decide +kernel⟩
abbrev s_law_told : Stmt := top 22
theorem sc_law_told : FnScope N_law_told ["_law_hand"] (defScope s_law_told) := ⟨rfl, rfl, rfl, by decide +kernel, rfl, by decide +kernel, by decide +kernel⟩
abbrev s_law_due : Stmt := top 23
theorem sc_law_due : FnScope N_law_due ["_law_state", "_law_letter_here"] (defScope s_law_due) := ⟨rfl, rfl, rfl, by decide +kernel, rfl, by decide +kernel, by decide +kernel⟩
abbrev s_law_letter : Stmt := top 24
theorem sc_law_letter : FnScope N_law_letter ["_law_pot_here", "_law_state"] (defScope s_law_letter) := ⟨rfl, rfl, rfl, by decide +kernel, rfl, by decide +kernel, by decide +kernel⟩
abbrev s_law_heard : Stmt := top 25
theorem sc_law_heard : FnScope N_law_heard ["_law_hand", "_law_letter_here"] (defScope s_law_heard) := ⟨rfl, rfl, rfl, by decide +kernel, rfl, by decide +kernel, by decide +kernel⟩
abbrev s_law_gone : Stmt := top 26
theorem sc_law_gone : FnScope N_law_gone ["_law_hand", "_law_state"] (defScope s_law_gone) := ⟨rfl, rfl, rfl, by decide +kernel, rfl, by decide +kernel, by decide +kernel⟩
abbrev s_law_right : Stmt := top 27
theorem sc_law_right : FnScope N_law_right ["_law_pot_here", "_law_card"] (defScope s_law_right) := ⟨rfl, rfl, rfl, by decide +kernel, rfl, by decide +kernel, by decide +kernel⟩
abbrev s_law : Stmt := top 28
theorem sc_law : FnScope N_law ["_law_script"] (defScope s_law) := ⟨rfl, rfl, rfl, by decide +kernel, rfl, by decide +kernel, by decide +kernel⟩
def fs_Hand : List Str := ["card_held", "sent_away", "put_aside", "heard_last", "has_begun"]
structure Bl (mg : Str → Option Value) : Prop where
  bool_ : mg "bool" = none
  int_ : mg "int" = none
  isinstance_ : mg "isinstance" = none
  len_ : mg "len" = none
  list_ : mg "list" = none
  max_ : mg "max" = none
  min_ : mg "min" = none
  range_ : mg "range" = none
  repr_ : mg "repr" = none
  str_ : mg "str" = none
  tuple_ : mg "tuple" = none
  BACK : ∃ k, mg "BACK" = some (.str "back" k)
  MINE : ∃ k, mg "MINE" = some (.str "mine" k)
  MOST_CARD : ∃ k, mg "MOST_CARD" = some (.int 999999999 k)
  OVER : ∃ k, mg "OVER" = some (.str "over" k)
section
variable {P : Program} {w : World} {K : PySem.W.Frag} {mg : Str → Option Value} {base : Heap}
theorem ok_is_card {f : Addr} {fd : FuncData} (D : Fd K mg "is_card" s_is_card ["thing"] f fd) (T : Bl mg)     : FnG P w K mg base 1 f fd ["thing"] (lfSp K 1 [] S_is_card) := by
  refine D.F.okT sc_is_card rfl (by decide) fun cv B out s H E room gu => ?_
  have hu := hu64 room
  have hu5 := hu65 room
  have hu1 := hu_of room
  have hu6 := hu66 room
  have nd := sc_is_card.nd
  exact ⟨w_is_card, (lss_one (ls_ret (le_and (le_isB rfl T.isinstance_ (la_cons (lv 0) (la_cons (le_ty (n := "int") rfl T.int_ (by decide +kernel)) la_nil))) (le_and (le_not (le_isB rfl T.isinstance_ (la_cons (lv 0) (la_cons (le_ty (n := "bool") rfl T.bool_ (by decide +kernel)) la_nil)))) (le_one (le_chain op_le op_le od_le od_le le_int (lv 0) (le_gX rfl T.MOST_CARD))))))), pl_is_card⟩
theorem ok_is_letter {f : Addr} {fd : FuncData} (D : Fd K mg "is_letter" s_is_letter ["thing"] f fd) (T : Bl mg)  (D_is_card : Df P w K mg base "is_card" 1 ["thing"] 1 [] S_is_card)   : FnG P w K mg base 2 f fd ["thing"] (lfSp K 1 [] S_is_letter) := by
  refine D.F.okT sc_is_letter rfl (by decide) fun cv B out s H E room gu => ?_
  have hu := hu64 room
  have hu5 := hu65 room
  have hu1 := hu_of room
  have hu6 := hu66 room
  have nd := sc_is_letter.nd
  exact ⟨w_is_letter, (lss_cons (ls_if (TX.LW.lt (lw_or (lt_not (lt_val (le_isB rfl T.isinstance_ (la_cons (lv 0) (la_cons (le_ty (n := "tuple") rfl T.tuple_ (by decide +kernel)) la_nil))))) (lw_or (lt_cmp (op_neX hu) od_Ne (le_len' rfl T.len_ (la_cons (lv 0) la_nil)) le_int (nomark _)) (lw_or1 (lt_not (lt_val (le_isB rfl T.isinstance_ (la_cons (le_ix (lv 0) le_int) (la_cons (le_ty (n := "str") rfl T.str_ (by decide +kernel)) la_nil))))))))) (lss_one (ls_ret le_bl)) lss_nil)
    (lss_one (ls_ret (le_and (le_cmp (op_inT hu5) od_InT (le_ix (lv 0) le_int) (le_tup (la_cons (le_gS rfl T.MINE) (la_cons (le_gS rfl T.OVER) (la_cons (le_gS rfl T.BACK) la_nil)))) (by with_unfolding_all rfl)) (le_one (le_callD D_is_card room (by decide) gu mS_is_card rfl (la_cons (le_ix (lv 0) le_int) la_nil))))))), pl_is_letter⟩
theorem ok_need_letter {f : Addr} {fd : FuncData} (D : Fd K mg "need_letter" s_need_letter ["good"] f fd) (T : Bl mg) (XK : Xcs K mg exN)     : FnG P w K mg base 1 f fd ["good"] (lfSp K 1 [] S_need_letter) := by
  refine D.F.okT sc_need_letter rfl (by decide) fun cv B out s H E room gu => ?_
  have hu := hu64 room
  have hu5 := hu65 room
  have hu1 := hu_of room
  have hu6 := hu66 room
  have nd := sc_need_letter.nd
  exact ⟨w_need_letter, (lss_one (ls_if (lt_not (lt_val (lv 0))) (lss_one (ls_raise rfl XK (by decide) rfl)) lss_nil)), pl_need_letter⟩
theorem ok_Hand_init {f : Addr} {fd : FuncData} (D : Fm K "Hand" "__init__" "Hand.__init__" s_Hand_init ["self", "card"] f fd) (T : Bl mg) (XK : Xcs K mg exN) (OB_Hand : Ob K mg "Hand" fs_Hand)  (D_is_card : Df P w K mg base "is_card" 1 ["thing"] 1 [] S_is_card)   : FnG P w K mg base 2 f fd ["self", "card"] (lfSp K 2 [0] S_Hand_init) := by
  refine D.F.okT sc_Hand_init rfl (by decide) fun cv B out s H E room gu => ?_
  have hu := hu64 room
  have hu5 := hu65 room
  have hu1 := hu_of room
  have hu6 := hu66 room
  have nd := sc_Hand_init.nd
  exact ⟨w_Hand_init, (lss_cons (ls_if (lt_not (lt_val (le_callD D_is_card room (by decide) gu mS_is_card rfl (la_cons (lv 1) la_nil)))) (lss_one (ls_raise rfl XK (by decide) rfl)) lss_nil)
    (lss_cons (ls_fld OB_Hand (by decide) (lv 0) (lv 1))
    (lss_cons (ls_fld OB_Hand (by decide) (lv 0) le_non)
    (lss_cons (ls_fld OB_Hand (by decide) (lv 0) le_non)
    (lss_cons (ls_fld OB_Hand (by decide) (lv 0) le_non)
    (lss_one (ls_fld OB_Hand (by decide) (lv 0) le_bl))))))), pl_Hand_init⟩
theorem ok_Hand_begin {f : Addr} {fd : FuncData} (D : Fm K "Hand" "begin" "Hand.begin" s_Hand_begin ["self"] f fd) (T : Bl mg) (XK : Xcs K mg exN) (OB_Hand : Ob K mg "Hand" fs_Hand)     : FnG P w K mg base 1 f fd ["self"] (lfSp K 1 [0] S_Hand_begin) := by
  refine D.F.okT sc_Hand_begin rfl (by decide) fun cv B out s H E room gu => ?_
  have hu := hu64 room
  have hu5 := hu65 room
  have hu1 := hu_of room
  have hu6 := hu66 room
  have nd := sc_Hand_begin.nd
  exact ⟨w_Hand_begin, (lss_cons (ls_if (lt_val (le_fld OB_Hand (by decide) (lv 0))) (lss_one (ls_raise rfl XK (by decide) rfl)) lss_nil)
    (lss_cons (ls_fld OB_Hand (by decide) (lv 0) le_bl)
    (lss_one (ls_ret (le_lst (la_cons (le_tup (la_cons (le_gS rfl T.MINE) (la_cons (le_fld OB_Hand (by decide) (lv 0)) la_nil))) la_nil)))))), pl_Hand_begin⟩
theorem ok_Hand_may_go {f : Addr} {fd : FuncData} (D : Fm K "Hand" "may_go" "Hand.may_go" s_Hand_may_go ["self"] f fd) (T : Bl mg) (OB_Hand : Ob K mg "Hand" fs_Hand)     : FnG P w K mg base 1 f fd ["self"] (lfSp K 1 [0] S_Hand_may_go) := by
  refine D.F.okT sc_Hand_may_go rfl (by decide) fun cv B out s H E room gu => ?_
  have hu := hu64 room
  have hu5 := hu65 room
  have hu1 := hu_of room
  have hu6 := hu66 room
  have nd := sc_Hand_may_go.nd
  exact ⟨w_Hand_may_go, (lss_cons (ls_if (TX.LW.lt (lw_or (lt_not (lt_val (le_fld OB_Hand (by decide) (lv 0)))) (lw_or (lt_cmp op_isN od_isN (le_fld OB_Hand (by decide) (lv 0)) le_non (nomark _)) (lw_or1 (lt_cmp op_isN od_isN (le_fld OB_Hand (by decide) (lv 0)) le_non (nomark _)))))) (lss_one (ls_ret le_bl)) lss_nil)
    (lss_one (ls_ret (le_cmp op_gt od_gt (le_fld OB_Hand (by decide) (lv 0)) (le_fld OB_Hand (by decide) (lv 0)) (nomark _))))), pl_Hand_may_go⟩
theorem ok_Hand_go {f : Addr} {fd : FuncData} (D : Fm K "Hand" "go" "Hand.go" s_Hand_go ["self"] f fd) (T : Bl mg) (XK : Xcs K mg exN) (OB_Hand : Ob K mg "Hand" fs_Hand) (D_Hand_may_go : Dm P w K mg base "Hand" "may_go" 1 ["self"] 1 [0] S_Hand_may_go)    : FnG P w K mg base 2 f fd ["self"] (lfSp K 1 [0] S_Hand_go) := by
  refine D.F.okT sc_Hand_go rfl (by decide) fun cv B out s H E room gu => ?_
  have hu := hu64 room
  have hu5 := hu65 room
  have hu1 := hu_of room
  have hu6 := hu66 room
  have nd := sc_Hand_go.nd
  exact ⟨w_Hand_go, (lss_cons (ls_if (lt_not (lt_val (le_meth0 OB_Hand D_Hand_may_go room (by decide) gu mS_Hand_may_go (lv 0)))) (lss_one (ls_raise rfl XK (by decide) rfl)) lss_nil)
    (lss_cons (ls_fld OB_Hand (by decide) (lv 0) (le_fld OB_Hand (by decide) (lv 0)))
    (lss_cons (ls_fld OB_Hand (by decide) (lv 0) le_non)
    (lss_one (ls_ret (le_lst (la_cons (le_tup (la_cons (le_gS rfl T.OVER) (la_cons (le_fld OB_Hand (by decide) (lv 0)) la_nil))) la_nil))))))), pl_Hand_go⟩
theorem ok_Hand_hear {f : Addr} {fd : FuncData} (D : Fm K "Hand" "hear" "Hand.hear" s_Hand_hear ["self", "letter"] f fd) (T : Bl mg) (OB_Hand : Ob K mg "Hand" fs_Hand) (D_Hand_hear_mine : Dm P w K mg base "Hand" "hear_mine" 2 ["self", "card"] 2 [0] S_Hand_hear_mine) (D_Hand_hear_over : Dm P w K mg base "Hand" "hear_over" 2 ["self", "card"] 2 [0] S_Hand_hear_over) (D_Hand_hear_back : Dm P w K mg base "Hand" "hear_back" 2 ["self", "card"] 2 [0] S_Hand_hear_back) (D_is_letter : Df P w K mg base "is_letter" 2 ["thing"] 1 [] S_is_letter) (D_need_letter : Df P w K mg base "need_letter" 1 ["good"] 1 [] S_need_letter)   : FnG P w K mg base 3 f fd ["self", "letter"] (lfSp K 2 [0] S_Hand_hear) := by
  refine D.F.okT sc_Hand_hear rfl (by decide) fun cv B out s H E room gu => ?_
  have hu := hu64 room
  have hu5 := hu65 room
  have hu1 := hu_of room
  have hu6 := hu66 room
  have nd := sc_Hand_hear.nd
  exact ⟨w_Hand_hear, (lss_cons (ls_expr (le_callD D_need_letter room (by decide) gu mS_need_letter rfl (la_cons (le_and (le_fld OB_Hand (by decide) (lv 0)) (le_one (le_callD D_is_letter room (by decide) gu mS_is_letter rfl (la_cons (lv 1) la_nil)))) la_nil)))
    (lss_cons (ls_asg (lv 1) (lg_tup rfl (lgs_cons (lg_name (i := 2) nd rfl (by first | exact Or.inl rfl | exact Or.inr rfl)) (lgs_cons (lg_name (i := 3) nd rfl (by first | exact Or.inl rfl | exact Or.inr rfl)) lgs_nil))))
    (lss_cons (ls_if (lt_cmp (op_eqX hu) od_Eq (lv 2) (le_gS rfl T.MINE) (nomark _)) (lss_one (ls_ret (le_meth OB_Hand D_Hand_hear_mine room (by decide) gu mS_Hand_hear_mine (lv 0) (la_cons (lv 3) la_nil)))) lss_nil)
    (lss_one (ls_ret (le_if (lt_cmp (op_eqX hu) od_Eq (lv 2) (le_gS rfl T.OVER) (nomark _)) (le_meth OB_Hand D_Hand_hear_over room (by decide) gu mS_Hand_hear_over (lv 0) (la_cons (lv 3) la_nil)) (le_meth OB_Hand D_Hand_hear_back room (by decide) gu mS_Hand_hear_back (lv 0) (la_cons (lv 3) la_nil)))))))), pl_Hand_hear⟩
theorem ok_Hand_hear_mine {f : Addr} {fd : FuncData} (D : Fm K "Hand" "hear_mine" "Hand.hear_mine" s_Hand_hear_mine ["self", "card"] f fd) (T : Bl mg) (OB_Hand : Ob K mg "Hand" fs_Hand)  (D_need_letter : Df P w K mg base "need_letter" 1 ["good"] 1 [] S_need_letter)   : FnG P w K mg base 2 f fd ["self", "card"] (lfSp K 2 [0] S_Hand_hear_mine) := by
  refine D.F.okT sc_Hand_hear_mine rfl (by decide) fun cv B out s H E room gu => ?_
  have hu := hu64 room
  have hu5 := hu65 room
  have hu1 := hu_of room
  have hu6 := hu66 room
  have nd := sc_Hand_hear_mine.nd
  exact ⟨w_Hand_hear_mine, (lss_cons (ls_expr (le_callD D_need_letter room (by decide) gu mS_need_letter rfl (la_cons (le_or (le_cmp op_isN od_isN (le_fld OB_Hand (by decide) (lv 0)) le_non (nomark _)) (le_one (le_cmp op_lt od_lt (lv 1) (le_fld OB_Hand (by decide) (lv 0)) (nomark _)))) la_nil)))
    (lss_cons (ls_fld OB_Hand (by decide) (lv 0) (lv 1))
    (lss_one (ls_ret (le_lst la_nil))))), pl_Hand_hear_mine⟩
theorem ok_Hand_hear_over {f : Addr} {fd : FuncData} (D : Fm K "Hand" "hear_over" "Hand.hear_over" s_Hand_hear_over ["self", "card"] f fd) (T : Bl mg) (OB_Hand : Ob K mg "Hand" fs_Hand)  (D_need_letter : Df P w K mg base "need_letter" 1 ["good"] 1 [] S_need_letter)   : FnG P w K mg base 2 f fd ["self", "card"] (lfSp K 2 [0] S_Hand_hear_over) := by
  refine D.F.okT sc_Hand_hear_over rfl (by decide) fun cv B out s H E room gu => ?_
  have hu := hu64 room
  have hu5 := hu65 room
  have hu1 := hu_of room
  have hu6 := hu66 room
  have nd := sc_Hand_hear_over.nd
  exact ⟨w_Hand_hear_over, (lss_cons (ls_set (i := 2) nd rfl (by first | exact Or.inl rfl | exact Or.inr rfl) (le_if (lt_cmp op_isN od_isN (le_fld OB_Hand (by decide) (lv 0)) le_non (nomark _)) (le_fld OB_Hand (by decide) (lv 0)) (le_fld OB_Hand (by decide) (lv 0))))
    (lss_cons (ls_expr (le_callD D_need_letter room (by decide) gu mS_need_letter rfl (la_cons (le_and (le_cmp op_notN od_notN (lv 2) le_non (nomark _)) (le_and (le_cmp op_gt od_gt (lv 1) (lv 2) (nomark _)) (le_one (le_cmp op_isN od_isN (le_fld OB_Hand (by decide) (lv 0)) le_non (nomark _))))) la_nil)))
    (lss_cons (ls_if (lt_cmp op_isN od_isN (le_fld OB_Hand (by decide) (lv 0)) le_non (nomark _)) (lss_cons (ls_fld OB_Hand (by decide) (lv 0) (lv 1))
    (lss_one (ls_ret (le_lst la_nil)))) lss_nil)
    (lss_cons (ls_set (i := 3) nd rfl (by first | exact Or.inl rfl | exact Or.inr rfl) (le_fld OB_Hand (by decide) (lv 0)))
    (lss_cons (ls_fld OB_Hand (by decide) (lv 0) (lv 1))
    (lss_one (ls_ret (le_lst (la_cons (le_tup (la_cons (le_gS rfl T.BACK) (la_cons (lv 3) la_nil))) la_nil))))))))), pl_Hand_hear_over⟩
theorem ok_Hand_hear_back {f : Addr} {fd : FuncData} (D : Fm K "Hand" "hear_back" "Hand.hear_back" s_Hand_hear_back ["self", "card"] f fd) (T : Bl mg) (OB_Hand : Ob K mg "Hand" fs_Hand)  (D_need_letter : Df P w K mg base "need_letter" 1 ["good"] 1 [] S_need_letter)   : FnG P w K mg base 2 f fd ["self", "card"] (lfSp K 2 [0] S_Hand_hear_back) := by
  refine D.F.okT sc_Hand_hear_back rfl (by decide) fun cv B out s H E room gu => ?_
  have hu := hu64 room
  have hu5 := hu65 room
  have hu1 := hu_of room
  have hu6 := hu66 room
  have nd := sc_Hand_hear_back.nd
  exact ⟨w_Hand_hear_back, (lss_cons (ls_expr (le_callD D_need_letter room (by decide) gu mS_need_letter rfl (la_cons (le_and (le_cmp op_notN od_notN (le_fld OB_Hand (by decide) (lv 0)) le_non (nomark _)) (le_one (le_cmp op_notN od_notN (le_fld OB_Hand (by decide) (lv 0)) le_non (nomark _)))) la_nil)))
    (lss_cons (ls_expr (le_callD D_need_letter room (by decide) gu mS_need_letter rfl (la_cons (le_and (le_cmp op_lt od_lt (lv 1) (le_fld OB_Hand (by decide) (lv 0)) (nomark _)) (le_one (le_cmp op_le od_le (lv 1) (le_fld OB_Hand (by decide) (lv 0)) (nomark _)))) la_nil)))
    (lss_cons (ls_fld OB_Hand (by decide) (lv 0) (le_fld OB_Hand (by decide) (lv 0)))
    (lss_cons (ls_fld OB_Hand (by decide) (lv 0) le_non)
    (lss_cons (ls_if (lt_cmp op_isN od_isN (le_fld OB_Hand (by decide) (lv 0)) le_non (nomark _)) (lss_cons (ls_fld OB_Hand (by decide) (lv 0) (lv 1))
    (lss_one (ls_ret (le_lst (la_cons (le_tup (la_cons (le_gS rfl T.MINE) (la_cons (lv 1) la_nil))) la_nil))))) lss_nil)
    (lss_cons (ls_fld OB_Hand (by decide) (lv 0) (le_fld OB_Hand (by decide) (lv 0)))
    (lss_cons (ls_fld OB_Hand (by decide) (lv 0) le_non)
    (lss_one (ls_ret (le_lst (la_cons (le_tup (la_cons (le_gS rfl T.BACK) (la_cons (lv 1) la_nil))) la_nil))))))))))), pl_Hand_hear_back⟩
theorem ok_Hand_card {f : Addr} {fd : FuncData} (D : Fm K "Hand" "card" "Hand.card" s_Hand_card ["self"] f fd) (T : Bl mg) (OB_Hand : Ob K mg "Hand" fs_Hand)     : FnG P w K mg base 1 f fd ["self"] (lfSp K 1 [0] S_Hand_card) := by
  refine D.F.okT sc_Hand_card rfl (by decide) fun cv B out s H E room gu => ?_
  have hu := hu64 room
  have hu5 := hu65 room
  have hu1 := hu_of room
  have hu6 := hu66 room
  have nd := sc_Hand_card.nd
  exact ⟨w_Hand_card, (lss_one (ls_ret (le_fld OB_Hand (by decide) (lv 0)))), pl_Hand_card⟩
theorem ok_Hand_sent {f : Addr} {fd : FuncData} (D : Fm K "Hand" "sent" "Hand.sent" s_Hand_sent ["self"] f fd) (T : Bl mg) (OB_Hand : Ob K mg "Hand" fs_Hand)     : FnG P w K mg base 1 f fd ["self"] (lfSp K 1 [0] S_Hand_sent) := by
  refine D.F.okT sc_Hand_sent rfl (by decide) fun cv B out s H E room gu => ?_
  have hu := hu64 room
  have hu5 := hu65 room
  have hu1 := hu_of room
  have hu6 := hu66 room
  have nd := sc_Hand_sent.nd
  exact ⟨w_Hand_sent, (lss_one (ls_ret (le_fld OB_Hand (by decide) (lv 0)))), pl_Hand_sent⟩
theorem ok_Hand_aside {f : Addr} {fd : FuncData} (D : Fm K "Hand" "aside" "Hand.aside" s_Hand_aside ["self"] f fd) (T : Bl mg) (OB_Hand : Ob K mg "Hand" fs_Hand)     : FnG P w K mg base 1 f fd ["self"] (lfSp K 1 [0] S_Hand_aside) := by
  refine D.F.okT sc_Hand_aside rfl (by decide) fun cv B out s H E room gu => ?_
  have hu := hu64 room
  have hu5 := hu65 room
  have hu1 := hu_of room
  have hu6 := hu66 room
  have nd := sc_Hand_aside.nd
  exact ⟨w_Hand_aside, (lss_one (ls_ret (le_fld OB_Hand (by decide) (lv 0)))), pl_Hand_aside⟩
theorem ok_Hand_heard {f : Addr} {fd : FuncData} (D : Fm K "Hand" "heard" "Hand.heard" s_Hand_heard ["self"] f fd) (T : Bl mg) (OB_Hand : Ob K mg "Hand" fs_Hand)     : FnG P w K mg base 1 f fd ["self"] (lfSp K 1 [0] S_Hand_heard) := by
  refine D.F.okT sc_Hand_heard rfl (by decide) fun cv B out s H E room gu => ?_
  have hu := hu64 room
  have hu5 := hu65 room
  have hu1 := hu_of room
  have hu6 := hu66 room
  have nd := sc_Hand_heard.nd
  exact ⟨w_Hand_heard, (lss_one (ls_ret (le_fld OB_Hand (by decide) (lv 0)))), pl_Hand_heard⟩
theorem ok_Hand_began {f : Addr} {fd : FuncData} (D : Fm K "Hand" "began" "Hand.began" s_Hand_began ["self"] f fd) (T : Bl mg) (OB_Hand : Ob K mg "Hand" fs_Hand)     : FnG P w K mg base 1 f fd ["self"] (lfSp K 1 [0] S_Hand_began) := by
  refine D.F.okT sc_Hand_began rfl (by decide) fun cv B out s H E room gu => ?_
  have hu := hu64 room
  have hu5 := hu65 room
  have hu1 := hu_of room
  have hu6 := hu66 room
  have nd := sc_Hand_began.nd
  exact ⟨w_Hand_began, (lss_one (ls_ret (le_fld OB_Hand (by decide) (lv 0)))), pl_Hand_began⟩
theorem ok_law_pot {f : Addr} {fd : FuncData} (D : Fd K mg "_law_pot" s_law_pot ["_law_script", "_law_k"] f fd) (T : Bl mg)     : FnG P w K mg base 1 f fd ["_law_script", "_law_k"] (lfSp K 2 [] S_law_pot) := by
  refine D.F.okT sc_law_pot rfl (by decide) fun cv B out s H E room gu => ?_
  have hu := hu64 room
  have hu5 := hu65 room
  have hu1 := hu_of room
  have hu6 := hu66 room
  have nd := sc_law_pot.nd
  exact ⟨w_law_pot, (lss_cons (ls_set (i := 2) nd rfl (by first | exact Or.inl rfl | exact Or.inr rfl) le_int)
    (lss_cons (ls_if (lt_cmp op_lt od_lt (lv 1) (le_len' rfl T.len_ (la_cons (lv 0) la_nil)) (nomark _)) (lss_one (ls_set (i := 2) nd rfl (by first | exact Or.inl rfl | exact Or.inr rfl) (le_ix (lv 0) (lv 1)))) lss_nil)
    (lss_one (ls_ret (le_lst (la_cons (le_max rfl rfl T.max_ (la_cons le_int (la_cons (le_sub (lv 2) (le_pow le_int le_int)) la_nil))) (la_cons (le_add (le_mod (lv 2) le_int) (le_mul le_int (lv 1))) (la_cons le_int la_nil)))))))), pl_law_pot⟩
theorem ok_law_take {f : Addr} {fd : FuncData} (D : Fd K mg "_law_take" s_law_take ["_law_pot_here", "_law_many"] f fd) (T : Bl mg)     : FnG P w K mg base 1 f fd ["_law_pot_here", "_law_many"] (lfSp K 2 [0] S_law_take) := by
  refine D.F.okT sc_law_take rfl (by decide) fun cv B out s H E room gu => ?_
  have hu := hu64 room
  have hu5 := hu65 room
  have hu1 := hu_of room
  have hu6 := hu66 room
  have nd := sc_law_take.nd
  exact ⟨w_law_take, (lss_cons (ls_if (lt_cmp op_gt od_gt (le_ix (lv 0) le_int) le_int (nomark _)) (lss_cons (ls_set (i := 2) nd rfl (by first | exact Or.inl rfl | exact Or.inr rfl) (le_mod (le_ix (lv 0) le_int) (lv 1)))
    (lss_cons (ls_asg (le_fdiv (le_ix (lv 0) le_int) (lv 1)) (lg_sub (lv 0) le_int))
    (lss_one (ls_retV (i := 2) rfl (by first | exact Or.inl rfl | exact Or.inr (Or.inl rfl) | exact Or.inr (Or.inr rfl)))))) lss_nil)
    (lss_cons (ls_asg (le_add (le_ix (lv 0) le_int) le_int) (lg_sub (lv 0) le_int))
    (lss_cons (ls_set (i := 3) nd rfl (by first | exact Or.inl rfl | exact Or.inr rfl) (le_mod (le_pow (le_add (le_ix (lv 0) le_int) (le_mul le_int (le_ix (lv 0) le_int))) le_int) le_int))
    (lss_cons (ls_set (i := 3) nd rfl (by first | exact Or.inl rfl | exact Or.inr rfl) (le_mod (le_pow (le_add (lv 3) (le_mul le_int (le_ix (lv 0) le_int))) le_int) le_int))
    (lss_one (ls_ret (le_mod (le_fdiv (lv 3) le_int) (lv 1)))))))), pl_law_take⟩
theorem ok_law_some {f : Addr} {fd : FuncData} (D : Fd K mg "_law_some" s_law_some ["_law_pot_here", "_law_things", "_law_many"] f fd) (T : Bl mg)  (D_law_take : Df P w K mg base "_law_take" 1 ["_law_pot_here", "_law_many"] 2 [0] S_law_take)   : FnG P w K mg base 2 f fd ["_law_pot_here", "_law_things", "_law_many"] (lfSp K 3 [0] S_law_some) := by
  refine D.F.okT sc_law_some rfl (by decide) fun cv B out s H E room gu => ?_
  have hu := hu64 room
  have hu5 := hu65 room
  have hu1 := hu_of room
  have hu6 := hu66 room
  have nd := sc_law_some.nd
  exact ⟨w_law_some, (lss_cons (ls_set (i := 3) nd rfl (by first | exact Or.inl rfl | exact Or.inr rfl) (le_list rfl T.list_ (la_cons (lv 1) la_nil)))
    (lss_cons (ls_set (i := 4) nd rfl (by first | exact Or.inl rfl | exact Or.inr rfl) (le_lst la_nil))
    (lss_cons (ls_while (TX.LW.lt (lw_and (lt_cmp (op_neX hu) od_Ne (lv 3) (le_lst la_nil) (nomark _)) (lw_and1 (lt_cmp op_lt od_lt (le_len' rfl T.len_ (la_cons (lv 4) la_nil)) (lv 2) (nomark _))))) (lss_one (ls_expr (le_append (lv 4) (la_cons (le_popAt (lv 3) (la_cons (le_callD D_law_take room (by decide) gu mS_law_take rfl (la_cons (lv 0) (la_cons (le_len' rfl T.len_ (la_cons (lv 3) la_nil)) la_nil))) la_nil)) la_nil)))))
    (lss_one (ls_retV (i := 4) rfl (by first | exact Or.inl rfl | exact Or.inr (Or.inl rfl) | exact Or.inr (Or.inr rfl))))))), pl_law_some⟩
theorem ok_law_cards {f : Addr} {fd : FuncData} (D : Fd K mg "_law_cards" s_law_cards ["_law_pot_here", "_law_many"] f fd) (T : Bl mg)  (D_law_take : Df P w K mg base "_law_take" 1 ["_law_pot_here", "_law_many"] 2 [0] S_law_take) (D_law_some : Df P w K mg base "_law_some" 2 ["_law_pot_here", "_law_things", "_law_many"] 3 [0] S_law_some)   : FnG P w K mg base 3 f fd ["_law_pot_here", "_law_many"] (lfSp K 2 [0] S_law_cards) := by
  refine D.F.okT sc_law_cards rfl (by decide) fun cv B out s H E room gu => ?_
  have hu := hu64 room
  have hu5 := hu65 room
  have hu1 := hu_of room
  have hu6 := hu66 room
  have nd := sc_law_cards.nd
  exact ⟨w_law_cards, (lss_cons (ls_set (i := 2) nd rfl (by first | exact Or.inl rfl | exact Or.inr rfl) (le_callD D_law_take room (by decide) gu mS_law_take rfl (la_cons (lv 0) (la_cons le_int la_nil))))
    (lss_cons (ls_set (i := 3) nd rfl (by first | exact Or.inl rfl | exact Or.inr rfl) (le_callD D_law_take room (by decide) gu mS_law_take rfl (la_cons (lv 0) (la_cons le_int la_nil))))
    (lss_cons (ls_set (i := 4) nd rfl (by first | exact Or.inl rfl | exact Or.inr rfl) (le_lst (la_cons le_int (la_cons le_int (la_cons (le_add (le_pow le_int le_int) (le_callD D_law_take room (by decide) gu mS_law_take rfl (la_cons (lv 0) (la_cons le_int la_nil)))) la_nil)))))
    (lss_cons (ls_setLc (i := 5) (own := [("_law_k", 6)]) rfl nd rfl rfl (sw_true rfl rfl rfl (by decide +kernel)) (li_range1 rfl T.range_ (la_cons (lv 1) la_nil)) (blkOk_by (own := [("_law_k", 6)]) (N := N_law_cards) (sc := defScope s_law_cards) (by first | decide +kernel | with_unfolding_all rfl)) (fun _ _ _ _ _ => (lg_name (i := 6) nd rfl (by first | exact Or.inl rfl | exact Or.inr rfl))) (fun _ _ _ _ _ => lts_nil) (fun _ _ _ _ _ => (le_add (le_mul (lv 3) (le_toInt rfl T.int_ (la_cons (le_cmp (op_neX hu) od_Ne (lv 2) le_int (nomark _)) la_nil))) (le_mul (lv 6) (le_ix (lv 4) (lv 2))))))
    (lss_cons (ls_if (lt_cmp (op_eqX hu) od_Eq (lv 2) le_int (nomark _)) (lss_one (ls_setLc (i := 5) (own := [("_law_k", 6)]) rfl nd rfl rfl (sw_true rfl rfl rfl (by decide +kernel)) (li_range1 rfl T.range_ (la_cons (lv 1) la_nil)) (blkOk_by (own := [("_law_k", 6)]) (N := N_law_cards) (sc := defScope s_law_cards) (by first | decide +kernel | with_unfolding_all rfl)) (fun _ _ _ _ _ => (lg_name (i := 6) nd rfl (by first | exact Or.inl rfl | exact Or.inr rfl))) (fun _ _ _ _ _ => lts_nil) (fun _ _ _ _ _ => (le_sub le_int (lv 6))))) lss_nil)
    (lss_one (ls_ret (le_callD D_law_some room (by decide) gu mS_law_some rfl (la_cons (lv 0) (la_cons (lv 5) (la_cons (lv 1) la_nil))))))))))), pl_law_cards⟩
theorem ok_law_fresh {f : Addr} {fd : FuncData} (D : Fd K mg "_law_fresh" s_law_fresh ["_law_card"] f fd) (T : Bl mg)     : FnG P w K mg base 1 f fd ["_law_card"] (lfSp K 1 [] S_law_fresh) := by
  refine D.F.okT sc_law_fresh rfl (by decide) fun cv B out s H E room gu => ?_
  have hu := hu64 room
  have hu5 := hu65 room
  have hu1 := hu_of room
  have hu6 := hu66 room
  have nd := sc_law_fresh.nd
  exact ⟨w_law_fresh, (lss_one (ls_ret (le_lst (la_cons (lv 0) (la_cons le_non (la_cons le_non (la_cons le_non (la_cons le_bl la_nil)))))))), pl_law_fresh⟩
theorem ok_law_told {f : Addr} {fd : FuncData} (D : Fd K mg "_law_told" s_law_told ["_law_hand"] f fd) (T : Bl mg) (OB_Hand : Ob K mg "Hand" fs_Hand) (D_Hand_card : Dm P w K mg base "Hand" "card" 1 ["self"] 1 [0] S_Hand_card) (D_Hand_sent : Dm P w K mg base "Hand" "sent" 1 ["self"] 1 [0] S_Hand_sent) (D_Hand_aside : Dm P w K mg base "Hand" "aside" 1 ["self"] 1 [0] S_Hand_aside) (D_Hand_heard : Dm P w K mg base "Hand" "heard" 1 ["self"] 1 [0] S_Hand_heard) (D_Hand_began : Dm P w K mg base "Hand" "began" 1 ["self"] 1 [0] S_Hand_began)    : FnG P w K mg base 2 f fd ["_law_hand"] (lfSp K 1 [0] S_law_told) := by
  refine D.F.okT sc_law_told rfl (by decide) fun cv B out s H E room gu => ?_
  have hu := hu64 room
  have hu5 := hu65 room
  have hu1 := hu_of room
  have hu6 := hu66 room
  have nd := sc_law_told.nd
  exact ⟨w_law_told, (lss_one (ls_ret (le_lst (la_cons (le_meth0 OB_Hand D_Hand_card room (by decide) gu mS_Hand_card (lv 0)) (la_cons (le_meth0 OB_Hand D_Hand_sent room (by decide) gu mS_Hand_sent (lv 0)) (la_cons (le_meth0 OB_Hand D_Hand_aside room (by decide) gu mS_Hand_aside (lv 0)) (la_cons (le_meth0 OB_Hand D_Hand_heard room (by decide) gu mS_Hand_heard (lv 0)) (la_cons (le_meth0 OB_Hand D_Hand_began room (by decide) gu mS_Hand_began (lv 0)) la_nil)))))))), pl_law_told⟩
theorem ok_law_due {f : Addr} {fd : FuncData} (D : Fd K mg "_law_due" s_law_due ["_law_state", "_law_letter_here"] f fd) (T : Bl mg)     : FnG P w K mg base 1 f fd ["_law_state", "_law_letter_here"] (lfSp K 2 [] S_law_due) := by
  refine D.F.okT sc_law_due rfl (by decide) fun cv B out s H E room gu => ?_
  have hu := hu64 room
  have hu5 := hu65 room
  have hu1 := hu_of room
  have hu6 := hu66 room
  have nd := sc_law_due.nd
  exact ⟨w_law_due, (lss_cons (ls_asg (lv 0) (lg_lst rfl (lgs_cons (lg_name (i := 2) nd rfl (by first | exact Or.inl rfl | exact Or.inr rfl)) (lgs_cons (lg_name (i := 3) nd rfl (by first | exact Or.inl rfl | exact Or.inr rfl)) (lgs_cons (lg_name (i := 4) nd rfl (by first | exact Or.inl rfl | exact Or.inr rfl)) (lgs_cons (lg_name (i := 5) nd rfl (by first | exact Or.inl rfl | exact Or.inr rfl)) (lgs_cons (lg_name (i := 6) nd rfl (by first | exact Or.inl rfl | exact Or.inr rfl)) lgs_nil)))))))
    (lss_cons (ls_asg (lv 1) (lg_tup rfl (lgs_cons (lg_name (i := 7) nd rfl (by first | exact Or.inl rfl | exact Or.inr rfl)) (lgs_cons (lg_name (i := 8) nd rfl (by first | exact Or.inl rfl | exact Or.inr rfl)) lgs_nil))))
    (lss_cons (ls_if (lt_not (lt_val (lv 6))) (lss_one (ls_ret le_non)) lss_nil)
    (lss_cons (ls_if (lt_cmp (op_eqX hu) od_Eq (lv 7) le_str (nomark _)) (lss_one (ls_ret (le_if (TX.LW.lt (lw_and (lt_cmp op_notN od_notN (lv 5) le_non (nomark _)) (lw_and1 (lt_cmp op_ge od_ge (lv 8) (lv 5) (nomark _))))) le_non (le_tup (la_cons (le_lst la_nil) (la_cons (le_lst (la_cons (lv 2) (la_cons (lv 3) (la_cons (lv 4) (la_cons (lv 8) (la_cons le_bl la_nil)))))) la_nil)))))) lss_nil)
    (lss_cons (ls_if (lt_cmp (op_eqX hu) od_Eq (lv 7) le_str (nomark _)) (lss_cons (ls_if (TX.LW.lt (lw_or (lt_cmp op_notN od_notN (lv 4) le_non (nomark _)) (lw_or1 (lt_cmp op_le od_le (lv 8) (le_if (lt_cmp op_isN od_isN (lv 2) le_non (nomark _)) (lv 3) (lv 2)) (nomark _))))) (lss_one (ls_ret le_non)) lss_nil)
    (lss_cons (ls_if (lt_cmp op_isN od_isN (lv 2) le_non (nomark _)) (lss_one (ls_ret (le_tup (la_cons (le_lst la_nil) (la_cons (le_lst (la_cons le_non (la_cons (lv 3) (la_cons (lv 8) (la_cons (lv 5) (la_cons le_bl la_nil)))))) la_nil))))) lss_nil)
    (lss_one (ls_ret (le_tup (la_cons (le_lst (la_cons (le_tup (la_cons le_str (la_cons (lv 2) la_nil))) la_nil)) (la_cons (le_lst (la_cons (lv 8) (la_cons le_non (la_cons le_non (la_cons (lv 5) (la_cons le_bl la_nil)))))) la_nil))))))) lss_nil)
    (lss_cons (ls_if (TX.LW.lt (lw_or (lt_cmp op_notN od_notN (lv 2) le_non (nomark _)) (lw_or (lt_cmp op_ge od_ge (lv 8) (lv 3) (nomark _)) (lw_or1 (lt_cmp op_gt od_gt (lv 8) (lv 5) (nomark _)))))) (lss_one (ls_ret le_non)) lss_nil)
    (lss_cons (ls_if (lt_cmp op_isN od_isN (lv 4) le_non (nomark _)) (lss_one (ls_ret (le_tup (la_cons (le_lst (la_cons (le_tup (la_cons le_str (la_cons (lv 8) la_nil))) la_nil)) (la_cons (le_lst (la_cons (lv 8) (la_cons le_non (la_cons le_non (la_cons (lv 3) (la_cons le_bl la_nil)))))) la_nil))))) lss_nil)
    (lss_one (ls_ret (le_tup (la_cons (le_lst (la_cons (le_tup (la_cons le_str (la_cons (lv 8) la_nil))) la_nil)) (la_cons (le_lst (la_cons (lv 4) (la_cons le_non (la_cons le_non (la_cons (lv 3) (la_cons le_bl la_nil)))))) la_nil)))))))))))), pl_law_due⟩
theorem ok_law_letter {f : Addr} {fd : FuncData} (D : Fd K mg "_law_letter" s_law_letter ["_law_pot_here", "_law_state"] f fd) (T : Bl mg)  (D_law_take : Df P w K mg base "_law_take" 1 ["_law_pot_here", "_law_many"] 2 [0] S_law_take)   : FnG P w K mg base 2 f fd ["_law_pot_here", "_law_state"] (lfSp K 2 [0] S_law_letter) := by
  refine D.F.okT sc_law_letter rfl (by decide) fun cv B out s H E room gu => ?_
  have hu := hu64 room
  have hu5 := hu65 room
  have hu1 := hu_of room
  have hu6 := hu66 room
  have nd := sc_law_letter.nd
  exact ⟨w_law_letter, (lss_cons (ls_asg (lv 1) (lg_lst rfl (lgs_cons (lg_name (i := 2) nd rfl (by first | exact Or.inl rfl | exact Or.inr rfl)) (lgs_cons (lg_name (i := 3) nd rfl (by first | exact Or.inl rfl | exact Or.inr rfl)) (lgs_cons (lg_name (i := 4) nd rfl (by first | exact Or.inl rfl | exact Or.inr rfl)) (lgs_cons (lg_name (i := 5) nd rfl (by first | exact Or.inl rfl | exact Or.inr rfl)) (lgs_cons (lg_name (i := 6) nd rfl (by first | exact Or.inl rfl | exact Or.inr rfl)) lgs_nil)))))))
    (lss_cons (ls_set (i := 7) nd rfl (by first | exact Or.inl rfl | exact Or.inr rfl) (le_if (lt_cmp op_isN od_isN (lv 2) le_non (nomark _)) (lv 3) (lv 2)))
    (lss_cons (ls_set (i := 8) nd rfl (by first | exact Or.inl rfl | exact Or.inr rfl) (le_lst (la_cons (lv 7) (la_cons le_int (la_cons le_int la_nil)))))
    (lss_cons (ls_if (lt_cmp op_notN od_notN (lv 5) le_non (nomark _)) (lss_one (ls_set (i := 8) nd rfl (by first | exact Or.inl rfl | exact Or.inr rfl) (le_lst (la_cons (le_sub (lv 5) le_int) (la_cons (le_sub (le_sub (lv 5) le_int) (le_callD D_law_take room (by decide) gu mS_law_take rfl (la_cons (lv 0) (la_cons le_int la_nil)))) (la_cons (le_callD D_law_take room (by decide) gu mS_law_take rfl (la_cons (lv 0) (la_cons (le_add (lv 5) le_int) la_nil))) la_nil)))))) lss_nil)
    (lss_cons (ls_set (i := 9) nd rfl (by first | exact Or.inl rfl | exact Or.inr rfl) (le_lst (la_cons (le_add (lv 7) le_int) (la_cons (le_add (le_add (lv 7) le_int) (le_callD D_law_take room (by decide) gu mS_law_take rfl (la_cons (lv 0) (la_cons le_int la_nil)))) (la_cons (le_add (lv 7) (le_callD D_law_take room (by decide) gu mS_law_take rfl (la_cons (lv 0) (la_cons (le_sub (le_pow le_int le_int) (lv 7)) la_nil)))) la_nil)))))
    (lss_cons (ls_set (i := 10) nd rfl (by first | exact Or.inl rfl | exact Or.inr rfl) (le_callD D_law_take room (by decide) gu mS_law_take rfl (la_cons (lv 0) (la_cons le_int la_nil))))
    (lss_cons (ls_if (lt_cmp op_lt od_lt (lv 10) le_int (nomark _)) (lss_one (ls_ret (le_tup (la_cons le_str (la_cons (le_max rfl rfl T.max_ (la_cons le_int (la_cons (le_ix (lv 8) (le_callD D_law_take room (by decide) gu mS_law_take rfl (la_cons (lv 0) (la_cons le_int la_nil)))) la_nil))) la_nil))))) lss_nil)
    (lss_cons (ls_if (lt_cmp op_lt od_lt (lv 10) le_int (nomark _)) (lss_one (ls_ret (le_tup (la_cons le_str (la_cons (le_min rfl rfl T.min_ (la_cons (le_sub (le_pow le_int le_int) le_int) (la_cons (le_ix (lv 9) (le_callD D_law_take room (by decide) gu mS_law_take rfl (la_cons (lv 0) (la_cons le_int la_nil)))) la_nil))) la_nil))))) lss_nil)
    (lss_cons (ls_if (TX.LW.lt (lw_and (lt_cmp op_lt od_lt (lv 10) le_int (nomark _)) (lw_and1 (lt_cmp op_notN od_notN (lv 3) le_non (nomark _))))) (lss_one (ls_ret (le_tup (la_cons le_str (la_cons (le_max rfl rfl T.max_ (la_cons le_int (la_cons (le_min rfl rfl T.min_ (la_cons (le_add (le_ix (lv 8) (le_callD D_law_take room (by decide) gu mS_law_take rfl (la_cons (lv 0) (la_cons le_int la_nil)))) (le_callD D_law_take room (by decide) gu mS_law_take rfl (la_cons (lv 0) (la_cons le_int la_nil)))) (la_cons (le_sub (lv 3) le_int) la_nil))) la_nil))) la_nil))))) lss_nil)
    (lss_cons (ls_set (i := 11) nd rfl (by first | exact Or.inl rfl | exact Or.inr rfl) (le_max rfl rfl T.max_ (la_cons le_int (la_cons (le_min rfl rfl T.min_ (la_cons (le_sub (le_pow le_int le_int) le_int) (la_cons (le_add (le_sub (lv 7) le_int) (le_callD D_law_take room (by decide) gu mS_law_take rfl (la_cons (lv 0) (la_cons le_int la_nil)))) la_nil))) la_nil))))
    (lss_one (ls_ret (le_tup (la_cons (le_ix (le_lst (la_cons le_str (la_cons le_str (la_cons le_str la_nil)))) (le_callD D_law_take room (by decide) gu mS_law_take rfl (la_cons (lv 0) (la_cons le_int la_nil)))) (la_cons (lv 11) la_nil))))))))))))))), pl_law_letter⟩
theorem ok_law_heard {f : Addr} {fd : FuncData} (D : Fd K mg "_law_heard" s_law_heard ["_law_hand", "_law_letter_here"] f fd) (T : Bl mg) (XK : Xcs K mg exN) (OB_Hand : Ob K mg "Hand" fs_Hand) (D_Hand_hear : Dm P w K mg base "Hand" "hear" 3 ["self", "letter"] 2 [0] S_Hand_hear)    : FnG P w K mg base 4 f fd ["_law_hand", "_law_letter_here"] (lfSp K 2 [0] S_law_heard) := by
  refine D.F.okT sc_law_heard rfl (by decide) fun cv B out s H E room gu => ?_
  have hu := hu64 room
  have hu5 := hu65 room
  have hu1 := hu_of room
  have hu6 := hu66 room
  have nd := sc_law_heard.nd
  exact ⟨w_law_heard, (lss_one (ls_tryM XK rfl rfl (fun _ _ => (lss_one (ls_ret (le_meth OB_Hand D_Hand_hear room (by decide) gu mS_Hand_hear (lv 0) (la_cons (lv 1) la_nil))))) (LHds.cons (by decide) rfl rfl (fun _ _ => (lss_one (ls_ret le_non))) LHds.nil))), pl_law_heard⟩
theorem ok_law_gone {f : Addr} {fd : FuncData} (D : Fd K mg "_law_gone" s_law_gone ["_law_hand", "_law_state"] f fd) (T : Bl mg) (XK : Xcs K mg exN) (OB_Hand : Ob K mg "Hand" fs_Hand) (D_Hand_go : Dm P w K mg base "Hand" "go" 2 ["self"] 1 [0] S_Hand_go)    : FnG P w K mg base 3 f fd ["_law_hand", "_law_state"] (lfSp K 2 [0] S_law_gone) := by
  refine D.F.okT sc_law_gone rfl (by decide) fun cv B out s H E room gu => ?_
  have hu := hu64 room
  have hu5 := hu65 room
  have hu1 := hu_of room
  have hu6 := hu66 room
  have nd := sc_law_gone.nd
  exact ⟨w_law_gone, (lss_cons (ls_asgL rfl (lv 1) (lgs_cons (lg_name (i := 2) nd rfl (by first | exact Or.inl rfl | exact Or.inr rfl)) (lgs_cons (lg_name (i := 3) nd rfl (by first | exact Or.inl rfl | exact Or.inr rfl)) (lgs_cons (lg_name (i := 4) nd rfl (by first | exact Or.inl rfl | exact Or.inr rfl)) (lgs_cons (lg_name (i := 5) nd rfl (by first | exact Or.inl rfl | exact Or.inr rfl)) (lgs_cons (lg_name (i := 6) nd rfl (by first | exact Or.inl rfl | exact Or.inr rfl)) lgs_nil))))))
    (lss_cons (ls_set (i := 7) nd rfl (by first | exact Or.inl rfl | exact Or.inr rfl) (le_and (lv 6) (le_and (le_cmp op_notN od_notN (lv 2) le_non (nomark _)) (le_and (le_cmp op_notN od_notN (lv 5) le_non (nomark _)) (le_one (le_cmp op_gt od_gt (lv 2) (lv 5) (nomark _)))))))
    (lss_cons (ls_set (i := 8) nd rfl (by first | exact Or.inl rfl | exact Or.inr rfl) le_non)
    (lss_cons (ls_tryM XK rfl rfl (fun _ _ => (lss_one (ls_set (i := 8) nd rfl (by first | exact Or.inl rfl | exact Or.inr rfl) (le_meth0 OB_Hand D_Hand_go room (by decide) gu mS_Hand_go (lv 0))))) (LHds.cons (by decide) rfl rfl (fun _ _ => (lss_one (ls_set (i := 8) nd rfl (by first | exact Or.inl rfl | exact Or.inr rfl) le_non))) LHds.nil))
    (lss_cons (ls_if (lt_cmp (op_neX hu) od_Ne (le_repr gu hu rfl T.repr_ (la_cons (lv 8) la_nil)) (le_repr gu hu rfl T.repr_ (la_cons (le_if (lt_val (lv 7)) (le_lst (la_cons (le_tup (la_cons le_str (la_cons (lv 2) la_nil))) la_nil)) le_non) la_nil)) (nomark _)) (lss_one (ls_ret le_non)) lss_nil)
    (lss_one (ls_ret (le_if (lt_val (lv 7)) (le_lst (la_cons le_non (la_cons (lv 2) (la_cons le_non (la_cons (lv 5) (la_cons le_bl la_nil)))))) (lv 1))))))))), pl_law_gone⟩
theorem okP_law_gone {f : Addr} {fd : FuncData} (D : Fd K mg "_law_gone" s_law_gone ["_law_hand", "_law_state"] f fd) (T : Bl mg) (XK : Xcs K mg exN) (OB_Hand : Ob K mg "Hand" fs_Hand) (D_Hand_go : Dm P w K mg base "Hand" "go" 2 ["self"] 1 [0] S_Hand_go)    : FnG P w K mg base 3 f fd ["_law_hand", "_law_state"] (lfSp K 2 [0, 1] SP_law_gone) := by
  refine D.F.okTP sc_law_gone rfl (by decide) fun cv B out s H E room gu => ?_
  have hu := hu64 room
  have hu5 := hu65 room
  have hu1 := hu_of room
  have hu6 := hu66 room
  have nd := sc_law_gone.nd
  exact ⟨wP_law_gone, (lss_cons (ls_asgL rfl (lv 1) (lgs_cons (lg_name (i := 2) nd rfl (by first | exact Or.inl rfl | exact Or.inr rfl)) (lgs_cons (lg_name (i := 3) nd rfl (by first | exact Or.inl rfl | exact Or.inr rfl)) (lgs_cons (lg_name (i := 4) nd rfl (by first | exact Or.inl rfl | exact Or.inr rfl)) (lgs_cons (lg_name (i := 5) nd rfl (by first | exact Or.inl rfl | exact Or.inr rfl)) (lgs_cons (lg_name (i := 6) nd rfl (by first | exact Or.inl rfl | exact Or.inr rfl)) lgs_nil))))))
    (lss_cons (ls_set (i := 7) nd rfl (by first | exact Or.inl rfl | exact Or.inr rfl) (le_and (lv 6) (le_and (le_cmp op_notN od_notN (lv 2) le_non (nomark _)) (le_and (le_cmp op_notN od_notN (lv 5) le_non (nomark _)) (le_one (le_cmp op_gt od_gt (lv 2) (lv 5) (nomark _)))))))
    (lss_cons (ls_set (i := 8) nd rfl (by first | exact Or.inl rfl | exact Or.inr rfl) le_non)
    (lss_cons (ls_tryM XK rfl rfl (fun _ _ => (lss_one (ls_set (i := 8) nd rfl (by first | exact Or.inl rfl | exact Or.inr rfl) (le_meth0 OB_Hand D_Hand_go room (by decide) gu mS_Hand_go (lv 0))))) (LHds.cons (by decide) rfl rfl (fun _ _ => (lss_one (ls_set (i := 8) nd rfl (by first | exact Or.inl rfl | exact Or.inr rfl) le_non))) LHds.nil))
    (lss_cons (ls_if (lt_cmp (op_neX hu) od_Ne (le_repr gu hu rfl T.repr_ (la_cons (lv 8) la_nil)) (le_repr gu hu rfl T.repr_ (la_cons (le_if (lt_val (lv 7)) (le_lst (la_cons (le_tup (la_cons le_str (la_cons (lv 2) la_nil))) la_nil)) le_non) la_nil)) (nomark _)) (lss_one (ls_ret le_non)) lss_nil)
    (lss_one (ls_ret (le_if (lt_val (lv 7)) (le_lst (la_cons le_non (la_cons (lv 2) (la_cons le_non (la_cons (lv 5) (la_cons le_bl la_nil)))))) (lv 1))))))))), plP_law_gone⟩
theorem ok_law_right {f : Addr} {fd : FuncData} (D : Fd K mg "_law_right" s_law_right ["_law_pot_here", "_law_card"] f fd) (T : Bl mg) (OB_Hand : Ob K mg "Hand" fs_Hand) (D_Hand_init : Dm P w K mg base "Hand" "__init__" 2 ["self", "card"] 2 [0] S_Hand_init) (D_Hand_begin : Dm P w K mg base "Hand" "begin" 1 ["self"] 1 [0] S_Hand_begin) (D_law_take : Df P w K mg base "_law_take" 1 ["_law_pot_here", "_law_many"] 2 [0] S_law_take) (D_law_fresh : Df P w K mg base "_law_fresh" 1 ["_law_card"] 1 [] S_law_fresh) (D_law_told : Df P w K mg base "_law_told" 2 ["_law_hand"] 1 [0] S_law_told) (D_law_due : Df P w K mg base "_law_due" 1 ["_law_state", "_law_letter_here"] 2 [] S_law_due) (D_law_letter : Df P w K mg base "_law_letter" 2 ["_law_pot_here", "_law_state"] 2 [0] S_law_letter) (D_law_heard : Df P w K mg base "_law_heard" 4 ["_law_hand", "_law_letter_here"] 2 [0] S_law_heard) (D_law_gone : Df P w K mg base "_law_gone" 3 ["_law_hand", "_law_state"] 2 [0] S_law_gone) (DP_law_gone : Df P w K mg base "_law_gone" 3 ["_law_hand", "_law_state"] 2 [0, 1] SP_law_gone)  : FnG P w K mg base 5 f fd ["_law_pot_here", "_law_card"] (lfSp K 2 [0] S_law_right) := by
  refine D.F.okT sc_law_right rfl (by decide) fun cv B out s H E room gu => ?_
  have hu := hu64 room
  have hu5 := hu65 room
  have hu1 := hu_of room
  have hu6 := hu66 room
  have nd := sc_law_right.nd
  exact ⟨w_law_right, (lss_cons (ls_par (i := 2) (j := 3) rfl nd rfl rfl (by decide) rfl rfl (la_cons (le_make OB_Hand D_Hand_init room (by decide) gu mS_Hand_init rfl (la_cons (lv 1) la_nil)) (la_cons (le_callD D_law_fresh room (by decide) gu mS_law_fresh rfl (la_cons (lv 1) la_nil)) la_nil)) (by rfl))
    (lss_cons (ls_for rfl (li_range1 rfl T.range_ (la_cons le_int la_nil)) (lg_name (i := 4) nd rfl (by first | exact Or.inl rfl | exact Or.inr rfl)) (lss_cons (ls_if (TX.LW.lt (lw_and (lt_not (lt_val (le_ix (lv 3) le_int))) (lw_and1 (lt_cmp op_gt od_gt (le_callD D_law_take room (by decide) gu mS_law_take rfl (la_cons (lv 0) (la_cons le_int la_nil))) le_int (nomark _))))) (lss_cons (ls_expr (le_meth0 OB_Hand D_Hand_begin room (by decide) gu mS_Hand_begin (lv 2)))
    (lss_one (ls_asg le_bl (lg_sub (lv 3) le_int)))) lss_nil)
    (lss_cons (ls_ei (ls_frz 3 (ls_if (lt_cmp (op_eqX hu) od_Eq (le_callD D_law_take room (by decide) gu mS_law_take rfl (la_cons (lv 0) (la_cons le_int la_nil))) le_int (nomark _)) (lss_one (ls_setP (i := 3) nd rfl (by first | exact Or.inl rfl | exact Or.inr rfl) (le_ei (le_callD D_law_gone room (by decide) gu mS_law_gone rfl (la_cons (lv 2) (la_cons (lv 3) la_nil))) (le_callDP DP_law_gone room (by decide) gu mSP_law_gone rfl (la_cons (lv 2) (la_cons (lv 3) la_nil)))))) (lss_cons (ls_set (i := 5) nd rfl (by first | exact Or.inl rfl | exact Or.inr rfl) (le_callD D_law_letter room (by decide) gu mS_law_letter rfl (la_cons (lv 0) (la_cons (lv 3) la_nil))))
    (lss_cons (ls_set (i := 6) nd rfl (by first | exact Or.inl rfl | exact Or.inr rfl) (le_callD D_law_due room (by decide) gu mS_law_due rfl (la_cons (lv 3) (la_cons (lv 5) la_nil))))
    (lss_cons (ls_set (i := 7) nd rfl (by first | exact Or.inl rfl | exact Or.inr rfl) (le_callD D_law_heard room (by decide) gu mS_law_heard rfl (la_cons (lv 2) (la_cons (lv 5) la_nil))))
    (lss_cons (ls_if (lt_cmp (op_neX hu) od_Ne (le_repr gu hu rfl T.repr_ (la_cons (lv 7) la_nil)) (le_repr gu hu rfl T.repr_ (la_cons (le_if (lt_cmp op_isN od_isN (lv 6) le_non (nomark _)) le_non (le_ix (lv 6) le_int)) la_nil)) (nomark _)) (lss_one (ls_ret le_bl)) lss_nil)
    (lss_one (ls_if (lt_cmp op_notN od_notN (lv 6) le_non (nomark _)) (lss_cons (ls_expr (le_append (lv 7) (la_cons (le_tup (la_cons le_str (la_cons le_int la_nil))) la_nil)))
    (lss_one (ls_set (i := 3) nd rfl (by first | exact Or.inl rfl | exact Or.inr rfl) (le_ix (lv 6) le_int)))) lss_nil)))))))) (ls_if (lt_cmp (op_eqX hu) od_Eq (le_callD D_law_take room (by decide) gu mS_law_take rfl (la_cons (lv 0) (la_cons le_int la_nil))) le_int (nomark _)) (lss_one (ls_setP (i := 3) nd rfl (by first | exact Or.inl rfl | exact Or.inr rfl) (le_ei (le_callD D_law_gone room (by decide) gu mS_law_gone rfl (la_cons (lv 2) (la_cons (lv 3) la_nil))) (le_callDP DP_law_gone room (by decide) gu mSP_law_gone rfl (la_cons (lv 2) (la_cons (lv 3) la_nil)))))) (lss_cons (ls_set (i := 5) nd rfl (by first | exact Or.inl rfl | exact Or.inr rfl) (le_callD D_law_letter room (by decide) gu mS_law_letter rfl (la_cons (lv 0) (la_cons (lv 3) la_nil))))
    (lss_cons (ls_set (i := 6) nd rfl (by first | exact Or.inl rfl | exact Or.inr rfl) (le_callD D_law_due room (by decide) gu mS_law_due rfl (la_cons (lv 3) (la_cons (lv 5) la_nil))))
    (lss_cons (ls_set (i := 7) nd rfl (by first | exact Or.inl rfl | exact Or.inr rfl) (le_callD D_law_heard room (by decide) gu mS_law_heard rfl (la_cons (lv 2) (la_cons (lv 5) la_nil))))
    (lss_cons (ls_if (lt_cmp (op_neX hu) od_Ne (le_repr gu hu rfl T.repr_ (la_cons (lv 7) la_nil)) (le_repr gu hu rfl T.repr_ (la_cons (le_if (lt_cmp op_isN od_isN (lv 6) le_non (nomark _)) le_non (le_ix (lv 6) le_int)) la_nil)) (nomark _)) (lss_one (ls_ret le_bl)) lss_nil)
    (lss_one (ls_if (lt_cmp op_notN od_notN (lv 6) le_non (nomark _)) (lss_cons (ls_expr (le_append (lv 7) (la_cons (le_tup (la_cons le_str (la_cons le_int la_nil))) la_nil)))
    (lss_one (ls_set (i := 3) nd rfl (by first | exact Or.inl rfl | exact Or.inr rfl) (le_ix (lv 6) le_int)))) lss_nil))))))))
    (lss_one (ls_if (TX.LW.lt (lw_or (lt_cmp op_isN od_isN (lv 3) le_non (nomark _)) (lw_or1 (lt_cmp (op_neX hu) od_Ne (le_repr gu hu rfl T.repr_ (la_cons (le_callD D_law_told room (by decide) gu mS_law_told rfl (la_cons (lv 2) la_nil)) la_nil)) (le_repr gu hu rfl T.repr_ (la_cons (lv 3) la_nil)) (nomark _))))) (lss_one (ls_ret le_bl)) lss_nil)))))
    (lss_one (ls_ret le_bl)))), pl_law_right⟩
theorem ok_law {f : Addr} {fd : FuncData} (D : Fd K mg "law" s_law ["_law_script"] f fd) (T : Bl mg)  (D_law_pot : Df P w K mg base "_law_pot" 1 ["_law_script", "_law_k"] 2 [] S_law_pot) (D_law_cards : Df P w K mg base "_law_cards" 3 ["_law_pot_here", "_law_many"] 2 [0] S_law_cards) (D_law_right : Df P w K mg base "_law_right" 5 ["_law_pot_here", "_law_card"] 2 [0] S_law_right)   : FnG P w K mg base 6 f fd ["_law_script"] (lfSp K 1 [] S_law) := by
  refine D.F.okT sc_law rfl (by decide) fun cv B out s H E room gu => ?_
  have hu := hu64 room
  have hu5 := hu65 room
  have hu1 := hu_of room
  have hu6 := hu66 room
  have nd := sc_law.nd
  exact ⟨w_law, (lss_cons (ls_for rfl (li_range1 rfl T.range_ (la_cons (le_max rfl rfl T.max_ (la_cons le_int (la_cons (le_min rfl rfl T.min_ (la_cons le_int (la_cons (le_len' rfl T.len_ (la_cons (lv 0) la_nil)) la_nil))) la_nil))) la_nil)) (lg_name (i := 1) nd rfl (by first | exact Or.inl rfl | exact Or.inr rfl)) (lss_cons (ls_set (i := 2) nd rfl (by first | exact Or.inl rfl | exact Or.inr rfl) (le_callD D_law_pot room (by decide) gu mS_law_pot rfl (la_cons (lv 0) (la_cons (lv 1) la_nil))))
    (lss_one (ls_for rfl (li_list (le_callD D_law_cards room (by decide) gu mS_law_cards rfl (la_cons (lv 2) (la_cons le_int la_nil)))) (lg_name (i := 3) nd rfl (by first | exact Or.inl rfl | exact Or.inr rfl)) (lss_one (ls_if (lt_not (lt_val (le_callD D_law_right room (by decide) gu mS_law_right rfl (la_cons (lv 2) (la_cons (lv 3) la_nil))))) (lss_one (ls_ret le_bl)) lss_nil))))))
    (lss_one (ls_ret le_bl))), pl_law⟩
end
end LW.H

namespace LW.H
open PySem PySem.Spec L2 TX PyProof.Rows LW
theorem all_of {l : PySem.W.OpenLaw} {w : World} {K : PySem.W.Frag} {h : Heap} {mg : Str → Option Value} {fa : Addr} (X : K.In h) (G : h.Ns mainGlobals mg) (hfa : mg "law" = some (.ref fa))
    {C_Hand : Addr} (aC_Hand : PySem.W.nsIn K mainGlobals "Hand" = some (some (.ref C_Hand))) (ob_Hand : obOk K "Hand" fs_Hand = true)
    {f0 : Addr} {od0 an0 : Option Addr} {sl0 : Array (Option Value)} {oc0 kV0 dc0 pm0 cd0 ct0 : Value} (a0 : PySem.W.nsIn K mainGlobals "is_card" = some (some (.ref f0)))
    (l0 : K.lookup f0 = some ⟨oc0, od0, .func (PySem.W.fnOf "is_card" "is_card" (defArgs s_is_card) (defBody s_is_card) (defScope s_is_card) .none kV0 dc0 pm0 an0 cd0 ct0), sl0⟩) (c0 : PySem.W.codeIn K cd0 "is_card" = true) (k0 : PySem.W.keepIn K (.ref f0) = true)
    {f1 : Addr} {od1 an1 : Option Addr} {sl1 : Array (Option Value)} {oc1 kV1 dc1 pm1 cd1 ct1 : Value} (a1 : PySem.W.nsIn K mainGlobals "is_letter" = some (some (.ref f1)))
    (l1 : K.lookup f1 = some ⟨oc1, od1, .func (PySem.W.fnOf "is_letter" "is_letter" (defArgs s_is_letter) (defBody s_is_letter) (defScope s_is_letter) .none kV1 dc1 pm1 an1 cd1 ct1), sl1⟩) (c1 : PySem.W.codeIn K cd1 "is_letter" = true) (k1 : PySem.W.keepIn K (.ref f1) = true)
    {f2 : Addr} {od2 an2 : Option Addr} {sl2 : Array (Option Value)} {oc2 kV2 dc2 pm2 cd2 ct2 : Value} (a2 : PySem.W.nsIn K mainGlobals "need_letter" = some (some (.ref f2)))
    (l2 : K.lookup f2 = some ⟨oc2, od2, .func (PySem.W.fnOf "need_letter" "need_letter" (defArgs s_need_letter) (defBody s_need_letter) (defScope s_need_letter) .none kV2 dc2 pm2 an2 cd2 ct2), sl2⟩) (c2 : PySem.W.codeIn K cd2 "need_letter" = true) (k2 : PySem.W.keepIn K (.ref f2) = true)
    {f3 : Addr} {od3 an3 : Option Addr} {sl3 : Array (Option Value)} {oc3 kV3 dc3 pm3 cd3 ct3 : Value} (a3 : PySem.W.findIn K (.ref C_Hand) "__init__" = some (some (.ref f3))) (i3 : PySem.W.isFn K (.ref f3) = true)
    (l3 : K.lookup f3 = some ⟨oc3, od3, .func (PySem.W.fnOf "__init__" "Hand.__init__" (defArgs s_Hand_init) (defBody s_Hand_init) (defScope s_Hand_init) .none kV3 dc3 pm3 an3 cd3 ct3), sl3⟩) (c3 : PySem.W.codeIn K cd3 "Hand.__init__" = true) (k3 : PySem.W.keepIn K (.ref f3) = true)
    {f4 : Addr} {od4 an4 : Option Addr} {sl4 : Array (Option Value)} {oc4 kV4 dc4 pm4 cd4 ct4 : Value} (a4 : PySem.W.findIn K (.ref C_Hand) "begin" = some (some (.ref f4))) (i4 : PySem.W.isFn K (.ref f4) = true)
    (l4 : K.lookup f4 = some ⟨oc4, od4, .func (PySem.W.fnOf "begin" "Hand.begin" (defArgs s_Hand_begin) (defBody s_Hand_begin) (defScope s_Hand_begin) .none kV4 dc4 pm4 an4 cd4 ct4), sl4⟩) (c4 : PySem.W.codeIn K cd4 "Hand.begin" = true) (k4 : PySem.W.keepIn K (.ref f4) = true)
    {f5 : Addr} {od5 an5 : Option Addr} {sl5 : Array (Option Value)} {oc5 kV5 dc5 pm5 cd5 ct5 : Value} (a5 : PySem.W.findIn K (.ref C_Hand) "may_go" = some (some (.ref f5))) (i5 : PySem.W.isFn K (.ref f5) = true)
    (l5 : K.lookup f5 = some ⟨oc5, od5, .func (PySem.W.fnOf "may_go" "Hand.may_go" (defArgs s_Hand_may_go) (defBody s_Hand_may_go) (defScope s_Hand_may_go) .none kV5 dc5 pm5 an5 cd5 ct5), sl5⟩) (c5 : PySem.W.codeIn K cd5 "Hand.may_go" = true) (k5 : PySem.W.keepIn K (.ref f5) = true)
    {f6 : Addr} {od6 an6 : Option Addr} {sl6 : Array (Option Value)} {oc6 kV6 dc6 pm6 cd6 ct6 : Value} (a6 : PySem.W.findIn K (.ref C_Hand) "go" = some (some (.ref f6))) (i6 : PySem.W.isFn K (.ref f6) = true)
    (l6 : K.lookup f6 = some ⟨oc6, od6, .func (PySem.W.fnOf "go" "Hand.go" (defArgs s_Hand_go) (defBody s_Hand_go) (defScope s_Hand_go) .none kV6 dc6 pm6 an6 cd6 ct6), sl6⟩) (c6 : PySem.W.codeIn K cd6 "Hand.go" = true) (k6 : PySem.W.keepIn K (.ref f6) = true)
    {f7 : Addr} {od7 an7 : Option Addr} {sl7 : Array (Option Value)} {oc7 kV7 dc7 pm7 cd7 ct7 : Value} (a7 : PySem.W.findIn K (.ref C_Hand) "hear" = some (some (.ref f7))) (i7 : PySem.W.isFn K (.ref f7) = true)
    (l7 : K.lookup f7 = some ⟨oc7, od7, .func (PySem.W.fnOf "hear" "Hand.hear" (defArgs s_Hand_hear) (defBody s_Hand_hear) (defScope s_Hand_hear) .none kV7 dc7 pm7 an7 cd7 ct7), sl7⟩) (c7 : PySem.W.codeIn K cd7 "Hand.hear" = true) (k7 : PySem.W.keepIn K (.ref f7) = true)
    {f8 : Addr} {od8 an8 : Option Addr} {sl8 : Array (Option Value)} {oc8 kV8 dc8 pm8 cd8 ct8 : Value} (a8 : PySem.W.findIn K (.ref C_Hand) "hear_mine" = some (some (.ref f8))) (i8 : PySem.W.isFn K (.ref f8) = true)
    (l8 : K.lookup f8 = some ⟨oc8, od8, .func (PySem.W.fnOf "hear_mine" "Hand.hear_mine" (defArgs s_Hand_hear_mine) (defBody s_Hand_hear_mine) (defScope s_Hand_hear_mine) .none kV8 dc8 pm8 an8 cd8 ct8), sl8⟩) (c8 : PySem.W.codeIn K cd8 "Hand.hear_mine" = true) (k8 : PySem.W.keepIn K (.ref f8) = true)
    {f9 : Addr} {od9 an9 : Option Addr} {sl9 : Array (Option Value)} {oc9 kV9 dc9 pm9 cd9 ct9 : Value} (a9 : PySem.W.findIn K (.ref C_Hand) "hear_over" = some (some (.ref f9))) (i9 : PySem.W.isFn K (.ref f9) = true)
    (l9 : K.lookup f9 = some ⟨oc9, od9, .func (PySem.W.fnOf "hear_over" "Hand.hear_over" (defArgs s_Hand_hear_over) (defBody s_Hand_hear_over) (defScope s_Hand_hear_over) .none kV9 dc9 pm9 an9 cd9 ct9), sl9⟩) (c9 : PySem.W.codeIn K cd9 "Hand.hear_over" = true) (k9 : PySem.W.keepIn K (.ref f9) = true)
    {f10 : Addr} {od10 an10 : Option Addr} {sl10 : Array (Option Value)} {oc10 kV10 dc10 pm10 cd10 ct10 : Value} (a10 : PySem.W.findIn K (.ref C_Hand) "hear_back" = some (some (.ref f10))) (i10 : PySem.W.isFn K (.ref f10) = true)
    (l10 : K.lookup f10 = some ⟨oc10, od10, .func (PySem.W.fnOf "hear_back" "Hand.hear_back" (defArgs s_Hand_hear_back) (defBody s_Hand_hear_back) (defScope s_Hand_hear_back) .none kV10 dc10 pm10 an10 cd10 ct10), sl10⟩) (c10 : PySem.W.codeIn K cd10 "Hand.hear_back" = true) (k10 : PySem.W.keepIn K (.ref f10) = true)
    {f11 : Addr} {od11 an11 : Option Addr} {sl11 : Array (Option Value)} {oc11 kV11 dc11 pm11 cd11 ct11 : Value} (a11 : PySem.W.findIn K (.ref C_Hand) "card" = some (some (.ref f11))) (i11 : PySem.W.isFn K (.ref f11) = true)
    (l11 : K.lookup f11 = some ⟨oc11, od11, .func (PySem.W.fnOf "card" "Hand.card" (defArgs s_Hand_card) (defBody s_Hand_card) (defScope s_Hand_card) .none kV11 dc11 pm11 an11 cd11 ct11), sl11⟩) (c11 : PySem.W.codeIn K cd11 "Hand.card" = true) (k11 : PySem.W.keepIn K (.ref f11) = true)
    {f12 : Addr} {od12 an12 : Option Addr} {sl12 : Array (Option Value)} {oc12 kV12 dc12 pm12 cd12 ct12 : Value} (a12 : PySem.W.findIn K (.ref C_Hand) "sent" = some (some (.ref f12))) (i12 : PySem.W.isFn K (.ref f12) = true)
    (l12 : K.lookup f12 = some ⟨oc12, od12, .func (PySem.W.fnOf "sent" "Hand.sent" (defArgs s_Hand_sent) (defBody s_Hand_sent) (defScope s_Hand_sent) .none kV12 dc12 pm12 an12 cd12 ct12), sl12⟩) (c12 : PySem.W.codeIn K cd12 "Hand.sent" = true) (k12 : PySem.W.keepIn K (.ref f12) = true)
    {f13 : Addr} {od13 an13 : Option Addr} {sl13 : Array (Option Value)} {oc13 kV13 dc13 pm13 cd13 ct13 : Value} (a13 : PySem.W.findIn K (.ref C_Hand) "aside" = some (some (.ref f13))) (i13 : PySem.W.isFn K (.ref f13) = true)
    (l13 : K.lookup f13 = some ⟨oc13, od13, .func (PySem.W.fnOf "aside" "Hand.aside" (defArgs s_Hand_aside) (defBody s_Hand_aside) (defScope s_Hand_aside) .none kV13 dc13 pm13 an13 cd13 ct13), sl13⟩) (c13 : PySem.W.codeIn K cd13 "Hand.aside" = true) (k13 : PySem.W.keepIn K (.ref f13) = true)
    {f14 : Addr} {od14 an14 : Option Addr} {sl14 : Array (Option Value)} {oc14 kV14 dc14 pm14 cd14 ct14 : Value} (a14 : PySem.W.findIn K (.ref C_Hand) "heard" = some (some (.ref f14))) (i14 : PySem.W.isFn K (.ref f14) = true)
    (l14 : K.lookup f14 = some ⟨oc14, od14, .func (PySem.W.fnOf "heard" "Hand.heard" (defArgs s_Hand_heard) (defBody s_Hand_heard) (defScope s_Hand_heard) .none kV14 dc14 pm14 an14 cd14 ct14), sl14⟩) (c14 : PySem.W.codeIn K cd14 "Hand.heard" = true) (k14 : PySem.W.keepIn K (.ref f14) = true)
    {f15 : Addr} {od15 an15 : Option Addr} {sl15 : Array (Option Value)} {oc15 kV15 dc15 pm15 cd15 ct15 : Value} (a15 : PySem.W.findIn K (.ref C_Hand) "began" = some (some (.ref f15))) (i15 : PySem.W.isFn K (.ref f15) = true)
    (l15 : K.lookup f15 = some ⟨oc15, od15, .func (PySem.W.fnOf "began" "Hand.began" (defArgs s_Hand_began) (defBody s_Hand_began) (defScope s_Hand_began) .none kV15 dc15 pm15 an15 cd15 ct15), sl15⟩) (c15 : PySem.W.codeIn K cd15 "Hand.began" = true) (k15 : PySem.W.keepIn K (.ref f15) = true)
    {f16 : Addr} {od16 an16 : Option Addr} {sl16 : Array (Option Value)} {oc16 kV16 dc16 pm16 cd16 ct16 : Value} (a16 : PySem.W.nsIn K mainGlobals "_law_pot" = some (some (.ref f16)))
    (l16 : K.lookup f16 = some ⟨oc16, od16, .func (PySem.W.fnOf "_law_pot" "_law_pot" (defArgs s_law_pot) (defBody s_law_pot) (defScope s_law_pot) .none kV16 dc16 pm16 an16 cd16 ct16), sl16⟩) (c16 : PySem.W.codeIn K cd16 "_law_pot" = true) (k16 : PySem.W.keepIn K (.ref f16) = true)
    {f17 : Addr} {od17 an17 : Option Addr} {sl17 : Array (Option Value)} {oc17 kV17 dc17 pm17 cd17 ct17 : Value} (a17 : PySem.W.nsIn K mainGlobals "_law_take" = some (some (.ref f17)))
    (l17 : K.lookup f17 = some ⟨oc17, od17, .func (PySem.W.fnOf "_law_take" "_law_take" (defArgs s_law_take) (defBody s_law_take) (defScope s_law_take) .none kV17 dc17 pm17 an17 cd17 ct17), sl17⟩) (c17 : PySem.W.codeIn K cd17 "_law_take" = true) (k17 : PySem.W.keepIn K (.ref f17) = true)
    {f18 : Addr} {od18 an18 : Option Addr} {sl18 : Array (Option Value)} {oc18 kV18 dc18 pm18 cd18 ct18 : Value} (a18 : PySem.W.nsIn K mainGlobals "_law_some" = some (some (.ref f18)))
    (l18 : K.lookup f18 = some ⟨oc18, od18, .func (PySem.W.fnOf "_law_some" "_law_some" (defArgs s_law_some) (defBody s_law_some) (defScope s_law_some) .none kV18 dc18 pm18 an18 cd18 ct18), sl18⟩) (c18 : PySem.W.codeIn K cd18 "_law_some" = true) (k18 : PySem.W.keepIn K (.ref f18) = true)
    {f19 : Addr} {od19 an19 : Option Addr} {sl19 : Array (Option Value)} {oc19 kV19 dc19 pm19 cd19 ct19 : Value} (a19 : PySem.W.nsIn K mainGlobals "_law_cards" = some (some (.ref f19)))
    (l19 : K.lookup f19 = some ⟨oc19, od19, .func (PySem.W.fnOf "_law_cards" "_law_cards" (defArgs s_law_cards) (defBody s_law_cards) (defScope s_law_cards) .none kV19 dc19 pm19 an19 cd19 ct19), sl19⟩) (c19 : PySem.W.codeIn K cd19 "_law_cards" = true) (k19 : PySem.W.keepIn K (.ref f19) = true)
    {f20 : Addr} {od20 an20 : Option Addr} {sl20 : Array (Option Value)} {oc20 kV20 dc20 pm20 cd20 ct20 : Value} (a20 : PySem.W.nsIn K mainGlobals "_law_fresh" = some (some (.ref f20)))
    (l20 : K.lookup f20 = some ⟨oc20, od20, .func (PySem.W.fnOf "_law_fresh" "_law_fresh" (defArgs s_law_fresh) (defBody s_law_fresh) (defScope s_law_fresh) .none kV20 dc20 pm20 an20 cd20 ct20), sl20⟩) (c20 : PySem.W.codeIn K cd20 "_law_fresh" = true) (k20 : PySem.W.keepIn K (.ref f20) = true)
    {f21 : Addr} {od21 an21 : Option Addr} {sl21 : Array (Option Value)} {oc21 kV21 dc21 pm21 cd21 ct21 : Value} (a21 : PySem.W.nsIn K mainGlobals "_law_told" = some (some (.ref f21)))
    (l21 : K.lookup f21 = some ⟨oc21, od21, .func (PySem.W.fnOf "_law_told" "_law_told" (defArgs s_law_told) (defBody s_law_told) (defScope s_law_told) .none kV21 dc21 pm21 an21 cd21 ct21), sl21⟩) (c21 : PySem.W.codeIn K cd21 "_law_told" = true) (k21 : PySem.W.keepIn K (.ref f21) = true)
    {f22 : Addr} {od22 an22 : Option Addr} {sl22 : Array (Option Value)} {oc22 kV22 dc22 pm22 cd22 ct22 : Value} (a22 : PySem.W.nsIn K mainGlobals "_law_due" = some (some (.ref f22)))
    (l22 : K.lookup f22 = some ⟨oc22, od22, .func (PySem.W.fnOf "_law_due" "_law_due" (defArgs s_law_due) (defBody s_law_due) (defScope s_law_due) .none kV22 dc22 pm22 an22 cd22 ct22), sl22⟩) (c22 : PySem.W.codeIn K cd22 "_law_due" = true) (k22 : PySem.W.keepIn K (.ref f22) = true)
    {f23 : Addr} {od23 an23 : Option Addr} {sl23 : Array (Option Value)} {oc23 kV23 dc23 pm23 cd23 ct23 : Value} (a23 : PySem.W.nsIn K mainGlobals "_law_letter" = some (some (.ref f23)))
    (l23 : K.lookup f23 = some ⟨oc23, od23, .func (PySem.W.fnOf "_law_letter" "_law_letter" (defArgs s_law_letter) (defBody s_law_letter) (defScope s_law_letter) .none kV23 dc23 pm23 an23 cd23 ct23), sl23⟩) (c23 : PySem.W.codeIn K cd23 "_law_letter" = true) (k23 : PySem.W.keepIn K (.ref f23) = true)
    {f24 : Addr} {od24 an24 : Option Addr} {sl24 : Array (Option Value)} {oc24 kV24 dc24 pm24 cd24 ct24 : Value} (a24 : PySem.W.nsIn K mainGlobals "_law_heard" = some (some (.ref f24)))
    (l24 : K.lookup f24 = some ⟨oc24, od24, .func (PySem.W.fnOf "_law_heard" "_law_heard" (defArgs s_law_heard) (defBody s_law_heard) (defScope s_law_heard) .none kV24 dc24 pm24 an24 cd24 ct24), sl24⟩) (c24 : PySem.W.codeIn K cd24 "_law_heard" = true) (k24 : PySem.W.keepIn K (.ref f24) = true)
    {f25 : Addr} {od25 an25 : Option Addr} {sl25 : Array (Option Value)} {oc25 kV25 dc25 pm25 cd25 ct25 : Value} (a25 : PySem.W.nsIn K mainGlobals "_law_gone" = some (some (.ref f25)))
    (l25 : K.lookup f25 = some ⟨oc25, od25, .func (PySem.W.fnOf "_law_gone" "_law_gone" (defArgs s_law_gone) (defBody s_law_gone) (defScope s_law_gone) .none kV25 dc25 pm25 an25 cd25 ct25), sl25⟩) (c25 : PySem.W.codeIn K cd25 "_law_gone" = true) (k25 : PySem.W.keepIn K (.ref f25) = true)
    {f26 : Addr} {od26 an26 : Option Addr} {sl26 : Array (Option Value)} {oc26 kV26 dc26 pm26 cd26 ct26 : Value} (a26 : PySem.W.nsIn K mainGlobals "_law_right" = some (some (.ref f26)))
    (l26 : K.lookup f26 = some ⟨oc26, od26, .func (PySem.W.fnOf "_law_right" "_law_right" (defArgs s_law_right) (defBody s_law_right) (defScope s_law_right) .none kV26 dc26 pm26 an26 cd26 ct26), sl26⟩) (c26 : PySem.W.codeIn K cd26 "_law_right" = true) (k26 : PySem.W.keepIn K (.ref f26) = true)
    {f27 : Addr} {od27 an27 : Option Addr} {sl27 : Array (Option Value)} {oc27 kV27 dc27 pm27 cd27 ct27 : Value} (a27 : PySem.W.nsIn K mainGlobals "law" = some (some (.ref f27)))
    (l27 : K.lookup f27 = some ⟨oc27, od27, .func (PySem.W.fnOf "law" "law" (defArgs s_law) (defBody s_law) (defScope s_law) .none kV27 dc27 pm27 an27 cd27 ct27), sl27⟩) (c27 : PySem.W.codeIn K cd27 "law" = true) (k27 : PySem.W.keepIn K (.ref f27) = true)
    (b_bool : PySem.W.nsIn K mainGlobals "bool" = some none)
    (b_int : PySem.W.nsIn K mainGlobals "int" = some none)
    (b_isinstance : PySem.W.nsIn K mainGlobals "isinstance" = some none)
    (b_len : PySem.W.nsIn K mainGlobals "len" = some none)
    (b_list : PySem.W.nsIn K mainGlobals "list" = some none)
    (b_max : PySem.W.nsIn K mainGlobals "max" = some none)
    (b_min : PySem.W.nsIn K mainGlobals "min" = some none)
    (b_range : PySem.W.nsIn K mainGlobals "range" = some none)
    (b_repr : PySem.W.nsIn K mainGlobals "repr" = some none)
    (b_str : PySem.W.nsIn K mainGlobals "str" = some none)
    (b_tuple : PySem.W.nsIn K mainGlobals "tuple" = some none)
    {t0 : Nat} (v_BACK : PySem.W.nsIn K mainGlobals "BACK" = some (some (.str "back" t0)))
    {t1 : Nat} (v_MINE : PySem.W.nsIn K mainGlobals "MINE" = some (some (.str "mine" t1)))
    {t2 : Nat} (v_MOST_CARD : PySem.W.nsIn K mainGlobals "MOST_CARD" = some (some (.int 999999999 t2)))
    {t3 : Nat} (v_OVER : PySem.W.nsIn K mainGlobals "OVER" = some (some (.str "over" t3)))
    (xk : xcOk K exN = true)
    : ∃ fd : FuncData, Binds K fd ["_law_script"] [] ∧ ∀ base : Heap, K.In base → base.Ns mainGlobals mg → FnG l.prog w K mg base 6 fa fd ["_law_script"] (lfSp K 1 [] S_law) := by
  have XK : Xcs K mg exN := xcs_of X G xk
  have T : Bl mg := ⟨PySem.W.mg_none_of X G b_bool, PySem.W.mg_none_of X G b_int, PySem.W.mg_none_of X G b_isinstance, PySem.W.mg_none_of X G b_len, PySem.W.mg_none_of X G b_list, PySem.W.mg_none_of X G b_max, PySem.W.mg_none_of X G b_min, PySem.W.mg_none_of X G b_range, PySem.W.mg_none_of X G b_repr, PySem.W.mg_none_of X G b_str, PySem.W.mg_none_of X G b_tuple, ⟨_, PySem.W.mg_of X G v_BACK⟩, ⟨_, PySem.W.mg_of X G v_MINE⟩, ⟨_, PySem.W.mg_of X G v_MOST_CARD⟩, ⟨_, PySem.W.mg_of X G v_OVER⟩⟩
  have eC_Hand : clsA K "Hand" = C_Hand := by unfold clsA; rw [aC_Hand]
  have OB_Hand : Ob K mg "Hand" fs_Hand := ob_of X G ob_Hand
  have F0 := fun_mk (st := s_is_card) l0 c0 k0
  have E0 : Fd K mg "is_card" s_is_card ["thing"] f0 _ := ⟨F0, PySem.W.mg_of X G a0, F0.binds fun _ _ _ _ _ _ us hl => match us, hl with | [_], _ => rfl⟩
  have F1 := fun_mk (st := s_is_letter) l1 c1 k1
  have E1 : Fd K mg "is_letter" s_is_letter ["thing"] f1 _ := ⟨F1, PySem.W.mg_of X G a1, F1.binds fun _ _ _ _ _ _ us hl => match us, hl with | [_], _ => rfl⟩
  have F2 := fun_mk (st := s_need_letter) l2 c2 k2
  have E2 : Fd K mg "need_letter" s_need_letter ["good"] f2 _ := ⟨F2, PySem.W.mg_of X G a2, F2.binds fun _ _ _ _ _ _ us hl => match us, hl with | [_], _ => rfl⟩
  have F3 := fun_mk (st := s_Hand_init) l3 c3 k3
  have E3 : Fm K "Hand" "__init__" "Hand.__init__" s_Hand_init ["self", "card"] f3 _ := ⟨F3, by rw [eC_Hand]; exact ⟨a3, i3, k3⟩, F3.binds fun _ _ _ _ _ _ us hl => match us, hl with | [_, _], _ => rfl⟩
  have F4 := fun_mk (st := s_Hand_begin) l4 c4 k4
  have E4 : Fm K "Hand" "begin" "Hand.begin" s_Hand_begin ["self"] f4 _ := ⟨F4, by rw [eC_Hand]; exact ⟨a4, i4, k4⟩, F4.binds fun _ _ _ _ _ _ us hl => match us, hl with | [_], _ => rfl⟩
  have F5 := fun_mk (st := s_Hand_may_go) l5 c5 k5
  have E5 : Fm K "Hand" "may_go" "Hand.may_go" s_Hand_may_go ["self"] f5 _ := ⟨F5, by rw [eC_Hand]; exact ⟨a5, i5, k5⟩, F5.binds fun _ _ _ _ _ _ us hl => match us, hl with | [_], _ => rfl⟩
  have F6 := fun_mk (st := s_Hand_go) l6 c6 k6
  have E6 : Fm K "Hand" "go" "Hand.go" s_Hand_go ["self"] f6 _ := ⟨F6, by rw [eC_Hand]; exact ⟨a6, i6, k6⟩, F6.binds fun _ _ _ _ _ _ us hl => match us, hl with | [_], _ => rfl⟩
  have F7 := fun_mk (st := s_Hand_hear) l7 c7 k7
  have E7 : Fm K "Hand" "hear" "Hand.hear" s_Hand_hear ["self", "letter"] f7 _ := ⟨F7, by rw [eC_Hand]; exact ⟨a7, i7, k7⟩, F7.binds fun _ _ _ _ _ _ us hl => match us, hl with | [_, _], _ => rfl⟩
  have F8 := fun_mk (st := s_Hand_hear_mine) l8 c8 k8
  have E8 : Fm K "Hand" "hear_mine" "Hand.hear_mine" s_Hand_hear_mine ["self", "card"] f8 _ := ⟨F8, by rw [eC_Hand]; exact ⟨a8, i8, k8⟩, F8.binds fun _ _ _ _ _ _ us hl => match us, hl with | [_, _], _ => rfl⟩
  have F9 := fun_mk (st := s_Hand_hear_over) l9 c9 k9
  have E9 : Fm K "Hand" "hear_over" "Hand.hear_over" s_Hand_hear_over ["self", "card"] f9 _ := ⟨F9, by rw [eC_Hand]; exact ⟨a9, i9, k9⟩, F9.binds fun _ _ _ _ _ _ us hl => match us, hl with | [_, _], _ => rfl⟩
  have F10 := fun_mk (st := s_Hand_hear_back) l10 c10 k10
  have E10 : Fm K "Hand" "hear_back" "Hand.hear_back" s_Hand_hear_back ["self", "card"] f10 _ := ⟨F10, by rw [eC_Hand]; exact ⟨a10, i10, k10⟩, F10.binds fun _ _ _ _ _ _ us hl => match us, hl with | [_, _], _ => rfl⟩
  have F11 := fun_mk (st := s_Hand_card) l11 c11 k11
  have E11 : Fm K "Hand" "card" "Hand.card" s_Hand_card ["self"] f11 _ := ⟨F11, by rw [eC_Hand]; exact ⟨a11, i11, k11⟩, F11.binds fun _ _ _ _ _ _ us hl => match us, hl with | [_], _ => rfl⟩
  have F12 := fun_mk (st := s_Hand_sent) l12 c12 k12
  have E12 : Fm K "Hand" "sent" "Hand.sent" s_Hand_sent ["self"] f12 _ := ⟨F12, by rw [eC_Hand]; exact ⟨a12, i12, k12⟩, F12.binds fun _ _ _ _ _ _ us hl => match us, hl with | [_], _ => rfl⟩
  have F13 := fun_mk (st := s_Hand_aside) l13 c13 k13
  have E13 : Fm K "Hand" "aside" "Hand.aside" s_Hand_aside ["self"] f13 _ := ⟨F13, by rw [eC_Hand]; exact ⟨a13, i13, k13⟩, F13.binds fun _ _ _ _ _ _ us hl => match us, hl with | [_], _ => rfl⟩
  have F14 := fun_mk (st := s_Hand_heard) l14 c14 k14
  have E14 : Fm K "Hand" "heard" "Hand.heard" s_Hand_heard ["self"] f14 _ := ⟨F14, by rw [eC_Hand]; exact ⟨a14, i14, k14⟩, F14.binds fun _ _ _ _ _ _ us hl => match us, hl with | [_], _ => rfl⟩
  have F15 := fun_mk (st := s_Hand_began) l15 c15 k15
  have E15 : Fm K "Hand" "began" "Hand.began" s_Hand_began ["self"] f15 _ := ⟨F15, by rw [eC_Hand]; exact ⟨a15, i15, k15⟩, F15.binds fun _ _ _ _ _ _ us hl => match us, hl with | [_], _ => rfl⟩
  have F16 := fun_mk (st := s_law_pot) l16 c16 k16
  have E16 : Fd K mg "_law_pot" s_law_pot ["_law_script", "_law_k"] f16 _ := ⟨F16, PySem.W.mg_of X G a16, F16.binds fun _ _ _ _ _ _ us hl => match us, hl with | [_, _], _ => rfl⟩
  have F17 := fun_mk (st := s_law_take) l17 c17 k17
  have E17 : Fd K mg "_law_take" s_law_take ["_law_pot_here", "_law_many"] f17 _ := ⟨F17, PySem.W.mg_of X G a17, F17.binds fun _ _ _ _ _ _ us hl => match us, hl with | [_, _], _ => rfl⟩
  have F18 := fun_mk (st := s_law_some) l18 c18 k18
  have E18 : Fd K mg "_law_some" s_law_some ["_law_pot_here", "_law_things", "_law_many"] f18 _ := ⟨F18, PySem.W.mg_of X G a18, F18.binds fun _ _ _ _ _ _ us hl => match us, hl with | [_, _, _], _ => rfl⟩
  have F19 := fun_mk (st := s_law_cards) l19 c19 k19
  have E19 : Fd K mg "_law_cards" s_law_cards ["_law_pot_here", "_law_many"] f19 _ := ⟨F19, PySem.W.mg_of X G a19, F19.binds fun _ _ _ _ _ _ us hl => match us, hl with | [_, _], _ => rfl⟩
  have F20 := fun_mk (st := s_law_fresh) l20 c20 k20
  have E20 : Fd K mg "_law_fresh" s_law_fresh ["_law_card"] f20 _ := ⟨F20, PySem.W.mg_of X G a20, F20.binds fun _ _ _ _ _ _ us hl => match us, hl with | [_], _ => rfl⟩
  have F21 := fun_mk (st := s_law_told) l21 c21 k21
  have E21 : Fd K mg "_law_told" s_law_told ["_law_hand"] f21 _ := ⟨F21, PySem.W.mg_of X G a21, F21.binds fun _ _ _ _ _ _ us hl => match us, hl with | [_], _ => rfl⟩
  have F22 := fun_mk (st := s_law_due) l22 c22 k22
  have E22 : Fd K mg "_law_due" s_law_due ["_law_state", "_law_letter_here"] f22 _ := ⟨F22, PySem.W.mg_of X G a22, F22.binds fun _ _ _ _ _ _ us hl => match us, hl with | [_, _], _ => rfl⟩
  have F23 := fun_mk (st := s_law_letter) l23 c23 k23
  have E23 : Fd K mg "_law_letter" s_law_letter ["_law_pot_here", "_law_state"] f23 _ := ⟨F23, PySem.W.mg_of X G a23, F23.binds fun _ _ _ _ _ _ us hl => match us, hl with | [_, _], _ => rfl⟩
  have F24 := fun_mk (st := s_law_heard) l24 c24 k24
  have E24 : Fd K mg "_law_heard" s_law_heard ["_law_hand", "_law_letter_here"] f24 _ := ⟨F24, PySem.W.mg_of X G a24, F24.binds fun _ _ _ _ _ _ us hl => match us, hl with | [_, _], _ => rfl⟩
  have F25 := fun_mk (st := s_law_gone) l25 c25 k25
  have E25 : Fd K mg "_law_gone" s_law_gone ["_law_hand", "_law_state"] f25 _ := ⟨F25, PySem.W.mg_of X G a25, F25.binds fun _ _ _ _ _ _ us hl => match us, hl with | [_, _], _ => rfl⟩
  have F26 := fun_mk (st := s_law_right) l26 c26 k26
  have E26 : Fd K mg "_law_right" s_law_right ["_law_pot_here", "_law_card"] f26 _ := ⟨F26, PySem.W.mg_of X G a26, F26.binds fun _ _ _ _ _ _ us hl => match us, hl with | [_, _], _ => rfl⟩
  have F27 := fun_mk (st := s_law) l27 c27 k27
  have E27 : Fd K mg "law" s_law ["_law_script"] f27 _ := ⟨F27, PySem.W.mg_of X G a27, F27.binds fun _ _ _ _ _ _ us hl => match us, hl with | [_], _ => rfl⟩
  cases hfa.symm.trans E27.g
  refine ⟨_, E27.b, fun base _ _ => ?_⟩
  have D0 := E0.df (ok_is_card E0 T     : FnG l.prog w K mg base _ _ _ _ _)
  have D2 := E2.df (ok_need_letter E2 T XK     : FnG l.prog w K mg base _ _ _ _ _)
  have D4 := E4.dm (ok_Hand_begin E4 T XK OB_Hand     : FnG l.prog w K mg base _ _ _ _ _)
  have D5 := E5.dm (ok_Hand_may_go E5 T OB_Hand     : FnG l.prog w K mg base _ _ _ _ _)
  have D11 := E11.dm (ok_Hand_card E11 T OB_Hand     : FnG l.prog w K mg base _ _ _ _ _)
  have D12 := E12.dm (ok_Hand_sent E12 T OB_Hand     : FnG l.prog w K mg base _ _ _ _ _)
  have D13 := E13.dm (ok_Hand_aside E13 T OB_Hand     : FnG l.prog w K mg base _ _ _ _ _)
  have D14 := E14.dm (ok_Hand_heard E14 T OB_Hand     : FnG l.prog w K mg base _ _ _ _ _)
  have D15 := E15.dm (ok_Hand_began E15 T OB_Hand     : FnG l.prog w K mg base _ _ _ _ _)
  have D16 := E16.df (ok_law_pot E16 T     : FnG l.prog w K mg base _ _ _ _ _)
  have D17 := E17.df (ok_law_take E17 T     : FnG l.prog w K mg base _ _ _ _ _)
  have D20 := E20.df (ok_law_fresh E20 T     : FnG l.prog w K mg base _ _ _ _ _)
  have D22 := E22.df (ok_law_due E22 T     : FnG l.prog w K mg base _ _ _ _ _)
  have D1 := E1.df (ok_is_letter E1 T  D0   : FnG l.prog w K mg base _ _ _ _ _)
  have D3 := E3.dm (ok_Hand_init E3 T XK OB_Hand  D0   : FnG l.prog w K mg base _ _ _ _ _)
  have D6 := E6.dm (ok_Hand_go E6 T XK OB_Hand D5    : FnG l.prog w K mg base _ _ _ _ _)
  have D8 := E8.dm (ok_Hand_hear_mine E8 T OB_Hand  D2   : FnG l.prog w K mg base _ _ _ _ _)
  have D9 := E9.dm (ok_Hand_hear_over E9 T OB_Hand  D2   : FnG l.prog w K mg base _ _ _ _ _)
  have D10 := E10.dm (ok_Hand_hear_back E10 T OB_Hand  D2   : FnG l.prog w K mg base _ _ _ _ _)
  have D18 := E18.df (ok_law_some E18 T  D17   : FnG l.prog w K mg base _ _ _ _ _)
  have D21 := E21.df (ok_law_told E21 T OB_Hand D11 D12 D13 D14 D15    : FnG l.prog w K mg base _ _ _ _ _)
  have D23 := E23.df (ok_law_letter E23 T  D17   : FnG l.prog w K mg base _ _ _ _ _)
  have D7 := E7.dm (ok_Hand_hear E7 T OB_Hand D8 D9 D10 D1 D2   : FnG l.prog w K mg base _ _ _ _ _)
  have D19 := E19.df (ok_law_cards E19 T  D17 D18   : FnG l.prog w K mg base _ _ _ _ _)
  have DP25 := E25.df (okP_law_gone E25 T XK OB_Hand D6    : FnG l.prog w K mg base _ _ _ _ _)
  have D25 := E25.df (ok_law_gone E25 T XK OB_Hand D6    : FnG l.prog w K mg base _ _ _ _ _)
  have D24 := E24.df (ok_law_heard E24 T XK OB_Hand D7    : FnG l.prog w K mg base _ _ _ _ _)
  have D26 := E26.df (ok_law_right E26 T OB_Hand D3 D4 D17 D20 D21 D22 D23 D24 D25 DP25  : FnG l.prog w K mg base _ _ _ _ _)
  exact ok_law E27 T  D16 D19 D26  
end LW.H

open PySem PySem.W PyProof.Rows
open_top head for PySem.Challenge.rw_threecrossings_k14_letters_heard
theorem PySem.Challenge.cw_threecrossings_k14_letters_heard_holds : PySem.Challenge.rw_threecrossings_k14_letters_heard.Holds := by
  refine head ?_
  k_fill
  refine TX.walkG (l := PySem.Challenge.rw_threecrossings_k14_letters_heard) (n := 63) (k := 6) (x := "_law_script") (S := LW.H.S_law) rfl (by decide) rfl (TX.roomA.mono (by decide)) LW.H.mS_law (fun w h Y => PySem.W.kIn_of Y) ?F LW.H.all_true
  case F =>
    intro w mg fa h KX G hmg
    refine' LW.H.all_of KX G hmg ?aC_Hand ?ob_Hand ?a0 ?l0 ?c0 ?k0 ?a1 ?l1 ?c1 ?k1 ?a2 ?l2 ?c2 ?k2 ?a3 ?i3 ?l3 ?c3 ?k3 ?a4 ?i4 ?l4 ?c4 ?k4 ?a5 ?i5 ?l5 ?c5 ?k5 ?a6 ?i6 ?l6 ?c6 ?k6 ?a7 ?i7 ?l7 ?c7 ?k7 ?a8 ?i8 ?l8 ?c8 ?k8 ?a9 ?i9 ?l9 ?c9 ?k9 ?a10 ?i10 ?l10 ?c10 ?k10 ?a11 ?i11 ?l11 ?c11 ?k11 ?a12 ?i12 ?l12 ?c12 ?k12 ?a13 ?i13 ?l13 ?c13 ?k13 ?a14 ?i14 ?l14 ?c14 ?k14 ?a15 ?i15 ?l15 ?c15 ?k15 ?a16 ?l16 ?c16 ?k16 ?a17 ?l17 ?c17 ?k17 ?a18 ?l18 ?c18 ?k18 ?a19 ?l19 ?c19 ?k19 ?a20 ?l20 ?c20 ?k20 ?a21 ?l21 ?c21 ?k21 ?a22 ?l22 ?c22 ?k22 ?a23 ?l23 ?c23 ?k23 ?a24 ?l24 ?c24 ?k24 ?a25 ?l25 ?c25 ?k25 ?a26 ?l26 ?c26 ?k26 ?a27 ?l27 ?c27 ?k27 ?b_bool ?b_int ?b_isinstance ?b_len ?b_list ?b_max ?b_min ?b_range ?b_repr ?b_str ?b_tuple ?v_BACK ?v_MINE ?v_MOST_CARD ?v_OVER ?xk
    (case aC_Hand => k_is)
    (case ob_Hand => kernel_rfl)
    (case a0 => k_is)
    (case l0 => k_is)
    (case c0 => k_is)
    (case k0 => k_is)
    (case a1 => k_is)
    (case l1 => k_is)
    (case c1 => k_is)
    (case k1 => k_is)
    (case a2 => k_is)
    (case l2 => k_is)
    (case c2 => k_is)
    (case k2 => k_is)
    (case a3 => k_is)
    (case i3 => k_is)
    (case l3 => k_is)
    (case c3 => k_is)
    (case k3 => k_is)
    (case a4 => k_is)
    (case i4 => k_is)
    (case l4 => k_is)
    (case c4 => k_is)
    (case k4 => k_is)
    (case a5 => k_is)
    (case i5 => k_is)
    (case l5 => k_is)
    (case c5 => k_is)
    (case k5 => k_is)
    (case a6 => k_is)
    (case i6 => k_is)
    (case l6 => k_is)
    (case c6 => k_is)
    (case k6 => k_is)
    (case a7 => k_is)
    (case i7 => k_is)
    (case l7 => k_is)
    (case c7 => k_is)
    (case k7 => k_is)
    (case a8 => k_is)
    (case i8 => k_is)
    (case l8 => k_is)
    (case c8 => k_is)
    (case k8 => k_is)
    (case a9 => k_is)
    (case i9 => k_is)
    (case l9 => k_is)
    (case c9 => k_is)
    (case k9 => k_is)
    (case a10 => k_is)
    (case i10 => k_is)
    (case l10 => k_is)
    (case c10 => k_is)
    (case k10 => k_is)
    (case a11 => k_is)
    (case i11 => k_is)
    (case l11 => k_is)
    (case c11 => k_is)
    (case k11 => k_is)
    (case a12 => k_is)
    (case i12 => k_is)
    (case l12 => k_is)
    (case c12 => k_is)
    (case k12 => k_is)
    (case a13 => k_is)
    (case i13 => k_is)
    (case l13 => k_is)
    (case c13 => k_is)
    (case k13 => k_is)
    (case a14 => k_is)
    (case i14 => k_is)
    (case l14 => k_is)
    (case c14 => k_is)
    (case k14 => k_is)
    (case a15 => k_is)
    (case i15 => k_is)
    (case l15 => k_is)
    (case c15 => k_is)
    (case k15 => k_is)
    (case a16 => k_is)
    (case l16 => k_is)
    (case c16 => k_is)
    (case k16 => k_is)
    (case a17 => k_is)
    (case l17 => k_is)
    (case c17 => k_is)
    (case k17 => k_is)
    (case a18 => k_is)
    (case l18 => k_is)
    (case c18 => k_is)
    (case k18 => k_is)
    (case a19 => k_is)
    (case l19 => k_is)
    (case c19 => k_is)
    (case k19 => k_is)
    (case a20 => k_is)
    (case l20 => k_is)
    (case c20 => k_is)
    (case k20 => k_is)
    (case a21 => k_is)
    (case l21 => k_is)
    (case c21 => k_is)
    (case k21 => k_is)
    (case a22 => k_is)
    (case l22 => k_is)
    (case c22 => k_is)
    (case k22 => k_is)
    (case a23 => k_is)
    (case l23 => k_is)
    (case c23 => k_is)
    (case k23 => k_is)
    (case a24 => k_is)
    (case l24 => k_is)
    (case c24 => k_is)
    (case k24 => k_is)
    (case a25 => k_is)
    (case l25 => k_is)
    (case c25 => k_is)
    (case k25 => k_is)
    (case a26 => k_is)
    (case l26 => k_is)
    (case c26 => k_is)
    (case k26 => k_is)
    (case a27 => k_is)
    (case l27 => k_is)
    (case c27 => k_is)
    (case k27 => k_is)
    (case b_bool => k_is)
    (case b_int => k_is)
    (case b_isinstance => k_is)
    (case b_len => k_is)
    (case b_list => k_is)
    (case b_max => k_is)
    (case b_min => k_is)
    (case b_range => k_is)
    (case b_repr => k_is)
    (case b_str => k_is)
    (case b_tuple => k_is)
    (case v_BACK => k_is)
    (case v_MINE => k_is)
    (case v_MOST_CARD => k_is)
    (case v_OVER => k_is)
    (case xk => kernel_rfl)

