import PyProof.Rows.All
import Wide.All
import OpenK.AllK
import Wide.FinOn
import HandS.ForMost
import KE.KDictKeyed
import KE.KeyNested
import HandS.CallSlots
import HandS.Wide
import HandS.TupAny
import HandS.TupLe
import HandS.Flow
import HandS.IsInst
import HandS.Deep
import HandS.TupMul
import HandS.Zip
import HandS.Style
import HandS.RaiseMore
import KE.DataCmp
import KE.SortData
import KE.DataMinMax
import PyProof.ReprRoads
import PyProof.CallFns
import HandS.Iter
import HandS.Comp
import HandS.Ends
import HandS.Codes
import HandS.Words
import HandS.More
import KE.KDictWalk
import KE.KDictPairs
import PyProof.ReprLen
import PyProof.Rows.ReprOcc
import PySem.Challenge.RW_hillandwater_k16_whole_sight_by_just_the
set_option Elab.async false
set_option linter.all false
set_option maxRecDepth 100000
set_option maxHeartbeats 0
namespace Pv
open PySem PySem.Spec PyProof.Rows L2

/-- a value as a tree; the flag of a list or dict: it hangs from this place alone and may be changed -/
inductive PV where
  | non | bl (b : Bool) | int (i : Int) | str (s : Str) | ref (a : Addr) | ty (n : String)
  | tup (xs : List PV) | lst (o : Bool) (xs : List PV) | dct (o : Bool) (ks vs : List PV)
  /-- a list that is not ours (the script): read, never changed -/
  | frl (xs : List PV)

namespace PV
mutual
def beq : PV → PV → Bool
  | .non, .non => true
  | .bl a, .bl b => a == b
  | .int a, .int b => decide (a = b)
  | .str a, .str b => decide (a = b)
  | .ref a, .ref b => decide (a = b)
  | .ty a, .ty b => decide (a = b)
  | .tup a, .tup b => beqs a b
  | .frl a, .frl b => beqs a b
  | .lst o a, .lst o' b => (o == o') && beqs a b
  | .dct o k v, .dct o' k' v' => (o == o') && beqs k k' && beqs v v'
  | _, _ => false
def beqs : List PV → List PV → Bool
  | [], [] => true
  | a :: as, b :: bs => beq a b && beqs as bs
  | _, _ => false
end
mutual
theorem beq_self : ∀ a : PV, beq a a = true
  | .non => rfl
  | .bl a => by simp [beq]
  | .int a => by simp [beq]
  | .str a => by simp [beq]
  | .ref a => by simp [beq]
  | .ty a => by simp [beq]
  | .tup a => by simp [beq, beqs_self a]
  | .frl a => by simp [beq, beqs_self a]
  | .lst o a => by simp [beq, beqs_self a]
  | .dct o k v => by simp [beq, beqs_self k, beqs_self v]
theorem beqs_self : ∀ a : List PV, beqs a a = true
  | [] => rfl
  | a :: as => by simp [beqs, beq_self a, beqs_self as]
end
mutual
theorem eq_of_beq : ∀ a b : PV, beq a b = true → a = b
  | .non, b, h => by cases b <;> simp [beq] at h; rfl
  | .bl a, b, h => by cases b <;> simp [beq] at h; rw [h]
  | .int a, b, h => by cases b <;> simp [beq] at h; rw [h]
  | .str a, b, h => by cases b <;> simp [beq] at h; rw [h]
  | .ref a, b, h => by cases b <;> simp [beq] at h; rw [h]
  | .ty a, b, h => by cases b <;> simp [beq] at h; rw [h]
  | .tup a, b, h => by
    cases b <;> simp [beq] at h
    rw [eqs_of_beqs _ _ h]
  | .frl a, b, h => by
    cases b <;> simp [beq] at h
    rw [eqs_of_beqs _ _ h]
  | .lst o a, b, h => by
    cases b <;> simp [beq] at h
    rw [h.1, eqs_of_beqs _ _ h.2]
  | .dct o k v, b, h => by
    cases b <;> simp [beq] at h
    rw [h.1.1, eqs_of_beqs _ _ h.1.2, eqs_of_beqs _ _ h.2]
theorem eqs_of_beqs : ∀ a b : List PV, beqs a b = true → a = b
  | [], [], _ => rfl
  | [], _ :: _, h => by simp [beqs] at h
  | _ :: _, [], h => by simp [beqs] at h
  | a :: as, b :: bs, h => by
    simp [beqs] at h
    rw [eq_of_beq _ _ h.1, eqs_of_beqs _ _ h.2]
end
instance : DecidableEq PV := fun a b => if h : beq a b = true then .isTrue (eq_of_beq a b h) else .isFalse fun e => h (e ▸ beq_self a)

/-! frozen: no flag is set -/
mutual
def fz : PV → Bool
  | .tup xs => fzs xs
  | .frl xs => fzs xs
  | .lst o xs => !o && fzs xs
  | .dct o ks vs => !o && fzs ks && fzs vs
  | _ => true
def fzs : List PV → Bool
  | [] => true
  | x :: xs => fz x && fzs xs
end
mutual
def frz : PV → PV
  | .tup xs => .tup (frzs xs)
  | .frl xs => .frl (frzs xs)
  | .lst _ xs => .lst false (frzs xs)
  | .dct _ ks vs => .dct false (frzs ks) (frzs vs)
  | .non => .non | .bl b => .bl b | .int i => .int i | .str s => .str s | .ref a => .ref a | .ty n => .ty n
def frzs : List PV → List PV
  | [] => []
  | x :: xs => frz x :: frzs xs
end
mutual
theorem frz_of_fz : ∀ x : PV, fz x = true → frz x = x
  | .tup xs, h => by rw [frz, frzs_of_fzs xs (by simpa [fz] using h)]
  | .frl xs, h => by rw [frz, frzs_of_fzs xs (by simpa [fz] using h)]
  | .lst o xs, h => by
    simp [fz] at h
    rw [frz, frzs_of_fzs xs h.2, h.1]
  | .dct o ks vs, h => by
    simp [fz] at h
    rw [frz, frzs_of_fzs ks h.1.2, frzs_of_fzs vs h.2, h.1.1]
  | .non, _ => rfl
  | .bl _, _ => rfl
  | .int _, _ => rfl
  | .str _, _ => rfl
  | .ref _, _ => rfl
  | .ty _, _ => rfl
theorem frzs_of_fzs : ∀ xs : List PV, fzs xs = true → frzs xs = xs
  | [], _ => rfl
  | x :: xs, h => by
    simp [fzs] at h
    rw [frzs, frz_of_fz x h.1, frzs_of_fzs xs h.2]
end
mutual
theorem fz_frz : ∀ x : PV, fz (frz x) = true
  | .tup xs => by simp [frz, fz, fzs_frzs xs]
  | .frl xs => by simp [frz, fz, fzs_frzs xs]
  | .lst o xs => by simp [frz, fz, fzs_frzs xs]
  | .dct o ks vs => by simp [frz, fz, fzs_frzs ks, fzs_frzs vs]
  | .non => rfl
  | .bl _ => rfl
  | .int _ => rfl
  | .str _ => rfl
  | .ref _ => rfl
  | .ty _ => rfl
theorem fzs_frzs : ∀ xs : List PV, fzs (frzs xs) = true
  | [] => rfl
  | x :: xs => by simp [frzs, fzs, fz_frz x, fzs_frzs xs]
end
theorem fzs_append : ∀ xs ys : List PV, fzs (xs ++ ys) = (fzs xs && fzs ys)
  | [], ys => by simp [fzs]
  | x :: xs, ys => by simp [fzs, fzs_append xs ys, Bool.and_assoc]
theorem fzs_mem : ∀ {xs : List PV} {x : PV}, fzs xs = true → x ∈ xs → fz x = true
  | y :: ys, x, h, hm => by
    simp [fzs] at h
    rcases List.mem_cons.mp hm with rfl | hm
    · exact h.1
    · exact fzs_mem h.2 hm
theorem fzs_of : ∀ {xs : List PV}, (∀ x ∈ xs, fz x = true) → fzs xs = true
  | [], _ => rfl
  | x :: xs, h => by simp [fzs, h x (by simp), fzs_of (xs := xs) fun y hy => h y (by simp [hy])]
end PV

abbrev Path := List Nat
abbrev Lab := Addr → Option Path

/-! ### dicts in the abstract heap -/
/-! a key of tuples as the nested key of the library -/
mutual
def nk : PV → Option NestedKey
  | .non => some .none
  | .bl b => some (.num (if b = true then 1 else 0))
  | .int i => some (.num i)
  | .str s => some (.text s)
  | .tup xs => (nks xs).map .tup
  | _ => none
def nks : List PV → Option (List NestedKey)
  | [] => some []
  | x :: xs => match nk x, nks xs with
    | some a, some b => some (a :: b)
    | _, _ => none
end

/-! keys as trees: without bools, not too deep -/
mutual
def plainK : PV → Bool
  | .non => true
  | .int _ => true
  | .str _ => true
  | .tup xs => plainKs xs
  | _ => false
def plainKs : List PV → Bool
  | [] => true
  | x :: xs => plainK x && plainKs xs
end
def scalK : PV → Bool
  | .int _ => true
  | .str _ => true
  | _ => false
/-- a dict's object, known to the sign -/
def DXO (a : Addr) (o : Obj) : HO := .ext fun h => h.get? a = some o
section
variable (P : Program) (w : World)
/-- numbers and texts as keys -/
def DatK (o : Obj) (kvs : List (Key × V)) : Prop := ∃ (es : Array DictEntry) (ep : Nat) (vs : List (Key × Value)), o.ExactDict ∧ o.data = .dict es ep ∧ KV kvs vs ∧
  KeysOf (mixKind P w) es ∧ Pairs (mixKind P w) es.toList vs ∧ (vs.map (·.1)).Nodup
/-- tuples as keys: key, the key's tuple, value -/
def DatT (o : Obj) (xs : List (NestedKey × Addr × V)) : Prop := ∃ (es : Array DictEntry) (ep : Nat) (ys : List (NestedKey × Addr × Value)), o.ExactDict ∧ o.data = .dict es ep ∧
  Paired (fun (p : NestedKey × Addr × V) (q : NestedKey × Addr × Value) => p.1 = q.1 ∧ p.2.1 = q.2.1 ∧ RelV p.2.2 q.2.2) xs ys ∧ es.toList = ys.map (entryOfKey (nestedKind P w)) ∧ (ys.map (·.1)).Nodup
/-- what a dict's object holds: its keys' values, its values, with the keys as trees -/
def DctO (o : Obj) (ks : List PV) (kes ves : List V) : Prop := plainKs ks = true ∧
  ((∃ kvs : List (Key × V), DatK P w o kvs ∧ kes = kvs.map (fun e => kV e.1) ∧ ves = kvs.map (·.2)) ∨
  (∃ xs : List (NestedKey × Addr × V), DatT P w o xs ∧ kes = xs.map (fun e => .ref e.2.1) ∧ ves = xs.map (·.2.2) ∧ nks ks = some (xs.map (·.1)) ∧ ∀ x ∈ xs, x.1.depth ≤ 8))
def DctR (H : Hp) (a : Addr) (ks : List PV) (kes ves : List V) : Prop := (a == sysModules) = false ∧ ∃ o, H a = some (DXO a o) ∧ DctO P w o ks kes ves
/-- .. or of the program's text -/
def DctF (K : PySem.W.Frag) (F : Hp) (a : Addr) (ks : List PV) (kes ves : List V) : Prop := (a == sysModules) = false ∧ ∃ o, (F a = some (DXO a o) ∨ K.lookup a = some o) ∧ DctO P w o ks kes ves
theorem DctR.mono {H H' : Hp} {a : Addr} {ks : List PV} {kes ves : List V} (h : DctR P w H a ks kes ves) (k : ∀ o, H a = some o → H' a = some o) : DctR P w H' a ks kes ves := by
  obtain ⟨hs, o, e, r⟩ := h
  exact ⟨hs, o, k _ e, r⟩
theorem DctR.toF {K : PySem.W.Frag} {H H' : Hp} {a : Addr} {ks : List PV} {kes ves : List V} (h : DctR P w H a ks kes ves) (k : ∀ o, H a = some o → H' a = some o) : DctF P w K H' a ks kes ves := by
  obtain ⟨hs, o, e, r⟩ := h
  exact ⟨hs, o, .inl (k _ e), r⟩
theorem DctF.mono {K : PySem.W.Frag} {F F' : Hp} {a : Addr} {ks : List PV} {kes ves : List V} (h : DctF P w K F a ks kes ves) (k : ∀ o, F a = some o → F' a = some o) : DctF P w K F' a ks kes ves := by
  obtain ⟨hs, o, e, r⟩ := h
  exact ⟨hs, o, e.imp (k _) id, r⟩

/-! ### what a value is, in a part F of the heap that stays -/
variable (K : PySem.W.Frag)
mutual
def RepF (F : Hp) : PV → V → Prop
  | .non, v => v = .non
  | .bl b, v => v = .bl b
  | .int i, v => v = .int i
  | .str s, v => v = .str s
  | .ref a, v => v = .ref a
  | .ty n, v => v = .ty n
  | .tup xs, v => ∃ a vs, v = .ref a ∧ SqT K F a vs ∧ RepFs F xs vs
  | .frl xs, v => ∃ a vs, v = .ref a ∧ SqL K F a vs ∧ RepFs F xs vs
  | .lst o xs, v => o = false ∧ ∃ a vs, v = .ref a ∧ F a = some (.lst vs) ∧ RepFs F xs vs
  | .dct o ks xs, v => o = false ∧ ∃ a kes ves, v = .ref a ∧ DctF P w K F a ks kes ves ∧ RepFs F ks kes ∧ RepFs F xs ves
def RepFs (F : Hp) : List PV → List V → Prop
  | [], vs => vs = []
  | x :: xs, vs => ∃ v r, vs = v :: r ∧ RepF F x v ∧ RepFs F xs r
end
/-! .. and with places that hang from one place alone, labelled by L -/
mutual
def RepO (F H : Hp) (L : Lab) : Path → PV → V → Prop
  | p, .lst true xs, v => ∃ a vs, v = .ref a ∧ L a = some p ∧ H a = some (.lst vs) ∧ RepOs F H L p 0 xs vs
  | p, .dct true ks xs, v => ∃ a kes ves, v = .ref a ∧ L a = some p ∧ DctR P w H a ks kes ves ∧ RepFs P w K F ks kes ∧ RepOs F H L p 0 xs ves
  | _, .lst false xs, v => RepF P w K F (.lst false xs) v
  | _, .dct false ks xs, v => RepF P w K F (.dct false ks xs) v
  | _, .tup xs, v => RepF P w K F (.tup xs) v
  | _, .frl xs, v => RepF P w K F (.frl xs) v
  | _, .non, v => v = .non
  | _, .bl b, v => v = .bl b
  | _, .int i, v => v = .int i
  | _, .str s, v => v = .str s
  | _, .ref a, v => v = .ref a
  | _, .ty n, v => v = .ty n
def RepOs (F H : Hp) (L : Lab) : Path → Nat → List PV → List V → Prop
  | _, _, [], vs => vs = []
  | p, i, x :: xs, vs => ∃ v r, vs = v :: r ∧ RepO F H L (p ++ [i]) x v ∧ RepOs F H L p (i + 1) xs r
end
end

section
variable {P : Program} {w : World} {K : PySem.W.Frag} {F F' H H' : Hp} {L L' : Lab}
theorem SqL.mono {a : Addr} {xs : List V} (k : Same F F') (h : SqL K F a xs) : SqL K F' a xs := k.seq h
theorem SqT.mono {a : Addr} {xs : List V} (k : Same F F') (h : SqT K F a xs) : SqT K F' a xs := by
  rcases h with (h | ⟨o, h⟩) | h
  · exact .inl (.inl (k _ _ h))
  · exact .inl (.inr ⟨o, k _ _ h⟩)
  · exact .inr h
mutual
theorem RepF.mono (k : Same F F') : ∀ (x : PV) (v : V), RepF P w K F x v → RepF P w K F' x v
  | .tup xs, v, h => by
    rw [RepF] at h ⊢
    obtain ⟨a, vs, e, s, r⟩ := h
    exact ⟨a, vs, e, SqT.mono k s, RepFs.mono k xs vs r⟩
  | .frl xs, v, h => by
    rw [RepF] at h ⊢
    obtain ⟨a, vs, e, s, r⟩ := h
    exact ⟨a, vs, e, SqL.mono k s, RepFs.mono k xs vs r⟩
  | .lst o xs, v, h => by
    rw [RepF] at h ⊢
    obtain ⟨eo, a, vs, e, s, r⟩ := h
    exact ⟨eo, a, vs, e, k _ _ s, RepFs.mono k xs vs r⟩
  | .dct o ks xs, v, h => by
    rw [RepF] at h ⊢
    obtain ⟨eo, a, kes, ves, e, s, r, r2⟩ := h
    exact ⟨eo, a, kes, ves, e, DctF.mono P w s fun o e => k _ _ e, RepFs.mono k ks kes r, RepFs.mono k xs ves r2⟩
  | .non, v, h => h
  | .bl _, v, h => h
  | .int _, v, h => h
  | .str _, v, h => h
  | .ref _, v, h => h
  | .ty _, v, h => h
theorem RepFs.mono (k : Same F F') : ∀ (xs : List PV) (vs : List V), RepFs P w K F xs vs → RepFs P w K F' xs vs
  | [], vs, h => h
  | x :: xs, vs, h => by
    rw [RepFs] at h ⊢
    obtain ⟨v, r, e, h1, h2⟩ := h
    exact ⟨v, r, e, RepF.mono k x v h1, RepFs.mono k xs r h2⟩
end
mutual
theorem RepF.fz : ∀ (x : PV) (v : V), RepF P w K F x v → x.fz = true
  | .tup xs, v, h => by
    rw [RepF] at h
    obtain ⟨a, vs, e, s, r⟩ := h
    simp [PV.fz, RepFs.fzs xs vs r]
  | .frl xs, v, h => by
    rw [RepF] at h
    obtain ⟨a, vs, e, s, r⟩ := h
    simp [PV.fz, RepFs.fzs xs vs r]
  | .lst o xs, v, h => by
    rw [RepF] at h
    obtain ⟨eo, a, vs, e, s, r⟩ := h
    simp [PV.fz, eo, RepFs.fzs xs vs r]
  | .dct o ks xs, v, h => by
    rw [RepF] at h
    obtain ⟨eo, a, kes, ves, e, s, r, r2⟩ := h
    simp [PV.fz, eo, RepFs.fzs ks kes r, RepFs.fzs xs ves r2]
  | .non, v, h => rfl
  | .bl _, v, h => rfl
  | .int _, v, h => rfl
  | .str _, v, h => rfl
  | .ref _, v, h => rfl
  | .ty _, v, h => rfl
theorem RepFs.fzs : ∀ (xs : List PV) (vs : List V), RepFs P w K F xs vs → PV.fzs xs = true
  | [], vs, h => rfl
  | x :: xs, vs, h => by
    rw [RepFs] at h
    obtain ⟨v, r, e, h1, h2⟩ := h
    simp [PV.fzs, RepF.fz x v h1, RepFs.fzs xs r h2]
end
theorem RepFs.length : ∀ {xs : List PV} {vs : List V}, RepFs P w K F xs vs → xs.length = vs.length
  | [], vs, h => by rw [RepFs] at h; rw [h]; rfl
  | x :: xs, vs, h => by
    rw [RepFs] at h
    obtain ⟨v, r, rfl, h1, h2⟩ := h
    simp [RepFs.length h2]
theorem RepFs.get : ∀ {xs : List PV} {vs : List V} {i : Nat} {x : PV}, RepFs P w K F xs vs → xs[i]? = some x → ∃ v, vs[i]? = some v ∧ RepF P w K F x v
  | [], vs, i, x, h, e => by simp at e
  | y :: xs, vs, i, x, h, e => by
    rw [RepFs] at h
    obtain ⟨v, r, rfl, h1, h2⟩ := h
    cases i with
    | zero =>
      simp at e
      subst e
      exact ⟨v, by simp, h1⟩
    | succ i =>
      obtain ⟨u, e1, e2⟩ := RepFs.get (i := i) h2 (by simpa using e)
      exact ⟨u, by simpa using e1, e2⟩
theorem RepFs.getV : ∀ {xs : List PV} {vs : List V} {i : Nat} {v : V}, RepFs P w K F xs vs → vs[i]? = some v → ∃ x, xs[i]? = some x ∧ RepF P w K F x v := fun {xs vs i v} h e => by
  have hl := h.length
  have hi : i < xs.length := by rw [hl]; exact (List.getElem?_eq_some_iff.mp e).1
  obtain ⟨u, e1, e2⟩ := h.get (List.getElem?_eq_getElem hi)
  rw [e] at e1
  cases e1
  exact ⟨_, List.getElem?_eq_getElem hi, e2⟩
theorem RepFs.append : ∀ {xs ys : List PV} {vs us : List V}, RepFs P w K F xs vs → RepFs P w K F ys us → RepFs P w K F (xs ++ ys) (vs ++ us)
  | [], ys, vs, us, h, h' => by
    rw [RepFs] at h
    subst h
    exact h'
  | x :: xs, ys, vs, us, h, h' => by
    rw [RepFs] at h
    obtain ⟨v, r, rfl, h1, h2⟩ := h
    show RepFs P w K F (x :: (xs ++ ys)) (v :: (r ++ us))
    rw [RepFs]
    exact ⟨v, _, rfl, h1, RepFs.append h2 h'⟩
theorem RepFs.of : ∀ {xs : List PV} {vs : List V}, xs.length = vs.length → (∀ (i : Nat) x v, xs[i]? = some x → vs[i]? = some v → RepF P w K F x v) → RepFs P w K F xs vs
  | [], vs, hl, h => by
    rw [RepFs]
    exact List.length_eq_zero_iff.mp hl.symm
  | x :: xs, [], hl, h => by simp at hl
  | x :: xs, v :: vs, hl, h => by
    rw [RepFs]
    exact ⟨v, vs, rfl, h 0 x v (by simp) (by simp), RepFs.of (by simpa using hl) fun i y u e1 e2 => h (i + 1) y u (by simpa using e1) (by simpa using e2)⟩
/-! one that is frozen -/
theorem RepO.toF : ∀ {p : Path} {x : PV} {v : V}, x.fz = true → RepO P w K F H L p x v → RepF P w K F x v
  | p, .lst o xs, v, hz, h => by
    simp [PV.fz] at hz
    obtain ⟨rfl, _⟩ := hz
    rw [RepO] at h
    exact h
  | p, .dct o ks xs, v, hz, h => by
    simp [PV.fz] at hz
    obtain ⟨⟨rfl, _⟩, _⟩ := hz
    rw [RepO] at h
    exact h
  | p, .tup xs, v, hz, h => by rw [RepO] at h; exact h
  | p, .frl xs, v, hz, h => by rw [RepO] at h; exact h
  | p, .non, v, hz, h => h
  | p, .bl _, v, hz, h => h
  | p, .int _, v, hz, h => h
  | p, .str _, v, hz, h => h
  | p, .ref _, v, hz, h => h
  | p, .ty _, v, hz, h => h
theorem RepO.ofF : ∀ {p : Path} {x : PV} {v : V}, RepF P w K F x v → RepO P w K F H L p x v
  | p, .lst o xs, v, h => by
    have h' := h
    rw [RepF] at h
    obtain ⟨rfl, _⟩ := h
    rw [RepO]
    exact h'
  | p, .dct o ks xs, v, h => by
    have h' := h
    rw [RepF] at h
    obtain ⟨rfl, _⟩ := h
    rw [RepO]
    exact h'
  | p, .tup xs, v, h => by rw [RepO]; exact h
  | p, .frl xs, v, h => by rw [RepO]; exact h
  | p, .non, v, h => h
  | p, .bl _, v, h => h
  | p, .int _, v, h => h
  | p, .str _, v, h => h
  | p, .ref _, v, h => h
  | p, .ty _, v, h => h
/-! carried over -/
mutual
theorem RepO.tr (k : Same F F') : ∀ (x : PV) (p p' : Path) (v : V), (∀ a s, L a = some (p ++ s) → L' a = some (p' ++ s) ∧ H' a = H a) → RepO P w K F H L p x v → RepO P w K F' H' L' p' x v
  | .lst true xs, p, p', v, m, h => by
    rw [RepO] at h ⊢
    obtain ⟨a, vs, e, l, e2, r⟩ := h
    have z := m a [] (by simpa using l)
    exact ⟨a, vs, e, by simpa using z.1, by rw [z.2]; exact e2, RepOs.tr k xs p p' 0 vs m r⟩
  | .dct true ks xs, p, p', v, m, h => by
    rw [RepO] at h ⊢
    obtain ⟨a, kes, ves, e, l, e2, r, r2⟩ := h
    have z := m a [] (by simpa using l)
    exact ⟨a, kes, ves, e, by simpa using z.1, DctR.mono P w e2 fun o e => by rw [z.2]; exact e, RepFs.mono k _ _ r, RepOs.tr k xs p p' 0 ves m r2⟩
  | .lst false xs, p, p', v, m, h => by
    rw [RepO] at h ⊢
    exact RepF.mono k _ _ h
  | .dct false ks xs, p, p', v, m, h => by
    rw [RepO] at h ⊢
    exact RepF.mono k _ _ h
  | .tup xs, p, p', v, m, h => by
    rw [RepO] at h ⊢
    exact RepF.mono k _ _ h
  | .frl xs, p, p', v, m, h => by
    rw [RepO] at h ⊢
    exact RepF.mono k _ _ h
  | .non, p, p', v, m, h => h
  | .bl _, p, p', v, m, h => h
  | .int _, p, p', v, m, h => h
  | .str _, p, p', v, m, h => h
  | .ref _, p, p', v, m, h => h
  | .ty _, p, p', v, m, h => h
theorem RepOs.tr (k : Same F F') : ∀ (xs : List PV) (p p' : Path) (i : Nat) (vs : List V), (∀ a s, L a = some (p ++ s) → L' a = some (p' ++ s) ∧ H' a = H a) → RepOs P w K F H L p i xs vs → RepOs P w K F' H' L' p' i xs vs
  | [], p, p', i, vs, m, h => h
  | x :: xs, p, p', i, vs, m, h => by
    rw [RepOs] at h ⊢
    obtain ⟨v, r, e, h1, h2⟩ := h
    refine ⟨v, r, e, RepO.tr k x (p ++ [i]) (p' ++ [i]) v (fun a s l => ?_) h1, RepOs.tr k xs p p' (i + 1) r m h2⟩
    rw [List.append_assoc] at l ⊢
    exact m a ([i] ++ s) l
end
/-! frozen from now on -/
mutual
theorem RepO.freeze (k : Same F F') : ∀ (x : PV) (p : Path) (v : V), (∀ a s o, L a = some (p ++ s) → H a = some o → F' a = some o) → RepO P w K F H L p x v → RepF P w K F' x.frz v
  | .lst true xs, p, v, m, h => by
    rw [RepO] at h
    obtain ⟨a, vs, e, l, e2, r⟩ := h
    rw [PV.frz, RepF]
    exact ⟨rfl, a, vs, e, m a [] _ (by simpa using l) e2, RepOs.freeze k xs p 0 vs m r⟩
  | .dct true ks xs, p, v, m, h => by
    rw [RepO] at h
    obtain ⟨a, kes, ves, e, l, e2, r, r2⟩ := h
    rw [PV.frz, RepF, PV.frzs_of_fzs ks (RepFs.fzs _ _ r)]
    exact ⟨rfl, a, kes, ves, e, DctR.toF P w e2 fun o e => m a [] o (by simpa using l) e, RepFs.mono k _ _ r, RepOs.freeze k xs p 0 ves m r2⟩
  | .lst false xs, p, v, m, h => by
    rw [RepO] at h
    rw [PV.frz_of_fz _ (RepF.fz _ _ h)]
    exact RepF.mono k _ _ h
  | .dct false ks xs, p, v, m, h => by
    rw [RepO] at h
    rw [PV.frz_of_fz _ (RepF.fz _ _ h)]
    exact RepF.mono k _ _ h
  | .tup xs, p, v, m, h => by
    rw [RepO] at h
    rw [PV.frz_of_fz _ (RepF.fz _ _ h)]
    exact RepF.mono k _ _ h
  | .frl xs, p, v, m, h => by
    rw [RepO] at h
    rw [PV.frz_of_fz _ (RepF.fz _ _ h)]
    exact RepF.mono k _ _ h
  | .non, p, v, m, h => h
  | .bl _, p, v, m, h => h
  | .int _, p, v, m, h => h
  | .str _, p, v, m, h => h
  | .ref _, p, v, m, h => h
  | .ty _, p, v, m, h => h
theorem RepOs.freeze (k : Same F F') : ∀ (xs : List PV) (p : Path) (i : Nat) (vs : List V), (∀ a s o, L a = some (p ++ s) → H a = some o → F' a = some o) → RepOs P w K F H L p i xs vs → RepFs P w K F' (PV.frzs xs) vs
  | [], p, i, vs, m, h => by rw [PV.frzs, RepFs]; exact h
  | x :: xs, p, i, vs, m, h => by
    rw [RepOs] at h
    obtain ⟨v, r, e, h1, h2⟩ := h
    rw [PV.frzs, RepFs]
    refine ⟨v, r, e, RepO.freeze k x (p ++ [i]) v (fun a s o l e => ?_) h1, RepOs.freeze k xs p (i + 1) r m h2⟩
    rw [List.append_assoc] at l
    exact m a _ o l e
end
theorem RepOs.ofF : ∀ {p : Path} {i : Nat} {xs : List PV} {vs : List V}, RepFs P w K F xs vs → RepOs P w K F H L p i xs vs
  | p, i, [], vs, h => by rw [RepFs] at h; rw [RepOs]; exact h
  | p, i, x :: xs, vs, h => by
    rw [RepFs] at h
    obtain ⟨v, r, e, h1, h2⟩ := h
    rw [RepOs]
    exact ⟨v, r, e, RepO.ofF h1, RepOs.ofF h2⟩
theorem RepOs.toF : ∀ {p : Path} {i : Nat} {xs : List PV} {vs : List V}, PV.fzs xs = true → RepOs P w K F H L p i xs vs → RepFs P w K F xs vs
  | p, i, [], vs, _, h => by rw [RepOs] at h; rw [RepFs]; exact h
  | p, i, x :: xs, vs, hz, h => by
    simp [PV.fzs] at hz
    rw [RepOs] at h
    obtain ⟨v, r, e, h1, h2⟩ := h
    rw [RepFs]
    exact ⟨v, r, e, RepO.toF hz.1 h1, RepOs.toF hz.2 h2⟩
theorem RepOs.length : ∀ {p : Path} {i : Nat} {xs : List PV} {vs : List V}, RepOs P w K F H L p i xs vs → xs.length = vs.length
  | p, i, [], vs, h => by rw [RepOs] at h; rw [h]; rfl
  | p, i, x :: xs, vs, h => by
    rw [RepOs] at h
    obtain ⟨v, r, rfl, h1, h2⟩ := h
    simp [RepOs.length h2]
theorem RepOs.get : ∀ {p : Path} {j i : Nat} {xs : List PV} {vs : List V} {x : PV}, RepOs P w K F H L p j xs vs → xs[i]? = some x → ∃ v, vs[i]? = some v ∧ RepO P w K F H L (p ++ [j + i]) x v
  | p, j, i, [], vs, x, h, e => by simp at e
  | p, j, i, y :: xs, vs, x, h, e => by
    rw [RepOs] at h
    obtain ⟨v, r, rfl, h1, h2⟩ := h
    cases i with
    | zero =>
      simp at e
      subst e
      exact ⟨v, by simp, h1⟩
    | succ i =>
      obtain ⟨u, e1, e2⟩ := RepOs.get (i := i) h2 (by simpa using e)
      refine ⟨u, by simpa using e1, ?_⟩
      rw [show j + (i + 1) = j + 1 + i by omega]
      exact e2
theorem RepOs.of : ∀ {p : Path} {j : Nat} {xs : List PV} {vs : List V}, xs.length = vs.length → (∀ (i : Nat) x v, xs[i]? = some x → vs[i]? = some v → RepO P w K F H L (p ++ [j + i]) x v) → RepOs P w K F H L p j xs vs
  | p, j, [], vs, hl, h => by
    rw [RepOs]
    exact List.length_eq_zero_iff.mp hl.symm
  | p, j, x :: xs, [], hl, h => by simp at hl
  | p, j, x :: xs, v :: vs, hl, h => by
    rw [RepOs]
    refine ⟨v, vs, rfl, h 0 x v (by simp) (by simp), RepOs.of (by simpa using hl) fun i y u e1 e2 => ?_⟩
    rw [show j + 1 + i = j + (i + 1) by omega]
    exact h (i + 1) y u (by simpa using e1) (by simpa using e2)
end
end Pv
namespace Pv
open PySem PySem.Spec PyProof.Rows L2

/-- what a local name (or an intermediate result) holds: nothing, a value, another name for a place within a slot's value -/
inductive Sl where
  | un | val (pv : PV) | al (j : Nat) (p : Path)
  deriving DecidableEq
abbrev PEnv := List Sl

def PV.at : Path → PV → Option PV
  | [], x => some x
  | i :: p, .lst _ xs => match xs[i]? with | some x => PV.at p x | none => none
  | i :: p, .dct _ _ xs => match xs[i]? with | some x => PV.at p x | none => none
  | _ :: _, _ => none
def PV.put : Path → PV → PV → PV
  | [], _, y => y
  | i :: p, .lst o xs, y => .lst o (xs.modify i fun x => PV.put p x y)
  | i :: p, .dct o ks xs, y => .dct o ks (xs.modify i fun x => PV.put p x y)
  | _ :: _, x, _ => x
theorem at_lst {i : Nat} {q : Path} {o : Bool} {xs : List PV} : PV.at (i :: q) (.lst o xs) = (match xs[i]? with | some x => PV.at q x | none => none) := by rw [PV.at]
theorem at_dct {i : Nat} {q : Path} {o : Bool} {ks xs : List PV} : PV.at (i :: q) (.dct o ks xs) = (match xs[i]? with | some x => PV.at q x | none => none) := by rw [PV.at]
theorem put_lst {i : Nat} {q : Path} {o : Bool} {xs : List PV} {y : PV} : PV.put (i :: q) (.lst o xs) y = .lst o (xs.modify i fun x => PV.put q x y) := by rw [PV.put]
theorem put_dct {i : Nat} {q : Path} {o : Bool} {ks xs : List PV} {y : PV} : PV.put (i :: q) (.dct o ks xs) y = .dct o ks (xs.modify i fun x => PV.put q x y) := by rw [PV.put]
def look (env : PEnv) (j : Nat) (p : Path) : Option PV := match env[j]? with
  | some (.val pv) => match PV.at p pv with
    | some q => if q.fz = true then none else some q
    | none => none
  | _ => none
def cont (env : PEnv) : Sl → Option PV
  | .val pv => some pv
  | .al j p => look env j p
  | .un => none

theorem look_some {env : PEnv} {j : Nat} {p : Path} {q : PV} (h : look env j p = some q) : ∃ pv, env[j]? = some (.val pv) ∧ pv.at p = some q ∧ q.fz = false := by
  unfold look at h
  split at h
  · rename_i pv e
    split at h
    · rename_i x e2
      split at h
      · cases h
      · rename_i hz
        cases h
        exact ⟨pv, e, e2, by simpa using hz⟩
    · cases h
  · cases h
theorem look_of {env : PEnv} {j : Nat} {p : Path} {pv q : PV} (e : env[j]? = some (.val pv)) (h : pv.at p = some q) (hz : q.fz = false) : look env j p = some q := by
  unfold look
  rw [e]
  simp only [h, hz]
  rfl

/-- does a label hang from the root r -/
def isR (r : Nat) : Option Path → Bool
  | some (x :: _) => x == r
  | _ => false
theorem isR_cons {r : Nat} {s : Path} : isR r (some (r :: s)) = true := by simp [isR]
theorem isR_ne {r x : Nat} {s : Path} (h : x ≠ r) : isR r (some (x :: s)) = false := by simp [isR, h]

section
variable (P : Program) (w : World) (K : PySem.W.Frag)
def Ent (env : PEnv) (F H : Hp) (L : Lab) (r : Nat) : Sl → V → Prop
  | .val pv, v => RepO P w K F H L [r] pv v
  | .al j p, v => ∀ q, look env j p = some q → RepO P w K F H L (2 * j :: p) q v
  | .un, _ => True

structure Rel (env tm : PEnv) (σ : L2.St) (τ : List V) (F H : Hp) (L : Lab) : Prop where
  fle : Same F H
  lf : ∀ a p, L a = some p → F a = none
  lh : ∀ a p, L a = some p → ∃ o, H a = some o
  len : env.length = σ.length
  slot : ∀ i e, env[i]? = some e → e ≠ .un → ∃ v, σ[i]? = some (some v) ∧ Ent P w K env F H L (2 * i) e v
  tlen : tm.length = τ.length
  tmp : ∀ i e v, tm[i]? = some e → τ[i]? = some v → Ent P w K env F H L (2 * i + 1) e v
  inj : ∀ a b q, L a = some q → L b = some q → a = b
  ali : ∀ (i : Nat) v j q, tm[i]? = some (.al j []) → τ[i]? = some v → look env j [] = some q → σ[j]? = some (some v)
end

section
variable {P : Program} {w : World} {K : PySem.W.Frag} {F F' H H' : Hp} {L L' : Lab} {env env' tm tm' : PEnv} {σ σ' : L2.St} {τ τ' : List V}

theorem RepO.path : ∀ {q : Path} {p : Path} {pv x : PV} {v : V}, RepO P w K F H L p pv v → pv.at q = some x → x.fz = false → ∃ u, RepO P w K F H L (p ++ q) x u
  | [], p, pv, x, v, h, e, z => by
    rw [PV.at] at e
    cases e
    exact ⟨v, by simpa using h⟩
  | i :: q, p, .lst o xs, x, v, h, e, z => by
    rw [PV.at] at e
    split at e
    · rename_i y ey
      have hy : y.fz = false := by
        cases hy : y.fz with
        | false => rfl
        | true =>
          have : ∀ (q : Path) (y x : PV), y.fz = true → y.at q = some x → x.fz = true := by
            intro q
            induction q with
            | nil => intro y x hz e; rw [PV.at] at e; cases e; exact hz
            | cons i q ih =>
              intro y x hz e
              cases y with
              | lst o ys =>
                rw [PV.at] at e
                split at e
                · rename_i y' ey'
                  simp [PV.fz] at hz
                  exact ih y' x (PV.fzs_mem hz.2 (List.mem_of_getElem? ey')) e
                · cases e
              | dct o ks ys =>
                rw [PV.at] at e
                split at e
                · rename_i y' ey'
                  simp [PV.fz] at hz
                  exact ih y' x (PV.fzs_mem hz.2 (List.mem_of_getElem? ey')) e
                · cases e
              | _ => simp [PV.at] at e
          rw [this q y x hy e] at z
          cases z
      cases o with
      | false =>
        rw [RepO] at h
        have := RepF.fz _ _ h
        simp [PV.fz] at this
        rw [PV.fzs_mem this (List.mem_of_getElem? ey)] at hy
        cases hy
      | true =>
        rw [RepO] at h
        obtain ⟨a, vs, _, _, _, r⟩ := h
        obtain ⟨u, _, hu⟩ := RepOs.get r ey
        obtain ⟨u', hu'⟩ := RepO.path (q := q) hu e z
        refine ⟨u', ?_⟩
        rw [Nat.zero_add, List.append_assoc] at hu'
        exact hu'
    · cases e
  | i :: q, p, .dct o ks xs, x, v, h, e, z => by
    rw [PV.at] at e
    split at e
    · rename_i y ey
      cases o with
      | false =>
        rw [RepO] at h
        have hz := RepF.fz _ _ h
        simp [PV.fz] at hz
        have hy := PV.fzs_mem hz.2 (List.mem_of_getElem? ey)
        have : ∀ (q : Path) (y x : PV), y.fz = true → y.at q = some x → x.fz = true := by
          intro q
          induction q with
          | nil => intro y x hz e; rw [PV.at] at e; cases e; exact hz
          | cons i q ih =>
            intro y x hz e
            cases y with
            | lst o ys =>
              rw [PV.at] at e
              split at e
              · rename_i y' ey'
                simp [PV.fz] at hz
                exact ih y' x (PV.fzs_mem hz.2 (List.mem_of_getElem? ey')) e
              · cases e
            | dct o ks ys =>
              rw [PV.at] at e
              split at e
              · rename_i y' ey'
                simp [PV.fz] at hz
                exact ih y' x (PV.fzs_mem hz.2 (List.mem_of_getElem? ey')) e
              · cases e
            | _ => simp [PV.at] at e
        rw [this q y x hy e] at z
        cases z
      | true =>
        rw [RepO] at h
        obtain ⟨a, kes, ves, _, _, _, _, r⟩ := h
        obtain ⟨u, _, hu⟩ := RepOs.get r ey
        obtain ⟨u', hu'⟩ := RepO.path (q := q) hu e z
        refine ⟨u', ?_⟩
        rw [Nat.zero_add, List.append_assoc] at hu'
        exact hu'
    · cases e
  | _ :: _, p, .non, x, v, h, e, z => by simp [PV.at] at e
  | _ :: _, p, .bl _, x, v, h, e, z => by simp [PV.at] at e
  | _ :: _, p, .int _, x, v, h, e, z => by simp [PV.at] at e
  | _ :: _, p, .str _, x, v, h, e, z => by simp [PV.at] at e
  | _ :: _, p, .ref _, x, v, h, e, z => by simp [PV.at] at e
  | _ :: _, p, .ty _, x, v, h, e, z => by simp [PV.at] at e
  | _ :: _, p, .tup _, x, v, h, e, z => by simp [PV.at] at e
  | _ :: _, p, .frl _, x, v, h, e, z => by simp [PV.at] at e

/-- an entry carried over: the labels under its root stay -/
theorem Ent.tr {r : Nat} {e : Sl} {v : V} (k : Same F F') (m : ∀ a x s, L a = some (x :: s) → x = r ∨ (∃ j p, e = .al j p ∧ x = 2 * j) → L' a = some (x :: s) ∧ H' a = H a)
    (hl : ∀ j p q, e = .al j p → look env' j p = some q → look env j p = some q) (h : Ent P w K env F H L r e v) : Ent P w K env' F' H' L' r e v := by
  cases e with
  | un => trivial
  | val pv => exact RepO.tr k pv [r] [r] v (fun a s l => m a r s l (.inl rfl)) h
  | al j p =>
    intro q hq
    exact RepO.tr k q (2 * j :: p) (2 * j :: p) v (fun a s l => m a (2 * j) (p ++ s) l (.inr ⟨j, p, rfl, rfl⟩)) (h q (hl j p q rfl hq))

/-- nothing changes but that more is frozen, untouched labels, heap elsewhere -/
theorem Rel.grow (R : Rel P w K env tm σ τ F H L) (k : Same F F') (fle : Same F' H') (lf : ∀ a p, L' a = some p → F' a = none) (lh : ∀ a p, L' a = some p → ∃ o, H' a = some o)
    (m : ∀ a x s, L a = some (x :: s) → (x % 2 = 1 → x < 2 * tm.length) → L' a = some (x :: s) ∧ H' a = H a) (inj : ∀ a b q, L' a = some q → L' b = some q → a = b) : Rel P w K env tm σ τ F' H' L' := by
  have go : ∀ {r : Nat} {e : Sl} {v : V}, (r % 2 = 1 → r < 2 * tm.length) → Ent P w K env F H L r e v → Ent P w K env F' H' L' r e v := fun {r e v} hr h => by
    cases e with
    | un => trivial
    | val pv => exact RepO.tr k pv [r] [r] v (fun a s l => m a r s l hr) h
    | al j p =>
      intro q hq
      exact RepO.tr k q (2 * j :: p) (2 * j :: p) v (fun a s l => m a (2 * j) (p ++ s) l (fun z => by omega)) (h q hq)
  refine ⟨fle, lf, lh, R.len, fun i e he hu => ?_, R.tlen, fun i e v he hv => ?_, inj, R.ali⟩
  · obtain ⟨v, hv, h⟩ := R.slot i e he hu
    exact ⟨v, hv, go (fun z => by omega) h⟩
  · have := (List.getElem?_eq_some_iff.mp he).1
    exact go (fun z => by omega) (R.tmp i e v he hv)

theorem Rel.push {e : Sl} {v : V} (R : Rel P w K env tm σ τ F H L) (h : Ent P w K env F H L (2 * tm.length + 1) e v) (ha : ∀ j q, e = .al j [] → look env j [] = some q → σ[j]? = some (some v) := by intro j q e; cases e) : Rel P w K env (tm ++ [e]) σ (τ ++ [v]) F H L := by
  have cut : ∀ {i : Nat} {e' : Sl} {v' : V}, (tm ++ [e])[i]? = some e' → (τ ++ [v])[i]? = some v' → (tm[i]? = some e' ∧ τ[i]? = some v') ∨ (e' = e ∧ v' = v) := fun {i e' v'} he hv => by
    by_cases hi : i < tm.length
    · rw [List.getElem?_append_left hi] at he
      rw [List.getElem?_append_left (by rw [← R.tlen]; exact hi)] at hv
      exact .inl ⟨he, hv⟩
    · rw [List.getElem?_append_right (by omega)] at he
      rw [List.getElem?_append_right (by rw [← R.tlen]; omega)] at hv
      have h0 : i - tm.length = 0 := by
        have := (List.getElem?_eq_some_iff.mp he).1
        simp at this
        omega
      rw [h0] at he
      rw [← R.tlen, h0] at hv
      simp at he hv
      exact .inr ⟨he.symm, hv.symm⟩
  exact ⟨R.fle, R.lf, R.lh, R.len, R.slot, by simp [R.tlen], fun i e' v' he hv => by
    by_cases hi : i < tm.length
    · rw [List.getElem?_append_left hi] at he
      rw [List.getElem?_append_left (by rw [← R.tlen]; exact hi)] at hv
      exact R.tmp i e' v' he hv
    · rw [List.getElem?_append_right (by omega)] at he
      rw [List.getElem?_append_right (by rw [← R.tlen]; omega)] at hv
      have h0 : i - tm.length = 0 := by
        have := (List.getElem?_eq_some_iff.mp he).1
        simp at this
        omega
      rw [h0] at he
      rw [← R.tlen, h0] at hv
      simp at he hv
      subst he hv
      have : i = tm.length := by omega
      subst this
      exact h, R.inj, fun i v' j q he hv hq => by
    rcases cut he hv with ⟨h1, h2⟩ | ⟨h1, h2⟩
    · exact R.ali i v' j q h1 h2 hq
    · rw [h2]; exact ha j q h1.symm hq⟩
theorem Rel.pushF {pv : PV} {v : V} (R : Rel P w K env tm σ τ F H L) (h : RepF P w K F pv v) : Rel P w K env (tm ++ [.val pv]) σ (τ ++ [v]) F H L := R.push (RepO.ofF h)
theorem Rel.pop {e : Sl} {v : V} (R : Rel P w K env (tm ++ [e]) σ (τ ++ [v]) F H L) : Rel P w K env tm σ τ F H L :=
  ⟨R.fle, R.lf, R.lh, R.len, R.slot, by have := R.tlen; simp at this; exact this, fun i e' v' he hv => R.tmp i e' v' (by rw [List.getElem?_append_left (List.getElem?_eq_some_iff.mp he).1]; exact he) (by rw [List.getElem?_append_left (List.getElem?_eq_some_iff.mp hv).1]; exact hv),
    R.inj, fun i v' j q he hv => R.ali i v' j q (by rw [List.getElem?_append_left (List.getElem?_eq_some_iff.mp he).1]; exact he) (by rw [List.getElem?_append_left (List.getElem?_eq_some_iff.mp hv).1]; exact hv)⟩
theorem Rel.top {e : Sl} {v : V} (R : Rel P w K env (tm ++ [e]) σ (τ ++ [v]) F H L) : Ent P w K env F H L (2 * tm.length + 1) e v := by
  have ht : tm.length = τ.length := R.pop.tlen
  exact R.tmp tm.length e v (by simp) (by rw [ht]; simp)
theorem Rel.popN : ∀ {es : PEnv} {vs : List V}, es.length = vs.length → Rel P w K env (tm ++ es) σ (τ ++ vs) F H L → Rel P w K env tm σ τ F H L := fun {es vs} hl R =>
  ⟨R.fle, R.lf, R.lh, R.len, R.slot, by have := R.tlen; simp at this; omega, fun i e' v' he hv => R.tmp i e' v' (by rw [List.getElem?_append_left (List.getElem?_eq_some_iff.mp he).1]; exact he) (by rw [List.getElem?_append_left (List.getElem?_eq_some_iff.mp hv).1]; exact hv),
    R.inj, fun i v' j q he hv => R.ali i v' j q (by rw [List.getElem?_append_left (List.getElem?_eq_some_iff.mp he).1]; exact he) (by rw [List.getElem?_append_left (List.getElem?_eq_some_iff.mp hv).1]; exact hv)⟩

/-- the content of an entry -/
theorem Ent.rep {r : Nat} {e : Sl} {v : V} {pv : PV} (h : Ent P w K env F H L r e v) (hc : cont env e = some pv) : ∃ p, RepO P w K F H L p pv v := by
  cases e with
  | un => cases hc
  | val q => cases hc; exact ⟨_, h⟩
  | al j p => exact ⟨_, h pv hc⟩

def upL (L : Lab) (a : Addr) (p : Path) : Lab := fun b => if b = a then some p else match L b, p with
  | some (x :: s), y :: _ => if x = y then none else some (x :: s)
  | o, _ => o
theorem upL_same {a : Addr} {p : Path} : upL L a p a = some p := by simp [upL]
theorem upL_off {a b : Addr} {x y : Nat} {s p : Path} (h : b ≠ a) (l : L b = some (x :: s)) (hx : x ≠ y) : upL L a (y :: p) b = some (x :: s) := by simp [upL, h, l, hx]
theorem upL_inv {a b : Addr} {y : Nat} {p q : Path} (h : b ≠ a) (e : upL L a (y :: p) b = some q) : L b = some q ∧ ∀ s, q ≠ y :: s := by
  unfold upL at e
  rw [if_neg h] at e
  cases e1 : L b with
  | none => rw [e1] at e; cases e
  | some z =>
    rw [e1] at e
    cases z with
    | nil => cases e; exact ⟨rfl, fun s z => by cases z⟩
    | cons x s =>
      dsimp only at e
      by_cases hx : x = y
      · rw [if_pos hx] at e; cases e
      · rw [if_neg hx] at e
        cases e
        exact ⟨rfl, fun s' z => by cases z; exact hx rfl⟩

/-- a new object that hangs from the new place alone -/
theorem Rel.alloc {a : Addr} {o : HO} {pv : PV} {v : V} (R : Rel P w K env tm σ τ F H L) (hn : H a = none)
    (h : RepO P w K F (upd H a o) (upL L a [2 * tm.length + 1]) [2 * tm.length + 1] pv v) : Rel P w K env (tm ++ [.val pv]) σ (τ ++ [v]) F (upd H a o) (upL L a [2 * tm.length + 1]) := by
  have ln : L a = none := by
    cases e : L a with
    | none => rfl
    | some p =>
      obtain ⟨o, ho⟩ := R.lh a p e
      rw [hn] at ho
      cases ho
  have fn : F a = none := by
    cases e : F a with
    | none => rfl
    | some o =>
      have := R.fle a o e
      rw [hn] at this
      cases this
  refine Rel.push (R.grow (Same.refl F) (fun b o' e => ?_) (fun b p e => ?_) (fun b p e => ?_) (fun b x s e hx => ?_) fun b c q hb hc => ?_) h
  · by_cases hb : b = a
    · subst hb
      rw [fn] at e
      cases e
    · rw [upd_ne hb]
      exact R.fle b o' e
  · by_cases hb : b = a
    · subst hb; exact fn
    · exact R.lf b p (upL_inv hb e).1
  · by_cases hb : b = a
    · subst hb; exact ⟨o, upd_same⟩
    · rw [upd_ne hb]
      exact R.lh b p (upL_inv hb e).1
  · by_cases hb : b = a
    · subst hb
      rw [ln] at e
      cases e
    · rw [upd_ne hb]
      exact ⟨upL_off hb e (by omega), rfl⟩
  · by_cases h1 : b = a
    · by_cases h2 : c = a
      · rw [h1, h2]
      · rw [h1, upL_same] at hb
        cases hb
        exact absurd rfl ((upL_inv h2 hc).2 [])
    · by_cases h2 : c = a
      · rw [h2, upL_same] at hc
        cases hc
        exact absurd rfl ((upL_inv h1 hb).2 [])
      · exact R.inj b c q (upL_inv h1 hb).1 (upL_inv h2 hc).1
/-- a new list with frozen items -/
theorem Rel.newL {a : Addr} {xs : List PV} {vs : List V} (R : Rel P w K env tm σ τ F H L) (hn : H a = none) (h : RepFs P w K F xs vs) :
    Rel P w K env (tm ++ [.val (.lst true xs)]) σ (τ ++ [.ref a]) F (upd H a (.lst vs)) (upL L a [2 * tm.length + 1]) := by
  refine R.alloc hn ?_
  rw [RepO]
  exact ⟨a, vs, rfl, upL_same, upd_same, RepOs.ofF h⟩
/-- a new object that stays as it is: a tuple -/
theorem Rel.allocF {a : Addr} {o : HO} {pv : PV} {v : V} (R : Rel P w K env tm σ τ F H L) (hn : H a = none) (h : RepF P w K (upd F a o) pv v) :
    Rel P w K env (tm ++ [.val pv]) σ (τ ++ [v]) (upd F a o) (upd H a o) L ∧ Same F (upd F a o) := by
  have ln : ∀ p, L a ≠ some p := fun p e => by
    obtain ⟨o, ho⟩ := R.lh a p e
    rw [hn] at ho
    cases ho
  have fn : F a = none := by
    cases e : F a with
    | none => rfl
    | some o =>
      have := R.fle a o e
      rw [hn] at this
      cases this
  have k : Same F (upd F a o) := fun b o' e => by
    rw [upd_ne (ne_of_none e fn)]
    exact e
  refine ⟨Rel.pushF (R.grow k (fun b o' e => ?_) (fun b p e => ?_) (fun b p e => ?_) (fun b x s e _ => ?_) R.inj) h, k⟩
  · by_cases hb : b = a
    · subst hb
      rw [upd_same] at e ⊢
      exact e
    · rw [upd_ne hb] at e ⊢
      exact R.fle b o' e
  · have hb : b ≠ a := fun z => ln p (z ▸ e)
    rw [upd_ne hb]
    exact R.lf b p e
  · have hb : b ≠ a := fun z => ln p (z ▸ e)
    rw [upd_ne hb]
    exact R.lh b p e
  · have hb : b ≠ a := fun z => ln _ (z ▸ e)
    rw [upd_ne hb]
    exact ⟨e, rfl⟩
theorem Rel.newT {a : Addr} {xs : List PV} {vs : List V} (R : Rel P w K env tm σ τ F H L) (hn : H a = none) (h : RepFs P w K F xs vs) :
    Rel P w K env (tm ++ [.val (.tup xs)]) σ (τ ++ [.ref a]) (upd F a (.tup vs)) (upd H a (.tup vs)) L ∧ Same F (upd F a (.tup vs)) := by
  have fn : F a = none := by
    cases e : F a with
    | none => rfl
    | some o =>
      have := R.fle a o e
      rw [hn] at this
      cases this
  have k : Same F (upd F a (.tup vs)) := fun b o' e => by
    rw [upd_ne (ne_of_none e fn)]
    exact e
  refine R.allocF hn ?_
  rw [RepF]
  exact ⟨a, vs, rfl, SqT.of upd_same, RepFs.mono k _ _ h⟩

/-! freezing what hangs from a root -/
def fF (r : Nat) (L : Lab) (F H : Hp) : Hp := fun a => if isR r (L a) = true then H a else F a
def fL (r : Nat) (L : Lab) : Lab := fun a => if isR r (L a) = true then none else L a
theorem fF_same {r : Nat} (lf : ∀ a p, L a = some p → F a = none) : Same F (fF r L F H) := fun a o e => by
  unfold fF
  split
  · rename_i h
    cases q : L a with
    | none => rw [q] at h; cases h
    | some p =>
      rw [lf a p q] at e
      cases e
  · exact e
theorem fF_le {r : Nat} (fle : Same F H) : Same (fF r L F H) H := fun a o e => by
  unfold fF at e
  split at e
  · exact e
  · exact fle a o e
theorem fL_lf {r : Nat} (lf : ∀ a p, L a = some p → F a = none) : ∀ a p, fL r L a = some p → fF r L F H a = none := fun a p e => by
  unfold fL at e
  unfold fF
  split at e
  · cases e
  · rename_i h
    rw [if_neg h]
    exact lf a p e
theorem fL_lh {r : Nat} (lh : ∀ a p, L a = some p → ∃ o, H a = some o) : ∀ a p, fL r L a = some p → ∃ o, H a = some o := fun a p e => by
  unfold fL at e
  split at e
  · cases e
  · exact lh a p e
theorem fL_ne {r x : Nat} {a : Addr} {s : Path} (h : L a = some (x :: s)) (hx : x ≠ r) : fL r L a = some (x :: s) := by
  unfold fL
  rw [h, isR_ne hx]
  rfl
theorem freeze_rep {r : Nat} {pv : PV} {v : V} (lf : ∀ a p, L a = some p → F a = none) (h : RepO P w K F H L [r] pv v) : RepF P w K (fF r L F H) pv.frz v :=
  RepO.freeze (fF_same lf) pv [r] v (fun a s o l e => by
    unfold fF
    rw [l]
    show (if isR r (some (r :: s)) = true then H a else F a) = some o
    rw [isR_cons, if_pos rfl]
    exact e) h

theorem getElem?_set_cases {α : Type} {l : List α} {i j : Nat} {x y : α} (h : (l.set i x)[j]? = some y) : (i = j ∧ y = x ∧ i < l.length) ∨ (i ≠ j ∧ l[j]? = some y) := by
  by_cases e : i = j
  · subst e
    by_cases hl : i < l.length
    · rw [List.getElem?_set_self hl] at h
      cases h
      exact .inl ⟨rfl, rfl, hl⟩
    · rw [List.getElem?_eq_none (by simpa using hl)] at h
      cases h
  · rw [List.getElem?_set_ne e] at h
    exact .inr ⟨e, h⟩

/-- the top is frozen -/
theorem fL_some {r : Nat} {a : Addr} {q : Path} (h : fL r L a = some q) : L a = some q := by
  unfold fL at h
  split at h
  · cases h
  · exact h
theorem Rel.frzTop {pv : PV} {v : V} (R : Rel P w K env (tm ++ [.val pv]) σ (τ ++ [v]) F H L) :
    ∃ F' L', Same F F' ∧ Rel P w K env (tm ++ [.val pv.frz]) σ (τ ++ [v]) F' H L' := by
  have ht := R.top
  have R' := R.pop
  refine ⟨fF (2 * tm.length + 1) L F H, fL (2 * tm.length + 1) L, fF_same R.lf, Rel.pushF (R'.grow (fF_same R.lf) (fF_le R.fle) (fL_lf R.lf) (fL_lh R.lh) (fun a x s e hx => ⟨fL_ne e (fun z => ?_), rfl⟩) fun a b q h1 h2 => R.inj a b q (fL_some h1) (fL_some h2)) (freeze_rep R.lf ht)⟩
  subst z
  have := hx (by omega)
  omega

/-- a slot's value is frozen -/
theorem Rel.frzSlot {j : Nat} {pv : PV} (R : Rel P w K env tm σ τ F H L) (hj : env[j]? = some (.val pv)) :
    Rel P w K (env.set j (.val pv.frz)) tm σ τ (fF (2 * j) L F H) H (fL (2 * j) L) := by
  have hjl := (List.getElem?_eq_some_iff.mp hj).1
  obtain ⟨vj, hv, hr⟩ := R.slot j _ hj (by simp)
  have go : ∀ {r : Nat} {e : Sl} {v : V}, r ≠ 2 * j → Ent P w K env F H L r e v → Ent P w K (env.set j (.val pv.frz)) (fF (2 * j) L F H) H (fL (2 * j) L) r e v := fun {r e v} hne h => by
    cases e with
    | un => trivial
    | val q => exact RepO.tr (fF_same R.lf) q [r] [r] v (fun a s l => ⟨fL_ne l hne, rfl⟩) h
    | al i p =>
      intro q hq
      by_cases hi : i = j
      · subst hi
        obtain ⟨x, e1, e2, e3⟩ := look_some hq
        rw [List.getElem?_set_self hjl] at e1
        cases e1
        have : ∀ (q : Path) (y x : PV), y.fz = true → y.at q = some x → x.fz = true := by
          intro q
          induction q with
          | nil => intro y x hz e; rw [PV.at] at e; cases e; exact hz
          | cons i q ih =>
            intro y x hz e
            cases y with
            | lst o ys =>
              rw [PV.at] at e
              split at e
              · rename_i y' ey'
                simp [PV.fz] at hz
                exact ih y' x (PV.fzs_mem hz.2 (List.mem_of_getElem? ey')) e
              · cases e
            | dct o ks ys =>
              rw [PV.at] at e
              split at e
              · rename_i y' ey'
                simp [PV.fz] at hz
                exact ih y' x (PV.fzs_mem hz.2 (List.mem_of_getElem? ey')) e
              · cases e
            | _ => simp [PV.at] at e
        rw [this p _ q (PV.fz_frz pv) e2] at e3
        cases e3
      · have hq' : look env i p = some q := by
          unfold look at hq ⊢
          rw [List.getElem?_set_ne (Ne.symm hi)] at hq
          exact hq
        exact RepO.tr (fF_same R.lf) q (2 * i :: p) (2 * i :: p) v (fun a s l => ⟨fL_ne (s := p ++ s) l (by omega), rfl⟩) (h q hq')
  have fzat : ∀ (q : Path) (y x : PV), y.fz = true → y.at q = some x → x.fz = true := by
    intro q
    induction q with
    | nil => intro y x hz e; rw [PV.at] at e; cases e; exact hz
    | cons i q ih =>
      intro y x hz e
      cases y with
      | lst o ys =>
        rw [PV.at] at e
        split at e
        · rename_i y' ey'
          simp [PV.fz] at hz
          exact ih y' x (PV.fzs_mem hz.2 (List.mem_of_getElem? ey')) e
        · cases e
      | dct o ks ys =>
        rw [PV.at] at e
        split at e
        · rename_i y' ey'
          simp [PV.fz] at hz
          exact ih y' x (PV.fzs_mem hz.2 (List.mem_of_getElem? ey')) e
        · cases e
      | _ => simp [PV.at] at e
  refine ⟨fF_le R.fle, fL_lf R.lf, fL_lh R.lh, by simp [R.len], fun i e he hu => ?_, R.tlen, fun i e v he hv => go (by omega) (R.tmp i e v he hv), fun a b q h1 h2 => R.inj a b q (fL_some h1) (fL_some h2), fun i v i' q he hv hq => ?_⟩
  rotate_left
  · by_cases hi : i' = j
    · subst hi
      obtain ⟨x, e1, e2, e3⟩ := look_some hq
      rw [List.getElem?_set_self hjl] at e1
      cases e1
      rw [fzat _ _ q (PV.fz_frz pv) e2] at e3
      cases e3
    · refine R.ali i v i' q he hv ?_
      unfold look at hq ⊢
      rw [List.getElem?_set_ne (Ne.symm hi)] at hq
      exact hq
  rcases getElem?_set_cases he with ⟨rfl, rfl, _⟩ | ⟨hne, he⟩
  · exact ⟨vj, hv, RepO.ofF (freeze_rep R.lf hr)⟩
  · obtain ⟨v, h1, h2⟩ := R.slot i e he hu
    exact ⟨v, h1, go (by omega) h2⟩
end
end Pv
namespace Pv
open PySem PySem.Spec PyProof.Rows L2

/-! ### what a piece of code does to trees -/
inductive Out (α : Type) where
  | no | ok (a : α) (env : PEnv) | ex (c : Value) (env : PEnv)
abbrev D (α : Type) := PEnv → Out α
def dpure {α : Type} (a : α) : D α := fun env => .ok a env
def dno {α : Type} : D α := fun _ => .no
def dbind {α β : Type} (d : D α) (f : α → D β) : D β := fun env => match d env with
  | .no => .no
  | .ok a e => f a e
  | .ex c e => .ex c e
/-- what is read off the state -/
def dget {α : Type} (f : PEnv → Option α) : D α := fun env => match f env with
  | some a => .ok a env
  | none => .no

section
variable (P : Program) (w : World) (K : PySem.W.Frag) (W : WX)
/-- es with the values xs stand as intermediate results; d goes, its results stand in their place -/
def tZ {α : Type} (es : PEnv) (xs : List V) (d : D α) (σ : L2.St) (H : Hp) (ps : α → PEnv) (Q : α → List V → Hp → Prop) : Prop :=
  ∃ env tm τ F L, es.length = xs.length ∧ Rel P w K env (tm ++ es) σ (τ ++ xs) F H L ∧ match d env with
    | .no => False
    | .ok a env' => ∀ vs F' H' L', (ps a).length = vs.length → Same F F' → Rel P w K env' (tm ++ ps a) σ (τ ++ vs) F' H' L' → Q a vs H'
    | .ex c env' => ∀ F' H' L', Same F F' → Rel P w K env' tm σ τ F' H' L' → W c none σ H'
def tE (d : D Sl) : TE := fun σ H Q => tZ P w K W [] [] d σ H (fun e => [e]) fun _ vs H' => ∀ v, vs = [v] → Q v H'
def tAr (d : D PEnv) : TA := fun σ H Q => tZ P w K W [] [] d σ H id fun _ vs H' => Q vs H'
def tT (d : D Bool) : TT := fun σ H Q => tZ P w K W [] [] d σ H (fun _ => []) fun b _ H' => Q b H'
end

section
variable {P : Program} {w : World} {K : PySem.W.Frag} {W : WX} {α β : Type} {es : PEnv} {xs : List V} {σ : L2.St} {H : Hp}
theorem tZ.mono {d : D α} {ps : α → PEnv} {Q Q' : α → List V → Hp → Prop} (h : tZ P w K W es xs d σ H ps Q) (q : ∀ a vs H', Q a vs H' → Q' a vs H') : tZ P w K W es xs d σ H ps Q' := by
  obtain ⟨env, tm, τ, F, L, hl, R, h⟩ := h
  refine ⟨env, tm, τ, F, L, hl, R, ?_⟩
  cases e : d env with
  | no => rw [e] at h; exact h
  | ok a env' => rw [e] at h; exact fun vs F' H' L' h1 h2 h3 => q _ _ _ (h vs F' H' L' h1 h2 h3)
  | ex c env' => rw [e] at h; exact h
theorem tZ.bind {d : D α} {f : α → D β} (ps1 : α → PEnv) {ps : β → PEnv} {Q : β → List V → Hp → Prop} (h : tZ P w K W es xs (dbind d f) σ H ps Q) :
    tZ P w K W [] [] d σ H ps1 fun a vs H1 => tZ P w K W (es ++ ps1 a) (xs ++ vs) (f a) σ H1 ps Q := by
  obtain ⟨env, tm, τ, F, L, hl, R, h⟩ := h
  refine ⟨env, tm ++ es, τ ++ xs, F, L, rfl, by simpa using R, ?_⟩
  unfold dbind at h
  cases e : d env with
  | no => rw [e] at h; exact h
  | ok a env' =>
    rw [e] at h
    intro vs F' H' L' h1 h2 h3
    refine ⟨env', tm, τ, F', L', by simp [hl, h1], by simpa using h3, ?_⟩
    dsimp only at h
    cases e2 : f a env' with
    | no => rw [e2] at h; exact h
    | ok b env2 => rw [e2] at h; exact fun us F2 H2 L2 k1 k2 k3 => h us F2 H2 L2 k1 (h2.trans k2) k3
    | ex c env2 => rw [e2] at h; exact fun F2 H2 L2 k2 k3 => h F2 H2 L2 (h2.trans k2) k3
  | ex c env' =>
    rw [e] at h
    exact fun F' H' L' h2 h3 => h F' H' L' h2 (h3.popN hl)
theorem tE.bind {d : D Sl} {f : Sl → D β} {ps : β → PEnv} {Q : β → List V → Hp → Prop} (h : tZ P w K W es xs (dbind d f) σ H ps Q) :
    tE P w K W d σ H fun v H1 => ∃ e, tZ P w K W (es ++ [e]) (xs ++ [v]) (f e) σ H1 ps Q :=
  (h.bind fun e => [e]).mono fun a vs H1 q v ev => by
    subst ev
    exact ⟨a, q⟩
theorem tAr.bind {d : D PEnv} {f : PEnv → D β} {ps : β → PEnv} {Q : β → List V → Hp → Prop} (h : tZ P w K W es xs (dbind d f) σ H ps Q) :
    tAr P w K W d σ H fun vs H1 => ∃ e, tZ P w K W (es ++ e) (xs ++ vs) (f e) σ H1 ps Q :=
  (h.bind id).mono fun a vs H1 q => ⟨a, q⟩
theorem tT.bind {d : D Bool} {f : Bool → D β} {ps : β → PEnv} {Q : β → List V → Hp → Prop} (h : tZ P w K W es xs (dbind d f) σ H ps Q) :
    tT P w K W d σ H fun b H1 => tZ P w K W es xs (f b) σ H1 ps Q :=
  (h.bind fun _ => []).mono fun a vs H1 q => by
    obtain ⟨env, tm, τ, F, L, hl, R, q⟩ := q
    have hv : vs = [] := by
      have := R.tlen
      obtain ⟨env, tm, τ, F, L, hl', _⟩ := h
      simp at hl
      have h2 : vs.length = 0 := by omega
      exact List.length_eq_zero_iff.mp h2
    subst hv
    exact ⟨env, tm, τ, F, L, by simpa using hl, by simpa using R, q⟩
/-- an expression ends as another -/
theorem tE.out {d : D Sl} {Q : VK} (h : tE P w K W d σ H Q) : tZ P w K W [] [] d σ H (fun e => [e]) fun _ vs H' => ∀ v, vs = [v] → Q v H' := h
theorem tE.mono {d : D Sl} {Q Q' : VK} (h : tE P w K W d σ H Q) (q : ∀ v H', Q v H' → Q' v H') : tE P w K W d σ H Q' := tZ.mono h fun _ _ H' k v e => q v H' (k v e)
theorem tAr.mono {d : D PEnv} {Q Q' : List V → Hp → Prop} (h : tAr P w K W d σ H Q) (q : ∀ v H', Q v H' → Q' v H') : tAr P w K W d σ H Q' := tZ.mono h fun _ _ H' k => q _ H' k
theorem tT.mono {d : D Bool} {Q Q' : Bool → Hp → Prop} (h : tT P w K W d σ H Q) (q : ∀ v H', Q v H' → Q' v H') : tT P w K W d σ H Q' := tZ.mono h fun _ _ H' k => q _ H' k
end

theorem PEimp {X : Cx} {e : Expr} {t t' : TE} (h : PE X e t) (k : ∀ σ H Q, t' σ H Q → t σ H Q) : PE X e t' := ⟨fun pins s σ H Q I q => h.run pins s σ H Q I (k σ H Q q)⟩
theorem PTimp {X : Cx} {e : Expr} {t t' : TT} (h : PT X e t) (k : ∀ σ H Q, t' σ H Q → t σ H Q) : PT X e t' := ⟨fun pins s σ H Q I q => h.run pins s σ H Q I (k σ H Q q)⟩
theorem PAimp {X : Cx} {e : List Expr} {t t' : TA} (h : PA X e t) (k : ∀ σ H Q, t' σ H Q → t σ H Q) : PA X e t' := ⟨fun pos pins s σ H Q I q => h.run pos pins s σ H Q I (k σ H Q q)⟩

/-- the expression e does d -/
abbrev EV (X : Cx) (W : WX) (e : Expr) (d : D Sl) : Prop := PE X e (tE X.prog X.w X.K W d)
abbrev TV (X : Cx) (W : WX) (e : Expr) (d : D Bool) : Prop := PT X e (tT X.prog X.w X.K W d)
abbrev AV (X : Cx) (W : WX) (es : List Expr) (d : D PEnv) : Prop := PA X es (tAr X.prog X.w X.K W d)

/-! ### names, constants -/
def dname (i : Nat) : D Sl := fun env => match env[i]? with
  | some (.val pv) => if pv.fz = true then .ok (.val pv) env else .ok (.al i []) env
  | some (.al j (k :: p)) => .ok (.al j (k :: p)) env
  | _ => .no
def dcon (pv : PV) : D Sl := dpure (.val pv)

section
variable {X : Cx} {W : WX}
theorem ev_name {i : Nat} {x : Str} {pos : Pos} (hN : X.N[i]? = some x) (hv : Vis X.env.scope x) (hd : (x == ("__debug__" : Str)) = false := by decide) (hcd : (x == ("__classdict__" : Str)) = false := by decide) :
    EV X W (.Name x pos) (dname i) := PEimp (pe_var hN hv hd hcd) fun σ H Q ⟨env, tm, τ, F, L, _, R, h⟩ => by
  unfold dname at h
  cases e : env[i]? with
  | none => rw [e] at h; exact h.elim
  | some sl =>
    rw [e] at h
    cases sl with
    | un => exact h.elim
    | val pv =>
      obtain ⟨v, hv, hr⟩ := R.slot i _ e (by simp)
      refine ⟨v, hv, ?_⟩
      dsimp only at h
      by_cases hz : pv.fz = true
      · rw [if_pos hz] at h
        exact h [v] F H L rfl (Same.refl F) (by simpa using (R.push (e := .val pv) (v := v) (RepO.ofF (RepO.toF hz hr)))) v rfl
      · rw [if_neg hz] at h
        have hpu : Ent X.prog X.w X.K env F H L (2 * (tm ++ []).length + 1) (.al i []) v := fun q hq => by
          obtain ⟨pv', e1, e2, _⟩ := look_some hq
          rw [e] at e1
          cases e1
          rw [PV.at] at e2
          cases e2
          exact hr
        exact h [v] F H L rfl (Same.refl F) (by simpa using R.push hpu fun j q ej _ => by cases ej; exact hv) v rfl
    | al j p =>
      cases p with
      | nil => exact h.elim
      | cons k p =>
      obtain ⟨v, hv, hr⟩ := R.slot i _ e (by simp)
      exact ⟨v, hv, h [v] F H L rfl (Same.refl F) (by simpa using (R.push (e := .al j (k :: p)) (v := v) hr (fun j' q ej _ => by cases ej))) v rfl⟩
theorem ev_con {e : Expr} {v : V} {pv : PV} (h : PE X e (tC v)) (r : ∀ F, RepF X.prog X.w X.K F pv v) : EV X W e (dcon pv) := PEimp h fun σ H Q ⟨env, tm, τ, F, L, _, R, h⟩ =>
  h [v] F H L rfl (Same.refl F) (by simpa using R.pushF (r F)) v rfl
theorem ev_int {i j pos} : EV X W (.Constant (.int i) j pos) (dcon (.int i)) := ev_con pe_int fun _ => rfl
theorem ev_bl {b j pos} : EV X W (.Constant (.bool b) j pos) (dcon (.bl b)) := ev_con pe_bl fun _ => rfl
theorem ev_non {j pos} : EV X W (.Constant .none j pos) (dcon .non) := ev_con pe_non fun _ => rfl
theorem ev_str {x j pos} : EV X W (.Constant (.str x) j pos) (dcon (.str x)) := ev_con pe_str fun _ => rfl
/-- a module's name that holds a constant -/
theorem ev_glob {x : Str} {v : V} {u : Value} {pv : PV} {pos : Pos} (hg : Gl X x) (hm : X.mg x = some u) (r : RelV v u) (rp : ∀ F, RepF X.prog X.w X.K F pv v) (hd : (x == ("__debug__" : Str)) = false := by decide) : EV X W (.Name x pos) (dcon pv) :=
  ev_con (pe_glob hg hm r hd) rp
theorem ev_bltn {x : Str} {n : String} {pos : Pos} (hg : Gl X x) (hm : X.mg x = none) (hv : bootBuiltins x = some (.type n)) (hn : x ≠ "__name__" := by decide) (hd : (x == ("__debug__" : Str)) = false := by decide) : EV X W (.Name x pos) (dcon (.ty n)) :=
  ev_con (v := .ty n) (pe_bltn hg hm hv rfl hn hd) fun _ => rfl

/-! ### arguments -/
def dnil : D PEnv := dpure []
def dcons (d : D Sl) (r : D PEnv) : D PEnv := dbind d fun e => dbind r fun es => dpure (e :: es)
theorem av_nil : AV X W [] dnil := PAimp pa_nil fun σ H Q ⟨env, tm, τ, F, L, _, R, h⟩ => h [] F H L rfl (Same.refl F) R
theorem av_cons {e : Expr} {es : List Expr} {d : D Sl} {r : D PEnv} (h1 : EV X W e d) (h2 : AV X W es r) (hs : starEach (e :: es) X.env = (false, eval e X.env) :: starEach es X.env := by rfl) : AV X W (e :: es) (dcons d r) :=
  PAimp (pa_cons h1 h2 hs) fun σ H Q h => by
    refine (tE.bind (es := []) (xs := []) h).mono fun v H1 ⟨e, q⟩ => (tAr.bind q).mono fun vs H2 ⟨es', q2⟩ => ?_
    obtain ⟨env, tm, τ, F, L, hl, R, h⟩ := q2
    exact h (v :: vs) F H2 L (by simpa using hl) (Same.refl F) (by simpa using R)

/-! ### operators by values -/
/-- a rule at two values, as trees -/
def rI2 (P : Program) (w : World) (K : PySem.W.Frag) (W : WX) (f : Sl → Sl → D Sl) : R2 := fun x y H Q => ∃ σ a b, tZ P w K W [a, b] [x, y] (f a b) σ H (fun e => [e]) fun _ vs H' => ∀ v, vs = [v] → Q v H'
def rI1 (P : Program) (w : World) (K : PySem.W.Frag) (W : WX) (f : Sl → D Sl) : V → Hp → VK → Prop := fun x H Q => ∃ σ a, tZ P w K W [a] [x] (f a) σ H (fun e => [e]) fun _ vs H' => ∀ v, vs = [v] → Q v H'
def rIn_ (P : Program) (w : World) (K : PySem.W.Frag) (W : WX) (f : PEnv → D Sl) : List V → Hp → VK → Prop := fun xs H Q => ∃ σ es, tZ P w K W es xs (f es) σ H (fun e => [e]) fun _ vs H' => ∀ v, vs = [v] → Q v H'
abbrev OpI (X : Cx) (W : WX) (op : Value → Value → Sem Value) (f : Sl → Sl → D Sl) : Prop := OpR X op (rI2 X.prog X.w X.K W f)
def dop (f : Sl → Sl → D Sl) (a b : D Sl) : D Sl := dbind a fun x => dbind b fun y => f x y
def dun (f : Sl → D Sl) (a : D Sl) : D Sl := dbind a f
def dcall (f : PEnv → D Sl) (a : D PEnv) : D Sl := dbind a f
variable {a b c : Expr} {da db dc : D Sl} {pos : Pos} {f g : Sl → Sl → D Sl}
theorem ev_op {op : Operator} (ho : OpI X W (binaryOp op) f) (ha : EV X W a da) (hb : EV X W b db) : EV X W (.BinOp a op b pos) (dop f da db) :=
  PEimp (pe_op ho ha hb) fun σ H Q h => (tE.bind (es := []) (xs := []) h).mono fun v H1 ⟨e, q⟩ => (tE.bind q).mono fun u H2 ⟨e2, q2⟩ => ⟨σ, e, e2, q2⟩
theorem ev_un {op : UnaryOp} {f1 : Sl → D Sl} (ho : UnR X (unaryOp op) (rI1 X.prog X.w X.K W f1)) (ha : EV X W a da) : EV X W (.UnaryOp op a pos) (dun f1 da) :=
  PEimp (pe_un ho ha) fun σ H Q h => (tE.bind (es := []) (xs := []) h).mono fun v H1 ⟨e, q⟩ => ⟨σ, e, q⟩
theorem ev_cmp {op : CmpOp} (ho : OpI X W (compareOp op) f) (hm : behindInMarks op b = false) (ha : EV X W a da) (hb : EV X W b db) : EV X W (.Compare a [op] [b] pos) (dop f da db) :=
  PEimp (pe_cmpR ho ha hb hm) fun σ H Q h => (tE.bind (es := []) (xs := []) h).mono fun v H1 ⟨e, q⟩ => (tE.bind q).mono fun u H2 ⟨e2, q2⟩ => ⟨σ, e, e2, q2⟩
end
end Pv
namespace Pv
open PySem PySem.Spec PyProof.Rows L2

/-- where a body stands: nothing is handled, there is room, nothing is being shown -/
structure Good (X : Cx) : Prop where
  calm : X.calm = true
  un : X.A.units + 200 < cLine
  gd : X.A.guards = some []
  nd : X.N.Nodup

section
variable (P : Program) (w : World) (K : PySem.W.Frag)
def ReA (F H : Hp) (L : Lab) : List PV → List V → Prop
  | [], xs => xs = []
  | p :: ps, xs => ∃ v r, xs = v :: r ∧ (∃ q, RepO P w K F H L q p v) ∧ ReA F H L ps r
/-- a result: known, or a new list, or a new tuple -/
def Res (F H : Hp) (r : PV) (v : V) (H' : Hp) : Prop :=
  (H' = H ∧ RepF P w K F r v) ∨
  (∃ a vs xs, H a = none ∧ v = .ref a ∧ H' = upd H a (.lst vs) ∧ r = .lst true xs ∧ RepFs P w K F xs vs) ∨
  (∃ a vs xs, H a = none ∧ v = .ref a ∧ H' = upd H a (.tup vs) ∧ r = .tup xs ∧ RepFs P w K F xs vs)
end
def conts (env : PEnv) : PEnv → Option (List PV)
  | [] => some []
  | e :: es => match cont env e, conts env es with
    | some p, some ps => some (p :: ps)
    | _, _ => none
def dfn (g : List PV → Option PV) (es : PEnv) : D Sl := fun env => match conts env es with
  | some ps => match g ps with
    | some r => .ok (.val r) env
    | none => .no
  | none => .no
structure Rule (X : Cx) (f : List Value → Sem Value) (g : List PV → Option PV) : Prop where
  run : ∀ (pins : List (Addr × Obj)) (s : Shared) (σ : L2.St) (H : Hp) (xs : List V) (us : List Value) (Q : VK) (F : Hp) (L : Lab) (ps : List PV) (r : PV), Inv X pins σ H s → Vals xs us → Same F H → ReA X.prog X.w X.K F H L ps xs → g ps = some r →
    (∀ v H', Res X.prog X.w X.K F H r v H' → Q v H') → wpAny (model X.prog X.w) X.A (f us) (EP X pins σ Q) X.xe s

section
variable {P : Program} {w : World} {K : PySem.W.Frag} {F F' H H' : Hp} {L L' : Lab} {env env' tm tm' : PEnv} {σ σ' : L2.St} {τ τ' : List V}
theorem conts_rep : ∀ {es tm : PEnv} {xs τ : List V} {ps : List PV}, Rel P w K env (tm ++ es) σ (τ ++ xs) F H L → es.length = xs.length → conts env es = some ps → ReA P w K F H L ps xs
  | [], tm, xs, τ, ps, R, hl, h => by
    cases h
    exact List.length_eq_zero_iff.mp hl.symm
  | e :: es, tm, [], τ, ps, R, hl, h => by simp at hl
  | e :: es, tm, x :: xs, τ, ps, R, hl, h => by
    unfold conts at h
    cases e1 : cont env e with
    | none => rw [e1] at h; cases h
    | some p =>
      cases e2 : conts env es with
      | none => rw [e1, e2] at h; cases h
      | some ps' =>
        rw [e1, e2] at h
        cases h
        have hl' : es.length = xs.length := by simpa using hl
        have R2 : Rel P w K env ((tm ++ [e]) ++ es) σ ((τ ++ [x]) ++ xs) F H L := by simpa using R
        exact ⟨x, xs, rfl, (R2.popN hl').top.rep e1, conts_rep R2 hl' e2⟩
theorem Rel.res {r : PV} {v : V} (R : Rel P w K env tm σ τ F H L) (h : Res P w K F H r v H') : ∃ F' L', Same F F' ∧ Rel P w K env (tm ++ [.val r]) σ (τ ++ [v]) F' H' L' := by
  rcases h with ⟨rfl, h⟩ | ⟨a, vs, xs, hn, rfl, rfl, rfl, h⟩ | ⟨a, vs, xs, hn, rfl, rfl, rfl, h⟩
  · exact ⟨F, L, Same.refl F, R.pushF h⟩
  · exact ⟨F, _, Same.refl F, R.newL hn h⟩
  · obtain ⟨R', k⟩ := R.newT hn h
    exact ⟨_, L, k, R'⟩
end

section
variable {X : Cx} {W : WX}
/-- a rule, as an operation on entries (others, pre, stand below them) -/
theorem Rule.useP {f : List Value → Sem Value} {g : List PV → Option PV} (h : Rule X f g) {pins : List (Addr × Obj)} {s : Shared} {σ σ0 : L2.St} {H : Hp} {px xs : List V} {us : List Value} {Q : VK} {pre es : PEnv}
    (I : Inv X pins σ H s) (r : Vals xs us) (hl2 : es.length = xs.length) (q : tZ X.prog X.w X.K W (pre ++ es) (px ++ xs) (dfn g es) σ0 H (fun e => [e]) fun _ vs H' => ∀ v, vs = [v] → Q v H') :
    wpAny (model X.prog X.w) X.A (f us) (EP X pins σ Q) X.xe s := by
  obtain ⟨env, tm, τ, F, L, hl, R, q⟩ := q
  unfold dfn at q
  have hlp : pre.length = px.length := by simp at hl; omega
  cases e1 : conts env es with
  | none => rw [e1] at q; exact q.elim
  | some ps =>
    rw [e1] at q
    dsimp only at q
    cases e2 : g ps with
    | none => rw [e2] at q; exact q.elim
    | some y =>
      rw [e2] at q
      refine h.run pins s σ H xs us Q F L ps y I r R.fle (conts_rep (tm := tm ++ pre) (τ := τ ++ px) (by simpa using R) hl2 e1) e2 fun v H' hres => ?_
      obtain ⟨F', L', k, R'⟩ := (R.popN hl).res hres
      exact q [v] F' H' L' rfl k R' v rfl
theorem Rule.use {f : List Value → Sem Value} {g : List PV → Option PV} (h : Rule X f g) {pins : List (Addr × Obj)} {s : Shared} {σ σ0 : L2.St} {H : Hp} {xs : List V} {us : List Value} {Q : VK} {es : PEnv}
    (I : Inv X pins σ H s) (r : Vals xs us) (q : tZ X.prog X.w X.K W es xs (dfn g es) σ0 H (fun e => [e]) fun _ vs H' => ∀ v, vs = [v] → Q v H') :
    wpAny (model X.prog X.w) X.A (f us) (EP X pins σ Q) X.xe s := by
  have hl : es.length = xs.length := by obtain ⟨_, _, _, _, _, hl, _⟩ := id q; exact hl
  exact h.useP (pre := []) (px := []) I r hl q
theorem Rule.op {op : Value → Value → Sem Value} {g : List PV → Option PV} (h : Rule X (fun us => op (us.getD 0 .none) (us.getD 1 .none)) g) : OpI X W op fun a b => dfn g [a, b] :=
  fun pins s σ H x y v u Q I rx ry ⟨σ0, a, b, q⟩ => h.use (us := [v, u]) I (.cons rx (.cons ry .nil)) q
theorem Rule.un {op : Value → Sem Value} {g : List PV → Option PV} (h : Rule X (fun us => op (us.getD 0 .none)) g) : UnR X op (rI1 X.prog X.w X.K W fun a => dfn g [a]) :=
  fun pins s σ H x v Q I rx ⟨σ0, a, q⟩ => h.use (us := [v]) I (.cons rx .nil) q
theorem Rule.call {f : Value} {g : List PV → Option PV} (h : Rule X (fun us => call f us) g) : CallR X f (rIn_ X.prog X.w X.K W (dfn g)) :=
  fun pins s σ H xs us Q I r ⟨σ0, es, q⟩ => h.use I r q
theorem Rule.or {f : List Value → Sem Value} {g g' : List PV → Option PV} (h : Rule X f g) (h' : Rule X f g') : Rule X f (fun ps => match g ps with | some r => some r | none => g' ps) :=
  ⟨fun pins s σ H xs us Q F L ps r I hv k hr hg q => by
    cases e : g ps with
    | some y =>
      rw [e] at hg
      exact h.run pins s σ H xs us Q F L ps r I hv k hr (by rw [e]; exact hg) q
    | none =>
      rw [e] at hg
      exact h'.run pins s σ H xs us Q F L ps r I hv k hr hg q⟩
end

/-! ### reading a tree -/
section
variable {P : Program} {w : World} {K : PySem.W.Frag} {F H : Hp} {L : Lab} {q : Path} {v : V}
theorem ReA.one {p : PV} {xs : List V} (h : ReA P w K F H L [p] xs) : ∃ v q, xs = [v] ∧ RepO P w K F H L q p v := by
  obtain ⟨v, r, rfl, ⟨q, hq⟩, hr⟩ := h
  exact ⟨v, q, by rw [show r = [] from hr], hq⟩
theorem ReA.two {p p' : PV} {xs : List V} (h : ReA P w K F H L [p, p'] xs) : ∃ v q v' q', xs = [v, v'] ∧ RepO P w K F H L q p v ∧ RepO P w K F H L q' p' v' := by
  obtain ⟨v, r, rfl, ⟨q, hq⟩, hr⟩ := h
  obtain ⟨v', q', rfl, hq'⟩ := ReA.one hr
  exact ⟨v, q, v', q', rfl, hq, hq'⟩
theorem RepO.asL {o : Bool} {xs : List PV} (k : Same F H) (h : RepO P w K F H L q (.lst o xs) v) : ∃ a vs, v = .ref a ∧ H a = some (.lst vs) ∧ xs.length = vs.length ∧ (PV.fzs xs = true → RepFs P w K F xs vs) := by
  cases o with
  | true =>
    rw [RepO] at h
    obtain ⟨a, vs, e, _, hh, r⟩ := h
    exact ⟨a, vs, e, hh, r.length, fun hz => RepOs.toF hz r⟩
  | false =>
    rw [RepO, RepF] at h
    obtain ⟨_, a, vs, e, hh, r⟩ := h
    exact ⟨a, vs, e, k _ _ hh, r.length, fun _ => r⟩
theorem RepO.asT {xs : List PV} (k : Same F H) (h : RepO P w K F H L q (.tup xs) v) : ∃ a vs, v = .ref a ∧ SqT K H a vs ∧ RepFs P w K F xs vs ∧ SqT K F a vs := by
  rw [RepO, RepF] at h
  obtain ⟨a, vs, e, hh, r⟩ := h
  exact ⟨a, vs, e, SqT.mono k hh, r, hh⟩
theorem RepO.fzF {x : PV} (hz : x.fz = true) (h : RepO P w K F H L q x v) : RepF P w K F x v := RepO.toF hz h
end

/-! ### data -/
mutual
def pd : PV → Option PyData
  | .non => some .none
  | .bl b => some (.bool b)
  | .int i => some (.int i)
  | .str s => some (.str s)
  | .tup xs => match pds xs with | some ds => some (.tuple ds) | none => none
  | .lst _ xs => match pds xs with | some ds => some (.list ds) | none => none
  | _ => none
def pds : List PV → Option (List PyData)
  | [] => some []
  | x :: xs => match pd x, pds xs with
    | some d, some ds => some (d :: ds)
    | _, _ => none
end
section
variable {P : Program} {w : World} {K : PySem.W.Frag} {F H : Hp} {L : Lab}
mutual
theorem RepF.dp (k : Same F H) : ∀ (x : PV) (v : V) (d : PyData), RepF P w K F x v → pd x = some d → Dp K H v d
  | .tup xs, v, d, h, e => by
    rw [RepF] at h
    rw [pd] at e
    obtain ⟨a, vs, rfl, s, r⟩ := h
    split at e
    · rename_i ds e2
      cases e
      exact .tup (SqT.mono k s) (RepFs.dp k xs vs ds r e2)
    · cases e
  | .lst o xs, v, d, h, e => by
    rw [RepF] at h
    rw [pd] at e
    obtain ⟨_, a, vs, rfl, s, r⟩ := h
    split at e
    · rename_i ds e2
      cases e
      exact .lst (SqL.of (k _ _ s)) (RepFs.dp k xs vs ds r e2)
    · cases e
  | .dct .., v, d, h, e => by rw [pd] at e; cases e; all_goals simp
  | .frl _, v, d, h, e => by rw [pd] at e; cases e; all_goals simp
  | .ref _, v, d, h, e => by rw [pd] at e; cases e; all_goals simp
  | .ty _, v, d, h, e => by rw [pd] at e; cases e; all_goals simp
  | .non, v, d, h, e => by
    rw [pd] at e; cases e
    cases (show v = .non from h)
    exact .non
  | .bl b, v, d, h, e => by
    rw [pd] at e; cases e
    cases (show v = .bl b from h)
    exact .bl b
  | .int i, v, d, h, e => by
    rw [pd] at e; cases e
    cases (show v = .int i from h)
    exact .int i
  | .str z, v, d, h, e => by
    rw [pd] at e; cases e
    cases (show v = .str z from h)
    exact .str z
theorem RepFs.dp (k : Same F H) : ∀ (xs : List PV) (vs : List V) (ds : List PyData), RepFs P w K F xs vs → pds xs = some ds → DpAll K H vs ds
  | [], vs, ds, h, e => by
    rw [RepFs] at h
    rw [pds] at e
    cases e
    subst h
    exact .nil
  | x :: xs, vs, ds, h, e => by
    rw [RepFs] at h
    rw [pds] at e
    obtain ⟨v, r, rfl, h1, h2⟩ := h
    split at e
    · rename_i d ds' e1 e2
      cases e
      exact .cons (RepF.dp k x v d h1 e1) (RepFs.dp k xs r ds' h2 e2)
    · cases e
end
mutual
theorem RepO.dp (k : Same F H) : ∀ (x : PV) (q : Path) (v : V) (d : PyData), RepO P w K F H L q x v → pd x = some d → Dp K H v d
  | .lst true xs, q, v, d, h, e => by
    rw [RepO] at h
    rw [pd] at e
    obtain ⟨a, vs, rfl, _, s, r⟩ := h
    split at e
    · rename_i ds e2
      cases e
      exact .lst (SqL.of s) (RepOs.dp k xs q 0 vs ds r e2)
    · cases e
  | .lst false xs, q, v, d, h, e => by
    rw [RepO] at h
    exact RepF.dp k _ v d h e
  | .dct true ks xs, q, v, d, h, e => by rw [pd] at e; cases e; all_goals simp
  | .dct false ks xs, q, v, d, h, e => by rw [pd] at e; cases e; all_goals simp
  | .tup xs, q, v, d, h, e => by
    rw [RepO] at h
    exact RepF.dp k _ v d h e
  | .frl _, q, v, d, h, e => by rw [pd] at e; cases e; all_goals simp
  | .ref a, q, v, d, h, e => by rw [pd] at e; cases e; all_goals simp
  | .ty _, q, v, d, h, e => by rw [pd] at e; cases e; all_goals simp
  | .non, q, v, d, h, e => RepF.dp (P := P) (w := w) k .non v d h e
  | .bl b, q, v, d, h, e => RepF.dp (P := P) (w := w) k (.bl b) v d h e
  | .int i, q, v, d, h, e => RepF.dp (P := P) (w := w) k (.int i) v d h e
  | .str z, q, v, d, h, e => RepF.dp (P := P) (w := w) k (.str z) v d h e
theorem RepOs.dp (k : Same F H) : ∀ (xs : List PV) (q : Path) (i : Nat) (vs : List V) (ds : List PyData), RepOs P w K F H L q i xs vs → pds xs = some ds → DpAll K H vs ds
  | [], q, i, vs, ds, h, e => by
    rw [RepOs] at h
    rw [pds] at e
    cases e
    subst h
    exact .nil
  | x :: xs, q, i, vs, ds, h, e => by
    rw [RepOs] at h
    rw [pds] at e
    obtain ⟨v, r, rfl, h1, h2⟩ := h
    split at e
    · rename_i d ds' e1 e2
      cases e
      exact .cons (RepO.dp k x (q ++ [i]) v d h1 e1) (RepOs.dp k xs q (i + 1) r ds' h2 e2)
    · cases e
end
end
end Pv
namespace Pv
open PySem PySem.Spec PyProof.Rows L2

/-! ### what the operators do to trees -/
def gAdd : List PV → Option PV
  | [.int a, .int b] => some (.int (a + b))
  | [.tup xs, .tup ys] => if xs.length + ys.length ≤ 16777216 then some (.tup (xs ++ ys)) else none
  | [.lst _ xs, .lst _ ys] => if PV.fzs xs = true ∧ PV.fzs ys = true ∧ xs.length + ys.length ≤ 16777216 then some (.lst true (xs ++ ys)) else none
  | _ => none
def gSub : List PV → Option PV
  | [.int a, .int b] => some (.int (a - b))
  | _ => none
def mulOk (a b : Int) : Bool := decide (-(2 ^ 64) < a ∧ a < 2 ^ 64) || decide (-(2 ^ 64) < b ∧ b < 2 ^ 64) || decide (a.natAbs.log2 + b.natAbs.log2 < 1000000)
def gMul : List PV → Option PV
  | [.int a, .int b] => if mulOk a b = true then some (.int (a * b)) else none
  | [.lst true xs, .int k] => if PV.fzs xs = true ∧ -(2 ^ 63) ≤ k ∧ k < 2 ^ 63 ∧ xs.length * k.toNat ≤ 16777216 then some (.lst true (List.replicate k.toNat xs).flatten) else none
  | [.tup xs, .int k] => if xs ≠ [] ∧ 2 ≤ k ∧ k ≤ 1000 ∧ xs.length ≤ 1000 then some (.tup (List.replicate k.toNat xs).flatten) else none
  | _ => none
def gMod : List PV → Option PV
  | [.int a, .int b] => if 0 < b then some (.int (a % b)) else none
  | _ => none
def gDiv : List PV → Option PV
  | [.int a, .int b] => if 0 < b ∧ b.natAbs.log2 < 9000 then some (.int (a / b)) else none
  | _ => none
def gPow : List PV → Option PV
  | [.int a, .int b] => if 0 ≤ b ∧ b ≤ 1000000 ∧ a.natAbs < 2 ^ 64 then some (.int (a ^ b.toNat)) else none
  | _ => none
def gNeg : List PV → Option PV
  | [.int a] => some (.int (-a))
  | _ => none
def ndN : PyData → Bool
  | .none => false
  | _ => true
def cmpOk (x y : PyData) : Bool := PySem.W.alike x y && ndN x && decide (x.depth ≤ 60)
def gLt : List PV → Option PV
  | [.int a, .int b] => some (.bl (decide (a < b)))
  | [p, q] => match pd p, pd q with
    | some x, some y => if cmpOk x y = true then some (.bl (PySem.W.dataLt x y)) else none
    | _, _ => none
  | _ => none
def gGt : List PV → Option PV
  | [.int a, .int b] => some (.bl (decide (b < a)))
  | [p, q] => match pd p, pd q with
    | some x, some y => if cmpOk x y = true then some (.bl (PySem.W.dataLt y x)) else none
    | _, _ => none
  | _ => none
def gLe : List PV → Option PV
  | [.int a, .int b] => some (.bl (decide (a ≤ b)))
  | [p, q] => match pd p, pd q with
    | some x, some y => if cmpOk x y = true then some (.bl (!PySem.W.dataLt y x)) else none
    | _, _ => none
  | _ => none
def gGe : List PV → Option PV
  | [.int a, .int b] => some (.bl (decide (b ≤ a)))
  | [p, q] => match pd p, pd q with
    | some x, some y => if cmpOk x y = true then some (.bl (!PySem.W.dataLt x y)) else none
    | _, _ => none
  | _ => none
/-- ==, of data -/
def peq (p q : PV) : Option Bool := match pd p, pd q with
  | some x, some y => if SeqAt.shaped x = true ∧ SeqAt.shaped y = true then some (PyData.eqv x y) else none
  | _, _ => none
def gEq : List PV → Option PV
  | [p, q] => (peq p q).map .bl
  | _ => none
def gNe : List PV → Option PV
  | [p, q] => (peq p q).map fun b => .bl (!b)
  | _ => none
/-- x in a list or tuple -/
def pin (p : PV) (xs : List PV) : Option Bool := match pd p, pds xs with
  | some x, some ys => if SeqAt.shaped x = true ∧ SeqAt.shaped (.list ys) = true then some (ys.any fun z => PyData.eqv z x) else none
  | _, _ => none
def gIn : List PV → Option PV
  | [p, .lst _ xs] => (pin p xs).map .bl
  | [p, .tup xs] => (pin p xs).map .bl
  | _ => none
def gNotIn : List PV → Option PV
  | [p, .lst _ xs] => (pin p xs).map fun b => .bl (!b)
  | [p, .tup xs] => (pin p xs).map fun b => .bl (!b)
  | _ => none
def isN : PV → Bool
  | .non => true
  | _ => false
def gIs : List PV → Option PV
  | [x, .non] => some (.bl (isN x))
  | [.bl a, .bl b] => some (.bl (decide (a = b)))
  | _ => none
def gIsNot : List PV → Option PV
  | [x, .non] => some (.bl (!isN x))
  | [.bl a, .bl b] => some (.bl (!decide (a = b)))
  | _ => none

section
variable {X : Cx} {W : WX}
theorem mulOk_cases {a b : Int} (h : mulOk a b = true) : CMul a b ∨ CMulW a b := by
  unfold mulOk at h
  simp only [Bool.or_eq_true, decide_eq_true_eq] at h
  rcases h with (h | h) | h
  · exact .inl (.inl h)
  · exact .inl (.inr h)
  · exact .inr h
theorem sl24 : (16777216 : Nat) = sizeLine := by rw [sizeLine_eq]
theorem RepFs.nil_iff {P : Program} {w : World} {K : PySem.W.Frag} {F : Hp} {xs : List PV} {vs : List V} (h : RepFs P w K F xs vs) : xs = [] ↔ vs = [] := by
  have := h.length
  constructor
  · rintro rfl; exact List.length_eq_zero_iff.mp this.symm
  · rintro rfl; exact List.length_eq_zero_iff.mp this

theorem rule_add : Rule X (fun us => binaryOp .Add (us.getD 0 .none) (us.getD 1 .none)) gAdd := ⟨fun pins s σ H xs us Q F L ps r I hv k hr hg q => by
  unfold gAdd at hg
  split at hg
  · obtain ⟨v, q1, v', q2, rfl, h1, h2⟩ := hr.two
    cases hg
    cases (h1 : v = .int _)
    cases (h2 : v' = .int _)
    obtain ⟨u, u', rfl, r1, r2⟩ := vals2 hv
    exact op_add pins s σ H _ _ _ _ Q I r1 r2 ⟨_, _, rfl, rfl, q _ _ (.inl ⟨rfl, rfl⟩)⟩
  · rename_i xs' ys'
    obtain ⟨v, q1, v', q2, rfl, h1, h2⟩ := hr.two
    split at hg
    · rename_i hl
      cases hg
      obtain ⟨a, vs, rfl, s1, f1, g1⟩ := RepO.asT k h1
      obtain ⟨b, ws, rfl, s2, f2, g2⟩ := RepO.asT k h2
      obtain ⟨u, u', rfl, r1, r2⟩ := vals2 hv
      have l1 := f1.length
      have l2 := f2.length
      refine op_catA pins s σ H _ _ _ _ Q I r1 r2 ⟨a, b, vs, ws, rfl, rfl, s1, s2, by rw [← l1, ← l2, ← sl24]; exact hl, fun e => ?_, fun e e' => ?_, fun e e' p hp => ?_⟩
      · refine q _ _ (.inl ⟨rfl, ?_⟩)
        rw [f1.nil_iff.mpr e, List.nil_append, RepF]
        exact ⟨b, ws, rfl, g2, f2⟩
      · refine q _ _ (.inl ⟨rfl, ?_⟩)
        rw [f2.nil_iff.mpr e', List.append_nil, RepF]
        exact ⟨a, vs, rfl, g1, f1⟩
      · exact q _ _ (.inr (.inr ⟨p, _, _, hp, rfl, rfl, rfl, f1.append f2⟩))
    · cases hg
  · rename_i o1 xs' o2 ys'
    obtain ⟨v, q1, v', q2, rfl, h1, h2⟩ := hr.two
    split at hg
    · rename_i hl
      cases hg
      obtain ⟨hz1, hz2, hl⟩ := hl
      obtain ⟨u, u', rfl, r1, r2⟩ := vals2 hv
      obtain ⟨a, vs, rfl, s1, l1, f1⟩ := RepO.asL k h1
      obtain ⟨b, ws, rfl, s2, l2, f2⟩ := RepO.asL k h2
      exact op_cat pins s σ H _ _ _ _ Q I r1 r2 ⟨a, b, vs, ws, rfl, rfl, s1, s2, by rw [← l1, ← l2, ← sl24]; exact hl, fun p hp => q _ _ (.inr (.inl ⟨p, _, _, hp, rfl, rfl, rfl, (f1 hz1).append (f2 hz2)⟩))⟩
    · cases hg
  · cases hg⟩
theorem rule_sub : Rule X (fun us => binaryOp .Sub (us.getD 0 .none) (us.getD 1 .none)) gSub := ⟨fun pins s σ H xs us Q F L ps r I hv k hr hg q => by
  unfold gSub at hg
  split at hg
  · obtain ⟨v, q1, v', q2, rfl, h1, h2⟩ := hr.two
    cases hg
    cases (h1 : v = .int _)
    cases (h2 : v' = .int _)
    obtain ⟨u, u', rfl, r1, r2⟩ := vals2 hv
    exact op_sub pins s σ H _ _ _ _ Q I r1 r2 ⟨_, _, rfl, rfl, q _ _ (.inl ⟨rfl, rfl⟩)⟩
  · cases hg⟩
theorem RepFs.rep {P : Program} {w : World} {K : PySem.W.Frag} {F : Hp} {xs : List PV} {vs : List V} (h : RepFs P w K F xs vs) : ∀ n : Nat, RepFs P w K F (List.replicate n xs).flatten (List.replicate n vs).flatten
  | 0 => by simp [RepFs]
  | n + 1 => by
    rw [List.replicate_succ, List.replicate_succ, List.flatten_cons, List.flatten_cons]
    exact h.append (RepFs.rep h n)
theorem rule_mul : Rule X (fun us => binaryOp .Mult (us.getD 0 .none) (us.getD 1 .none)) gMul := ⟨fun pins s σ H xs us Q F L ps r I hv k hr hg q => by
  unfold gMul at hg
  split at hg
  · obtain ⟨v, q1, v', q2, rfl, h1, h2⟩ := hr.two
    split at hg
    · rename_i hm
      cases hg
      cases (h1 : v = .int _)
      cases (h2 : v' = .int _)
      obtain ⟨u, u', rfl, r1, r2⟩ := vals2 hv
      rcases mulOk_cases hm with c | c
      · exact op_mul pins s σ H _ _ _ _ Q I r1 r2 ⟨_, _, rfl, rfl, c, q _ _ (.inl ⟨rfl, rfl⟩)⟩
      · exact op_mulW pins s σ H _ _ _ _ Q I r1 r2 ⟨_, _, rfl, rfl, c, q _ _ (.inl ⟨rfl, rfl⟩)⟩
    · cases hg
  · rename_i xs' kk
    obtain ⟨v, q1, v', q2, rfl, h1, h2⟩ := hr.two
    split at hg
    · rename_i hl
      cases hg
      obtain ⟨hz1, hk1, hk2, hl⟩ := hl
      obtain ⟨u, u', rfl, r1, r2⟩ := vals2 hv
      cases (h2 : v' = .int _)
      obtain ⟨a, vs, rfl, s1, l1, f1⟩ := RepO.asL k h1
      exact op_rep pins s σ H _ _ _ _ Q I r1 r2 ⟨a, kk, vs, rfl, rfl, s1, hk1, hk2, by rw [← l1, ← sl24]; exact hl, fun p hp => q _ _ (.inr (.inl ⟨p, _, _, hp, rfl, rfl, rfl, (f1 hz1).rep _⟩))⟩
    · cases hg
  · rename_i xs' kk
    obtain ⟨v, q1, v', q2, rfl, h1, h2⟩ := hr.two
    split at hg
    · rename_i hl
      cases hg
      obtain ⟨hz1, hk1, hk2, hl⟩ := hl
      obtain ⟨u, u', rfl, r1, r2⟩ := vals2 hv
      cases (h2 : v' = .int _)
      obtain ⟨a, vs, rfl, s1, f1, g1⟩ := RepO.asT k h1
      exact op_repT pins s σ H _ _ _ _ Q I r1 r2 ⟨a, kk, vs, rfl, rfl, s1, fun e => hz1 (f1.nil_iff.mpr e), hk1, hk2, by rw [← f1.length]; exact hl, fun p hp => q _ _ (.inr (.inr ⟨p, _, _, hp, rfl, rfl, rfl, f1.rep _⟩))⟩
    · cases hg
  · cases hg⟩
theorem rule_mod : Rule X (fun us => binaryOp .Mod (us.getD 0 .none) (us.getD 1 .none)) gMod := ⟨fun pins s σ H xs us Q F L ps r I hv k hr hg q => by
  unfold gMod at hg
  split at hg
  · obtain ⟨v, q1, v', q2, rfl, h1, h2⟩ := hr.two
    split at hg
    · rename_i hm
      cases hg
      cases (h1 : v = .int _)
      cases (h2 : v' = .int _)
      obtain ⟨u, u', rfl, r1, r2⟩ := vals2 hv
      exact op_mod pins s σ H _ _ _ _ Q I r1 r2 ⟨_, _, rfl, rfl, hm, q _ _ (.inl ⟨rfl, rfl⟩)⟩
    · cases hg
  · cases hg⟩
theorem rule_div : Rule X (fun us => binaryOp .FloorDiv (us.getD 0 .none) (us.getD 1 .none)) gDiv := ⟨fun pins s σ H xs us Q F L ps r I hv k hr hg q => by
  unfold gDiv at hg
  split at hg
  · obtain ⟨v, q1, v', q2, rfl, h1, h2⟩ := hr.two
    split at hg
    · rename_i hm
      cases hg
      cases (h1 : v = .int _)
      cases (h2 : v' = .int _)
      obtain ⟨u, u', rfl, r1, r2⟩ := vals2 hv
      exact op_fdivW pins s σ H _ _ _ _ Q I r1 r2 ⟨_, _, rfl, rfl, hm, q _ _ (.inl ⟨rfl, rfl⟩)⟩
    · cases hg
  · cases hg⟩
theorem rule_pow : Rule X (fun us => binaryOp .Pow (us.getD 0 .none) (us.getD 1 .none)) gPow := ⟨fun pins s σ H xs us Q F L ps r I hv k hr hg q => by
  unfold gPow at hg
  split at hg
  · obtain ⟨v, q1, v', q2, rfl, h1, h2⟩ := hr.two
    split at hg
    · rename_i hm
      cases hg
      cases (h1 : v = .int _)
      cases (h2 : v' = .int _)
      obtain ⟨u, u', rfl, r1, r2⟩ := vals2 hv
      exact op_pow pins s σ H _ _ _ _ Q I r1 r2 ⟨_, _, rfl, rfl, hm, q _ _ (.inl ⟨rfl, rfl⟩)⟩
    · cases hg
  · cases hg⟩
theorem rule_neg : Rule X (fun us => unaryOp .USub (us.getD 0 .none)) gNeg := ⟨fun pins s σ H xs us Q F L ps r I hv k hr hg q => by
  unfold gNeg at hg
  split at hg
  · obtain ⟨v, q1, rfl, h1⟩ := hr.one
    cases hg
    cases (h1 : v = .int _)
    obtain ⟨u, rfl, r1⟩ := vals1 hv
    exact un_neg pins s σ H _ _ Q I r1 ⟨_, rfl, q _ _ (.inl ⟨rfl, rfl⟩)⟩
  · cases hg⟩

/-- two pieces of data at values -/
theorem two_reads {pins : List (Addr × Obj)} {s : Shared} {σ : L2.St} {F H : Hp} {L : Lab} {p q : PV} {xs : List V} {us : List Value} {x y : PyData} (I : Inv X pins σ H s) (k : Same F H) (hr : ReA X.prog X.w X.K F H L [p, q] xs) (hv : Vals xs us)
    (e1 : pd p = some x) (e2 : pd q = some y) : ∃ u u' as bs, us = [u, u'] ∧ Reads s.heap u x as ∧ Reads s.heap u' y bs := by
  obtain ⟨v, q1, v', q2, rfl, h1, h2⟩ := hr.two
  obtain ⟨u, u', rfl, r1, r2⟩ := vals2 hv
  obtain ⟨as, z1⟩ := Dp.reads I x v u (RepO.dp k p q1 v x h1 e1) r1
  obtain ⟨bs, z2⟩ := Dp.reads I y v' u' (RepO.dp k q q2 v' y h2 e2) r2
  exact ⟨u, u', as, bs, rfl, z1, z2⟩
theorem cmpOk_room (G : Good X) {x y : PyData} (h : cmpOk x y = true) : PySem.W.alike x y = true ∧ x ≠ .none ∧ X.A.units + min x.depth y.depth < cLine := by
  unfold cmpOk at h
  simp only [Bool.and_eq_true, decide_eq_true_eq] at h
  have := G.un
  refine ⟨h.1.1, fun e => ?_, ?_⟩
  · rw [e] at h
    exact absurd h.1.2 (by simp [ndN])
  · have := Nat.min_le_left x.depth y.depth
    omega
theorem rule_lt (G : Good X) : Rule X (fun us => compareOp .Lt (us.getD 0 .none) (us.getD 1 .none)) gLt := ⟨fun pins s σ H xs us Q F L ps r I hv k hr hg q => by
  unfold gLt at hg
  split at hg
  · obtain ⟨v, q1, v', q2, rfl, h1, h2⟩ := hr.two
    cases hg
    cases (h1 : v = .int _)
    cases (h2 : v' = .int _)
    obtain ⟨u, u', rfl, r1, r2⟩ := vals2 hv
    exact op_lt pins s σ H _ _ _ _ Q I r1 r2 ⟨_, _, rfl, rfl, q _ _ (.inl ⟨rfl, rfl⟩)⟩
  · split at hg
    · rename_i x y e1 e2
      split at hg
      · rename_i hc
        cases hg
        obtain ⟨h1, h2, h3⟩ := cmpOk_room G hc
        obtain ⟨u, u', as, bs, rfl, z1, z2⟩ := two_reads I k hr hv e1 e2
        exact PySem.W.lt_data z1 z2 h1 h2 h3 ⟨.bl _, H, I, rfl, q (.bl _) _ (.inl ⟨rfl, rfl⟩)⟩
      · cases hg
    · cases hg
  · cases hg⟩
theorem rule_gt (G : Good X) : Rule X (fun us => compareOp .Gt (us.getD 0 .none) (us.getD 1 .none)) gGt := ⟨fun pins s σ H xs us Q F L ps r I hv k hr hg q => by
  unfold gGt at hg
  split at hg
  · obtain ⟨v, q1, v', q2, rfl, h1, h2⟩ := hr.two
    cases hg
    cases (h1 : v = .int _)
    cases (h2 : v' = .int _)
    obtain ⟨u, u', rfl, r1, r2⟩ := vals2 hv
    exact op_gt pins s σ H _ _ _ _ Q I r1 r2 ⟨_, _, rfl, rfl, q _ _ (.inl ⟨rfl, rfl⟩)⟩
  · split at hg
    · rename_i x y e1 e2
      split at hg
      · rename_i hc
        cases hg
        obtain ⟨h1, h2, h3⟩ := cmpOk_room G hc
        obtain ⟨u, u', as, bs, rfl, z1, z2⟩ := two_reads I k hr hv e1 e2
        exact PySem.W.gt_data z1 z2 h1 h2 h3 ⟨.bl _, H, I, rfl, q (.bl _) _ (.inl ⟨rfl, rfl⟩)⟩
      · cases hg
    · cases hg
  · cases hg⟩
theorem rule_le (G : Good X) : Rule X (fun us => compareOp .LtE (us.getD 0 .none) (us.getD 1 .none)) gLe := ⟨fun pins s σ H xs us Q F L ps r I hv k hr hg q => by
  unfold gLe at hg
  split at hg
  · obtain ⟨v, q1, v', q2, rfl, h1, h2⟩ := hr.two
    cases hg
    cases (h1 : v = .int _)
    cases (h2 : v' = .int _)
    obtain ⟨u, u', rfl, r1, r2⟩ := vals2 hv
    exact op_le pins s σ H _ _ _ _ Q I r1 r2 ⟨_, _, rfl, rfl, q _ _ (.inl ⟨rfl, rfl⟩)⟩
  · split at hg
    · rename_i x y e1 e2
      split at hg
      · rename_i hc
        cases hg
        obtain ⟨h1, h2, h3⟩ := cmpOk_room G hc
        obtain ⟨u, u', as, bs, rfl, z1, z2⟩ := two_reads I k hr hv e1 e2
        exact PySem.W.le_data z1 z2 h1 h2 h3 ⟨.bl _, H, I, rfl, q (.bl _) _ (.inl ⟨rfl, rfl⟩)⟩
      · cases hg
    · cases hg
  · cases hg⟩
theorem rule_ge (G : Good X) : Rule X (fun us => compareOp .GtE (us.getD 0 .none) (us.getD 1 .none)) gGe := ⟨fun pins s σ H xs us Q F L ps r I hv k hr hg q => by
  unfold gGe at hg
  split at hg
  · obtain ⟨v, q1, v', q2, rfl, h1, h2⟩ := hr.two
    cases hg
    cases (h1 : v = .int _)
    cases (h2 : v' = .int _)
    obtain ⟨u, u', rfl, r1, r2⟩ := vals2 hv
    exact op_ge pins s σ H _ _ _ _ Q I r1 r2 ⟨_, _, rfl, rfl, q _ _ (.inl ⟨rfl, rfl⟩)⟩
  · split at hg
    · rename_i x y e1 e2
      split at hg
      · rename_i hc
        cases hg
        obtain ⟨h1, h2, h3⟩ := cmpOk_room G hc
        obtain ⟨u, u', as, bs, rfl, z1, z2⟩ := two_reads I k hr hv e1 e2
        exact PySem.W.ge_data z1 z2 h1 h2 h3 ⟨.bl _, H, I, rfl, q (.bl _) _ (.inl ⟨rfl, rfl⟩)⟩
      · cases hg
    · cases hg
  · cases hg⟩
theorem Good.u64 (G : Good X) : X.A.units + 64 < cLine := by have := G.un; omega
theorem Good.u65 (G : Good X) : X.A.units + 65 < cLine := by have := G.un; omega
theorem rule_eq (G : Good X) : Rule X (fun us => compareOp .Eq (us.getD 0 .none) (us.getD 1 .none)) gEq := ⟨fun pins s σ H xs us Q F L ps r I hv k hr hg q => by
  unfold gEq at hg
  split at hg
  · unfold peq at hg
    split at hg
    · rename_i x y e1 e2
      split at hg
      · rename_i hc
        cases hg
        obtain ⟨u, u', as, bs, rfl, z1, z2⟩ := two_reads I k hr hv e1 e2
        exact SeqAt.compareEq_shaped z1 z2 hc.1 hc.2 G.u64 ⟨.bl _, H, I, rfl, q (.bl _) _ (.inl ⟨rfl, rfl⟩)⟩
      · cases hg
    · cases hg
  · cases hg⟩
theorem rule_ne (G : Good X) : Rule X (fun us => compareOp .NotEq (us.getD 0 .none) (us.getD 1 .none)) gNe := ⟨fun pins s σ H xs us Q F L ps r I hv k hr hg q => by
  unfold gNe at hg
  split at hg
  · unfold peq at hg
    split at hg
    · rename_i x y e1 e2
      split at hg
      · rename_i hc
        cases hg
        obtain ⟨u, u', as, bs, rfl, z1, z2⟩ := two_reads I k hr hv e1 e2
        exact SeqAt.compareNe_shaped z1 z2 hc.1 hc.2 G.u64 ⟨.bl _, H, I, rfl, q (.bl _) _ (.inl ⟨rfl, rfl⟩)⟩
      · cases hg
    · cases hg
  · cases hg⟩
theorem pd_lst {o : Bool} {xs : List PV} {ys : List PyData} (h : pds xs = some ys) : pd (.lst o xs) = some (.list ys) := by rw [pd, h]
theorem pd_tup {xs : List PV} {ys : List PyData} (h : pds xs = some ys) : pd (.tup xs) = some (.tuple ys) := by rw [pd, h]
theorem shaped_tl {ys : List PyData} (h : SeqAt.shaped (.list ys) = true) : PyData.canLayAll0 ys = true := SeqAt.canLay_of_shaped h
theorem rule_in (G : Good X) : Rule X (fun us => compareOp .In (us.getD 0 .none) (us.getD 1 .none)) gIn := ⟨fun pins s σ H xs us Q F L ps r I hv k hr hg q => by
  unfold gIn at hg
  split at hg
  · unfold pin at hg
    split at hg
    · rename_i x y e1 e2
      split at hg
      · rename_i hc
        cases hg
        obtain ⟨u, u', as, bs, rfl, z1, z2⟩ := two_reads I k hr hv e1 (pd_lst e2)
        exact SeqAt.in_list_reads z2 z1 (SeqAt.canLay_of_shaped hc.2) (SeqAt.canLay_of_shaped hc.1) (room_in_shaped hc.1 G.u65) ⟨.bl _, H, I, rfl, q (.bl _) _ (.inl ⟨rfl, rfl⟩)⟩
      · cases hg
    · cases hg
  · unfold pin at hg
    split at hg
    · rename_i x y e1 e2
      split at hg
      · rename_i hc
        cases hg
        obtain ⟨u, u', as, bs, rfl, z1, z2⟩ := two_reads I k hr hv e1 (pd_tup e2)
        exact SeqAt.in_tuple_reads z2 z1 (shaped_tl hc.2) (SeqAt.canLay_of_shaped hc.1) (room_in_shaped hc.1 G.u65) ⟨.bl _, H, I, rfl, q (.bl _) _ (.inl ⟨rfl, rfl⟩)⟩
      · cases hg
    · cases hg
  · cases hg⟩
theorem rule_notIn (G : Good X) : Rule X (fun us => compareOp .NotIn (us.getD 0 .none) (us.getD 1 .none)) gNotIn := ⟨fun pins s σ H xs us Q F L ps r I hv k hr hg q => by
  unfold gNotIn at hg
  split at hg
  · unfold pin at hg
    split at hg
    · rename_i x y e1 e2
      split at hg
      · rename_i hc
        cases hg
        obtain ⟨u, u', as, bs, rfl, z1, z2⟩ := two_reads I k hr hv e1 (pd_lst e2)
        exact SeqAt.notIn_list_reads z2 z1 (SeqAt.canLay_of_shaped hc.2) (SeqAt.canLay_of_shaped hc.1) (room_in_shaped hc.1 G.u65) ⟨.bl _, H, I, rfl, q (.bl _) _ (.inl ⟨rfl, rfl⟩)⟩
      · cases hg
    · cases hg
  · unfold pin at hg
    split at hg
    · rename_i x y e1 e2
      split at hg
      · rename_i hc
        cases hg
        obtain ⟨u, u', as, bs, rfl, z1, z2⟩ := two_reads I k hr hv e1 (pd_tup e2)
        exact SeqAt.notIn_tuple_reads z2 z1 (shaped_tl hc.2) (SeqAt.canLay_of_shaped hc.1) (room_in_shaped hc.1 G.u65) ⟨.bl _, H, I, rfl, q (.bl _) _ (.inl ⟨rfl, rfl⟩)⟩
      · cases hg
    · cases hg
  · cases hg⟩
theorem RepO.isN {P : Program} {w : World} {K : PySem.W.Frag} {F H : Hp} {L : Lab} {q : Path} {v : V} : ∀ {x : PV}, RepO P w K F H L q x v → decide (v = .non) = isN x
  | .non, h => by cases (show v = .non from h); rfl
  | .bl _, h => by cases (show v = .bl _ from h); rfl
  | .int _, h => by cases (show v = .int _ from h); rfl
  | .str _, h => by cases (show v = .str _ from h); rfl
  | .ref _, h => by cases (show v = .ref _ from h); rfl
  | .ty _, h => by cases (show v = .ty _ from h); rfl
  | .tup _, h => by
    rw [RepO, RepF] at h
    obtain ⟨a, vs, rfl, _⟩ := h
    rfl
  | .frl _, h => by
    rw [RepO, RepF] at h
    obtain ⟨a, vs, rfl, _⟩ := h
    rfl
  | .lst true _, h => by
    rw [RepO] at h
    obtain ⟨a, vs, rfl, _⟩ := h
    rfl
  | .lst false _, h => by
    rw [RepO, RepF] at h
    obtain ⟨_, a, vs, rfl, _⟩ := h
    rfl
  | .dct true _ _, h => by
    rw [RepO] at h
    obtain ⟨a, _, vs, rfl, _⟩ := h
    rfl
  | .dct false _ _, h => by
    rw [RepO, RepF] at h
    obtain ⟨_, a, _, vs, rfl, _⟩ := h
    rfl
theorem rule_is : Rule X (fun us => compareOp .Is (us.getD 0 .none) (us.getD 1 .none)) gIs := ⟨fun pins s σ H xs us Q F L ps r I hv k hr hg q => by
  unfold gIs at hg
  split at hg
  · obtain ⟨v, q1, v', q2, rfl, h1, h2⟩ := hr.two
    cases hg
    cases (h2 : v' = .non)
    obtain ⟨u, u', rfl, r1, r2⟩ := vals2 hv
    refine op_isN pins s σ H _ _ _ _ Q I r1 r2 ⟨rfl, ?_⟩
    rw [h1.isN]
    exact q _ _ (.inl ⟨rfl, rfl⟩)
  · obtain ⟨v, q1, v', q2, rfl, h1, h2⟩ := hr.two
    cases hg
    cases (h1 : v = .bl _)
    cases (h2 : v' = .bl _)
    obtain ⟨u, u', rfl, r1, r2⟩ := vals2 hv
    exact op_is_bl pins s σ H _ _ _ _ Q I r1 r2 ⟨_, _, rfl, rfl, q _ _ (.inl ⟨rfl, rfl⟩)⟩
  · cases hg⟩
theorem rule_isNot : Rule X (fun us => compareOp .IsNot (us.getD 0 .none) (us.getD 1 .none)) gIsNot := ⟨fun pins s σ H xs us Q F L ps r I hv k hr hg q => by
  unfold gIsNot at hg
  split at hg
  · obtain ⟨v, q1, v', q2, rfl, h1, h2⟩ := hr.two
    cases hg
    cases (h2 : v' = .non)
    obtain ⟨u, u', rfl, r1, r2⟩ := vals2 hv
    refine op_notN pins s σ H _ _ _ _ Q I r1 r2 ⟨rfl, ?_⟩
    rw [h1.isN]
    exact q _ _ (.inl ⟨rfl, rfl⟩)
  · obtain ⟨v, q1, v', q2, rfl, h1, h2⟩ := hr.two
    cases hg
    cases (h1 : v = .bl _)
    cases (h2 : v' = .bl _)
    obtain ⟨u, u', rfl, r1, r2⟩ := vals2 hv
    exact op_isnot_bl pins s σ H _ _ _ _ Q I r1 r2 ⟨_, _, rfl, rfl, q _ _ (.inl ⟨rfl, rfl⟩)⟩
  · cases hg⟩
end
end Pv
namespace Pv
open PySem PySem.Spec PyProof.Rows L2

/-! ### built-in functions on trees -/
def gLen : List PV → Option PV
  | [.lst _ xs] => some (.int xs.length)
  | [.tup xs] => some (.int xs.length)
  | [.frl xs] => some (.int xs.length)
  | _ => none
def gAbs : List PV → Option PV
  | [.int i] => some (.int (if i < 0 then -i else i))
  | _ => none
def gInt : List PV → Option PV
  | [.int i] => some (.int i)
  | [.bl b] => some (.int (if b = true then 1 else 0))
  | _ => none
def intsP : List PV → Option (List Int)
  | [] => some []
  | .int i :: r => match intsP r with
    | some is => some (i :: is)
    | none => none
  | _ => none
def blsP : List PV → Option (List Bool)
  | [] => some []
  | .bl i :: r => match blsP r with
    | some is => some (i :: is)
    | none => none
  | _ => none
def gSum : List PV → Option PV
  | [.lst _ xs] => (intsP xs).map fun is => .int is.sum
  | [.tup xs] => (intsP xs).map fun is => .int is.sum
  | _ => none
def gAll : List PV → Option PV
  | [.lst _ xs] => (blsP xs).map fun bs => .bl (bs.all id)
  | _ => none
def gAny : List PV → Option PV
  | [.lst _ xs] => (blsP xs).map fun bs => .bl (bs.any id)
  | _ => none
def gTuple : List PV → Option PV
  | [.lst _ xs] => if PV.fzs xs = true then some (.tup xs) else none
  | [.tup xs] => some (.tup xs)
  | _ => none
def gList : List PV → Option PV
  | [.lst _ xs] => if PV.fzs xs = true then some (.lst true xs) else none
  | [.tup xs] => some (.lst true xs)
  | _ => none
def pdD (p : PV) : PyData := match pd p with
  | some d => d
  | none => .none
/-- alike, place by place, all with all -/
def alikes (ds : List PyData) : Bool := ds.all fun d => ds.all fun d' => PySem.W.alike d d'
def isTupC : PyData → Bool
  | .tuple (_ :: _) => true
  | _ => false
def notTup : PyData → Bool
  | .tuple _ => false
  | .none => false
  | _ => true
def minP (x : PV) (xs : List PV) : PV := xs.foldl (fun a y => if PySem.W.dataLt (pdD y) (pdD a) = true then y else a) x
def maxP (x : PV) (xs : List PV) : PV := xs.foldl (fun a y => if PySem.W.dataLt (pdD a) (pdD y) = true then y else a) x
/-- the data of a list can be compared -/
def cmpAll (xs : List PV) : Bool := match pds xs with
  | some ds => PV.fzs xs && (alikes ds && ds.all ndN) && decide (PyData.depthAll ds ≤ 60)
  | none => false
def sortOk (xs : List PV) : Bool := cmpAll xs && ((xs.map pdD).all isTupC || (xs.map pdD).all notTup)
def gMin : List PV → Option PV
  | [.int a, .int b] => some (.int (if b < a then b else a))
  | [.lst _ (x :: xs)] => if cmpAll (x :: xs) = true then some (minP x xs) else none
  | [.tup (x :: xs)] => if cmpAll (x :: xs) = true then some (minP x xs) else none
  | _ => none
def gMax : List PV → Option PV
  | [.int a, .int b] => some (.int (if b > a then b else a))
  | [.lst _ (x :: xs)] => if cmpAll (x :: xs) = true then some (maxP x xs) else none
  | [.tup (x :: xs)] => if cmpAll (x :: xs) = true then some (maxP x xs) else none
  | _ => none
def sortP (xs : List PV) : List PV := xs.mergeSort (PySem.W.dataLe false pdD)
def gSorted : List PV → Option PV
  | [.lst _ xs] => if sortOk xs = true then some (.lst true (sortP xs)) else none
  | _ => none
def tyN : PV → Option String
  | .non => some "NoneType"
  | .bl _ => some "bool"
  | .int _ => some "int"
  | .str _ => some "str"
  | .tup _ => some "tuple"
  | .lst _ _ => some "list"
  | _ => none
def gIsi : List PV → Option PV
  | [x, .ty n] => match tyN x with
    | some m => (kitB m n).map .bl
    | none => none
  | _ => none
def isSmall (d : PyData) : Bool := d.showable && !d.hasDict && decide (d.depth ≤ 60) && decide (d.shown.length ≤ 16777216)
def gRepr : List PV → Option PV
  | [p] => match pd p with
    | some d => if isSmall d = true then some (.str d.shown) else none
    | none => none
  | _ => none

section
variable {X : Cx} {W : WX}
theorem Inv.hd (G : Good X) {pins : List (Addr × Obj)} {s : Shared} {σ : L2.St} {H : Hp} (I : L2.Inv X pins σ H s) : X.A.handled = none := I.ok.hd G.calm
theorem rule_len : Rule X (fun us => call (.builtin "len") us) gLen := ⟨fun pins s σ H xs us Q F L ps r I hv k hr hg q => by
  unfold gLen at hg
  split at hg
  · obtain ⟨v, q1, rfl, h1⟩ := hr.one
    cases hg
    obtain ⟨a, vs, rfl, s1, l1, _⟩ := RepO.asL k h1
    exact call_len_seq pins s σ H _ us Q I hv ⟨a, vs, rfl, .inl (SqL.of s1), by rw [← l1]; exact q _ _ (.inl ⟨rfl, rfl⟩)⟩
  · obtain ⟨v, q1, rfl, h1⟩ := hr.one
    cases hg
    obtain ⟨a, vs, rfl, s1, f1, _⟩ := RepO.asT k h1
    exact call_len_seq pins s σ H _ us Q I hv ⟨a, vs, rfl, .inr s1, by rw [← f1.length]; exact q _ _ (.inl ⟨rfl, rfl⟩)⟩
  · obtain ⟨v, q1, rfl, h1⟩ := hr.one
    cases hg
    rw [RepO, RepF] at h1
    obtain ⟨a, vs, rfl, s1, f1⟩ := h1
    exact call_len_seq pins s σ H _ us Q I hv ⟨a, vs, rfl, .inl (SqL.mono k s1), by rw [← f1.length]; exact q _ _ (.inl ⟨rfl, rfl⟩)⟩
  · cases hg⟩
theorem rule_abs : Rule X (fun us => call (.builtin "abs") us) gAbs := ⟨fun pins s σ H xs us Q F L ps r I hv k hr hg q => by
  unfold gAbs at hg
  split at hg
  · obtain ⟨v, q1, rfl, h1⟩ := hr.one
    cases hg
    cases (h1 : v = .int _)
    exact call_abs pins s σ H _ us Q I hv ⟨_, rfl, q _ _ (.inl ⟨rfl, rfl⟩)⟩
  · cases hg⟩
theorem rule_int : Rule X (fun us => call (.type "int") us) gInt := ⟨fun pins s σ H xs us Q F L ps r I hv k hr hg q => by
  unfold gInt at hg
  split at hg
  · obtain ⟨v, q1, rfl, h1⟩ := hr.one
    cases hg
    cases (h1 : v = .int _)
    exact call_int1 pins s σ H _ us Q I hv (.inl ⟨_, rfl, q _ _ (.inl ⟨rfl, rfl⟩)⟩)
  · obtain ⟨v, q1, rfl, h1⟩ := hr.one
    cases hg
    cases (h1 : v = .bl _)
    exact call_int1 pins s σ H _ us Q I hv (.inr ⟨_, rfl, q _ _ (.inl ⟨rfl, rfl⟩)⟩)
  · cases hg⟩
theorem intsP_vs {P : Program} {w : World} {K : PySem.W.Frag} {F : Hp} : ∀ {xs : List PV} {vs : List V} {is : List Int}, RepFs P w K F xs vs → intsP xs = some is → vs = is.map V.int
  | [], vs, is, h, e => by rw [RepFs] at h; rw [intsP] at e; cases e; exact h
  | x :: xs, vs, is, h, e => by
    rw [RepFs] at h
    obtain ⟨v, r, rfl, h1, h2⟩ := h
    cases x with
    | int i =>
      rw [intsP] at e
      split at e
      · rename_i is' e2
        cases e
        cases (show v = .int i from h1)
        rw [intsP_vs h2 e2]
        rfl
      · cases e
    | _ => simp [intsP] at e
theorem intsP_fzs : ∀ {xs : List PV} {is : List Int}, intsP xs = some is → PV.fzs xs = true
  | [], _, _ => rfl
  | x :: xs, is, e => by
    cases x with
    | int i =>
      rw [intsP] at e
      split at e
      · rename_i is' e2
        simp [PV.fzs, PV.fz, intsP_fzs e2]
      · cases e
    | _ => simp [intsP] at e
theorem bls_vs {P : Program} {w : World} {K : PySem.W.Frag} {F : Hp} : ∀ {xs : List PV} {vs : List V} {is : List Bool}, RepFs P w K F xs vs → blsP xs = some is → vs = is.map V.bl
  | [], vs, is, h, e => by rw [RepFs] at h; rw [blsP] at e; cases e; exact h
  | x :: xs, vs, is, h, e => by
    rw [RepFs] at h
    obtain ⟨v, r, rfl, h1, h2⟩ := h
    cases x with
    | bl i =>
      rw [blsP] at e
      split at e
      · rename_i is' e2
        cases e
        cases (show v = .bl i from h1)
        rw [bls_vs h2 e2]
        rfl
      · cases e
    | _ => simp [blsP] at e
theorem bls_fzs : ∀ {xs : List PV} {is : List Bool}, blsP xs = some is → PV.fzs xs = true
  | [], _, _ => rfl
  | x :: xs, is, e => by
    cases x with
    | bl i =>
      rw [blsP] at e
      split at e
      · rename_i is' e2
        simp [PV.fzs, PV.fz, bls_fzs e2]
      · cases e
    | _ => simp [blsP] at e
theorem sum_tup {prog : Program} {w : World} {A : Around} {E : Value → Shared → Prop} {s : Shared} {t : Addr} {its : List Value} {ns : List Int} {Q : Value → Shared → Prop} (hh : A.handled = none) (ht : s.heap.IsTuple t its.toArray) (hi : IntsAre its ns)
    (h : ∀ h' tk t', (∀ b o, s.heap.get? b = some o → h'.get? b = some o) → Q (.int ns.sum t') { s with heap := h', toks := tk }) : wpAny (model prog w) A (call (.builtin "sum") [.ref t]) Q E s := by
  obtain ⟨xs, e⟩ := hi.allInts.items
  have hn : numsOf (intItems xs).toList = ns := by rw [← e]; exact hi.numsOf
  rw [nums_intItems] at hn
  rw [e] at ht
  have hlt : t < s.heap.objs.size := by obtain ⟨_, q, _⟩ := ht; exact Heap.lt_size q
  refine call_sum_walkG (wpAny_pyIter_tuple ht ⟨_, _, _, _, _, _, numAt xs, rfl, Walks.tuple (A := A.in1) hh _ t (Nat.ne_of_lt hlt) (intItems xs), ⟨⟨_, Heap.get?_push_size _ rfl, rfl, rfl⟩, ht.push _⟩, fun b hb => ?_, (fun _ _ => intItems_at), fun h' tk t' hk => ?_⟩)
  · show b < (s.heap.push _).objs.size
    rw [Heap.size_push]
    have : b = s.heap.objs.size ∨ b = t := by simpa using hb
    rcases this with z | z
    · rw [z]; exact Nat.lt_succ_self _
    · rw [z]; exact Nat.lt_succ_of_lt hlt
  · have := h h' tk t' fun b o q => hk b o (by
      intro z
      have z : b = s.heap.objs.size := by simpa using z
      exact absurd (Heap.lt_size q) (by rw [z]; exact Nat.lt_irrefl _)) (Heap.get?_push_of_some _ q)
    have e2 : (intItems xs).size = xs.size := by simp [intItems]
    rw [e2, preSum_eq, List.take_of_length_le (by simp), hn]
    exact this
theorem rule_sum (G : Good X) : Rule X (fun us => call (.builtin "sum") us) gSum := ⟨fun pins s σ H xs us Q F L ps r I hv k hr hg q => by
  unfold gSum at hg
  split at hg
  · obtain ⟨v, q1, rfl, h1⟩ := hr.one
    rename_i o xs'
    cases e : intsP xs' with
    | none => rw [e] at hg; cases hg
    | some is =>
      rw [e] at hg
      cases hg
      obtain ⟨a, vs, rfl, s1, l1, f1⟩ := RepO.asL k h1
      exact cr_sum G.calm pins s σ H _ us Q I hv ⟨a, is, rfl, by rw [← intsP_vs (f1 (intsP_fzs e)) e]; exact SqL.of s1, q _ _ (.inl ⟨rfl, rfl⟩)⟩
  · obtain ⟨v, q1, rfl, h1⟩ := hr.one
    rename_i xs'
    cases e : intsP xs' with
    | none => rw [e] at hg; cases hg
    | some is =>
      rw [e] at hg
      cases hg
      obtain ⟨a, vs, rfl, s1, f1, _⟩ := RepO.asT k h1
      obtain ⟨its, rv, ht, _⟩ := I.tuple s1
      rw [intsP_vs f1 e] at rv
      rw [Vals.ref1 hv]
      exact sum_tup (I.ok.hd G.calm) (show s.heap.IsTuple a its.toArray from ht) rv.ints fun h' tk t' hk => ⟨.int _, H, I.kept hk, ⟨_, rfl⟩, q _ _ (.inl ⟨rfl, rfl⟩)⟩
  · cases hg⟩
theorem rule_all (G : Good X) : Rule X (fun us => call (.builtin "all") us) gAll := ⟨fun pins s σ H xs us Q F L ps r I hv k hr hg q => by
  unfold gAll at hg
  split at hg
  · obtain ⟨v, q1, rfl, h1⟩ := hr.one
    rename_i o xs'
    cases e : blsP xs' with
    | none => rw [e] at hg; cases hg
    | some is =>
      rw [e] at hg
      cases hg
      obtain ⟨a, vs, rfl, s1, l1, f1⟩ := RepO.asL k h1
      exact cr_all G.calm pins s σ H _ us Q I hv ⟨a, is, rfl, by rw [← bls_vs (f1 (bls_fzs e)) e]; exact SqL.of s1, q _ _ (.inl ⟨rfl, rfl⟩)⟩
  · cases hg⟩
theorem rule_any (G : Good X) : Rule X (fun us => call (.builtin "any") us) gAny := ⟨fun pins s σ H xs us Q F L ps r I hv k hr hg q => by
  unfold gAny at hg
  split at hg
  · obtain ⟨v, q1, rfl, h1⟩ := hr.one
    rename_i o xs'
    cases e : blsP xs' with
    | none => rw [e] at hg; cases hg
    | some is =>
      rw [e] at hg
      cases hg
      obtain ⟨a, vs, rfl, s1, l1, f1⟩ := RepO.asL k h1
      exact cr_any G.calm pins s σ H _ us Q I hv ⟨a, is, rfl, by rw [← bls_vs (f1 (bls_fzs e)) e]; exact SqL.of s1, q _ _ (.inl ⟨rfl, rfl⟩)⟩
  · cases hg⟩
theorem rule_tuple : Rule X (fun us => call (.type "tuple") us) gTuple := ⟨fun pins s σ H xs us Q F L ps r I hv k hr hg q => by
  unfold gTuple at hg
  split at hg
  · obtain ⟨v, q1, rfl, h1⟩ := hr.one
    split at hg
    · rename_i hz
      cases hg
      obtain ⟨a, vs, rfl, s1, l1, f1⟩ := RepO.asL k h1
      exact call_tuple_of pins s σ H _ us Q I hv ⟨a, vs, rfl, .inl ⟨SqL.of s1, fun l hl => q _ _ (.inr (.inr ⟨l, _, _, hl, rfl, rfl, rfl, f1 hz⟩))⟩⟩
    · cases hg
  · obtain ⟨v, q1, rfl, h1⟩ := hr.one
    cases hg
    have h1' := h1
    rw [RepO] at h1'
    obtain ⟨a, vs, rfl, s1, f1, _⟩ := RepO.asT k h1
    exact call_tuple_of pins s σ H _ us Q I hv ⟨a, vs, rfl, .inr ⟨s1, q _ _ (.inl ⟨rfl, h1'⟩)⟩⟩
  · cases hg⟩
theorem rule_list : Rule X (fun us => call (.type "list") us) gList := ⟨fun pins s σ H xs us Q F L ps r I hv k hr hg q => by
  unfold gList at hg
  split at hg
  · obtain ⟨v, q1, rfl, h1⟩ := hr.one
    split at hg
    · rename_i hz
      cases hg
      obtain ⟨a, vs, rfl, s1, l1, f1⟩ := RepO.asL k h1
      exact call_list_of pins s σ H _ us Q I hv ⟨a, vs, rfl, .inl (SqL.of s1), fun l hl => q _ _ (.inr (.inl ⟨l, _, _, hl, rfl, rfl, rfl, f1 hz⟩))⟩
    · cases hg
  · obtain ⟨v, q1, rfl, h1⟩ := hr.one
    cases hg
    obtain ⟨a, vs, rfl, s1, f1, _⟩ := RepO.asT k h1
    exact call_list_of pins s σ H _ us Q I hv ⟨a, vs, rfl, .inr s1, fun l hl => q _ _ (.inr (.inl ⟨l, _, _, hl, rfl, rfl, rfl, f1⟩))⟩
  · cases hg⟩
end

/-! data and trees are one -/
mutual
theorem pd_inj : ∀ (p q : PV) (d : PyData), p.fz = true → q.fz = true → pd p = some d → pd q = some d → p = q
  | .non, q, d, _, hq, h1, h2 => by
    rw [pd] at h1; cases h1
    cases q <;> simp [pd] at h2 <;> first | rfl | (split at h2 <;> cases h2)
  | .bl b, q, d, _, hq, h1, h2 => by
    rw [pd] at h1; cases h1
    cases q <;> simp [pd] at h2 <;> first | (rw [h2]) | (split at h2 <;> cases h2)
  | .int b, q, d, _, hq, h1, h2 => by
    rw [pd] at h1; cases h1
    cases q <;> simp [pd] at h2 <;> first | (rw [h2]) | (split at h2 <;> cases h2)
  | .str b, q, d, _, hq, h1, h2 => by
    rw [pd] at h1; cases h1
    cases q <;> simp [pd] at h2 <;> first | (rw [h2]) | (split at h2 <;> cases h2)
  | .tup xs, q, d, hp, hq, h1, h2 => by
    rw [pd] at h1
    split at h1
    · rename_i ds e1
      cases h1
      cases q with
      | tup ys =>
        rw [pd] at h2
        split at h2
        · rename_i ds' e2
          cases h2
          rw [pds_inj xs ys ds (by simpa [PV.fz] using hp) (by simpa [PV.fz] using hq) e1 e2]
        · cases h2
      | lst o ys => rw [pd] at h2; split at h2 <;> cases h2
      | _ => simp [pd] at h2
    · cases h1
  | .lst o xs, q, d, hp, hq, h1, h2 => by
    rw [pd] at h1
    split at h1
    · rename_i ds e1
      cases h1
      cases q with
      | lst o' ys =>
        rw [pd] at h2
        split at h2
        · rename_i ds' e2
          cases h2
          simp [PV.fz] at hp hq
          rw [hp.1, hq.1, pds_inj xs ys ds hp.2 hq.2 e1 e2]
        · cases h2
      | tup ys => rw [pd] at h2; split at h2 <;> cases h2
      | _ => simp [pd] at h2
    · cases h1
  | .frl _, q, d, _, hq, h1, h2 => by simp [pd] at h1
  | .ref _, q, d, _, hq, h1, h2 => by simp [pd] at h1
  | .ty _, q, d, _, hq, h1, h2 => by simp [pd] at h1
  | .dct .., q, d, _, hq, h1, h2 => by simp [pd] at h1
theorem pds_inj : ∀ (ps qs : List PV) (ds : List PyData), PV.fzs ps = true → PV.fzs qs = true → pds ps = some ds → pds qs = some ds → ps = qs
  | [], qs, ds, _, _, h1, h2 => by
    rw [pds] at h1; cases h1
    cases qs with
    | nil => rfl
    | cons q qs => rw [pds] at h2; split at h2 <;> cases h2
  | p :: ps, qs, ds, hp, hq, h1, h2 => by
    rw [pds] at h1
    split at h1
    · rename_i d ds' e1 e2
      cases h1
      cases qs with
      | nil => rw [pds] at h2; cases h2
      | cons q qs =>
        rw [pds] at h2
        split at h2
        · rename_i d' ds'' k1 k2
          cases h2
          simp [PV.fzs] at hp hq
          rw [pd_inj p q d hp.1 hq.1 e1 k1, pds_inj ps qs ds' hp.2 hq.2 e2 k2]
        · cases h2
    · cases h1
end
end Pv
namespace Pv
open PySem PySem.Spec PyProof.Rows L2

section
variable {X : Cx} {W : WX}
theorem alikes_all {ds : List PyData} (h : alikes ds = true ∧ ds.all ndN = true) : PySem.W.AllAlike ds := fun d hd d' hd' => List.all_eq_true.mp (List.all_eq_true.mp h.1 d hd) d' hd'
theorem alikes_all2 {ds : List PyData} (h : alikes ds = true ∧ ds.all ndN = true) : PySem.W.AlikeAll ds := ⟨fun d hd d' hd' => List.all_eq_true.mp (List.all_eq_true.mp h.1 d hd) d' hd', fun d hd e => by
  have := List.all_eq_true.mp h.2 d hd
  rw [e] at this
  cases this⟩
theorem pds_map : ∀ {xs : List PV} {ds : List PyData}, pds xs = some ds → xs.map pdD = ds
  | [], ds, h => by rw [pds] at h; cases h; rfl
  | x :: xs, ds, h => by
    rw [pds] at h
    split at h
    · rename_i d ds' e1 e2
      cases h
      rw [List.map_cons, pds_map e2]
      congr 1
      unfold pdD
      rw [e1]
    · cases h
theorem pds_mem : ∀ {xs : List PV} {ds : List PyData} {x : PV}, pds xs = some ds → x ∈ xs → pd x = some (pdD x) ∧ pdD x ∈ ds
  | [], ds, x, h, hm => by simp at hm
  | y :: xs, ds, x, h, hm => by
    rw [pds] at h
    split at h
    · rename_i d ds' e1 e2
      cases h
      rcases List.mem_cons.mp hm with rfl | hm
      · unfold pdD
        rw [e1]
        exact ⟨rfl, by simp⟩
      · obtain ⟨a, b⟩ := pds_mem e2 hm
        exact ⟨a, by simp [b]⟩
    · cases h
theorem depth_mem : ∀ {ds : List PyData} {d : PyData}, d ∈ ds → d.depth ≤ PyData.depthAll ds
  | x :: ds, d, hm => by
    rw [PyData.depthAll]
    rcases List.mem_cons.mp hm with rfl | hm
    · exact Nat.le_max_left _ _
    · exact Nat.le_trans (depth_mem hm) (Nat.le_max_right _ _)
theorem cmpAll_some {xs : List PV} (h : cmpAll xs = true) : ∃ ds, pds xs = some ds ∧ PV.fzs xs = true ∧ (alikes ds = true ∧ ds.all ndN = true) ∧ PyData.depthAll ds ≤ 60 := by
  unfold cmpAll at h
  split at h
  · rename_i ds e
    simp only [Bool.and_eq_true, decide_eq_true_eq] at h
    exact ⟨ds, e, h.1.1, h.1.2, h.2⟩
  · cases h
/-- the fold over trees picks one of them, and its data is the fold over the data -/
theorem fold_pd (f : PyData → PyData → Bool) : ∀ (xs : List PV) (x : PV),
    (xs.foldl (fun a y => if f (pdD y) (pdD a) = true then y else a) x ∈ x :: xs) ∧
    pdD (xs.foldl (fun a y => if f (pdD y) (pdD a) = true then y else a) x) = (xs.map pdD).foldl (fun a y => if f y a = true then y else a) (pdD x)
  | [], x => ⟨by simp, rfl⟩
  | y :: xs, x => by
    rw [List.foldl_cons, List.map_cons, List.foldl_cons]
    by_cases h : f (pdD y) (pdD x) = true
    · rw [if_pos h, if_pos h]
      obtain ⟨h1, h2⟩ := fold_pd f xs y
      exact ⟨List.mem_cons_of_mem _ h1, h2⟩
    · rw [if_neg h, if_neg h]
      obtain ⟨h1, h2⟩ := fold_pd f xs x
      refine ⟨?_, h2⟩
      rcases List.mem_cons.mp h1 with e | h1
      · rw [e]; simp
      · exact List.mem_cons_of_mem _ (List.mem_cons_of_mem _ h1)
theorem fold_pdG (f : PyData → PyData → Bool) : ∀ (xs : List PV) (x : PV),
    (xs.foldl (fun a y => if f (pdD a) (pdD y) = true then y else a) x ∈ x :: xs) ∧
    pdD (xs.foldl (fun a y => if f (pdD a) (pdD y) = true then y else a) x) = (xs.map pdD).foldl (fun a y => if f a y = true then y else a) (pdD x) := fun xs x => fold_pd (fun a b => f b a) xs x
theorem reads_same {h : Heap} {v : Value} {d d' : PyData} {as as' : List Addr} (r : Reads h v d as) (r' : Reads h v d' as') : d' = d := (reads_det (h := h) (h' := h) (fun _ _ e _ => e) r r').1
/-- an item of a list, by its data -/
theorem pick {F H : Hp} {pins : List (Addr × Obj)} {s : Shared} {σ : L2.St} {xs : List PV} {vs : List V} {its : List Value} {ds : List PyData} {i : Nat} {u : Value} {p : PV} {h' : Heap} {bs : List Addr} (I : L2.Inv X pins σ H s) (k : Same F H) (hf : RepFs X.prog X.w X.K F xs vs) (rv : Vals vs its)
    (e : pds xs = some ds) (hi : its[i]? = some u) (hz : PV.fzs xs = true) (hp : p ∈ xs) (hr : Reads h' u (pdD p) bs) (hk : ∀ b o, s.heap.get? b = some o → h'.get? b = some o) : ∃ v, RelV v u ∧ RepF X.prog X.w X.K F p v := by
  have hil : i < vs.length := by
    rw [rv.length]
    exact (List.getElem?_eq_some_iff.mp hi).1
  have hv := List.getElem?_eq_getElem hil
  obtain ⟨u', h1, r1⟩ := rv.get hv
  rw [hi] at h1
  cases h1
  obtain ⟨x, hx, hxr⟩ := hf.getV hv
  have hxm := List.mem_of_getElem? hx
  obtain ⟨ex, _⟩ := pds_mem e hxm
  obtain ⟨ep, _⟩ := pds_mem e hp
  obtain ⟨as, r2⟩ := Dp.reads I (pdD x) _ u (RepF.dp k x _ _ hxr ex) r1
  have : pdD p = pdD x := reads_same (PyProof.Rows.Reads.keeps hk r2) hr
  have e3 : x = p := pd_inj x p (pdD x) (PV.fzs_mem hz hxm) (PV.fzs_mem hz hp) ex (by rw [ep, this])
  subst e3
  exact ⟨_, r1, hxr⟩
theorem reads_all {F H : Hp} {pins : List (Addr × Obj)} {s : Shared} {σ : L2.St} {xs : List PV} {vs : List V} {its : List Value} {ds : List PyData} (I : L2.Inv X pins σ H s) (k : Same F H) (hf : RepFs X.prog X.w X.K F xs vs) (rv : Vals vs its) (e : pds xs = some ds) :
    ∃ as, ReadsAll s.heap its ds as := Dp.readsAll I ds vs its (RepFs.dp k xs vs ds hf e) rv
theorem rule_min (G : Good X) : Rule X (fun us => call (.builtin "min") us) gMin := ⟨fun pins s σ H xs us Q F L ps r I hv k hr hg q => by
  unfold gMin at hg
  split at hg
  · obtain ⟨v, q1, v', q2, rfl, h1, h2⟩ := hr.two
    cases hg
    cases (h1 : v = .int _)
    cases (h2 : v' = .int _)
    exact call_min2 G.calm pins s σ H _ us Q I hv ⟨_, _, rfl, q _ _ (.inl ⟨rfl, rfl⟩)⟩
  · obtain ⟨v, q1, rfl, h1⟩ := hr.one
    rename_i o x xs'
    split at hg
    · rename_i hc
      cases hg
      obtain ⟨ds, e, hz, ha, hd⟩ := cmpAll_some hc
      obtain ⟨a, vs, rfl, s1, l1, f1⟩ := RepO.asL k h1
      have f1 := f1 hz
      obtain ⟨u, rfl, r1⟩ := vals1 hv
      cases r1
      obtain ⟨its, rv, hl, _⟩ := I.list (SqL.of s1)
      obtain ⟨as, hrd⟩ := reads_all I k f1 rv e
      have em := pds_map e
      rw [List.map_cons] at em
      subst em
      have hu := G.un
      refine PySem.W.min_list_data (Inv.hd G I) hl.isList (by simpa using hrd) (alikes_all2 ha) (by omega) fun i u h' tk bs hi hr' hk' => ?_
      obtain ⟨m1, m2⟩ := fold_pd PySem.W.dataLt xs' x
      obtain ⟨v, rv', rp⟩ := pick I k f1 rv e (by simpa using hi) hz m1 (by rw [m2]; exact hr') hk'
      exact ⟨v, H, I.kept hk', rv', q _ _ (.inl ⟨rfl, rp⟩)⟩
    · cases hg
  · obtain ⟨v, q1, rfl, h1⟩ := hr.one
    rename_i x xs'
    split at hg
    · rename_i hc
      cases hg
      obtain ⟨ds, e, hz, ha, hd⟩ := cmpAll_some hc
      obtain ⟨a, vs, rfl, s1, f1, _⟩ := RepO.asT k h1
      obtain ⟨u, rfl, r1⟩ := vals1 hv
      cases r1
      obtain ⟨its, rv, hl, _⟩ := I.tuple s1
      obtain ⟨as, hrd⟩ := reads_all I k f1 rv e
      have em := pds_map e
      rw [List.map_cons] at em
      subst em
      have hu := G.un
      refine PySem.W.min_tuple_data (Inv.hd G I) hl (by simpa using hrd) (alikes_all2 ha) (by omega) fun i u h' tk bs hi hr' hk' => ?_
      obtain ⟨m1, m2⟩ := fold_pd PySem.W.dataLt xs' x
      obtain ⟨v, rv', rp⟩ := pick I k f1 rv e (by simpa using hi) hz m1 (by rw [m2]; exact hr') hk'
      exact ⟨v, H, I.kept hk', rv', q _ _ (.inl ⟨rfl, rp⟩)⟩
    · cases hg
  · cases hg⟩
theorem rule_max (G : Good X) : Rule X (fun us => call (.builtin "max") us) gMax := ⟨fun pins s σ H xs us Q F L ps r I hv k hr hg q => by
  unfold gMax at hg
  split at hg
  · obtain ⟨v, q1, v', q2, rfl, h1, h2⟩ := hr.two
    cases hg
    cases (h1 : v = .int _)
    cases (h2 : v' = .int _)
    exact call_max2 G.calm pins s σ H _ us Q I hv ⟨_, _, rfl, q _ _ (.inl ⟨rfl, rfl⟩)⟩
  · obtain ⟨v, q1, rfl, h1⟩ := hr.one
    rename_i o x xs'
    split at hg
    · rename_i hc
      cases hg
      obtain ⟨ds, e, hz, ha, hd⟩ := cmpAll_some hc
      obtain ⟨a, vs, rfl, s1, l1, f1⟩ := RepO.asL k h1
      have f1 := f1 hz
      obtain ⟨u, rfl, r1⟩ := vals1 hv
      cases r1
      obtain ⟨its, rv, hl, _⟩ := I.list (SqL.of s1)
      obtain ⟨as, hrd⟩ := reads_all I k f1 rv e
      have em := pds_map e
      rw [List.map_cons] at em
      subst em
      have hu := G.un
      refine PySem.W.max_list_data (Inv.hd G I) hl.isList (by simpa using hrd) (alikes_all2 ha) (by omega) fun i u h' tk bs hi hr' hk' => ?_
      obtain ⟨m1, m2⟩ := fold_pdG PySem.W.dataLt xs' x
      obtain ⟨v, rv', rp⟩ := pick I k f1 rv e (by simpa using hi) hz m1 (by rw [m2]; exact hr') hk'
      exact ⟨v, H, I.kept hk', rv', q _ _ (.inl ⟨rfl, rp⟩)⟩
    · cases hg
  · obtain ⟨v, q1, rfl, h1⟩ := hr.one
    rename_i x xs'
    split at hg
    · rename_i hc
      cases hg
      obtain ⟨ds, e, hz, ha, hd⟩ := cmpAll_some hc
      obtain ⟨a, vs, rfl, s1, f1, _⟩ := RepO.asT k h1
      obtain ⟨u, rfl, r1⟩ := vals1 hv
      cases r1
      obtain ⟨its, rv, hl, _⟩ := I.tuple s1
      obtain ⟨as, hrd⟩ := reads_all I k f1 rv e
      have em := pds_map e
      rw [List.map_cons] at em
      subst em
      have hu := G.un
      refine PySem.W.max_tuple_data (Inv.hd G I) hl (by simpa using hrd) (alikes_all2 ha) (by omega) fun i u h' tk bs hi hr' hk' => ?_
      obtain ⟨m1, m2⟩ := fold_pdG PySem.W.dataLt xs' x
      obtain ⟨v, rv', rp⟩ := pick I k f1 rv e (by simpa using hi) hz m1 (by rw [m2]; exact hr') hk'
      exact ⟨v, H, I.kept hk', rv', q _ _ (.inl ⟨rfl, rp⟩)⟩
    · cases hg
  · cases hg⟩

/-! ### sorted -/
theorem isTupC_of {d : PyData} (h : isTupC d = true) : ∃ x r, d = .tuple (x :: r) := by
  unfold isTupC at h
  split at h
  · exact ⟨_, _, rfl⟩
  · cases h
theorem notTup_of {d : PyData} (h : notTup d = true) : d ≠ .none ∧ ∀ xs, d ≠ .tuple xs := by
  unfold notTup at h
  constructor
  · rintro rfl; cases h
  · rintro xs rfl; cases h
theorem each_of {F : Hp} : ∀ {xs : List PV} {vs : List V} {its : List Value}, RepFs X.prog X.w X.K F xs vs → Vals vs its → PySem.W.EachIs (fun u p => ∃ v, RelV v u ∧ RepF X.prog X.w X.K F p v) its xs
  | [], vs, its, h, r => by
    rw [RepFs] at h
    subst h
    cases r
    exact .nil
  | x :: xs, vs, its, h, r => by
    rw [RepFs] at h
    obtain ⟨v, rr, rfl, h1, h2⟩ := h
    cases r with
    | cons r1 r2 => exact .cons ⟨v, r1, h1⟩ (each_of h2 r2)
theorem of_each {F : Hp} : ∀ {its : List Value} {xs : List PV}, PySem.W.EachIs (fun u p => ∃ v, RelV v u ∧ RepF X.prog X.w X.K F p v) its xs → ∃ vs, Vals vs its ∧ RepFs X.prog X.w X.K F xs vs
  | _, _, .nil => ⟨[], .nil, by rw [RepFs]⟩
  | _, _, .cons ⟨v, r1, h1⟩ t => by
    obtain ⟨vs, r2, h2⟩ := of_each t
    refine ⟨v :: vs, .cons r1 r2, ?_⟩
    rw [RepFs]
    exact ⟨v, vs, rfl, h1, h2⟩
theorem each_reads {F H : Hp} {pins : List (Addr × Obj)} {s : Shared} {σ : L2.St} (I : L2.Inv X pins σ H s) (k : Same F H) : ∀ {xs : List PV} {vs : List V} {its : List Value}, RepFs X.prog X.w X.K F xs vs → Vals vs its → (∀ x ∈ xs, pd x = some (pdD x)) →
    PySem.W.EachIs (fun u p => ∃ as, Reads s.heap u (pdD p) as) its xs
  | [], vs, its, h, r, e => by
    rw [RepFs] at h
    subst h
    cases r
    exact .nil
  | x :: xs, vs, its, h, r, e => by
    rw [RepFs] at h
    obtain ⟨v, rr, rfl, h1, h2⟩ := h
    cases r with
    | cons r1 r2 => exact .cons (Dp.reads I (pdD x) v _ (RepF.dp k x v _ h1 (e x (by simp))) r1) (each_reads I k h2 r2 fun y hy => e y (by simp [hy]))
theorem rule_sorted (G : Good X) : Rule X (fun us => call (.builtin "sorted") us) gSorted := ⟨fun pins s σ H xs us Q F L ps r I hv k hr hg q => by
  unfold gSorted at hg
  split at hg
  · obtain ⟨v, q1, rfl, h1⟩ := hr.one
    rename_i o xs'
    split at hg
    · rename_i hc
      cases hg
      unfold sortOk at hc
      simp only [Bool.and_eq_true, Bool.or_eq_true] at hc
      obtain ⟨hc, ht⟩ := hc
      obtain ⟨ds, e, hz, ha, hd⟩ := cmpAll_some hc
      obtain ⟨a, vs, rfl, s1, l1, f1⟩ := RepO.asL k h1
      have f1 := f1 hz
      obtain ⟨u, rfl, r1⟩ := vals1 hv
      cases r1
      obtain ⟨its, rv, hl, hsz⟩ := I.list (SqL.of s1)
      have em := pds_map e
      have hu := G.un
      refine PySem.W.sorted_data (enc := pdD) (bs := xs') (R := fun u p => ∃ v, RelV v u ∧ RepF X.prog X.w X.K F p v) hl.isList (each_of f1 rv) (each_reads I k f1 rv fun x hx => (pds_mem e hx).1) (by rw [em]; exact alikes_all ha) ?_ (by rw [l1]; exact hsz)
        (fun b hb => by have := depth_mem (pds_mem e hb).2; omega) fun out hlen ho => ?_
      · rcases ht with ht | ht
        · exact .inl fun d hd => isTupC_of (List.all_eq_true.mp ht d hd)
        · exact .inr fun d hd => notTup_of (List.all_eq_true.mp ht d hd)
      · obtain ⟨ws, rw', hw⟩ := of_each ho
        obtain ⟨ep, he'⟩ := PyProof.Rows.sortedAll_at s.heap its (List.toArray out)
        have hlen2 : ws.length ≤ sizeLine := by rw [rw'.length, hlen, l1]; exact hsz
        exact ⟨.ref _, upd H (s.heap.objs.size + 1) (.lst ws), I.laid (t' := s.toks) (fun _ _ => PyProof.Rows.sortedAll_old) (Nat.le_succ _) ⟨hlen2, out, ep, rw', by simpa using he'⟩, rfl,
          q _ _ (.inr (.inl ⟨_, ws, _, I.hok.fresh (Nat.le_succ _), rfl, rfl, rfl, hw⟩))⟩
    · cases hg
  · cases hg⟩

/-! ### isinstance, repr -/
theorem RepO.ty {F H : Hp} {L : Lab} {q : Path} {v : V} {n : String} (k : Same F H) {x : PV} (h : RepO X.prog X.w X.K F H L q x v) (e : tyN x = some n) : TyX X.K H v (.type n) := by
  cases x with
  | non =>
    obtain rfl : "NoneType" = n := Option.some.inj e
    rw [show v = .non from h]; exact .base .non
  | bl b =>
    obtain rfl : "bool" = n := Option.some.inj e
    rw [show v = .bl b from h]; exact .base (.bl _)
  | int i =>
    obtain rfl : "int" = n := Option.some.inj e
    rw [show v = .int i from h]; exact .base (.int _)
  | str z =>
    obtain rfl : "str" = n := Option.some.inj e
    rw [show v = .str z from h]; exact .base (.str _)
  | tup xs =>
    obtain rfl : "tuple" = n := Option.some.inj e
    obtain ⟨a, vs, rfl, s1, f1, _⟩ := RepO.asT k h
    rcases s1 with (s1 | ⟨o, s1⟩) | ⟨o, its, n, h1, h2, _⟩
    · exact .base (.tup s1)
    · exact .fTuple s1
    · exact .kTuple h1 h2
  | lst o xs =>
    obtain rfl : "list" = n := Option.some.inj e
    obtain ⟨a, vs, rfl, s1, _⟩ := RepO.asL k h
    exact .base (.lst s1)
  | ref a => exact absurd e (by simp [tyN])
  | ty m => exact absurd e (by simp [tyN])
  | frl xs => exact absurd e (by simp [tyN])
  | dct o ks vs => exact absurd e (by simp [tyN])
theorem rule_isi : Rule X (fun us => call (.builtin "isinstance") us) gIsi := ⟨fun pins s σ H xs us Q F L ps r I hv k hr hg q => by
  unfold gIsi at hg
  split at hg
  · obtain ⟨v, q1, v', q2, rfl, h1, h2⟩ := hr.two
    cases (show v' = .ty _ from h2)
    split at hg
    · rename_i m em
      rename_i n _ _
      cases e : kitB m _ with
      | none => rw [e] at hg; cases hg
      | some b =>
        rw [e] at hg
        cases hg
        exact call_isi pins s σ H _ us Q I hv ⟨v, .ty _, .type m, .type _, b, rfl, .ty _, RepO.ty k h1 em, kit_ty e, q _ _ (.inl ⟨rfl, rfl⟩)⟩
    · cases hg
  · cases hg⟩
theorem rule_repr (G : Good X) : Rule X (fun us => call (.builtin "repr") us) gRepr := ⟨fun pins s σ H xs us Q F L ps r I hv k hr hg q => by
  unfold gRepr at hg
  split at hg
  · obtain ⟨v, q1, rfl, h1⟩ := hr.one
    split at hg
    · rename_i d e
      split at hg
      · rename_i hs
        cases hg
        unfold isSmall at hs
        simp only [Bool.and_eq_true, decide_eq_true_eq, Bool.not_eq_true'] at hs
        obtain ⟨⟨⟨hs1, hs2⟩, hs3⟩, hs4⟩ := hs
        obtain ⟨u, rfl, r1⟩ := vals1 hv
        obtain ⟨as, rd⟩ := Dp.reads I d v u (RepO.dp k _ q1 v d h1 e) r1
        have hu := G.un
        have fin : ∀ h' t tk, (∀ b o, s.heap.get? b = some o → h'.get? b = some o) → EP X pins σ Q (.str d.shown t) { s with heap := h', toks := tk } := fun h' t tk hk => ⟨.str d.shown, H, I.kept hk, ⟨t, rfl⟩, q _ _ (.inl ⟨rfl, rfl⟩)⟩
        cases rd with
        | none => exact PySem.P.repr_of_none (fin _ _ _ fun _ _ e => e)
        | bool b => exact PySem.P.repr_of_bool (by have := fin s.heap s.toks (s.toks + 1) fun _ _ e => e; unfold PyData.shown at this; exact this)
        | int i t =>
          refine SkE.call_repr_int pins s σ H [.int i] _ Q I (.cons ⟨t, rfl⟩ .nil) ⟨i, rfl, of_decide_eq_true hs1, ?_⟩
          have := q (.str (PyData.shown (.int i))) H (.inl ⟨rfl, rfl⟩)
          unfold PyData.shown at this
          exact this
        | str x t =>
          have hs5 : (PyData.shown (.str x)).length ≤ 16777216 := hs4
          unfold PyData.shown at hs5
          refine PySem.P.repr_of_str ?_ (by rw [← sl24]; exact hs5)
          have := fin s.heap s.toks (s.toks + 1) fun _ _ e => e
          unfold PyData.shown at this
          exact this
        | list h1 h2 h3 h4 =>
          exact repr_of_reads' (.list h1 h2 h3 h4) hs1 (PyData.noDict_hsm hs2) G.gd (by omega) (fun _ _ e => e) (fun h' u tk hk => fin h' u tk hk) (by rw [← sl24]; exact hs4)
        | tuple h1 h2 h3 h4 =>
          exact repr_of_reads' (.tuple h1 h2 h3 h4) hs1 (PyData.noDict_hsm hs2) G.gd (by omega) (fun _ _ e => e) (fun h' u tk hk => fin h' u tk hk) (by rw [← sl24]; exact hs4)
        | dict _ _ _ _ _ => cases hs2
      · cases hg
    · cases hg
  · cases hg⟩
end
end Pv
namespace Pv
open PySem PySem.Spec PyProof.Rows L2

section
variable {P : Program} {w : World} {K : PySem.W.Frag} {W : WX} {α β : Type} {es : PEnv} {xs : List V} {σ : L2.St} {H : Hp}
/-- the intermediate results are no longer wanted -/
theorem tZ.drop {d : D α} {ps : α → PEnv} {Q : α → List V → Hp → Prop} (h : tZ P w K W es xs d σ H ps Q) : tZ P w K W [] [] d σ H ps Q := by
  obtain ⟨env, tm, τ, F, L, hl, R, h⟩ := h
  refine ⟨env, tm, τ, F, L, rfl, by simpa using R.popN hl, ?_⟩
  cases e : d env with
  | no => rw [e] at h; exact h
  | ok a env' => rw [e] at h; exact h
  | ex c env' => rw [e] at h; exact h
/-- a step that reads the state alone -/
theorem tZ.get {f : PEnv → Option α} {g : α → D β} {ps : β → PEnv} {Q : β → List V → Hp → Prop} (h : tZ P w K W es xs (dbind (dget f) g) σ H ps Q) :
    ∃ env tm τ F L a, es.length = xs.length ∧ Rel P w K env (tm ++ es) σ (τ ++ xs) F H L ∧ f env = some a ∧ tZ P w K W es xs (g a) σ H ps Q := by
  obtain ⟨env, tm, τ, F, L, hl, R, h⟩ := h
  unfold dbind dget at h
  cases e : f env with
  | none => rw [e] at h; exact h.elim
  | some a =>
    rw [e] at h
    exact ⟨env, tm, τ, F, L, a, hl, R, e, ⟨env, tm, τ, F, L, hl, R, h⟩⟩
end

/-! ### a truth value read -/
def boolOf (p : Option PV) : Option Bool := match p with
  | some (.bl b) => some b
  | _ => none
def dbool (a : Sl) : D Bool := dget fun env => boolOf (cont env a)
def dtst (d : D Sl) : D Bool := dbind d dbool
def dand (a b : D Sl) : D Sl := dbind a fun x => dbind (dbool x) fun k => if k = true then b else dcon (.bl false)
def dor (a b : D Sl) : D Sl := dbind a fun x => dbind (dbool x) fun k => if k = true then dcon (.bl true) else b
def dnot (a : D Sl) : D Sl := dbind a fun x => dbind (dbool x) fun k => dcon (.bl (!k))
def dtand (a b : D Bool) : D Bool := dbind a fun k => if k = true then b else dpure false
def dtor (a b : D Bool) : D Bool := dbind a fun k => if k = true then dpure true else b
def dtnot (a : D Bool) : D Bool := dbind a fun k => dpure (!k)
def dif (t : D Bool) (a b : D Sl) : D Sl := dbind t fun k => if k = true then a else b
section
variable {X : Cx} {W : WX} {a b c : Expr} {da db dc : D Sl} {ta tb : D Bool} {pos : Pos} {rest : List Expr}
theorem boolOf_some {p : Option PV} {b : Bool} (h : boolOf p = some b) : p = some (.bl b) := by
  unfold boolOf at h
  split at h
  · cases h; rfl
  · cases h
/-- the top entry is a truth value -/
theorem tZ.bool {α : Type} {es : PEnv} {xs : List V} {σ : L2.St} {H : Hp} {e : Sl} {x : V} {g : Bool → D α} {ps : α → PEnv} {Q : α → List V → Hp → Prop} (h : tZ X.prog X.w X.K W (es ++ [e]) (xs ++ [x]) (dbind (dbool e) g) σ H ps Q) (hl : es.length = xs.length) :
    ∃ k, x = .bl k ∧ tZ X.prog X.w X.K W (es ++ [e]) (xs ++ [x]) (g k) σ H ps Q := by
  obtain ⟨env, tm, τ, F, L, k, _, R, e1, h⟩ := h.get
  have R2 : Rel X.prog X.w X.K env ((tm ++ es) ++ [e]) σ ((τ ++ xs) ++ [x]) F H L := by simpa using R
  obtain ⟨p, hp⟩ := R2.top.rep (boolOf_some e1)
  exact ⟨k, hp, h⟩
theorem tE.bool {α : Type} {σ : L2.St} {H : Hp} {d : D Sl} {g : Bool → D α} {ps : α → PEnv} {Q : α → List V → Hp → Prop} (h : tZ X.prog X.w X.K W [] [] (dbind d fun x => dbind (dbool x) g) σ H ps Q) :
    tE X.prog X.w X.K W d σ H fun x H1 => ∃ k, x = .bl k ∧ tZ X.prog X.w X.K W [] [] (g k) σ H1 ps Q :=
  (tE.bind (es := []) (xs := []) h).mono fun v H1 ⟨e, q⟩ => by
    obtain ⟨k, ek, q⟩ := tZ.bool (es := []) (xs := []) q rfl
    exact ⟨k, ek, q.drop⟩
theorem tE.con {pv : PV} {v : V} {σ : L2.St} {H : Hp} {Q : VK} (h : tE X.prog X.w X.K W (dcon pv) σ H Q) (r : ∀ F, RepF X.prog X.w X.K F pv v) : Q v H := by
  obtain ⟨env, tm, τ, F, L, _, R, h⟩ := h
  exact h [v] F H L rfl (Same.refl F) (by simpa using R.pushF (r F)) v rfl
theorem ev_one {op : BoolOp} (ha : EV X W a da) : EV X W (.BoolOp op [a] pos) da := pe_one ha
theorem ev_and (ha : EV X W a da) (hb : EV X W (.BoolOp .And (b :: rest) pos) db) : EV X W (.BoolOp .And (a :: b :: rest) pos) (dand da db) :=
  PEimp (pe_and ha hb) fun σ H Q h => (tE.bool h).mono fun v H1 ⟨k, e, q⟩ => ⟨k, e, by
    cases k with
    | true => exact q
    | false => exact tE.con (W := W) q fun _ => rfl⟩
theorem ev_or (ha : EV X W a da) (hb : EV X W (.BoolOp .Or (b :: rest) pos) db) : EV X W (.BoolOp .Or (a :: b :: rest) pos) (dor da db) :=
  PEimp (pe_or ha hb) fun σ H Q h => (tE.bool h).mono fun v H1 ⟨k, e, q⟩ => ⟨k, e, by
    cases k with
    | true => exact tE.con (W := W) q fun _ => rfl
    | false => exact q⟩
theorem ev_not (ha : EV X W a da) : EV X W (.UnaryOp .Not a pos) (dnot da) :=
  PEimp (pe_not ha) fun σ H Q h => (tE.bool h).mono fun v H1 ⟨k, e, q⟩ => ⟨k, e, tE.con (W := W) q fun _ => rfl⟩
theorem ev_if (ht : TV X W c ta) (ha : EV X W a da) (hb : EV X W b db) : EV X W (.IfExp c a b pos) (dif ta da db) :=
  PEimp (pe_ifExp ht ha hb) fun σ H Q h => (tT.bind (es := []) (xs := []) h).mono fun k H1 q => by
    cases k with
    | true => exact q
    | false => exact q

/-! tests -/
theorem tT.pure {k : Bool} {σ : L2.St} {H : Hp} {Q : Bool → Hp → Prop} (h : tT X.prog X.w X.K W (dpure k) σ H Q) : Q k H := by
  obtain ⟨env, tm, τ, F, L, _, R, h⟩ := h
  exact h [] F H L rfl (Same.refl F) (by simpa using R)
theorem tT.bool {σ : L2.St} {H : Hp} {d : D Sl} {Q : Bool → Hp → Prop} (h : tT X.prog X.w X.K W (dtst d) σ H Q) : tE X.prog X.w X.K W d σ H fun x H1 => ∃ k, x = .bl k ∧ Q k H1 :=
  (tE.bind (es := []) (xs := []) h).mono fun v H1 ⟨e, q⟩ => by
    obtain ⟨env, tm, τ, F, L, hl, R, q⟩ := q
    unfold dbool dget at q
    dsimp only at q
    cases e1 : boolOf (cont env e) with
    | none => rw [e1] at q; exact q.elim
    | some k =>
      rw [e1] at q
      obtain ⟨p, hp⟩ := R.top.rep (boolOf_some e1)
      exact ⟨k, hp, q [] F H1 L rfl (Same.refl F) (by simpa using R.pop)⟩
theorem tv_val (ha : EV X W a da) (he : ∀ whole, isTrue a X.env whole = (do let v ← whole; standAt a.pos; holding [v] (truthy v)) := by intro _; rfl) : TV X W a (dtst da) :=
  PTimp (pt_val ha he) fun σ H Q h => tT.bool h
theorem tv_cmp {op : CmpOp} {f : Sl → Sl → D Sl} (ho : OpI X W (compareOp op) f) (hm : behindInMarks op b = false) (ha : EV X W a da) (hb : EV X W b db) : TV X W (.Compare a [op] [b] pos) (dtst (dop f da db)) :=
  PTimp (pt_cmpR ho ha hb hm) fun σ H Q h => (tE.bind (es := []) (xs := []) (tT.bool h)).mono fun v H1 ⟨e, q⟩ => (tE.bind q).mono fun u H2 ⟨e2, q2⟩ => ⟨σ, e, e2, q2⟩
theorem tv_not (ha : TV X W a ta) : TV X W (.UnaryOp .Not a pos) (dtnot ta) :=
  PTimp (pt_not ha) fun σ H Q h => (tT.bind (es := []) (xs := []) h).mono fun k H1 q => tT.pure (W := W) q
abbrev WV (X : Cx) (W : WX) (e : Expr) (d : D Bool) : Prop := PW X e (tT X.prog X.w X.K W d)
theorem PWimp {e : Expr} {t t' : TT} (h : PW X e t) (k : ∀ σ H Q, t' σ H Q → t σ H Q) : PW X e t' := ⟨fun wh pins s σ H Q I q => h.run wh pins s σ H Q I (k σ H Q q)⟩
theorem wv_and1 (ha : TV X W a ta) : WV X W (.BoolOp .And [a] pos) ta := pw_and1 ha
theorem wv_or1 (ha : TV X W a ta) : WV X W (.BoolOp .Or [a] pos) ta := pw_or1 ha
theorem wv_and (ha : TV X W a ta) (hb : WV X W (.BoolOp .And (b :: rest) pos) tb) : WV X W (.BoolOp .And (a :: b :: rest) pos) (dtand ta tb) :=
  PWimp (pw_and ha hb) fun σ H Q h => (tT.bind (es := []) (xs := []) h).mono fun k H1 q => by
    cases k with
    | true => exact q
    | false => exact tT.pure (W := W) q
theorem wv_or (ha : TV X W a ta) (hb : WV X W (.BoolOp .Or (b :: rest) pos) tb) : WV X W (.BoolOp .Or (a :: b :: rest) pos) (dtor ta tb) :=
  PWimp (pw_or ha hb) fun σ H Q h => (tT.bind (es := []) (xs := []) h).mono fun k H1 q => by
    cases k with
    | true => exact tT.pure (W := W) q
    | false => exact q
theorem tv_w (h : WV X W a ta) : TV X W a ta := h.pt

/-! ### a < b < c -/
def rR (P : Program) (w : World) (K : PySem.W.Frag) (g : List PV → Option PV) : R2 := fun x y H Q => ∃ F L p q r, Same F H ∧ ReA P w K F H L [p, q] [x, y] ∧ g [p, q] = some r ∧ ∀ v H', Res P w K F H r v H' → Q v H'
theorem Rule.raw {op : Value → Value → Sem Value} {g : List PV → Option PV} (h : Rule X (fun us => op (us.getD 0 .none) (us.getD 1 .none)) g) : OpR X op (rR X.prog X.w X.K g) :=
  fun pins s σ H x y v u Q I rx ry ⟨F, L, p, q, r, k, hr, hg, hq⟩ => h.run pins s σ H [x, y] [v, u] Q F L [p, q] r I (.cons rx (.cons ry .nil)) k hr hg hq
def dcmp (g : List PV → Option PV) (a b : Sl) : D Bool := dget fun env => match conts env [a, b] with
  | some ps => boolOf (g ps)
  | none => none
def dchain (f g : List PV → Option PV) (a b c : D Sl) : D Sl := dbind a fun x => dbind b fun y => dbind (dcmp f x y) fun k => if k = true then dbind c fun z => dfn g [y, z] else dcon (.bl false)
theorem Res.bool {P : Program} {w : World} {K : PySem.W.Frag} {F H H' : Hp} {k : Bool} {v : V} (h : Res P w K F H (.bl k) v H') : v = .bl k ∧ H' = H := by
  rcases h with ⟨rfl, h⟩ | ⟨_, _, _, _, _, _, e, _⟩ | ⟨_, _, _, _, _, _, e, _⟩
  · exact ⟨h, rfl⟩
  · cases e
  · cases e
/-- as rI2, more below -/
def rQ (P : Program) (w : World) (K : PySem.W.Frag) (W : WX) (g : List PV → Option PV) : R2 := fun x y H Q => ∃ σ pre px a b, tZ P w K W (pre ++ [a, b]) (px ++ [x, y]) (dfn g [a, b]) σ H (fun e => [e]) fun _ vs H' => ∀ v, vs = [v] → Q v H'
theorem Rule.opQ {op : Value → Value → Sem Value} {g : List PV → Option PV} (h : Rule X (fun us => op (us.getD 0 .none) (us.getD 1 .none)) g) : OpR X op (rQ X.prog X.w X.K W g) :=
  fun pins s σ H x y v u Q I rx ry ⟨σ0, pre, px, a, b, q⟩ => h.useP (us := [v, u]) I (.cons rx (.cons ry .nil)) rfl q
theorem conts_two {env : PEnv} {a b : Sl} {ps : List PV} (h : conts env [a, b] = some ps) : ∃ p q, ps = [p, q] ∧ cont env a = some p ∧ cont env b = some q := by
  cases h1 : cont env a with
  | none => simp [conts, h1] at h
  | some p =>
    cases h2 : cont env b with
    | none => simp [conts, h1, h2] at h
    | some q =>
      simp [conts, h1, h2] at h
      exact ⟨p, q, h.symm, rfl, rfl⟩
theorem chain_imp {f g : List PV → Option PV} {σ : L2.St} {H : Hp} {Q : VK} (h : tE X.prog X.w X.K W (dchain f g da db dc) σ H Q) :
    tChain (rR X.prog X.w X.K f) (rQ X.prog X.w X.K W g) (tE X.prog X.w X.K W da) (tE X.prog X.w X.K W db) (tE X.prog X.w X.K W dc) σ H Q := by
  refine (tE.bind (es := []) (xs := []) h).mono fun v H1 ⟨a, q⟩ => (tE.bind q).mono fun u H2 ⟨b, q2⟩ => ?_
  obtain ⟨env, tm, τ, F, L, k, hl, R, e1, q3⟩ := q2.get
  cases e2 : conts env [a, b] with
  | none => rw [e2] at e1; cases e1
  | some ps =>
    rw [e2] at e1
    obtain ⟨p, q', rfl, _, _⟩ := conts_two e2
    have hr : ReA X.prog X.w X.K F H2 L [p, q'] [v, u] := conts_rep R hl e2
    refine ⟨F, L, p, q', .bl k, R.fle, hr, boolOf_some e1, fun v' H' hres => ?_⟩
    obtain ⟨rfl, rfl⟩ := hres.bool
    refine ⟨k, rfl, ?_⟩
    cases k with
    | false => exact tE.con (W := W) q3.drop fun _ => rfl
    | true =>
      rw [if_pos rfl]
      exact (tE.bind q3).mono fun w' H4 ⟨c, q4⟩ => ⟨σ, [a], [v], b, c, q4⟩
theorem ev_chain {op op' : CmpOp} {f g : List PV → Option PV} (ho : Rule X (fun us => compareOp op (us.getD 0 .none) (us.getD 1 .none)) f) (ho' : Rule X (fun us => compareOp op' (us.getD 0 .none) (us.getD 1 .none)) g)
    (ha : EV X W a da) (hb : EV X W b db) (hc : EV X W c dc) (hm : lastMarks [op, op'] [b, c] = false := by with_unfolding_all rfl) : EV X W (.Compare a [op, op'] [b, c] pos) (dchain f g da db dc) :=
  PEimp (pe_chain ho.raw (ho'.opQ (W := W)) ha hb hc hm) fun σ H Q h => chain_imp h
theorem tv_chain {op op' : CmpOp} {f g : List PV → Option PV} (ho : Rule X (fun us => compareOp op (us.getD 0 .none) (us.getD 1 .none)) f) (ho' : Rule X (fun us => compareOp op' (us.getD 0 .none) (us.getD 1 .none)) g)
    (ha : EV X W a da) (hb : EV X W b db) (hc : EV X W c dc) (hm : lastMarks [op, op'] [b, c] = false := by with_unfolding_all rfl) : TV X W (.Compare a [op, op'] [b, c] pos) (dtst (dchain f g da db dc)) :=
  PTimp (pt_chain ho.raw (ho'.opQ (W := W)) ha hb hc hm) fun σ H Q h => chain_imp (tT.bool h)
end

/-! ### freezing entries -/
section
variable {P : Program} {w : World} {K : PySem.W.Frag} {F F' H H' : Hp} {L L' : Lab} {env env' tm tm' : PEnv} {σ σ' : L2.St} {τ τ' : List V}
/-- an intermediate result is frozen where it stands -/
theorem Rel.frzTmp {i : Nat} {pv : PV} {v : V} (R : Rel P w K env tm σ τ F H L) (hi : tm[i]? = some (.val pv)) (hv : τ[i]? = some v) :
    ∃ F' L', Same F F' ∧ Rel P w K env (tm.set i (.val pv.frz)) σ τ F' H L' := by
  have hr := R.tmp i _ v hi hv
  have go : ∀ {r : Nat} {e : Sl} {v : V}, r ≠ 2 * i + 1 → Ent P w K env F H L r e v → Ent P w K env (fF (2 * i + 1) L F H) H (fL (2 * i + 1) L) r e v := fun {r e v} hne h => by
    cases e with
    | un => trivial
    | val q => exact RepO.tr (fF_same R.lf) q [r] [r] v (fun a s l => ⟨fL_ne l hne, rfl⟩) h
    | al j p =>
      intro q hq
      exact RepO.tr (fF_same R.lf) q (2 * j :: p) (2 * j :: p) v (fun a s l => ⟨fL_ne (s := p ++ s) l (by omega), rfl⟩) (h q hq)
  refine ⟨fF (2 * i + 1) L F H, fL (2 * i + 1) L, fF_same R.lf, fF_le R.fle, fL_lf R.lf, fL_lh R.lh, R.len, fun k e he hu => ?_, by simp [R.tlen], fun k e u he hu => ?_, fun a b q h1 h2 => R.inj a b q (fL_some h1) (fL_some h2), fun k u j q he hu hq => by
    rcases getElem?_set_cases he with ⟨_, e, _⟩ | ⟨hne, he⟩
    · cases e
    · exact R.ali k u j q he hu hq⟩
  · obtain ⟨v, h1, h2⟩ := R.slot k e he hu
    exact ⟨v, h1, go (by omega) h2⟩
  · rcases getElem?_set_cases he with ⟨rfl, rfl, _⟩ | ⟨hne, he⟩
    · rw [hv] at hu
      cases hu
      exact RepO.ofF (freeze_rep R.lf hr)
    · exact go (by omega) (R.tmp k e u he hu)
theorem Rel.setTmp {i : Nat} {pv : PV} {v : V} (R : Rel P w K env tm σ τ F H L) (hv : τ[i]? = some v) (h : RepF P w K F pv v) : Rel P w K env (tm.set i (.val pv)) σ τ F H L :=
  ⟨R.fle, R.lf, R.lh, R.len, R.slot, by simp [R.tlen], fun k e u he hu => by
    rcases getElem?_set_cases he with ⟨rfl, rfl, _⟩ | ⟨hne, he⟩
    · rw [hv] at hu
      cases hu
      exact RepO.ofF h
    · exact R.tmp k e u he hu, R.inj, fun k u j q he hu hq => by
    rcases getElem?_set_cases he with ⟨_, e, _⟩ | ⟨hne, he⟩
    · cases e
    · exact R.ali k u j q he hu hq⟩
/-- what a frozen value holds at a place is frozen -/
theorem at_fz : ∀ (q : Path) (y x : PV), y.fz = true → y.at q = some x → x.fz = true
  | [], y, x, hz, e => by rw [PV.at] at e; cases e; exact hz
  | i :: q, y, x, hz, e => by
    cases y with
    | lst o ys =>
      rw [PV.at] at e
      split at e
      · rename_i y' ey'
        simp [PV.fz] at hz
        exact at_fz q y' x (PV.fzs_mem hz.2 (List.mem_of_getElem? ey')) e
      · cases e
    | dct o ks ys =>
      rw [PV.at] at e
      split at e
      · rename_i y' ey'
        simp [PV.fz] at hz
        exact at_fz q y' x (PV.fzs_mem hz.2 (List.mem_of_getElem? ey')) e
      · cases e
    | _ => simp [PV.at] at e
end
/-- an entry frozen: what it is then, the names then -/
def frzE (env : PEnv) : Sl → Option (PV × PEnv)
  | .val pv => some (pv.frz, env)
  | .al j p => match look env j p, env[j]? with
    | some q, some (.val pv) => some (q.frz, env.set j (.val pv.frz))
    | _, _ => none
  | .un => none
def frzEs : PEnv → PEnv → Option (List PV × PEnv)
  | env, [] => some ([], env)
  | env, e :: es => match frzE env e with
    | some (p, env1) => match frzEs env1 es with
      | some (ps, env2) => some (p :: ps, env2)
      | none => none
    | none => none
section
variable {P : Program} {w : World} {K : PySem.W.Frag} {F F' H H' : Hp} {L L' : Lab} {env env' tm tm' : PEnv} {σ σ' : L2.St} {τ τ' : List V}
theorem at_frz : ∀ (q : Path) (y x : PV), y.at q = some x → y.frz.at q = some x.frz
  | [], y, x, e => by rw [PV.at] at e ⊢; cases e; rfl
  | i :: q, y, x, e => by
    have hg : ∀ (ys : List PV) (i : Nat) (y' : PV), ys[i]? = some y' → (PV.frzs ys)[i]? = some y'.frz := by
      intro ys
      induction ys with
      | nil => intro i y' h; simp at h
      | cons a ys ih =>
        intro i y' h
        cases i with
        | zero => simp at h; subst h; simp [PV.frzs]
        | succ i => rw [PV.frzs]; simpa using ih i y' (by simpa using h)
    cases y with
    | lst o ys =>
      rw [PV.at] at e
      split at e
      · rename_i y' ey'
        rw [PV.frz, PV.at, hg ys i y' ey']
        exact at_frz q y' x e
      · cases e
    | dct o ks ys =>
      rw [PV.at] at e
      split at e
      · rename_i y' ey'
        rw [PV.frz, PV.at, hg ys i y' ey']
        exact at_frz q y' x e
      · cases e
    | _ => simp [PV.at] at e
/-- the i-th intermediate result frozen -/
theorem Rel.frzAt {i : Nat} {e : Sl} {v : V} {p : PV} (R : Rel P w K env tm σ τ F H L) (hi : tm[i]? = some e) (hv : τ[i]? = some v) (h : frzE env e = some (p, env')) :
    ∃ F' L', Same F F' ∧ Rel P w K env' (tm.set i (.val p)) σ τ F' H L' := by
  cases e with
  | un => cases h
  | val pv =>
    cases h
    exact R.frzTmp hi hv
  | al j q =>
    have h' : (match look env j q, env[j]? with
      | some x, some (.val pv) => some (x.frz, env.set j (.val pv.frz))
      | _, _ => none) = some (p, env') := h
    cases e1 : look env j q with
    | none => rw [e1] at h'; cases h'
    | some x =>
      obtain ⟨pv, e2, _, _⟩ := look_some e1
      rw [e1, e2] at h'
      cases h'
      refine ⟨_, _, fF_same R.lf, (R.frzSlot e2).setTmp hv ?_⟩
      refine RepO.freeze (fF_same R.lf) x (2 * j :: q) v (fun a s o l e => ?_) (R.tmp i _ v hi hv x e1)
      unfold fF
      rw [l]
      show (if isR (2 * j) (some (2 * j :: (q ++ s))) = true then H a else F a) = some o
      rw [isR_cons, if_pos rfl]
      exact e
/-- all entries from a place on frozen -/
theorem Rel.frzAll : ∀ {es pre : PEnv} {xs px : List V} {env env' : PEnv} {F : Hp} {L : Lab} {ps : List PV}, Rel P w K env (pre ++ es) σ (px ++ xs) F H L → pre.length = px.length → frzEs env es = some (ps, env') →
    ∃ F' L', Same F F' ∧ Rel P w K env' (pre ++ ps.map Sl.val) σ (px ++ xs) F' H L' ∧ RepFs P w K F' ps xs
  | [], pre, xs, px, env, env', F, L, ps, R, hl, h => by
    cases h
    have hx : xs = [] := by
      have := R.tlen
      simp at this
      exact List.length_eq_zero_iff.mp (by omega)
    subst hx
    exact ⟨F, L, Same.refl F, by simpa using R, by rw [RepFs]⟩
  | e :: es, pre, [], px, env, env', F, L, ps, R, hl, h => by
    have := R.tlen
    simp at this
    omega
  | e :: es, pre, x :: xs, px, env, env', F, L, ps, R, hl, h => by
    unfold frzEs at h
    cases e1 : frzE env e with
    | none => rw [e1] at h; cases h
    | some r =>
      obtain ⟨p, env1⟩ := r
      rw [e1] at h
      dsimp only at h
      cases e2 : frzEs env1 es with
      | none => rw [e2] at h; cases h
      | some r2 =>
        obtain ⟨ps', env2⟩ := r2
        rw [e2] at h
        cases h
        obtain ⟨F1, L1, k1, R1⟩ := R.frzAt (i := pre.length) (v := x) (by simp) (by rw [hl]; simp) e1
        have hs : (pre ++ e :: es).set pre.length (.val p) = (pre ++ [.val p]) ++ es := by simp
        rw [hs] at R1
        have R1' : Rel P w K env1 ((pre ++ [.val p]) ++ es) σ ((px ++ [x]) ++ xs) F1 H L1 := by simpa using R1
        obtain ⟨F2, L2, k2, R2, h2⟩ := Rel.frzAll R1' (by simp [hl]) e2
        have hp : RepF P w K F2 p x := by
          have := R2.tmp pre.length (.val p) x (by simp) (by rw [hl]; simp)
          refine RepO.toF ?_ this
          cases e with
          | un => cases e1
          | val pv => cases e1; exact PV.fz_frz _
          | al j q =>
            have h' : (match look env j q, env[j]? with
              | some x, some (.val pv) => some (x.frz, env.set j (.val pv.frz))
              | _, _ => none) = some (p, env1) := e1
            cases e3 : look env j q with
            | none => rw [e3] at h'; cases h'
            | some y =>
              obtain ⟨pv, e4, _, _⟩ := look_some e3
              rw [e3, e4] at h'
              cases h'
              exact PV.fz_frz _
        refine ⟨F2, L2, k1.trans k2, by simpa using R2, ?_⟩
        rw [RepFs]
        exact ⟨x, xs, rfl, hp, h2⟩
end
end Pv
namespace Pv
open PySem PySem.Spec PyProof.Rows L2

theorem modify_get {α : Type} {l : List α} {i k : Nat} {f : α → α} : (l.modify i f)[k]? = if i = k then l[k]?.map f else l[k]? := by
  rw [List.getElem?_modify]
  by_cases h : i = k
  · subst h; simp
  · simp [h]
theorem at_append : ∀ (q r : Path) (x : PV), x.at (q ++ r) = match x.at q with | some y => y.at r | none => none
  | [], r, x => by rw [List.nil_append, PV.at]
  | i :: q, r, x => by
    rw [List.cons_append]
    cases x with
    | lst o ys =>
      rw [PV.at, PV.at]
      cases e : ys[i]? with
      | none => rfl
      | some y => exact at_append q r y
    | dct o ks ys =>
      rw [PV.at, PV.at]
      cases e : ys[i]? with
      | none => rfl
      | some y => exact at_append q r y
    | _ => simp [PV.at]
theorem put_at : ∀ (q r : Path) (x y : PV), (∃ n, x.at (q ++ r) = some n) → (x.put (q ++ r) y).at q = (x.at q).map fun z => z.put r y
  | [], r, x, y, h => by rw [List.nil_append, PV.at, PV.at]; rfl
  | i :: q, r, x, y, h => by
    rw [List.cons_append] at h ⊢
    cases x with
    | lst o ys =>
      rw [put_lst, at_lst, at_lst, modify_get, if_pos rfl]
      rw [at_lst] at h
      cases e : ys[i]? with
      | none => rfl
      | some z =>
        rw [e] at h
        exact put_at q r z y h
    | dct o ks ys =>
      rw [put_dct, at_dct, at_dct, modify_get, if_pos rfl]
      rw [at_dct] at h
      cases e : ys[i]? with
      | none => rfl
      | some z =>
        rw [e] at h
        exact put_at q r z y h
    | _ => simp [PV.at] at h
/-- a place beside the changed one is as it was -/
theorem put_at_off : ∀ (q p : Path) (x y : PV), ¬ p <+: q → ¬ q <+: p → (x.put p y).at q = x.at q
  | q, [], x, y, h, _ => absurd (List.nil_prefix) h
  | [], i :: p, x, y, _, h => absurd (List.nil_prefix) h
  | k :: q, i :: p, x, y, h1, h2 => by
    by_cases e : i = k
    · subst e
      have h1' : ¬ p <+: q := fun z => h1 (List.cons_prefix_cons.mpr ⟨rfl, z⟩)
      have h2' : ¬ q <+: p := fun z => h2 (List.cons_prefix_cons.mpr ⟨rfl, z⟩)
      cases x with
      | lst o ys =>
        rw [put_lst, at_lst, at_lst, modify_get, if_pos rfl]
        cases e : ys[i]? with
        | none => rfl
        | some z => exact put_at_off q p z y h1' h2'
      | dct o ks ys =>
        rw [put_dct, at_dct, at_dct, modify_get, if_pos rfl]
        cases e : ys[i]? with
        | none => rfl
        | some z => exact put_at_off q p z y h1' h2'
      | _ => simp [PV.put]
    · cases x with
      | lst o ys => rw [put_lst, at_lst, at_lst, modify_get, if_neg e]
      | dct o ks ys => rw [put_dct, at_dct, at_dct, modify_get, if_neg e]
      | _ => simp [PV.put]

section
variable {P : Program} {w : World} {K : PySem.W.Frag} {F F' H H' : Hp} {L L' : Lab} {env env' tm tm' : PEnv} {σ σ' : L2.St} {τ τ' : List V}
theorem RepO.put (kF : Same F F') {node' : PV} : ∀ (r : Path) (p0 : Path) (pv node : PV) (v : V), RepO P w K F H L p0 pv v → pv.at r = some node → node.fz = false →
    (∀ u, RepO P w K F H L (p0 ++ r) node u → RepO P w K F' H' L' (p0 ++ r) node' u) →
    (∀ a s, L a = some (p0 ++ s) → ¬ r <+: s → L' a = some (p0 ++ s) ∧ H' a = H a) → RepO P w K F' H' L' p0 (pv.put r node') v
  | [], p0, pv, node, v, h, e, z, hn, m => by
    rw [PV.at] at e
    cases e
    rw [PV.put]
    simpa using hn v (by simpa using h)
  | i :: r, p0, .lst o xs, node, v, h, e, z, hn, m => by
    rw [PV.at] at e
    cases ey : xs[i]? with
    | none => rw [ey] at e; cases e
    | some y =>
      rw [ey] at e
      cases o with
      | false =>
        rw [RepO] at h
        have := RepF.fz _ _ h
        rw [at_fz (i :: r) _ node this (by rw [PV.at, ey]; exact e)] at z
        cases z
      | true =>
        rw [RepO] at h
        obtain ⟨a, vs, ev, l, hh, rs⟩ := h
        rw [put_lst, RepO]
        obtain ⟨l', hh'⟩ := m a [] (by simpa using l) (by simp)
        refine ⟨a, vs, ev, by simpa using l', by rw [hh']; exact hh, RepOs.of (by rw [List.length_modify]; exact rs.length) fun k x u hx hu => ?_⟩
        rw [modify_get] at hx
        by_cases hk : i = k
        · subst hk
          rw [if_pos rfl, ey] at hx
          cases hx
          obtain ⟨u', hu', hr⟩ := rs.get ey
          rw [hu] at hu'
          cases hu'
          refine RepO.put kF r (p0 ++ [0 + i]) y node u hr e z (fun t ht => ?_) (fun b s hl hs => ?_)
          · have := hn t (by rw [List.append_assoc] at ht; rw [Nat.zero_add] at ht; exact ht)
            rw [List.append_assoc, Nat.zero_add]
            exact this
          · rw [List.append_assoc] at hl ⊢
            refine m b ([0 + i] ++ s) hl fun hp => hs ?_
            rw [Nat.zero_add] at hp
            exact (List.cons_prefix_cons.mp hp).2
        · rw [if_neg hk] at hx
          obtain ⟨u', hu', hr⟩ := rs.get hx
          rw [hu] at hu'
          cases hu'
          refine RepO.tr kF x _ _ u (fun b s hl => ?_) hr
          rw [List.append_assoc] at hl ⊢
          refine m b ([0 + k] ++ s) hl fun hp => hk ?_
          rw [Nat.zero_add] at hp
          exact (List.cons_prefix_cons.mp hp).1
  | i :: r, p0, .dct o ks xs, node, v, h, e, z, hn, m => by
    rw [PV.at] at e
    cases ey : xs[i]? with
    | none => rw [ey] at e; cases e
    | some y =>
      rw [ey] at e
      cases o with
      | false =>
        rw [RepO] at h
        have := RepF.fz _ _ h
        rw [at_fz (i :: r) _ node this (by rw [PV.at, ey]; exact e)] at z
        cases z
      | true =>
        rw [RepO] at h
        obtain ⟨a, kes, vs, ev, l, hh, rk, rs⟩ := h
        rw [put_dct, RepO]
        obtain ⟨l', hh'⟩ := m a [] (by simpa using l) (by simp)
        refine ⟨a, kes, vs, ev, by simpa using l', DctR.mono P w hh fun o e => by rw [hh']; exact e, RepFs.mono kF _ _ rk, RepOs.of (by rw [List.length_modify]; exact rs.length) fun k x u hx hu => ?_⟩
        rw [modify_get] at hx
        by_cases hk : i = k
        · subst hk
          rw [if_pos rfl, ey] at hx
          cases hx
          obtain ⟨u', hu', hr⟩ := rs.get ey
          rw [hu] at hu'
          cases hu'
          refine RepO.put kF r (p0 ++ [0 + i]) y node u hr e z (fun t ht => ?_) (fun b s hl hs => ?_)
          · have := hn t (by rw [List.append_assoc] at ht; rw [Nat.zero_add] at ht; exact ht)
            rw [List.append_assoc, Nat.zero_add]
            exact this
          · rw [List.append_assoc] at hl ⊢
            refine m b ([0 + i] ++ s) hl fun hp => hs ?_
            rw [Nat.zero_add] at hp
            exact (List.cons_prefix_cons.mp hp).2
        · rw [if_neg hk] at hx
          obtain ⟨u', hu', hr⟩ := rs.get hx
          rw [hu] at hu'
          cases hu'
          refine RepO.tr kF x _ _ u (fun b s hl => ?_) hr
          rw [List.append_assoc] at hl ⊢
          refine m b ([0 + k] ++ s) hl fun hp => hk ?_
          rw [Nat.zero_add] at hp
          exact (List.cons_prefix_cons.mp hp).1
  | _ :: _, p0, .non, node, v, h, e, z, hn, m => by simp [PV.at] at e
  | _ :: _, p0, .bl _, node, v, h, e, z, hn, m => by simp [PV.at] at e
  | _ :: _, p0, .int _, node, v, h, e, z, hn, m => by simp [PV.at] at e
  | _ :: _, p0, .str _, node, v, h, e, z, hn, m => by simp [PV.at] at e
  | _ :: _, p0, .ref _, node, v, h, e, z, hn, m => by simp [PV.at] at e
  | _ :: _, p0, .ty _, node, v, h, e, z, hn, m => by simp [PV.at] at e
  | _ :: _, p0, .tup _, node, v, h, e, z, hn, m => by simp [PV.at] at e
  | _ :: _, p0, .frl _, node, v, h, e, z, hn, m => by simp [PV.at] at e
end
/-- other names for what hangs below a place are given up -/
def kill (j : Nat) (p : Path) : Sl → Sl
  | .al i q => if i = j ∧ p <+: q ∧ p ≠ q then .un else .al i q
  | e => e
/-- a slot's value changed at a place -/
def putE (env : PEnv) (j : Nat) (p : Path) (y : PV) : PEnv := match env[j]? with
  | some (.val pv) => (env.map (kill j p)).set j (.val (pv.put p y))
  | _ => env
theorem putE_get {env : PEnv} {j : Nat} {p : Path} {y pv : PV} (h : env[j]? = some (.val pv)) : (putE env j p y)[j]? = some (.val (pv.put p y)) := by
  unfold putE
  rw [h]
  rw [List.getElem?_set_self]
  rw [List.length_map]
  exact (List.getElem?_eq_some_iff.mp h).1
section
variable {P : Program} {w : World} {K : PySem.W.Frag} {F F' H H' : Hp} {L L' : Lab} {env env' tm tm' : PEnv} {σ σ' : L2.St} {τ τ' : List V}
/-- THE CHANGE of an object that hangs from a slot. Below the place nothing has another name, but for places that are not ours any more (nt) -/
theorem Rel.mut {j : Nat} {p : Path} {pv node node' : PV} (R : Rel P w K env tm σ τ F H L) (hj : env[j]? = some (.val pv)) (ha : pv.at p = some node) (hz : node.fz = false)
    (k : Same F F') (fle : Same F' H') (lf : ∀ a p, L' a = some p → F' a = none) (lh : ∀ a p, L' a = some p → ∃ o, H' a = some o)
    (hn : ∀ u, RepO P w K F H L (2 * j :: p) node u → RepO P w K F' H' L' (2 * j :: p) node' u)
    (m : ∀ a s, L a = some s → ¬ (2 * j :: p) <+: s → L' a = some s ∧ H' a = H a)
    (inj : ∀ a b q, L' a = some q → L' b = some q → a = b) (nt : ∀ i q, Sl.al i q ∈ tm → ¬ (i = j ∧ p <+: q ∧ p ≠ q) ∨ ∀ x, look (putE env j p node') i q ≠ some x) :
    Rel P w K (putE env j p node') tm σ τ F' H' L' := by
  have hjl := (List.getElem?_eq_some_iff.mp hj).1
  have eE : putE env j p node' = (env.map (kill j p)).set j (.val (pv.put p node')) := by
    unfold putE
    rw [hj]
  obtain ⟨vj, hv, hr⟩ := R.slot j _ hj (by simp)
  have hr : RepO P w K F H L [2 * j] pv vj := hr
  have mr : ∀ {r : Nat}, r ≠ 2 * j → ∀ a s, L a = some (r :: s) → L' a = some (r :: s) ∧ H' a = H a := fun hne a s l => m a _ l fun hp => hne (List.cons_prefix_cons.mp hp).1.symm
  have lk_ne : ∀ {i : Nat} {q : Path} {x : PV}, i ≠ j → look (putE env j p node') i q = some x → look env i q = some x := fun {i q x} hi h => by
    obtain ⟨y, e1, e2, e3⟩ := look_some h
    rw [eE, List.getElem?_set_ne (Ne.symm hi), List.getElem?_map] at e1
    cases e4 : env[i]? with
    | none => rw [e4] at e1; cases e1
    | some s =>
      rw [e4] at e1
      cases s with
      | un => cases e1
      | val z => cases e1; exact look_of e4 e2 e3
      | al i' q' =>
        simp only [Option.map_some, Option.some.injEq, kill] at e1
        split at e1 <;> cases e1
  have go : ∀ {r : Nat} {e : Sl} {v : V}, (r ≠ 2 * j ∨ ∃ i q, e = .al i q) → (∀ i q, e = .al i q → ¬ (i = j ∧ p <+: q ∧ p ≠ q) ∨ ∀ x, look (putE env j p node') i q ≠ some x) → Ent P w K env F H L r e v → Ent P w K (putE env j p node') F' H' L' r e v := fun {r e v} hne hal h => by
    cases e with
    | un => trivial
    | val q =>
      rcases hne with hne | ⟨_, _, e⟩
      · exact RepO.tr k q [r] [r] v (fun a s l => mr hne a s l) h
      · cases e
    | al i q =>
      intro x hx
      rcases hal i q rfl with hal | hal
      · by_cases hi : i = j
        · subst hi
          obtain ⟨y, e1, e2, e3⟩ := look_some hx
          rw [putE_get hj] at e1
          cases e1
          by_cases hqp : q <+: p
          · obtain ⟨r', rfl⟩ := hqp
            rw [put_at q r' pv node' ⟨node, ha⟩] at e2
            rw [at_append] at ha
            cases e4 : pv.at q with
            | none => rw [e4] at ha; cases ha
            | some z =>
              rw [e4] at ha e2
              cases e2
              have hzz : z.fz = false := by
                cases hb : z.fz with
                | false => rfl
                | true => rw [at_fz r' z node hb ha] at hz; cases hz
              refine RepO.put k r' (2 * i :: q) z node v (h z (look_of hj e4 hzz)) ha hz hn fun a s l hs => ?_
              refine m a _ l fun hp => hs ?_
              have : (2 * i :: (q ++ r')) <+: (2 * i :: (q ++ s)) := hp
              exact (List.prefix_append_right_inj q).mp (List.cons_prefix_cons.mp this).2
          · have hpq : ¬ p <+: q := fun z => hal ⟨rfl, z, fun e => hqp (by rw [e]; exact List.prefix_refl _)⟩
            rw [put_at_off q p pv node' hpq hqp] at e2
            refine RepO.tr k x (2 * i :: q) (2 * i :: q) v (fun a s l => m a _ l fun hp => ?_) (h x (look_of hj e2 e3))
            have : (2 * i :: p) <+: (2 * i :: (q ++ s)) := hp
            have := (List.cons_prefix_cons.mp this).2
            rcases List.prefix_or_prefix_of_prefix this (List.prefix_append q s) with z | z
            · exact hpq z
            · exact hqp z
        · exact RepO.tr k x (2 * i :: q) (2 * i :: q) v (fun a s l => mr (by omega) a _ l) (h x (lk_ne hi hx))
      · exact absurd hx (hal x)
  refine ⟨fle, lf, lh, by rw [eE, List.length_set, List.length_map]; exact R.len, fun i e he hu => ?_, R.tlen, fun i e v he hv => go (.inl (by omega)) (fun i' q' e' => nt i' q' (by rw [← e']; exact List.mem_of_getElem? he)) (R.tmp i e v he hv), inj, fun i v i' q he hw hq => by
    by_cases hi : i' = j
    · subst hi
      refine R.ali i v i' pv he hw (look_of hj rfl ?_)
      cases hb : pv.fz with
      | false => rfl
      | true => rw [at_fz p pv node hb ha] at hz; cases hz
    · exact R.ali i v i' q he hw (lk_ne hi hq)⟩
  by_cases hi : i = j
  · subst hi
    rw [putE_get hj] at he
    cases he
    refine ⟨vj, hv, RepO.put k p [2 * i] pv node vj hr ha hz hn fun a s l hs => m a _ l fun hp => hs ?_⟩
    exact (List.cons_prefix_cons.mp hp).2
  · rw [eE, List.getElem?_set_ne (Ne.symm hi), List.getElem?_map] at he
    cases e4 : env[i]? with
    | none => rw [e4] at he; cases he
    | some s =>
      rw [e4] at he
      have he' : kill j p s = e := by simpa using he
      cases s with
      | un => rw [← he'] at hu; exact absurd rfl hu
      | val z =>
        obtain ⟨v, h1, h2⟩ := R.slot i _ e4 (by simp)
        rw [← he']
        exact ⟨v, h1, go (.inl (by omega)) (fun _ _ e => by cases e) h2⟩
      | al i' q' =>
        obtain ⟨v, h1, h2⟩ := R.slot i _ e4 (by simp)
        by_cases hc : i' = j ∧ p <+: q' ∧ p ≠ q'
        · have e5 : kill j p (.al i' q') = .un := by
            show (if i' = j ∧ p <+: q' ∧ p ≠ q' then Sl.un else .al i' q') = _
            rw [if_pos hc]
          rw [e5] at he'
          exact absurd he'.symm hu
        · have e5 : kill j p (.al i' q') = .al i' q' := by
            show (if i' = j ∧ p <+: q' ∧ p ≠ q' then Sl.un else .al i' q') = _
            rw [if_neg hc]
          rw [e5] at he'
          rw [← he']
          exact ⟨v, h1, go (.inl (by omega)) (fun i2 q2 e => by cases e; exact .inl hc) h2⟩
end
end Pv
namespace Pv
open PySem PySem.Spec PyProof.Rows L2

/-! ### displays -/
def dtupE (es : PEnv) : D Sl := fun env => match frzEs env es with
  | some (ps, env') => if es.length ≤ 1000 then .ok (.val (.tup ps)) env' else .no
  | none => .no
def dlstE (es : PEnv) : D Sl := fun env => match frzEs env es with
  | some (ps, env') => if es.length ≤ 1000 then .ok (.val (.lst true ps)) env' else .no
  | none => .no
def dtup (d : D PEnv) : D Sl := dbind d dtupE
def dlst (d : D PEnv) : D Sl := dbind d dlstE

section
variable {X : Cx} {W : WX} {a b c : Expr} {da db dc : D Sl} {ds : D PEnv} {es : List Expr} {pos : Pos}
theorem ev_tup {x1} (h : AV X W es ds) : EV X W (.Tuple es x1 pos) (dtup ds) := PEimp (pe_tup h) fun σ H Q q => (tAr.bind (es := []) (xs := []) q).mono fun vs H1 ⟨en, q⟩ => by
  obtain ⟨env, tm, τ, F, L, hl, R, q⟩ := q
  unfold dtupE at q
  cases e1 : frzEs env en with
  | none => rw [e1] at q; exact q.elim
  | some r =>
    obtain ⟨ps, env'⟩ := r
    rw [e1] at q
    dsimp only at q
    by_cases hs : en.length ≤ 1000
    · rw [if_pos hs] at q
      have hl' : en.length = vs.length := by simpa using hl
      refine ⟨by rw [← hl', ← sl24]; omega, fun p hp => ?_⟩
      obtain ⟨F1, L1, k1, R1, hf⟩ := Rel.frzAll (pre := tm) (px := τ) (by simpa using R) (by have := R.tlen; simp at this; omega) e1
      have hlm : (ps.map Sl.val).length = vs.length := by have := hf.length; simpa using this
      obtain ⟨R2, k2⟩ := (R1.popN hlm).newT hp hf
      exact q [.ref p] _ _ L1 rfl (k1.trans k2) R2 _ rfl
    · rw [if_neg hs] at q; exact q.elim
theorem ev_lst (h : AV X W es ds) : EV X W (.List es pos) (dlst ds) := PEimp (pe_lst h) fun σ H Q q => (tAr.bind (es := []) (xs := []) q).mono fun vs H1 ⟨en, q⟩ => by
  obtain ⟨env, tm, τ, F, L, hl, R, q⟩ := q
  unfold dlstE at q
  cases e1 : frzEs env en with
  | none => rw [e1] at q; exact q.elim
  | some r =>
    obtain ⟨ps, env'⟩ := r
    rw [e1] at q
    dsimp only at q
    by_cases hs : en.length ≤ 1000
    · rw [if_pos hs] at q
      have hl' : en.length = vs.length := by simpa using hl
      refine ⟨by rw [← hl', ← sl24]; omega, fun p hp => ?_⟩
      obtain ⟨F1, L1, k1, R1, hf⟩ := Rel.frzAll (pre := tm) (px := τ) (by simpa using R) (by have := R.tlen; simp at this; omega) e1
      have hlm : (ps.map Sl.val).length = vs.length := by have := hf.length; simpa using this
      exact q [.ref p] _ _ _ rfl k1 ((R1.popN hlm).newL hp hf) _ rfl
    · rw [if_neg hs] at q; exact q.elim

/-! ### calls of what is built in -/
theorem ev_callB {x : Str} {p : Pos} {id : String} {g : List PV → Option PV} {e : Expr} (h : Rule X (fun us => call (.builtin id) us) g) (hg : Gl X x) (hm : X.mg x = none) (hv : bootBuiltins x = some (.builtin id)) (ha : AV X W (e :: es) ds)
    (hn : x ≠ "__name__" := by decide) (hdb : (x == ("__debug__" : Str)) = false := by decide)
    (he : starEach (e :: es) X.env = (false, eval e X.env) :: starEach es X.env := by rfl) (hpl : (backTo pos (starEach es X.env)).any (·.1) = false := by rfl) : EV X W (.Call (.Name x p) (e :: es) [] pos) (dcall (dfn g) ds) :=
  PEimp (pe_callB (h.call (W := W)) hg hm hv ha hn hdb he hpl) fun σ H Q q => (tAr.bind (es := []) (xs := []) q).mono fun vs H1 ⟨en, q⟩ => ⟨σ, en, by simpa using q⟩
theorem ev_callT {x : Str} {p : Pos} {T : String} {g : List PV → Option PV} {e : Expr} (h : Rule X (fun us => call (.type T) us) g) (hg : Gl X x) (hm : X.mg x = none) (hv : bootBuiltins x = some (.type T)) (ha : AV X W (e :: es) ds)
    (hn : x ≠ "__name__" := by decide) (hdb : (x == ("__debug__" : Str)) = false := by decide)
    (he : starEach (e :: es) X.env = (false, eval e X.env) :: starEach es X.env := by rfl) (hpl : (backTo pos (starEach es X.env)).any (·.1) = false := by rfl) : EV X W (.Call (.Name x p) (e :: es) [] pos) (dcall (dfn g) ds) :=
  PEimp (pe_callTy (h.call (W := W)) hg hm hv ha hn hdb he hpl) fun σ H Q q => (tAr.bind (es := []) (xs := []) q).mono fun vs H1 ⟨en, q⟩ => ⟨σ, en, by simpa using q⟩

/-! ### subscripts -/
end
def dixE (a b : Sl) : D Sl := fun env => match cont env a, cont env b with
  | some (.lst _ xs), some (.int i) => match ixN xs.length i with
    | some k => match xs[k]? with
      | some x => if x.fz = true then .ok (.val x) env else match a with
        | .al j p => .ok (.al j (p ++ [k])) env
        | _ => .no
      | none => .no
    | none => .no
  | some (.tup xs), some (.int i) => match atI xs i with
    | some x => .ok (.val x) env
    | none => .no
  | _, _ => .no
section
variable {X : Cx} {W : WX} {a b c : Expr} {da db dc : D Sl} {ds : D PEnv} {es : List Expr} {pos : Pos}
theorem ix_any : IxR X (rI2 X.prog X.w X.K W dixE) := by
  intro value slice pins s σ0 H x y v u Q I rx ry ⟨σ, a, b, q⟩ hs
  obtain ⟨env, tm, τ, F, L, hl, R, q⟩ := q
  unfold dixE at q
  have Ra : Rel X.prog X.w X.K env ((tm ++ [a]) ++ [b]) σ ((τ ++ [x]) ++ [y]) F H L := by simpa using R
  have ta := Ra.pop.top
  have tb := Ra.top
  cases e1 : cont env a with
  | none => rw [e1] at q; exact q.elim
  | some pa =>
    cases e2 : cont env b with
    | none =>
      rw [e1, e2] at q
      cases pa <;> exact q.elim
    | some pb =>
      rw [e1, e2] at q
      obtain ⟨qa, ra⟩ := ta.rep e1
      obtain ⟨qb, rb⟩ := tb.rep e2
      cases pb with
      | int i =>
        cases (show y = .int i from rb)
        cases pa with
        | lst o xs =>
          dsimp only at q
          obtain ⟨p0, vs, rfl, hp, hlen, _⟩ := RepO.asL R.fle ra
          cases e3 : ixN xs.length i with
          | none => rw [e3] at q; exact q.elim
          | some k =>
            rw [e3] at q
            dsimp only at q
            cases e4 : xs[k]? with
            | none => rw [e4] at q; exact q.elim
            | some z =>
              rw [e4] at q
              dsimp only at q
              have hat : ∀ v0, vs[k]? = some v0 → atI vs i = some v0 := fun v0 h0 => by
                unfold atI
                rw [← hlen, e3]
                exact h0
              -- the item's value
              obtain ⟨v0, hv0, hr0⟩ : ∃ v0, vs[k]? = some v0 ∧ (z.fz = true → RepF X.prog X.w X.K F z v0) ∧ ∀ j p, a = .al j p → RepO X.prog X.w X.K F H L (2 * j :: (p ++ [k])) z v0 ∨ z.fz = true := by
                cases o with
                | true =>
                  have ra' := ra
                  rw [RepO] at ra'
                  obtain ⟨p1, vs1, ev, _, hh, rs⟩ := ra'
                  cases ev
                  rw [hp] at hh
                  cases hh
                  obtain ⟨v0, h1, h2⟩ := rs.get e4
                  refine ⟨v0, h1, fun hz => RepO.toF hz h2, fun j p ea => .inl ?_⟩
                  subst ea
                  have h3 := ta _ e1
                  rw [RepO] at h3
                  obtain ⟨p1, vs1, ev, _, hh, rs3⟩ := h3
                  cases ev
                  rw [hp] at hh
                  cases hh
                  obtain ⟨v0', h1', h2'⟩ := rs3.get e4
                  rw [h1] at h1'
                  cases h1'
                  rw [Nat.zero_add] at h2'
                  exact h2'
                | false =>
                  have ra' := ra
                  rw [RepO, RepF] at ra'
                  obtain ⟨_, p1, vs1, ev, hh, rs⟩ := ra'
                  cases ev
                  have := R.fle _ _ hh
                  rw [hp] at this
                  cases this
                  obtain ⟨v0, h1, h2⟩ := rs.get e4
                  exact ⟨v0, h1, fun hz => h2, fun j p ea => .inr (RepF.fz _ _ h2)⟩
              have fin : Q v0 H := by
                by_cases hz : z.fz = true
                · rw [if_pos hz] at q
                  exact q [v0] F H L rfl (Same.refl F) ((R.popN hl).pushF (hr0.1 hz)) v0 rfl
                · rw [if_neg hz] at q
                  cases a with
                  | un => cases e1
                  | val pv => exact q.elim
                  | al j p =>
                    refine q [v0] F H L rfl (Same.refl F) ((R.popN hl).push ?_ fun j' q' ej _ => by simp at ej) v0 rfl
                    intro x' hx'
                    rcases hr0.2 j p rfl with h | h
                    · -- the item is what stands at the place
                      obtain ⟨pv, g1, g2, g3⟩ := look_some hx'
                      obtain ⟨pv', g1', g2', g3'⟩ := look_some e1
                      rw [g1] at g1'
                      cases g1'
                      rw [at_append, g2'] at g2
                      dsimp only at g2
                      rw [at_lst, e4] at g2
                      dsimp only at g2
                      rw [PV.at] at g2
                      cases g2
                      exact h
                    · exact absurd h hz
              exact ix_list value slice pins s σ0 H _ _ v u Q I rx ry ⟨p0, vs, i, v0, rfl, rfl, SqL.of hp, hat v0 hv0, fin⟩ hs
        | tup xs =>
          dsimp only at q
          obtain ⟨p0, vs, rfl, hp, rs, _⟩ := RepO.asT R.fle ra
          cases e3 : atI xs i with
          | none => rw [e3] at q; exact q.elim
          | some z =>
            rw [e3] at q
            dsimp only at q
            have : ∃ k, ixN xs.length i = some k ∧ xs[k]? = some z := by
              unfold atI at e3
              cases e4 : ixN xs.length i with
              | none => rw [e4] at e3; cases e3
              | some k => rw [e4] at e3; exact ⟨k, rfl, e3⟩
            obtain ⟨k, h1, h2⟩ := this
            obtain ⟨v0, h3, h4⟩ := rs.get h2
            have hat : atI vs i = some v0 := by
              unfold atI
              rw [← rs.length, h1]
              exact h3
            exact ix_tup value slice pins s σ0 H _ _ v u Q I rx ry ⟨p0, vs, i, v0, rfl, rfl, hp, hat, q [v0] F H L rfl (Same.refl F) ((R.popN hl).pushF h4) v0 rfl⟩ hs
        | _ => exact q.elim
      | _ => cases pa <;> exact q.elim
theorem ev_ix (ha : EV X W a da) (hb : EV X W b db) (hs : PlainIx b := by exact fun _ _ => rfl) : EV X W (.Subscript a b pos) (dop dixE da db) :=
  PEimp (pe_ix (ix_any (W := W)) ha hb hs) fun σ H Q h => (tE.bind (es := []) (xs := []) h).mono fun v H1 ⟨e, q⟩ => (tE.bind q).mono fun u H2 ⟨e2, q2⟩ => ⟨σ, e, e2, q2⟩

/-! ### slices -/
abbrev tO3 (X : Cx) (W : WX) (d : Option (D Sl)) : TO := match d with
  | none => tNoPart
  | some d => tPart (tE X.prog X.w X.K W d)
end
def intOf (p : Option PV) : Option Int := match p with
  | some (.int i) => some i
  | _ => none
def dint (a : Sl) : D Int := dget fun env => intOf (cont env a)
def dpart : Option (D Sl) → D (Option Int)
  | none => dpure none
  | some d => dbind d fun a => dbind (dint a) fun i => dpure (some i)
def cutP (xs : List PV) (lo hi : Option Int) : List PV := (xs.drop (HT.sIx xs.length 0 lo)).take (HT.sIx xs.length xs.length hi - HT.sIx xs.length 0 lo)
def dcut (a : Sl) (lo hi : Option Int) : D Sl := fun env => match cont env a with
  | some (.lst _ xs) => if PV.fzs xs = true then .ok (.val (.lst true (cutP xs lo hi))) env else .no
  | some (.frl xs) => .ok (.val (.lst true (cutP xs lo hi))) env
  | some (.tup xs) => .ok (.val (.tup (cutP xs lo hi))) env
  | _ => .no
def dslice (d : D Sl) (lo hi : Option (D Sl)) : D Sl := dbind d fun a => dbind (dpart lo) fun l => dbind (dpart hi) fun h => dcut a l h
def drev (a : Sl) : D Sl := fun env => match cont env a with
  | some (.lst _ xs) => if PV.fzs xs = true then .ok (.val (.lst true xs.reverse)) env else .no
  | some (.tup xs) => .ok (.val (.tup xs.reverse)) env
  | _ => .no
section
variable {X : Cx} {W : WX} {a b c : Expr} {da db dc : D Sl} {ds : D PEnv} {es : List Expr} {pos : Pos}
theorem RepFs.cut {P : Program} {w : World} {K : PySem.W.Frag} {F : Hp} {xs : List PV} {vs : List V} (h : RepFs P w K F xs vs) (lo hi : Option Int) : RepFs P w K F (cutP xs lo hi) (cutV vs lo hi) := by
  have hl := h.length
  refine RepFs.of (by unfold cutP cutV; simp [hl]) fun i x v hx hv => ?_
  unfold cutP at hx
  unfold cutV at hv
  rw [List.getElem?_take] at hx hv
  split at hx
  · rename_i h1
    rw [hl] at h1
    rw [if_pos h1, List.getElem?_drop] at hv
    rw [List.getElem?_drop, hl] at hx
    obtain ⟨u, e1, e2⟩ := h.get hx
    rw [hv] at e1
    cases e1
    exact e2
  · cases hx
theorem RepFs.rev {P : Program} {w : World} {K : PySem.W.Frag} {F : Hp} : ∀ {xs : List PV} {vs : List V}, RepFs P w K F xs vs → RepFs P w K F xs.reverse vs.reverse
  | [], vs, h => by
    rw [RepFs] at h
    subst h
    simp [RepFs]
  | x :: xs, vs, h => by
    rw [RepFs] at h
    obtain ⟨v, r, rfl, h1, h2⟩ := h
    rw [List.reverse_cons, List.reverse_cons]
    refine (RepFs.rev h2).append ?_
    rw [RepFs]
    exact ⟨v, [], rfl, h1, by rw [RepFs]⟩
def rCut (P : Program) (w : World) (K : PySem.W.Frag) (W : WX) : V → Option Int → Option Int → Hp → VK → Prop := fun x lo hi H Q => ∃ σ a, tZ P w K W [a] [x] (dcut a lo hi) σ H (fun e => [e]) fun _ vs H' => ∀ v, vs = [v] → Q v H'
theorem sl_any : SlR X (rCut X.prog X.w X.K W) := by
  intro pins s σ0 H x v vl vu lo hi sl Q I rx hs pl pu ⟨σ, a, q⟩
  obtain ⟨env, tm, τ, F, L, hl, R, q⟩ := q
  unfold dcut at q
  cases e1 : cont env a with
  | none => rw [e1] at q; exact q.elim
  | some pa =>
    rw [e1] at q
    obtain ⟨qa, ra⟩ := R.top.rep e1
    cases pa with
    | lst o xs =>
      dsimp only at q
      obtain ⟨p0, vs, rfl, hp, hlen, hf⟩ := RepO.asL R.fle ra
      by_cases hz : PV.fzs xs = true
      · rw [if_pos hz] at q
        exact sl_list pins s σ0 H _ v vl vu lo hi sl Q I rx hs pl pu ⟨p0, vs, rfl, SqL.of hp, fun p hn => q [.ref p] _ _ _ rfl (Same.refl F) (R.pop.newL hn ((hf hz).cut lo hi)) _ rfl⟩
      · rw [if_neg hz] at q; exact q.elim
    | frl xs =>
      dsimp only at q
      rw [RepO, RepF] at ra
      obtain ⟨p0, vs, rfl, hp, rs⟩ := ra
      exact sl_list pins s σ0 H _ v vl vu lo hi sl Q I rx hs pl pu ⟨p0, vs, rfl, SqL.mono R.fle hp, fun p hn => q [.ref p] _ _ _ rfl (Same.refl F) (R.pop.newL hn (rs.cut lo hi)) _ rfl⟩
    | tup xs =>
      dsimp only at q
      obtain ⟨p0, vs, rfl, hp, rs, hpF⟩ := RepO.asT R.fle ra
      refine sl_tupA pins s σ0 H _ v vl vu lo hi sl Q I rx hs pl pu ⟨p0, vs, rfl, hp, fun hw => ?_, fun hw p hn => ?_⟩
      · refine q [.ref p0] F H L rfl (Same.refl F) (R.pop.pushF ?_) _ rfl
        have : cutP xs lo hi = xs := by
          unfold cutP
          rw [rs.length, hw.1, hw.2, List.drop_zero, Nat.sub_zero, ← rs.length, List.take_length]
        rw [this, RepF]
        exact ⟨p0, vs, rfl, hpF, rs⟩
      · obtain ⟨R2, k2⟩ := R.pop.newT hn (rs.cut lo hi)
        exact q [.ref p] _ _ _ rfl k2 R2 _ rfl
    | _ => exact q.elim
/-- the top entry is an int -/
theorem tZ.int {α : Type} {es : PEnv} {xs : List V} {σ : L2.St} {H : Hp} {e : Sl} {x : V} {g : Int → D α} {ps : α → PEnv} {Q : α → List V → Hp → Prop} (h : tZ X.prog X.w X.K W (es ++ [e]) (xs ++ [x]) (dbind (dint e) g) σ H ps Q) (hl : es.length = xs.length) :
    ∃ k, x = .int k ∧ tZ X.prog X.w X.K W (es ++ [e]) (xs ++ [x]) (g k) σ H ps Q := by
  obtain ⟨env, tm, τ, F, L, k, _, R, e1, h⟩ := h.get
  have R2 : Rel X.prog X.w X.K env ((tm ++ es) ++ [e]) σ ((τ ++ xs) ++ [x]) F H L := by simpa using R
  have e1' : cont env e = some (.int k) := by
    unfold intOf at e1
    split at e1
    · rename_i h'; cases e1; exact h'
    · cases e1
  obtain ⟨p, hp⟩ := R2.top.rep e1'
  exact ⟨k, hp, h⟩
theorem tZ.len {α : Type} {es : PEnv} {xs : List V} {σ : L2.St} {H : Hp} {d : D α} {ps : α → PEnv} {Q : α → List V → Hp → Prop} (h : tZ X.prog X.w X.K W es xs d σ H ps Q) : es.length = xs.length := by
  obtain ⟨_, _, _, _, _, hl, _⟩ := h
  exact hl
/-- an intermediate result goes from the top, if it is frozen and nothing stands upon it -/
theorem tZ.pop1 {α : Type} {es : PEnv} {xs : List V} {σ : L2.St} {H : Hp} {e : Sl} {x : V} {d : D α} {ps : α → PEnv} {Q : α → List V → Hp → Prop} (h : tZ X.prog X.w X.K W (es ++ [e]) (xs ++ [x]) d σ H ps Q) : tZ X.prog X.w X.K W es xs d σ H ps Q := by
  obtain ⟨env, tm, τ, F, L, hl, R, h⟩ := h
  have R2 : Rel X.prog X.w X.K env ((tm ++ es) ++ [e]) σ ((τ ++ xs) ++ [x]) F H L := by simpa using R
  refine ⟨env, tm, τ, F, L, by simpa using hl, R2.pop, ?_⟩
  cases e : d env with
  | no => rw [e] at h; exact h
  | ok a env' => rw [e] at h; exact h
  | ex c env' => rw [e] at h; exact h
theorem dbind_assoc {α β γ : Type} (d : D α) (f : α → D β) (g : β → D γ) : dbind (dbind d f) g = dbind d fun a => dbind (f a) g := by
  funext env
  unfold dbind
  cases d env <;> rfl
theorem part_imp {α : Type} {es : PEnv} {xs : List V} {σ : L2.St} {H : Hp} {lo : Option (D Sl)} {f : Option Int → D α} {ps : α → PEnv} {Q : α → List V → Hp → Prop} (h : tZ X.prog X.w X.K W es xs (dbind (dpart lo) f) σ H ps Q) :
    (match lo with | none => tNoPart | some d => tPart (tE X.prog X.w X.K W d)) σ H fun o H1 => tZ X.prog X.w X.K W es xs (f o) σ H1 ps Q := by
  cases lo with
  | none => exact h
  | some d =>
    have h' : tZ X.prog X.w X.K W es xs (dbind d fun a => dbind (dint a) fun i => f (some i)) σ H ps Q := by
      have e : (dbind (dpart (some d)) f) = (dbind d fun a => dbind (dint a) fun i => f (some i)) := by
        show dbind (dbind d fun a => dbind (dint a) fun i => dpure (some i)) f = _
        rw [dbind_assoc]
        congr 1
        funext a
        rw [dbind_assoc]
        rfl
      rw [← e]; exact h
    exact (tE.bind h').mono fun v H1 ⟨e, q⟩ => by
      obtain ⟨k, ek, q⟩ := tZ.int q (by have := q.len; simpa using this)
      exact ⟨k, ek, q.pop1⟩
theorem ev_slice {lo hi : Option Expr} {dl dh : Option (D Sl)} {p2 : Pos} (ha : EV X W a da) (hl : PO X lo (match dl with | none => tNoPart | some d => tPart (tE X.prog X.w X.K W d))) (hh : PO X hi (match dh with | none => tNoPart | some d => tPart (tE X.prog X.w X.K W d))) :
    EV X W (.Subscript a (.Slice lo hi none p2) pos) (dslice da dl dh) :=
  PEimp (pe_slice (sl_any (W := W)) ha hl hh) fun σ H Q h => (tE.bind (es := []) (xs := []) h).mono fun v H1 ⟨e, q⟩ => by
    have q1 := part_imp q
    cases dl with
    | none =>
      have q2 := part_imp (show tZ X.prog X.w X.K W _ _ (dbind (dpart dh) _) σ H1 _ _ from q1)
      cases dh with
      | none => exact ⟨σ, e, q2⟩
      | some d => exact (show tE X.prog X.w X.K W d σ H1 _ from q2).mono fun v2 H2 ⟨i, e2, q3⟩ => ⟨i, e2, σ, e, by simpa using q3⟩
    | some d0 =>
      refine (show tE X.prog X.w X.K W d0 σ H1 _ from q1).mono fun v1 H2 ⟨i, e1, q3⟩ => ⟨i, e1, ?_⟩
      have q2 := part_imp q3
      cases dh with
      | none => exact ⟨σ, e, q2⟩
      | some d => exact (show tE X.prog X.w X.K W d σ H2 _ from q2).mono fun v2 H2 ⟨i, e2, q3⟩ => ⟨i, e2, σ, e, by simpa using q3⟩
end
end Pv
namespace Pv
open PySem PySem.Spec PyProof.Rows L2

/-- how a statement ends -/
inductive Fl where
  | nx | rt (e : Sl) | bk | ct

section
variable (P : Program) (w : World) (K : PySem.W.Frag) (W : WX) (fi : List Nat) (σ0 : L2.St)
def FxOk (σ : L2.St) : Prop := ∀ i ∈ fi, σ[i]? = σ0[i]?
/-- what is wanted behind a statement -/
def flQ (Dn : Ends) (tm : List PV) (τ : List V) (F : Hp) : Fl → PEnv → Prop
  | .nx, env' => ∀ σ' F' H' L', Same F F' → Rel P w K env' (tm.map .val) σ' τ F' H' L' → FxOk fi σ0 σ' → Dn.nx σ' H'
  | .bk, env' => ∀ σ' F' H' L', Same F F' → Rel P w K env' (tm.map .val) σ' τ F' H' L' → FxOk fi σ0 σ' → Dn.bk σ' H'
  | .ct, env' => ∀ σ' F' H' L', Same F F' → Rel P w K env' (tm.map .val) σ' τ F' H' L' → FxOk fi σ0 σ' → Dn.ct σ' H'
  | .rt e, env' => ∀ (ex : List PV) (xs : List V) σ' v F' H' L', ex.length = xs.length → Same F F' → Rel P w K env' ((tm ++ ex).map .val ++ [e]) σ' (τ ++ xs ++ [v]) F' H' L' → FxOk fi σ0 σ' → Dn.rt v H'
def outQ (Dn : Ends) (tm : List PV) (τ : List V) (F : Hp) : Out Fl → Prop
  | .no => False
  | .ok f env' => flQ P w K fi σ0 Dn tm τ F f env'
  | .ex c env' => ∀ σ' F' H' L', Same F F' → Rel P w K env' (tm.map .val) σ' τ F' H' L' → FxOk fi σ0 σ' → W c none σ' H'
def tS (d : D Fl) : TS := fun Dn σ H => ∃ env tm τ F L, Rel P w K env (tm.map .val) σ τ F H L ∧ FxOk fi σ0 σ ∧ outQ P w K W fi σ0 Dn tm τ F (d env)
end

section
variable {P : Program} {w : World} {K : PySem.W.Frag} {W : WX} {fi : List Nat} {σ0 : L2.St}
theorem flQ.mono {Dn : Ends} {tm : List PV} {τ : List V} {F F1 : Hp} {f : Fl} {env : PEnv} (h : flQ P w K fi σ0 Dn tm τ F f env) (k : Same F F1) : flQ P w K fi σ0 Dn tm τ F1 f env := by
  cases f with
  | nx => exact fun σ' F' H' L' k' => h σ' F' H' L' (k.trans k')
  | bk => exact fun σ' F' H' L' k' => h σ' F' H' L' (k.trans k')
  | ct => exact fun σ' F' H' L' k' => h σ' F' H' L' (k.trans k')
  | rt e => exact fun ex xs σ' v F' H' L' hl k' => h ex xs σ' v F' H' L' hl (k.trans k')
theorem outQ.mono {Dn : Ends} {tm : List PV} {τ : List V} {F F1 : Hp} {o : Out Fl} (h : outQ P w K W fi σ0 Dn tm τ F o) (k : Same F F1) : outQ P w K W fi σ0 Dn tm τ F1 o := by
  cases o with
  | no => exact h
  | ok f env => exact flQ.mono h k
  | ex c env => exact fun σ' F' H' L' k' => h σ' F' H' L' (k.trans k')
end

abbrev SV (X : Cx) (W : WX) (fi : List Nat) (σ0 : L2.St) (st : Stmt) (d : D Fl) : Prop := PS X st (tS X.prog X.w X.K W fi σ0 d)
abbrev BV (X : Cx) (W : WX) (fi : List Nat) (σ0 : L2.St) (st : List Stmt) (d : D Fl) : Prop := PSs X st (tS X.prog X.w X.K W fi σ0 d)
theorem PSimp {X : Cx} {e : Stmt} {t t' : TS} (h : PS X e t) (k : ∀ D σ H, t' D σ H → t D σ H) : PS X e t' := ⟨fun pins s σ H D I q => h.run pins s σ H D I (k D σ H q)⟩
theorem PSsimp {X : Cx} {e : List Stmt} {t t' : TS} (h : PSs X e t) (k : ∀ D σ H, t' D σ H → t D σ H) : PSs X e t' := ⟨fun pins s σ H D I q => h.run pins s σ H D I (k D σ H q)⟩

def dskip : D Fl := dpure .nx
def dseq (a b : D Fl) : D Fl := dbind a fun f => match f with
  | .nx => b
  | f => dpure f
section
variable {X : Cx} {W : WX} {fi : List Nat} {σ0 : L2.St} {a b c : Expr} {da db dc : D Sl} {sa sb : D Fl} {ta : D Bool} {st : Stmt} {rest sts sts2 : List Stmt} {pos : Pos}
theorem bv_nil : BV X W fi σ0 [] dskip := PSsimp pss_nil fun Dn σ H ⟨env, tm, τ, F, L, R, fx, h⟩ => h σ F H L (Same.refl F) R fx
theorem seq_imp {Dn : Ends} {σ : L2.St} {H : Hp} (h : tS X.prog X.w X.K W fi σ0 (dseq sa sb) Dn σ H) : tSeq (tS X.prog X.w X.K W fi σ0 sa) (tS X.prog X.w X.K W fi σ0 sb) Dn σ H := by
  obtain ⟨env, tm, τ, F, L, R, fx, h⟩ := h
  refine ⟨env, tm, τ, F, L, R, fx, ?_⟩
  unfold dseq dbind at h
  cases e : sa env with
  | no => rw [e] at h; exact h
  | ex c env' => rw [e] at h; exact h
  | ok f env' =>
    rw [e] at h
    cases f with
    | nx => exact fun σ' F' H' L' k R' fx' => ⟨env', tm, τ, F', L', R', fx', outQ.mono h k⟩
    | rt _ => exact h
    | bk => exact h
    | ct => exact h
theorem bv_cons (h1 : SV X W fi σ0 st sa) (h2 : BV X W fi σ0 rest sb) : BV X W fi σ0 (st :: rest) (dseq sa sb) := PSsimp (pss_cons h1 h2) fun Dn σ H h => seq_imp h
theorem bv_one (h1 : SV X W fi σ0 st sa) : BV X W fi σ0 [st] sa := pss_one h1
theorem sv_pass : SV X W fi σ0 (.Pass pos) dskip := PSimp ps_pass fun Dn σ H ⟨env, tm, τ, F, L, R, fx, h⟩ => h σ F H L (Same.refl F) R fx
theorem sv_break : SV X W fi σ0 (.Break pos) (dpure .bk) := PSimp ps_break fun Dn σ H ⟨env, tm, τ, F, L, R, fx, h⟩ => h σ F H L (Same.refl F) R fx
theorem sv_continue : SV X W fi σ0 (.Continue pos) (dpure .ct) := PSimp ps_continue fun Dn σ H ⟨env, tm, τ, F, L, R, fx, h⟩ => h σ F H L (Same.refl F) R fx
/-- raise, where it does not come to it -/
theorem sv_never : SV X W fi σ0 st dno := PSimp ps_never fun Dn σ H ⟨env, tm, τ, F, L, R, fx, h⟩ => h
theorem bv_never : BV X W fi σ0 sts dno := PSsimp pss_never fun Dn σ H ⟨env, tm, τ, F, L, R, fx, h⟩ => h

/-- a statement that begins with an expression -/
theorem tS.expr {d : D Sl} {f : Sl → D Fl} {Dn : Ends} {σ : L2.St} {H : Hp} (h : tS X.prog X.w X.K W fi σ0 (dbind d f) Dn σ H) :
    tE X.prog X.w X.K W d σ H fun v H1 => ∃ (e : Sl) (env : PEnv) (tm : List PV) (τ : List V) (F : Hp) (L : Lab), Rel X.prog X.w X.K env (tm.map .val ++ [e]) σ (τ ++ [v]) F H1 L ∧ FxOk fi σ0 σ ∧ outQ X.prog X.w X.K W fi σ0 Dn tm τ F (f e env) := by
  obtain ⟨env, tm, τ, F, L, R, fx, h⟩ := h
  refine ⟨env, tm.map .val, τ, F, L, rfl, by simpa using R, ?_⟩
  unfold dbind at h
  cases e : d env with
  | no => rw [e] at h; exact h
  | ex c env' => rw [e] at h; exact fun F' H' L' k R' => h σ F' H' L' k R' fx
  | ok a env' =>
    rw [e] at h
    intro vs F' H' L' h1 k R' v hv
    subst hv
    exact ⟨a, env', tm, τ, F', L', R', fx, outQ.mono h k⟩
theorem tS.test {d : D Bool} {f : Bool → D Fl} {Dn : Ends} {σ : L2.St} {H : Hp} (h : tS X.prog X.w X.K W fi σ0 (dbind d f) Dn σ H) :
    tT X.prog X.w X.K W d σ H fun k H1 => tS X.prog X.w X.K W fi σ0 (f k) Dn σ H1 := by
  obtain ⟨env, tm, τ, F, L, R, fx, h⟩ := h
  refine ⟨env, tm.map .val, τ, F, L, rfl, by simpa using R, ?_⟩
  unfold dbind at h
  cases e : d env with
  | no => rw [e] at h; exact h
  | ex c env' => rw [e] at h; exact fun F' H' L' k R' => h σ F' H' L' k R' fx
  | ok a env' =>
    rw [e] at h
    intro vs F' H' L' h1 k R'
    have hv : vs = [] := List.length_eq_zero_iff.mp h1.symm
    subst hv
    exact ⟨env', tm, τ, F', L', by simpa using R', fx, outQ.mono h k⟩

def dret (d : D Sl) : D Fl := dbind d fun e => dpure (.rt e)
def dite (t : D Bool) (a b : D Fl) : D Fl := dbind t fun k => if k = true then a else b
def dexpr (d : D Sl) : D Fl := dbind d fun _ => dpure .nx
theorem sv_ret (ha : EV X W a da) : SV X W fi σ0 (.Return (some a) pos) (dret da) := PSimp (ps_ret ha) fun Dn σ H h => (tS.expr h).mono fun v H1 ⟨e, env, tm, τ, F, L, R, fx, q⟩ => q [] [] σ v F H1 L rfl (Same.refl F) (by simpa using R) fx
theorem sv_retN : SV X W fi σ0 (.Return none pos) (dpure (.rt (.val .non))) := PSimp ps_retN fun Dn σ H ⟨env, tm, τ, F, L, R, fx, h⟩ => h [] [] σ .non F H L rfl (Same.refl F) (by simpa using R.pushF (pv := .non) (v := .non) rfl) fx
theorem sv_if (ht : TV X W c ta) (ha : BV X W fi σ0 sts sa) (hb : BV X W fi σ0 sts2 sb) : SV X W fi σ0 (.If c sts sts2 pos) (dite ta sa sb) := PSimp (ps_if ht ha hb) fun Dn σ H h => (tS.test h).mono fun k H1 q => by
  cases k with
  | true => exact q
  | false => exact q
theorem sv_expr (ha : EV X W a da) (hs : swapsWith a none pos.line X.env = pure false := by rfl) : SV X W fi σ0 (.Expr a pos) (dexpr da) := PSimp (ps_expr ha hs) fun Dn σ H h => (tS.expr h).mono fun v H1 ⟨e, env, tm, τ, F, L, R, fx, q⟩ => q σ F H1 L (Same.refl F) R.pop fx
theorem sv_doc {x j pos pos'} : SV X W fi σ0 (.Expr (.Constant (.str x) j pos) pos') dskip := PSimp ps_doc fun Dn σ H ⟨env, tm, τ, F, L, R, fx, h⟩ => h σ F H L (Same.refl F) R fx
end

/-! ### names stored -/
/-- other names for what hangs from a slot are given up -/
def killR (j : Nat) : Sl → Sl
  | .al i q => if i = j then .un else .al i q
  | e => e
def setE (env : PEnv) (i : Nat) (e : Sl) : PEnv := (env.map (killR i)).set i e
/-- an entry that is to be stored: no other name for a whole slot -/
def unalE (env : PEnv) : Sl → Option (Sl × PEnv)
  | .val pv => some (.val pv, env)
  | .al j [] => (frzE env (.al j [])).map fun r => (.val r.1, r.2)
  | .al j p => some (.al j p, env)
  | .un => none
def dstore (i : Nat) (e : Sl) : D Fl := fun env => match e with
  | .val pv => .ok .nx (setE env i (.val pv))
  | .al j p => if p = [] ∨ j = i then match frzE env (.al j p) with
      | some (q, env1) => .ok .nx (setE env1 i (.val q))
      | none => .no
    else .ok .nx (setE env i (.al j p))
  | .un => .no
def dset (i : Nat) (d : D Sl) : D Fl := dbind d (dstore i)
/-- labels moved from a root to another -/
def mvL (r r' : Nat) (L : Lab) : Lab := fun a => match L a with
  | some (x :: s) => if x = r then some (r' :: s) else if x = r' then none else some (x :: s)
  | o => o
theorem mvL_src {r r' : Nat} {L : Lab} {a : Addr} {s : Path} (h : L a = some (r :: s)) : mvL r r' L a = some (r' :: s) := by simp [mvL, h]
theorem mvL_off {r r' x : Nat} {L : Lab} {a : Addr} {s : Path} (h : L a = some (x :: s)) (h1 : x ≠ r) (h2 : x ≠ r') : mvL r r' L a = some (x :: s) := by simp [mvL, h, h1, h2]
theorem mvL_some {r r' : Nat} {L : Lab} {a : Addr} {p : Path} (h : mvL r r' L a = some p) : ∃ q, L a = some q := by
  unfold mvL at h
  cases e : L a with
  | none => rw [e] at h; cases h
  | some q => exact ⟨q, rfl⟩
theorem mvL_inv {r r' : Nat} {L : Lab} {a : Addr} {q : Path} (h : mvL r r' L a = some q) : (∃ s, L a = some (r :: s) ∧ q = r' :: s) ∨ (L a = some q ∧ ∀ s, q ≠ r' :: s) := by
  unfold mvL at h
  cases e : L a with
  | none => rw [e] at h; cases h
  | some z =>
    rw [e] at h
    cases z with
    | nil => cases h; exact .inr ⟨rfl, fun s z => by cases z⟩
    | cons x s =>
      dsimp only at h
      by_cases h1 : x = r
      · rw [if_pos h1] at h
        cases h
        exact .inl ⟨s, by rw [h1], rfl⟩
      · rw [if_neg h1] at h
        by_cases h2 : x = r'
        · rw [if_pos h2] at h; cases h
        · rw [if_neg h2] at h
          cases h
          exact .inr ⟨rfl, fun s' z => by cases z; exact h2 rfl⟩
theorem mvL_inj {r r' : Nat} {L : Lab} (inj : ∀ a b q, L a = some q → L b = some q → a = b) : ∀ a b q, mvL r r' L a = some q → mvL r r' L b = some q → a = b := fun a b q h1 h2 => by
  rcases mvL_inv h1 with ⟨s, e1, e2⟩ | ⟨e1, e2⟩
  · rcases mvL_inv h2 with ⟨s', e3, e4⟩ | ⟨e3, e4⟩
    · rw [e2] at e4
      cases e4
      exact inj _ _ _ e1 e3
    · exact absurd e2 (e4 s)
  · rcases mvL_inv h2 with ⟨s', e3, e4⟩ | ⟨e3, e4⟩
    · exact absurd e4 (e2 s')
    · exact inj _ _ _ e1 e3
section
variable {P : Program} {w : World} {K : PySem.W.Frag} {F F' H H' : Hp} {L L' : Lab} {env env' tm tm' : PEnv} {σ σ' : L2.St} {τ τ' : List V}
theorem setE_len {env : PEnv} {i : Nat} {e : Sl} : (setE env i e).length = env.length := by unfold setE; rw [List.length_set, List.length_map]
theorem setE_look {env : PEnv} {i j : Nat} {e : Sl} {q : Path} {x : PV} (h : look (setE env i e) j q = some x) (hj : j ≠ i) : look env j q = some x := by
  obtain ⟨y, e1, e2, e3⟩ := look_some h
  unfold setE at e1
  rw [List.getElem?_set_ne (Ne.symm hj), List.getElem?_map] at e1
  cases e4 : env[j]? with
  | none => rw [e4] at e1; cases e1
  | some s =>
    rw [e4] at e1
    cases s with
    | un => cases e1
    | val z => cases e1; exact look_of e4 e2 e3
    | al i' q' =>
      simp only [Option.map_some, Option.some.injEq, killR] at e1
      split at e1 <;> cases e1
theorem setE_get {env : PEnv} {i k : Nat} {e s : Sl} (h : (setE env i e)[k]? = some s) : (k = i ∧ s = e) ∨ (k ≠ i ∧ ∃ s0, env[k]? = some s0 ∧ s = killR i s0) := by
  unfold setE at h
  rcases getElem?_set_cases h with ⟨rfl, rfl, _⟩ | ⟨hne, h⟩
  · exact .inl ⟨rfl, rfl⟩
  · rw [List.getElem?_map] at h
    cases e4 : env[k]? with
    | none => rw [e4] at h; cases h
    | some s0 =>
      rw [e4] at h
      exact .inr ⟨Ne.symm hne, s0, rfl, (Option.some.inj h).symm⟩
/-- a value goes from the top into a slot; other names for that slot's old value are none -/
theorem Rel.store {i : Nat} {pv : PV} {v : V} (R : Rel P w K env (tm ++ [.val pv]) σ (τ ++ [v]) F H L) (hi : i < σ.length) (hal : ∀ j p, Sl.al j p ∈ tm → j ≠ i) :
    Rel P w K (setE env i (.val pv)) tm (σ.set i (some v)) τ F H (mvL (2 * tm.length + 1) (2 * i) L) := by
  have ht := R.top
  have R' := R.pop
  have go : ∀ {r : Nat} {e : Sl} {u : V}, r ≠ 2 * i → r ≠ 2 * tm.length + 1 → (∀ j p, e = .al j p → j ≠ i) → Ent P w K env F H L r e u → Ent P w K (setE env i (.val pv)) F H (mvL (2 * tm.length + 1) (2 * i) L) r e u := fun {r e u} h1 h2 h3 h => by
    cases e with
    | un => trivial
    | val q => exact RepO.tr (Same.refl F) q [r] [r] u (fun a s l => ⟨mvL_off l h2 h1, rfl⟩) h
    | al j p =>
      intro q hq
      have hj := h3 j p rfl
      exact RepO.tr (Same.refl F) q (2 * j :: p) (2 * j :: p) u (fun a s l => ⟨mvL_off (s := p ++ s) l (by omega) (by omega), rfl⟩) (h q (setE_look hq hj))
  refine ⟨R.fle, fun a p e => ?_, fun a p e => ?_, by rw [setE_len, List.length_set]; exact R.len, fun k e he hu => ?_, R'.tlen, fun k e u he hu => ?_, mvL_inj R.inj, fun k u j q he hu hq => ?_⟩
  rotate_right
  · have hj := hal j [] (List.mem_of_getElem? he)
    rw [List.getElem?_set_ne (Ne.symm hj)]
    exact R'.ali k u j q he hu (setE_look hq hj)
  · obtain ⟨q, hq⟩ := mvL_some e; exact R.lf a q hq
  · obtain ⟨q, hq⟩ := mvL_some e; exact R.lh a q hq
  · rcases setE_get he with ⟨rfl, rfl⟩ | ⟨hne, s0, h0, rfl⟩
    · refine ⟨v, List.getElem?_set_self hi, ?_⟩
      exact RepO.tr (Same.refl F) pv [2 * tm.length + 1] [2 * k] v (fun a s l => ⟨mvL_src l, rfl⟩) ht
    · cases s0 with
      | un => exact absurd rfl hu
      | val q =>
        obtain ⟨u, h1, h2⟩ := R.slot k _ h0 (by simp)
        refine ⟨u, by rw [List.getElem?_set_ne (Ne.symm hne)]; exact h1, go (by omega) (by omega) (fun _ _ e => by cases e) h2⟩
      | al j p =>
        by_cases hj : j = i
        · exact absurd (show killR i (.al j p) = .un by simp [killR, hj]) hu
        · have e5 : killR i (.al j p) = .al j p := by simp [killR, hj]
          rw [e5]
          obtain ⟨u, h1, h2⟩ := R.slot k _ h0 (by simp)
          exact ⟨u, by rw [List.getElem?_set_ne (Ne.symm hne)]; exact h1, go (by omega) (by omega) (fun _ _ e => by cases e; exact hj) h2⟩
  · have hk := (List.getElem?_eq_some_iff.mp he).1
    exact go (by omega) (by omega) (fun j p e => hal j p (by rw [← e]; exact List.mem_of_getElem? he)) (R'.tmp k e u he hu)
/-- another name goes from the top into a slot -/
theorem Rel.storeA {i j : Nat} {p : Path} {v : V} (R : Rel P w K env (tm ++ [.al j p]) σ (τ ++ [v]) F H L) (hi : i < σ.length) (hj : j ≠ i) (hal : ∀ j p, Sl.al j p ∈ tm → j ≠ i) :
    Rel P w K (setE env i (.al j p)) tm (σ.set i (some v)) τ F H L := by
  have ht := R.top
  have R' := R.pop
  have go : ∀ {r : Nat} {e : Sl} {u : V}, (∀ j p, e = .al j p → j ≠ i) → Ent P w K env F H L r e u → Ent P w K (setE env i (.al j p)) F H L r e u := fun {r e u} h3 h => by
    cases e with
    | un => trivial
    | val q => exact h
    | al j' p' =>
      intro q hq
      exact h q (setE_look hq (h3 j' p' rfl))
  refine ⟨R.fle, R.lf, R.lh, by rw [setE_len, List.length_set]; exact R.len, fun k e he hu => ?_, R'.tlen, fun k e u he hu => ?_, R.inj, fun k u j q he hu hq => ?_⟩
  rotate_right
  · have hj := hal j [] (List.mem_of_getElem? he)
    rw [List.getElem?_set_ne (Ne.symm hj)]
    exact R'.ali k u j q he hu (setE_look hq hj)
  · rcases setE_get he with ⟨rfl, rfl⟩ | ⟨hne, s0, h0, rfl⟩
    · exact ⟨v, List.getElem?_set_self hi, go (fun _ _ e => by cases e; exact hj) ht⟩
    · cases s0 with
      | un => exact absurd rfl hu
      | val q =>
        obtain ⟨u, h1, h2⟩ := R.slot k _ h0 (by simp)
        exact ⟨u, by rw [List.getElem?_set_ne (Ne.symm hne)]; exact h1, go (fun _ _ e => by cases e) h2⟩
      | al j' p' =>
        by_cases hj' : j' = i
        · exact absurd (show killR i (.al j' p') = .un by simp [killR, hj']) hu
        · have e5 : killR i (.al j' p') = .al j' p' := by simp [killR, hj']
          rw [e5]
          obtain ⟨u, h1, h2⟩ := R.slot k _ h0 (by simp)
          exact ⟨u, by rw [List.getElem?_set_ne (Ne.symm hne)]; exact h1, go (fun _ _ e => by cases e; exact hj') h2⟩
  · exact go (fun j p e => hal j p (by rw [← e]; exact List.mem_of_getElem? he)) (R'.tmp k e u he hu)
theorem no_al {tm : List PV} {j : Nat} {p : Path} (h : Sl.al j p ∈ tm.map Sl.val) : False := by
  obtain ⟨x, _, e⟩ := List.mem_map.mp h
  cases e
end
section
variable {X : Cx} {W : WX} {fi : List Nat} {σ0 : L2.St} {a b c : Expr} {da db dc : D Sl} {sa sb : D Fl} {ta : D Bool} {st : Stmt} {rest sts sts2 : List Stmt} {pos : Pos}
theorem FxOk.set {σ : L2.St} {i : Nat} {v : Option V} (h : FxOk fi σ0 σ) (hi : i ∉ fi) : FxOk fi σ0 (σ.set i v) := fun k hk => by
  rw [List.getElem?_set_ne (fun e => hi (by rw [e]; exact hk))]
  exact h k hk
/-- an entry at the top stored -/
theorem store_imp {i : Nat} {e : Sl} {env : PEnv} {tm : List PV} {τ : List V} {σ : L2.St} {F H : Hp} {L : Lab} {v : V} {Dn : Ends} (R : Rel X.prog X.w X.K env (tm.map .val ++ [e]) σ (τ ++ [v]) F H L) (fx : FxOk fi σ0 σ) (hi : i < σ.length) (hf : i ∉ fi)
    (q : outQ X.prog X.w X.K W fi σ0 Dn tm τ F (dstore i e env)) : Dn.nx (σ.set i (some v)) H := by
  unfold dstore at q
  cases e with
  | un => exact q.elim
  | val pv => exact q _ F H _ (Same.refl F) (R.store hi fun j p h => (no_al h).elim) (fx.set hf)
  | al j p =>
    dsimp only at q
    by_cases hp : p = [] ∨ j = i
    · rw [if_pos hp] at q
      cases e1 : frzE env (.al j p) with
      | none => rw [e1] at q; exact q.elim
      | some r =>
        obtain ⟨y, env1⟩ := r
        rw [e1] at q
        obtain ⟨F1, L1, k1, R1⟩ := R.frzAt (i := (tm.map Sl.val).length) (v := v) (by simp) (by have := R.pop.tlen; rw [this]; simp) e1
        have hs : (tm.map Sl.val ++ [Sl.al j p]).set (tm.map Sl.val).length (.val y) = tm.map Sl.val ++ [.val y] := by simp
        rw [hs] at R1
        exact q _ F1 H _ k1 (R1.store hi fun j p h => (no_al h).elim) (fx.set hf)
    · rw [if_neg hp] at q
      exact q _ F H _ (Same.refl F) (R.storeA hi (fun e => hp (.inr e)) fun j p h => (no_al h).elim) (fx.set hf)
theorem Rel.slen {env tm : PEnv} {σ : L2.St} {τ : List V} {F H : Hp} {L : Lab} {P : Program} {w : World} {K : PySem.W.Frag} (R : Rel P w K env tm σ τ F H L) : σ.length = env.length := R.len.symm
theorem sv_set {i : Nat} {x : Str} {pos' : Pos} (G : Good X) (hi : X.N[i]? = some x) (hx : Loc X.env.scope x) (hf : i ∉ fi) (he : EV X W a da) (hs : swapsWith a (some (.Name x pos')) pos.line X.env = pure false := by rfl)
    (hfn : X.fn x = true ∨ X.env.scope.names.lookup x = some .local := by first | exact .inl rfl | exact .inr rfl | assumption) : SV X W fi σ0 (.Assign [.Name x pos'] a pos) (dset i da) := by
  refine ⟨fun pins s σ H Dn I h => (ps_set (pos' := pos') (pos := pos) G.nd hi hx he hs hfn).run pins s σ H Dn I ?_⟩
  have hl : i < σ.length := by rw [I.len]; exact (List.getElem?_eq_some_iff.mp hi).1
  exact (tS.expr h).mono fun v H1 ⟨e, env, tm, τ, F, L, R, fx, q⟩ => store_imp R fx hl hf q
end
end Pv
namespace Pv
open PySem PySem.Spec PyProof.Rows L2

/-! ### targets -/
inductive Tg where
  | nm (i : Nat) | tp (ts : List Tg) | ix (a b : D Sl)
/-- a kept value stored at a place of a list without lists of its own -/
def storeIx (a b : Sl) (p : PV) (env : PEnv) : Option PEnv := match a with
  | .al j q => match look env j q, cont env b with
    | some (.lst true xs), some (.int i) => match ixN xs.length i with
      | some k => if PV.fzs xs = true then some (putE env j q (.lst true (xs.set k p))) else none
      | none => none
    | _, _ => none
  | _ => none
/-! a kept value stored at a key of a dict without things of its own -/
def tupK : PV → Bool
  | .tup _ => true
  | _ => false
/-- where a key stands -/
def kpos (ks : List PV) (k : PV) : Option Nat := ks.findIdx? fun x => decide (x = k)
/-- a key that may be asked of a dict with such keys -/
def okKey (ks : List PV) (k : PV) : Bool := plainK k && ((scalK k && ks.all scalK) || (tupK k && ks.all tupK && (match nk k with | some n => decide (n.depth ≤ 8) | none => false)))
def putL {α : Type} (i : Option Nat) (l : List α) (x : α) : List α := match i with
  | some i => l.set i x
  | none => l ++ [x]
def keepL {α : Type} (i : Option Nat) (l : List α) (x : α) : List α := match i with
  | some _ => l
  | none => l ++ [x]
def storeD (a b : Sl) (p : PV) (env : PEnv) : Option PEnv := match a with
  | .al j q => match look env j q, cont env b with
    | some (.dct true ks vs), some k => if okKey ks k = true ∧ PV.fzs vs = true ∧ ks.length ≤ 1000000 then some (putE env j q (.dct true (keepL (kpos ks k) ks k) (putL (kpos ks k) vs p))) else none
    | _, _ => none
  | _ => none
def storeA (a b : Sl) (p : PV) (env : PEnv) : Option PEnv := match storeIx a b p env with
  | some e => some e
  | none => storeD a b p env
mutual
def setT : Tg → PV → PEnv → Option PEnv
  | .nm i, p, env => some (setE env i (.val p))
  | .tp ts, .tup ps, env => setTs ts ps env
  | .ix a b, p, env => match a env with
    | .ok x env1 => match b env1 with
      | .ok y env2 => storeA x y p env2
      | _ => none
    | _ => none
  | .tp _, _, _ => none
def setTs : List Tg → List PV → PEnv → Option PEnv
  | [], [], env => some env
  | t :: ts, p :: ps, env => match setT t p env with
    | some env1 => setTs ts ps env1
    | none => none
  | _, _, _ => none
end
section
variable (P : Program) (w : World) (K : PySem.W.Frag) (fi : List Nat) (σ0 : L2.St)
def gT (t : Tg) : TG := fun v σ H Q => ∃ (env tm : PEnv) (τ : List V) (F : Hp) (L : Lab) (p : PV) (env' : PEnv), Rel P w K env tm σ τ F H L ∧ FxOk fi σ0 σ ∧ RepF P w K F p v ∧ setT t p env = some env' ∧
  ∀ σ' F' H' L', Same F F' → Rel P w K env' tm σ' τ F' H' L' → FxOk fi σ0 σ' → Q σ' H'
def gTs (ts : List Tg) : TGs := fun vs σ H Q => ∃ (env tm : PEnv) (τ : List V) (F : Hp) (L : Lab) (ps : List PV) (env' : PEnv), Rel P w K env tm σ τ F H L ∧ FxOk fi σ0 σ ∧ RepFs P w K F ps vs ∧ setTs ts ps env = some env' ∧
  ∀ σ' F' H' L', Same F F' → Rel P w K env' tm σ' τ F' H' L' → FxOk fi σ0 σ' → Q σ' H'
end
/-- a frozen value stored in a slot -/
theorem Rel.storeF {P : Program} {w : World} {K : PySem.W.Frag} {F H : Hp} {L : Lab} {env tm : PEnv} {σ : L2.St} {τ : List V} {i : Nat} {pv : PV} {v : V} (R : Rel P w K env tm σ τ F H L) (hp : RepF P w K F pv v) (hi : i < σ.length) :
    Rel P w K (setE env i (.val pv)) tm (σ.set i (some v)) τ F H L := by
  have hz := RepF.fz _ _ hp
  have hil : i < env.length := by rw [R.len]; exact hi
  have self : (setE env i (.val pv))[i]? = some (.val pv) := by
    unfold setE
    rw [List.getElem?_set_self (by rw [List.length_map]; exact hil)]
  have go : ∀ {r : Nat} {e : Sl} {u : V}, Ent P w K env F H L r e u → Ent P w K (setE env i (.val pv)) F H L r e u := fun {r e u} h => by
    cases e with
    | un => trivial
    | val q => exact h
    | al j p =>
      intro q hq
      by_cases hj : j = i
      · subst hj
        obtain ⟨y, e1, e2, e3⟩ := look_some hq
        rw [self] at e1
        cases e1
        rw [at_fz _ _ _ hz e2] at e3
        cases e3
      · exact h q (setE_look hq hj)
  refine ⟨R.fle, R.lf, R.lh, by rw [setE_len, List.length_set]; exact R.len, fun k e he hu => ?_, R.tlen, fun k e u he hu => go (R.tmp k e u he hu), R.inj, fun k u j q he hu hq => ?_⟩
  rotate_right
  · by_cases hj : j = i
    · subst hj
      obtain ⟨y, e1, e2, e3⟩ := look_some hq
      rw [self] at e1
      cases e1
      rw [at_fz _ _ _ hz e2] at e3
      cases e3
    · rw [List.getElem?_set_ne (Ne.symm hj)]
      exact R.ali k u j q he hu (setE_look hq hj)
  rcases setE_get he with ⟨rfl, rfl⟩ | ⟨hne, s0, h0, rfl⟩
  · exact ⟨v, List.getElem?_set_self hi, RepO.ofF hp⟩
  · cases s0 with
    | un => exact absurd rfl hu
    | val q =>
      obtain ⟨u, h1, h2⟩ := R.slot k _ h0 (by simp)
      exact ⟨u, by rw [List.getElem?_set_ne (Ne.symm hne)]; exact h1, go h2⟩
    | al j p =>
      by_cases hj : j = i
      · exact absurd (show killR i (.al j p) = .un by simp [killR, hj]) hu
      · have e5 : killR i (.al j p) = .al j p := by simp [killR, hj]
        rw [e5]
        obtain ⟨u, h1, h2⟩ := R.slot k _ h0 (by simp)
        exact ⟨u, by rw [List.getElem?_set_ne (Ne.symm hne)]; exact h1, go h2⟩
theorem PGimp {X : Cx} {e : Expr} {t t' : TG} (h : PG X e t) (k : ∀ v σ H Q, t' v σ H Q → t v σ H Q) : PG X e t' := ⟨fun pins s σ H v u Q I r q => h.run pins s σ H v u Q I r (k v σ H Q q)⟩
theorem PGsimp {X : Cx} {e : List Expr} {t t' : TGs} (h : PGs X e t) (k : ∀ v σ H Q, t' v σ H Q → t v σ H Q) : PGs X e t' := ⟨fun pins s σ H v u Q I r q => h.run pins s σ H v u Q I r (k v σ H Q q)⟩
abbrev GV (X : Cx) (fi : List Nat) (σ0 : L2.St) (e : Expr) (t : Tg) : Prop := PG X e (gT X.prog X.w X.K fi σ0 t)
abbrev GVs (X : Cx) (fi : List Nat) (σ0 : L2.St) (e : List Expr) (t : List Tg) : Prop := PGs X e (gTs X.prog X.w X.K fi σ0 t)
section
variable {X : Cx} {W : WX} {fi : List Nat} {σ0 : L2.St} {a b c e : Expr} {es : List Expr} {da db dc : D Sl} {sa sb : D Fl} {ta : D Bool} {st : Stmt} {rest sts sts2 : List Stmt} {pos : Pos}
theorem gv_name {i : Nat} {x : Str} (G : Good X) (hi : X.N[i]? = some x) (hx : Loc X.env.scope x) (hf : i ∉ fi)
    (hfn : X.fn x = true ∨ X.env.scope.names.lookup x = some .local := by first | exact .inl rfl | exact .inr rfl | assumption) : GV X fi σ0 (.Name x pos) (.nm i) := by
  refine ⟨fun pins s σ H v u Q I r q => (pg_name (pos := pos) G.nd hi hx hfn).run pins s σ H v u Q I r ?_⟩
  have hl : i < σ.length := by rw [I.len]; exact (List.getElem?_eq_some_iff.mp hi).1
  obtain ⟨env, tm, τ, F, L, p, env', R, fx, hp, hs, q⟩ := q
  cases hs
  exact q _ F H _ (Same.refl F) (R.storeF hp hl) (fx.set hf)
theorem gvs_nil : GVs X fi σ0 [] [] := PGsimp pgs_nil fun vs σ H Q ⟨env, tm, τ, F, L, ps, env', R, fx, hp, hs, q⟩ => by
  cases ps with
  | nil =>
    rw [setTs] at hs
    cases hs
    rw [RepFs] at hp
    exact ⟨hp, q σ F H L (Same.refl F) R fx⟩
  | cons p ps => simp [setTs] at hs
theorem gvs_cons {t : Tg} {ts : List Tg} (h1 : GV X fi σ0 e t) (h2 : GVs X fi σ0 es ts) (hd : (assignEach (e :: es) X.env).map (·.2) = assign e X.env :: (assignEach es X.env).map (·.2) := by rfl) : GVs X fi σ0 (e :: es) (t :: ts) := PGsimp (pgs_cons h1 h2 hd) fun vs σ H Q ⟨env, tm, τ, F, L, ps, env', R, fx, hp, hs, q⟩ => by
  cases ps with
  | nil => simp [setTs] at hs
  | cons p ps =>
    rw [RepFs] at hp
    obtain ⟨v, r, rfl, h3, h4⟩ := hp
    rw [setTs] at hs
    cases e1 : setT t p env with
    | none => rw [e1] at hs; cases hs
    | some env1 =>
      rw [e1] at hs
      exact ⟨v, r, rfl, env, tm, τ, F, L, p, env1, R, fx, h3, e1, fun σ' F' H' L' k' R' fx' => ⟨env1, tm, τ, F', L', ps, env', R', fx', RepFs.mono k' _ _ h4, hs, fun σ2 F2 H2 L2 k2 => q σ2 F2 H2 L2 (k'.trans k2)⟩⟩
theorem gv_tup {k : Nat} {ts : List Tg} {n : Nat} (G : Good X) (h : GVs X fi σ0 es ts) (hn : ts.length = n := by rfl) (hm : (assignEach es X.env).length = n := by rfl) (hst : (assignEach es X.env).findIdx? (·.1) = none := by rfl) : GV X fi σ0 (.Tuple es k pos) (.tp ts) := by
  have hlen : ∀ (ts : List Tg) (ps : List PV) (env env' : PEnv), setTs ts ps env = some env' → ps.length = ts.length := by
    intro ts
    induction ts with
    | nil => intro ps env env' h; cases ps with
      | nil => rfl
      | cons p ps => simp [setTs] at h
    | cons t ts ih => intro ps env env' h; cases ps with
      | nil => simp [setTs] at h
      | cons p ps =>
        rw [setTs] at h
        cases e1 : setT t p env with
        | none => rw [e1] at h; cases h
        | some env1 => rw [e1] at h; rw [List.length_cons, List.length_cons, ih ps env1 env' h]
  refine PGimp (pg_tup (n := n) G.calm h hm hst) fun v σ H Q ⟨env, tm, τ, F, L, p, env', R, fx, hp, hs, q⟩ => ?_
  cases p with
  | tup ps =>
    rw [setT] at hs
    rw [RepF] at hp
    obtain ⟨a, vs, rfl, s1, r⟩ := hp
    exact ⟨a, vs, rfl, SqT.mono R.fle s1, by rw [← r.length, hlen ts ps env env' hs, hn], env, tm, τ, F, L, ps, env', R, fx, r, hs, q⟩
  | _ => simp [setT] at hs
/-- target = e, a pattern -/
def dunpack (t : Tg) (e : Sl) : D Fl := fun env => match frzE env e with
  | some (p, env1) => match setT t p env1 with
    | some env2 => .ok .nx env2
    | none => .no
  | none => .no
def dasg (t : Tg) (d : D Sl) : D Fl := dbind d (dunpack t)
theorem unpack_imp {t : Tg} {e : Sl} {env : PEnv} {tm : List PV} {τ : List V} {σ : L2.St} {F H : Hp} {L : Lab} {v : V} {Dn : Ends} (R : Rel X.prog X.w X.K env (tm.map .val ++ [e]) σ (τ ++ [v]) F H L) (fx : FxOk fi σ0 σ)
    (q : outQ X.prog X.w X.K W fi σ0 Dn tm τ F (dunpack t e env)) : gT X.prog X.w X.K fi σ0 t v σ H Dn.nx := by
  unfold dunpack at q
  cases e1 : frzE env e with
  | none => rw [e1] at q; exact q.elim
  | some r =>
    obtain ⟨p, env1⟩ := r
    rw [e1] at q
    dsimp only at q
    obtain ⟨F1, L1, k1, R1⟩ := R.frzAt (i := (tm.map Sl.val).length) (v := v) (by simp) (by have := R.pop.tlen; rw [this]; simp) e1
    have hs : (tm.map Sl.val ++ [e]).set (tm.map Sl.val).length (.val p) = tm.map Sl.val ++ [.val p] := by simp
    rw [hs] at R1
    cases e2 : setT t p env1 with
    | none => rw [e2] at q; exact q.elim
    | some env2 =>
      rw [e2] at q
      have hpz : p.fz = true := by
        cases e with
        | un => cases e1
        | val pv => cases e1; exact PV.fz_frz _
        | al j q' =>
          have h' : (match look env j q', env[j]? with
            | some x, some (.val pv) => some (x.frz, env.set j (.val pv.frz))
            | _, _ => none) = some (p, env1) := e1
          cases e3 : look env j q' with
          | none => rw [e3] at h'; cases h'
          | some y =>
            obtain ⟨pv, e4, _, _⟩ := look_some e3
            rw [e3, e4] at h'
            cases h'
            exact PV.fz_frz _
      exact ⟨env1, tm.map .val, τ, F1, L1, p, env2, R1.pop, fx, RepO.toF hpz R1.top, e2, fun σ' F' H' L' k' R' fx' => q σ' F' H' L' (k1.trans k') R' fx'⟩
theorem sv_asg {tg : Expr} {t : Tg} (hg : GV X fi σ0 tg t) (he : EV X W a da) (hs : swapsWithSole [tg] a pos.line X.env = pure false := by rfl) (hw : swappedStores [tg] a X.env = pure none := by rfl)
    (h1 : (assignEach [tg] X.env).map (·.2) = [assign tg X.env] := by rfl) : SV X W fi σ0 (.Assign [tg] a pos) (dasg t da) :=
  PSimp (ps_asg he hg hs hw h1) fun Dn σ H h => (tS.expr h).mono fun v H1 ⟨e, env, tm, τ, F, L, R, fx, q⟩ => unpack_imp R fx q
end

/-! ### a, b = x, y -/
/-- entries as values, whole slots frozen -/
def unalEs : PEnv → PEnv → Option (List PV × PEnv)
  | env, [] => some ([], env)
  | env, e :: es => match (match e with
      | .val pv => some (pv, env)
      | e => frzE env e) with
    | some (p, env1) => match unalEs env1 es with
      | some (ps, env2) => some (p :: ps, env2)
      | none => none
    | none => none
def setAll : PEnv → List Nat → List PV → Option PEnv
  | env, [], [] => some env
  | env, i :: is, p :: ps => setAll (setE env i (.val p)) is ps
  | _, _, _ => none
def dparsE (is : List Nat) (es : PEnv) : D Fl := fun env => match unalEs env es with
  | some (ps, env1) => match setAll env1 is ps with
    | some env2 => .ok .nx env2
    | none => .no
  | none => .no
def dpars (is : List Nat) (d : D PEnv) : D Fl := dbind d (dparsE is)
section
variable {P : Program} {w : World} {K : PySem.W.Frag} {F F' H H' : Hp} {L L' : Lab} {env env' tm tm' : PEnv} {σ σ' : L2.St} {τ τ' : List V}
theorem Rel.unalAll : ∀ {es pre : PEnv} {xs px : List V} {env env' : PEnv} {F : Hp} {L : Lab} {ps : List PV}, Rel P w K env (pre ++ es) σ (px ++ xs) F H L → pre.length = px.length → unalEs env es = some (ps, env') →
    ∃ F' L', Same F F' ∧ Rel P w K env' (pre ++ ps.map Sl.val) σ (px ++ xs) F' H L'
  | [], pre, xs, px, env, env', F, L, ps, R, hl, h => by
    cases h
    exact ⟨F, L, Same.refl F, by simpa using R⟩
  | e :: es, pre, [], px, env, env', F, L, ps, R, hl, h => by
    have := R.tlen
    simp at this
    omega
  | e :: es, pre, x :: xs, px, env, env', F, L, ps, R, hl, h => by
    unfold unalEs at h
    have step : ∀ {p : PV} {env1 : PEnv} {F1 : Hp} {L1 : Lab}, Same F F1 → Rel P w K env1 (pre ++ .val p :: es) σ (px ++ x :: xs) F1 H L1 → (match unalEs env1 es with | some (ps, env2) => some (p :: ps, env2) | none => (none : Option (List PV × PEnv))) = some (ps, env') → ∃ F' L', Same F F' ∧ Rel P w K env' (pre ++ ps.map Sl.val) σ (px ++ x :: xs) F' H L' := fun {p env1 F1 L1} k1 R1 h => by
      cases e2 : unalEs env1 es with
      | none => rw [e2] at h; cases h
      | some r2 =>
        obtain ⟨ps', env2⟩ := r2
        rw [e2] at h
        cases h
        have R1' : Rel P w K env1 ((pre ++ [.val p]) ++ es) σ ((px ++ [x]) ++ xs) F1 H L1 := by simpa using R1
        obtain ⟨F2, L2, k2, R2⟩ := Rel.unalAll R1' (by simp [hl]) e2
        exact ⟨F2, L2, k1.trans k2, by simpa using R2⟩
    cases e with
    | val pv => exact step (Same.refl F) R h
    | un =>
      cases h
    | al j q =>
      dsimp only at h
      cases e1 : frzE env (.al j q) with
      | none => rw [e1] at h; cases h
      | some r =>
        obtain ⟨p, env1⟩ := r
        rw [e1] at h
        obtain ⟨F1, L1, k1, R1⟩ := R.frzAt (i := pre.length) (v := x) (by simp) (by rw [hl]; simp) e1
        have hs : (pre ++ Sl.al j q :: es).set pre.length (.val p) = pre ++ .val p :: es := by simp
        rw [hs] at R1
        exact step k1 R1 h
/-- a value goes from its place among the intermediate results into a slot -/
theorem Rel.storeAt {i n : Nat} {pv : PV} {v : V} (R : Rel P w K env tm σ τ F H L) (hn : tm[n]? = some (.val pv)) (hv : τ[n]? = some v) (hi : i < σ.length) (hal : ∀ j p, Sl.al j p ∈ tm → j ≠ i) :
    Rel P w K (setE env i (.val pv)) (tm.set n .un) (σ.set i (some v)) τ F H (mvL (2 * n + 1) (2 * i) L) := by
  have ht := R.tmp n _ v hn hv
  have go : ∀ {r : Nat} {e : Sl} {u : V}, r ≠ 2 * i → r ≠ 2 * n + 1 → (∀ j p, e = .al j p → j ≠ i) → Ent P w K env F H L r e u → Ent P w K (setE env i (.val pv)) F H (mvL (2 * n + 1) (2 * i) L) r e u := fun {r e u} h1 h2 h3 h => by
    cases e with
    | un => trivial
    | val q => exact RepO.tr (Same.refl F) q [r] [r] u (fun a s l => ⟨mvL_off l h2 h1, rfl⟩) h
    | al j p =>
      intro q hq
      have hj := h3 j p rfl
      exact RepO.tr (Same.refl F) q (2 * j :: p) (2 * j :: p) u (fun a s l => ⟨mvL_off (s := p ++ s) l (by omega) (by omega), rfl⟩) (h q (setE_look hq hj))
  refine ⟨R.fle, fun a p e => ?_, fun a p e => ?_, by rw [setE_len, List.length_set]; exact R.len, fun k e he hu => ?_, by rw [List.length_set]; exact R.tlen, fun k e u he hu => ?_, mvL_inj R.inj, fun k u j q he hu hq => ?_⟩
  rotate_right
  · rcases getElem?_set_cases he with ⟨_, e, _⟩ | ⟨hne, he⟩
    · cases e
    · have hj := hal j [] (List.mem_of_getElem? he)
      rw [List.getElem?_set_ne (Ne.symm hj)]
      exact R.ali k u j q he hu (setE_look hq hj)
  · obtain ⟨q, hq⟩ := mvL_some e; exact R.lf a q hq
  · obtain ⟨q, hq⟩ := mvL_some e; exact R.lh a q hq
  · rcases setE_get he with ⟨rfl, rfl⟩ | ⟨hne, s0, h0, rfl⟩
    · refine ⟨v, List.getElem?_set_self hi, ?_⟩
      exact RepO.tr (Same.refl F) pv [2 * n + 1] [2 * k] v (fun a s l => ⟨mvL_src l, rfl⟩) ht
    · cases s0 with
      | un => exact absurd rfl hu
      | val q =>
        obtain ⟨u, h1, h2⟩ := R.slot k _ h0 (by simp)
        refine ⟨u, by rw [List.getElem?_set_ne (Ne.symm hne)]; exact h1, go (by omega) (by omega) (fun _ _ e => by cases e) h2⟩
      | al j p =>
        by_cases hj : j = i
        · exact absurd (show killR i (.al j p) = .un by simp [killR, hj]) hu
        · have e5 : killR i (.al j p) = .al j p := by simp [killR, hj]
          rw [e5]
          obtain ⟨u, h1, h2⟩ := R.slot k _ h0 (by simp)
          exact ⟨u, by rw [List.getElem?_set_ne (Ne.symm hne)]; exact h1, go (by omega) (by omega) (fun _ _ e => by cases e; exact hj) h2⟩
  · rcases getElem?_set_cases he with ⟨rfl, rfl, _⟩ | ⟨hne, he⟩
    · trivial
    · exact go (by omega) (by omega) (fun j p e => hal j p (by rw [← e]; exact List.mem_of_getElem? he)) (R.tmp k e u he hu)
/-- the slots' values behind stores one after another -/
def sts (σ : L2.St) : List Nat → List V → L2.St
  | i :: is, v :: vs => sts (σ.set i (some v)) is vs
  | _, _ => σ
theorem Rel.setAll : ∀ {is : List Nat} {ps : List PV} {pre : PEnv} {px xs : List V} {env env' : PEnv} {σ : L2.St} {L : Lab}, Rel P w K env (pre ++ ps.map .val) σ (px ++ xs) F H L → pre.length = px.length → (∀ j p, Sl.al j p ∉ pre) → (∀ i ∈ is, i < σ.length) → Pv.setAll env is ps = some env' →
    ∃ L' tm', Rel P w K env' (pre ++ tm') (sts σ is xs) (px ++ xs) F H L' ∧ tm'.length = xs.length
  | [], [], pre, px, xs, env, env', σ, L, R, hl, hal, hi, h => by
    cases h
    have : xs.length = 0 := by have := R.tlen; simp at this; omega
    obtain rfl := List.length_eq_zero_iff.mp this
    exact ⟨L, [], by simpa [sts] using R, rfl⟩
  | [], p :: ps, pre, px, xs, env, env', σ, L, R, hl, hal, hi, h => by simp [Pv.setAll] at h
  | i :: is, [], pre, px, xs, env, env', σ, L, R, hl, hal, hi, h => by simp [Pv.setAll] at h
  | i :: is, p :: ps, pre, px, [], env, env', σ, L, R, hl, hal, hi, h => by
    have := R.tlen
    simp at this
    omega
  | i :: is, p :: ps, pre, px, x :: xs, env, env', σ, L, R, hl, hal, hi, h => by
    rw [Pv.setAll] at h
    have R1 := R.storeAt (i := i) (n := pre.length) (pv := p) (v := x) (by simp) (by rw [hl]; simp) (hi i (by simp)) (fun j q hm => by
      rcases List.mem_append.mp hm with hm | hm
      · exact absurd hm (hal j q)
      · exact (no_al hm).elim)
    have hs : (pre ++ (p :: ps).map Sl.val).set pre.length .un = (pre ++ [.un]) ++ ps.map Sl.val := by simp
    rw [hs] at R1
    have R1' : Rel P w K (setE env i (.val p)) ((pre ++ [.un]) ++ ps.map Sl.val) (σ.set i (some x)) ((px ++ [x]) ++ xs) F H (mvL (2 * pre.length + 1) (2 * i) L) := by simpa using R1
    obtain ⟨L', tm', R2, h2⟩ := Rel.setAll R1' (by simp [hl]) (fun j q hm => by
      rcases List.mem_append.mp hm with hm | hm
      · exact hal j q hm
      · simp at hm) (fun k hk => by rw [List.length_set]; exact hi k (by simp [hk])) h
    exact ⟨L', .un :: tm', by simpa [sts] using R2, by simp [h2]⟩
end
section
variable {X : Cx} {W : WX} {fi : List Nat} {σ0 : L2.St} {a b c e : Expr} {es : List Expr} {ds : D PEnv} {da db dc : D Sl} {sa sb : D Fl} {ta : D Bool} {st : Stmt} {rest : List Stmt} {pos : Pos}
theorem tS.args {d : D PEnv} {f : PEnv → D Fl} {Dn : Ends} {σ : L2.St} {H : Hp} (h : tS X.prog X.w X.K W fi σ0 (dbind d f) Dn σ H) :
    tAr X.prog X.w X.K W d σ H fun vs H1 => ∃ (es : PEnv) (env : PEnv) (tm : List PV) (τ : List V) (F : Hp) (L : Lab), es.length = vs.length ∧ Rel X.prog X.w X.K env (tm.map .val ++ es) σ (τ ++ vs) F H1 L ∧ FxOk fi σ0 σ ∧ outQ X.prog X.w X.K W fi σ0 Dn tm τ F (f es env) := by
  obtain ⟨env, tm, τ, F, L, R, fx, h⟩ := h
  refine ⟨env, tm.map .val, τ, F, L, rfl, by simpa using R, ?_⟩
  unfold dbind at h
  cases e : d env with
  | no => rw [e] at h; exact h
  | ex c env' => rw [e] at h; exact fun F' H' L' k R' => h σ F' H' L' k R' fx
  | ok a env' =>
    rw [e] at h
    exact fun vs F' H' L' h1 k R' => ⟨a, env', tm, τ, F', L', h1, R', fx, outQ.mono h k⟩
theorem FxOk.sts {σ : L2.St} : ∀ {is : List Nat} {vs : List V} {σ : L2.St}, FxOk fi σ0 σ → (∀ i ∈ is, i ∉ fi) → FxOk fi σ0 (Pv.sts σ is vs)
  | [], vs, σ, h, _ => by unfold Pv.sts; exact h
  | i :: is, [], σ, h, _ => by unfold Pv.sts; exact h
  | i :: is, v :: vs, σ, h, hf => by
    rw [Pv.sts]
    exact FxOk.sts (σ := σ) (h.set (hf i (by simp))) fun k hk => hf k (by simp [hk])
theorem pars_imp {is : List Nat} {es : PEnv} {env : PEnv} {tm : List PV} {τ : List V} {σ : L2.St} {F H : Hp} {L : Lab} {vs : List V} {Dn : Ends} (hl : es.length = vs.length) (R : Rel X.prog X.w X.K env (tm.map .val ++ es) σ (τ ++ vs) F H L) (fx : FxOk fi σ0 σ) (hi : ∀ i ∈ is, i < σ.length) (hf : ∀ i ∈ is, i ∉ fi)
    (q : outQ X.prog X.w X.K W fi σ0 Dn tm τ F (dparsE is es env)) : Dn.nx (sts σ is vs) H := by
  unfold dparsE at q
  cases e1 : unalEs env es with
  | none => rw [e1] at q; exact q.elim
  | some r =>
    obtain ⟨ps, env1⟩ := r
    rw [e1] at q
    dsimp only at q
    have htl : (tm.map Sl.val).length = τ.length := (R.popN hl).tlen
    obtain ⟨F1, L1, k1, R1⟩ := R.unalAll htl e1
    cases e2 : setAll env1 is ps with
    | none => rw [e2] at q; exact q.elim
    | some env2 =>
      rw [e2] at q
      obtain ⟨L2, tm', R2, h2⟩ := R1.setAll htl (fun j p h => no_al h) hi e2
      exact q _ F1 H L2 k1 (R2.popN h2) (fx.sts (σ := σ) hf)
theorem sts_len : ∀ {is : List Nat} {vs : List V} {σ : L2.St}, (sts σ is vs).length = σ.length
  | [], vs, σ => by unfold sts; rfl
  | i :: is, [], σ => by unfold sts; rfl
  | i :: is, v :: vs, σ => by rw [sts, sts_len, List.length_set]
/-- x, y = a, b as the model swaps stores: both names the frame's own -/
theorem sv_par {i j : Nat} {x y : Str} {px py pt : Pos} {kt k2 pt2} (G : Good X) (hi : X.N[i]? = some x) (hj : X.N[j]? = some y) (hij : i ≠ j) (hfi : i ∉ fi) (hfj : j ∉ fi)
    (hx : X.env.scope.names.lookup x = some .local) (hy : X.env.scope.names.lookup y = some .local) (ha : AV X W [a, b] ds)
    (hw : swappedStores [.Tuple [.Name x px, .Name y py] kt pt] (.Tuple [a, b] k2 pt2) X.env = pure (some [x, y]))
    (hs : swapsWithSole [.Tuple [.Name x px, .Name y py] kt pt] (.Tuple [a, b] k2 pt2) pos.line X.env = pure false := by rfl) :
    SV X W fi σ0 (.Assign [.Tuple [.Name x px, .Name y py] kt pt] (.Tuple [a, b] k2 pt2) pos) (dpars [i, j] ds) := by
  refine ⟨fun pins s σ H Dn I h => (ps_par (pos := pos) G.calm G.nd hi hj hij hx hy ha hw hs).run pins s σ H Dn I ?_⟩
  have hli : i < σ.length := by rw [I.len]; exact (List.getElem?_eq_some_iff.mp hi).1
  have hlj : j < σ.length := by rw [I.len]; exact (List.getElem?_eq_some_iff.mp hj).1
  exact (tS.args h).mono fun vs H1 ⟨es, env, tm, τ, F, L, hl, R, fx, q⟩ => by
    have h2 : vs.length = 2 := by
      unfold dparsE at q
      cases e1 : unalEs env es with
      | none => rw [e1] at q; exact q.elim
      | some r =>
        obtain ⟨ps, env1⟩ := r
        rw [e1] at q
        dsimp only at q
        obtain ⟨F1, L1, k1, R1⟩ := R.unalAll (R.popN hl).tlen e1
        have hlp : ps.length = vs.length := by
          have := R1.tlen
          have h3 := (R.popN hl).tlen
          simp at this h3
          omega
        cases ps with
        | nil => exact q.elim
        | cons p ps =>
          cases ps with
          | nil => exact q.elim
          | cons p' ps =>
            cases ps with
            | nil => exact hlp.symm
            | cons p'' ps => exact q.elim
    match vs, h2 with
    | [v, u], _ => exact ⟨v, u, rfl, pars_imp hl R fx (by simp [hli, hlj]) (by simp [hfi, hfj]) q⟩
/-- names stored from a tuple's items -/
def gNames : List Nat → TGs
  | [] => fun vs σ H Q => vs = [] ∧ Q σ H
  | i :: is => fun vs σ H Q => ∃ v r, vs = v :: r ∧ gNames is r (σ.set i (some v)) H Q
theorem gNames_sts : ∀ {is : List Nat} {vs : List V} {σ : L2.St} {H : Hp} {Q : L2.St → Hp → Prop}, vs.length = is.length → Q (sts σ is vs) H → gNames is vs σ H Q
  | [], vs, σ, H, Q, hl, q => by
    obtain rfl := List.length_eq_zero_iff.mp hl
    exact ⟨rfl, q⟩
  | i :: is, [], σ, H, Q, hl, q => by simp at hl
  | i :: is, v :: vs, σ, H, Q, hl, q => ⟨v, vs, rfl, gNames_sts (by simpa using hl) q⟩
theorem pgs_names_nil : PGs X [] (gNames []) := pgs_nil
theorem pgs_names_cons {i : Nat} {is : List Nat} {x : Str} (G : Good X) (hi : X.N[i]? = some x) (hx : Loc X.env.scope x) (h : PGs X es (gNames is)) (hfn : X.fn x = true ∨ X.env.scope.names.lookup x = some .local := by first | exact .inl rfl | exact .inr rfl | assumption)
    (hd : (assignEach (.Name x pos :: es) X.env).map (·.2) = assign (.Name x pos) X.env :: (assignEach es X.env).map (·.2) := by rfl) :
    PGs X (.Name x pos :: es) (gNames (i :: is)) := PGsimp (pgs_cons (pg_name G.nd hi hx hfn) h hd) fun vs σ H Q q => q
/-- a, b, .. = x, y, .. through a tuple -/
theorem sv_parT {is : List Nat} {tgs ees : List Expr} {k k2 : Nat} {pt pt2 : Pos} (G : Good X) (hg : PGs X tgs (gNames is)) (ha : AV X W ees ds) (hlt : ∀ i ∈ is, i < X.N.length) (hf : ∀ i ∈ is, i ∉ fi) (h1000 : is.length ≤ 1000 := by decide) (hm : (assignEach tgs X.env).length = is.length := by rfl) (hst : (assignEach tgs X.env).findIdx? (·.1) = none := by rfl)
    (hs : swapsWithSole [.Tuple tgs k pt] (.Tuple ees k2 pt2) pos.line X.env = pure false := by rfl) (hw : swappedStores [.Tuple tgs k pt] (.Tuple ees k2 pt2) X.env = pure none := by rfl)
    (h1 : (assignEach [.Tuple tgs k pt] X.env).map (·.2) = [assign (.Tuple tgs k pt) X.env] := by rfl) : SV X W fi σ0 (.Assign [.Tuple tgs k pt] (.Tuple ees k2 pt2) pos) (dpars is ds) := by
  refine ⟨fun pins s σ H Dn I h => (ps_asg (pos := pos) (pe_tup ha) (pg_tup (n := is.length) G.calm hg hm hst) hs hw h1).run pins s σ H Dn I ?_⟩
  have hli : ∀ i ∈ is, i < σ.length := fun i hi => by rw [I.len]; exact hlt i hi
  refine (tS.args h).mono fun vs H1 ⟨es, env, tm, τ, F, L, hl, R, fx, q⟩ => ?_
  have h2 : vs.length = is.length := by
    unfold dparsE at q
    cases e1 : unalEs env es with
    | none => rw [e1] at q; exact q.elim
    | some r =>
      obtain ⟨ps, env1⟩ := r
      rw [e1] at q
      dsimp only at q
      obtain ⟨F1, L1, k1, R1⟩ := R.unalAll (R.popN hl).tlen e1
      have hlp : ps.length = vs.length := by
        have := R1.tlen
        have h3 := (R.popN hl).tlen
        simp at this h3
        omega
      have : ∀ (is : List Nat) (ps : List PV) (env env' : PEnv), setAll env is ps = some env' → ps.length = is.length := by
        intro is
        induction is with
        | nil => intro ps env env' h; cases ps with
          | nil => rfl
          | cons p ps => simp [setAll] at h
        | cons i is ih => intro ps env env' h; cases ps with
          | nil => simp [setAll] at h
          | cons p ps => rw [setAll] at h; rw [List.length_cons, List.length_cons, ih _ _ _ h]
      cases e2 : setAll env1 is ps with
      | none => rw [e2] at q; exact q.elim
      | some env2 => rw [← hlp, this is ps env1 env2 e2]
  have hsz : vs.length ≤ sizeLine := by rw [h2, ← sl24]; omega
  refine ⟨hsz, fun p hp => ?_⟩
  refine ⟨p, vs, rfl, SqT.of upd_same, h2, gNames_sts h2 ?_⟩
  have R' : Rel X.prog X.w X.K env (tm.map .val ++ es) σ (τ ++ vs) F (upd H1 p (.tup vs)) L := by
    have ln : ∀ q, L p ≠ some q := fun q e => by
      obtain ⟨o, ho⟩ := R.lh p q e
      rw [hp] at ho
      cases ho
    refine R.grow (Same.refl F) (fun b o e => ?_) R.lf (fun b q e => ?_) (fun b x s e _ => ⟨e, ?_⟩) R.inj
    · have := R.fle b o e
      rw [upd_ne (ne_of_none this hp)]
      exact this
    · have hb : b ≠ p := fun z => ln q (z ▸ e)
      rw [upd_ne hb]
      exact R.lh b q e
    · have hb : b ≠ p := fun z => ln _ (z ▸ e)
      rw [upd_ne hb]
  exact pars_imp hl R' fx hli hf q
end
end Pv
namespace Pv
open PySem PySem.Spec PyProof.Rows L2

/-! ### what is walked -/
section
variable (P : Program) (w : World) (K : PySem.W.Frag) (W : WX)
/-- an item has come (perhaps in a new pair) -/
def YOk (F H : Hp) (p : PV) (x : V) (H' : Hp) : Prop := ∃ F', Same F F' ∧ RepF P w K F' p x ∧ ∀ env tm σ τ L, Rel P w K env tm σ τ F H L → ∃ L', Rel P w K env tm σ τ F' H' L'
structure ItOk (F0 : Hp) (ps : List PV) (J : It) : Prop where
  go : ∀ (i : Nat) p F H, Same F0 F → Same F H → ps[i]? = some p → J.go i H ∧ ∀ x H', J.yld i H x H' → YOk P w K F H p x H'
  stop : ∀ (i : Nat) F H, Same F0 F → Same F H → ps.length ≤ i → J.stop i H
def tI (d : D (List PV)) : TI := fun σ H R => ∃ env tm τ F L, Rel P w K env tm σ τ F H L ∧ match d env with
    | .no => False
    | .ok ps env' => ∀ F' H' L' J, Same F F' → Rel P w K env' tm σ τ F' H' L' → ItOk P w K F' ps J → R J H'
    | .ex c env' => ∀ F' H' L', Same F F' → Rel P w K env' tm σ τ F' H' L' → W c none σ H'
end
abbrev IV (X : Cx) (W : WX) (tg e : Expr) (d : D (List PV)) : Prop := PI X tg e (tI X.prog X.w X.K W d)
theorem PIimp {X : Cx} {tg e : Expr} {t t' : TI} (h : PI X tg e t) (k : ∀ σ H Q, t' σ H Q → t σ H Q) : PI X tg e t' := ⟨fun pins s σ H R I q => h.run pins s σ H R I (k σ H R q)⟩

/-- items of a list or a tuple, kept -/
def itemsE (e : Sl) : D (List PV) := fun env => match frzE env e with
  | some (.lst _ xs, env1) => .ok xs env1
  | some (.tup xs, env1) => .ok xs env1
  | some (.frl xs, env1) => .ok xs env1
  | _ => .no
def ditems (d : D Sl) : D (List PV) := dbind d itemsE
def rangeP (lo : Int) (n : Nat) (c : Int) : List PV := (List.range n).map fun (k : Nat) => .int (lo + (k : Int) * c)
def okB (i : Int) : Prop := -(2 ^ 62) ≤ i ∧ i < 2 ^ 62
instance (i : Int) : Decidable (okB i) := by unfold okB; infer_instance
def drange1 (d : D PEnv) : D (List PV) := dbind d fun es => fun env => match es with
  | [a] => match intOf (cont env a) with
    | some i => if okB i then .ok (rangeP 0 i.toNat 1) env else .no
    | none => .no
  | _ => .no
def drange2 (d : D PEnv) : D (List PV) := dbind d fun es => fun env => match es with
  | [a, b] => match intOf (cont env a), intOf (cont env b) with
    | some i, some j => if okB i ∧ okB j then .ok (rangeP i (j - i).toNat 1) env else .no
    | _, _ => .no
  | _ => .no
def rangeN (i j c : Int) : Nat := if 0 < c then ((j - i + (c - 1)) / c).toNat else ((i - j + (-c - 1)) / (-c)).toNat
def drange3 (d : D PEnv) : D (List PV) := dbind d fun es => fun env => match es with
  | [a, b, c] => match intOf (cont env a), intOf (cont env b), intOf (cont env c) with
    | some i, some j, some k => if okB i ∧ okB j ∧ k = -1 then .ok (rangeP i (i - j).toNat (-1)) env else .no
    | _, _, _ => .no
  | _ => .no
def denum (d : D PEnv) : D (List PV) := dbind d fun es => fun env => match frzEs env es with
  | some ([.lst _ xs], env1) => .ok (xs.zipIdx.map fun p => .tup [.int (p.2 : Nat), p.1]) env1
  | _ => .no
def dzip (d : D PEnv) : D (List PV) := dbind d fun es => fun env => match frzEs env es with
  | some ([.lst _ xs, .lst _ ys], env1) => .ok ((xs.zip ys).map fun p => .tup [p.1, p.2]) env1
  | some ([.tup xs, .tup ys], env1) => .ok ((xs.zip ys).map fun p => .tup [p.1, p.2]) env1
  | _ => .no

section
variable {P : Program} {w : World} {K : PySem.W.Frag} {F F' H H' : Hp}
theorem YOk.same {p : PV} {x : V} (h : RepF P w K F p x) : YOk P w K F H p x H := ⟨F, Same.refl F, h, fun _ _ _ _ L R => ⟨L, R⟩⟩
theorem YOk.pair {p q : PV} {x y : V} {T : Addr} (k : Same F H) (h : RepF P w K F p x) (h' : RepF P w K F q y) (hn : H T = none) : YOk P w K F H (.tup [p, q]) (.ref T) (upd H T (.tup [x, y])) := by
  have hF : F T = none := by
    cases e : F T with
    | none => rfl
    | some o => have := k T o e; rw [hn] at this; cases this
  have kk : Same F (upd F T (.tup [x, y])) := fun b o e => by
    rw [upd_ne (ne_of_none e hF)]
    exact e
  have rp : RepF P w K (upd F T (.tup [x, y])) (.tup [p, q]) (.ref T) := by
    rw [RepF]
    refine ⟨T, [x, y], rfl, SqT.of upd_same, ?_⟩
    rw [RepFs]
    refine ⟨x, [y], rfl, RepF.mono kk _ _ h, ?_⟩
    rw [RepFs]
    exact ⟨y, [], rfl, RepF.mono kk _ _ h', by rw [RepFs]⟩
  exact ⟨_, kk, rp, fun env tm σ τ L R => ⟨L, (R.allocF hn rp).1.pop⟩⟩
theorem ItOk.list {xs : List PV} {vs : List V} {a : Addr} (s1 : SqL K F a vs) (r : RepFs P w K F xs vs) : ItOk P w K F xs (Itl K a) := by
  refine ⟨fun i p F1 H k k2 e => ?_, fun i F1 H k k2 e => ⟨vs, SqL.mono (k.trans k2) s1, by rw [← r.length]; exact e⟩⟩
  obtain ⟨v, hv, hr⟩ := r.get e
  refine ⟨⟨vs, v, SqL.mono (k.trans k2) s1, hv⟩, fun x H' ⟨e1, e2⟩ => ?_⟩
  subst e1
  have := e2 vs (SqL.mono (k.trans k2) s1)
  rw [hv] at this
  cases this
  exact YOk.same (RepF.mono k _ _ hr)
theorem ItOk.tup {xs : List PV} {vs : List V} {a : Addr} (s1 : SqT K F a vs) (r : RepFs P w K F xs vs) : ItOk P w K F xs (Itt K a) := by
  refine ⟨fun i p F1 H k k2 e => ?_, fun i F1 H k k2 e => ⟨vs, SqT.mono (k.trans k2) s1, by rw [← r.length]; exact e⟩⟩
  obtain ⟨v, hv, hr⟩ := r.get e
  refine ⟨⟨vs, v, SqT.mono (k.trans k2) s1, hv⟩, fun x H' ⟨e1, e2⟩ => ?_⟩
  subst e1
  have := e2 vs (SqT.mono (k.trans k2) s1)
  rw [hv] at this
  cases this
  exact YOk.same (RepF.mono k _ _ hr)
theorem rangeP_get {lo c : Int} {n i : Nat} {p : PV} (h : (rangeP lo n c)[i]? = some p) : i < n ∧ p = .int (lo + (i : Nat) * c) := by
  unfold rangeP at h
  rw [List.getElem?_map] at h
  cases e : (List.range n)[i]? with
  | none => rw [e] at h; cases h
  | some k =>
    rw [e] at h
    obtain ⟨h1, h2⟩ := List.getElem?_eq_some_iff.mp e
    simp at h1 h2
    subst h2
    exact ⟨h1, (Option.some.inj h).symm⟩
theorem rangeP_len {lo c : Int} {n : Nat} : (rangeP lo n c).length = n := by simp [rangeP]
theorem ItOk.rng {lo : Int} {n : Nat} : ItOk P w K F (rangeP lo n 1) (Itr lo n) := by
  refine ⟨fun i p F1 H k k2 e => ?_, fun i F1 H k k2 e => by rw [rangeP_len] at e; exact e⟩
  obtain ⟨h1, h2⟩ := rangeP_get e
  refine ⟨h1, fun x H' ⟨e1, e2⟩ => ?_⟩
  subst e1 e2 h2
  rw [Int.mul_one]
  exact YOk.same (by rw [RepF])
theorem ItOk.rngC {lo c : Int} {n : Nat} : ItOk P w K F (rangeP lo n c) (Itc lo c n) := by
  refine ⟨fun i p F1 H k k2 e => ?_, fun i F1 H k k2 e => by rw [rangeP_len] at e; exact e⟩
  obtain ⟨h1, h2⟩ := rangeP_get e
  refine ⟨h1, fun x H' ⟨e1, e2⟩ => ?_⟩
  subst e1 e2 h2
  exact YOk.same (by rw [RepF])
theorem ItOk.enum {xs : List PV} {vs : List V} {a : Addr} (s1 : SqL K F a vs) (r : RepFs P w K F xs vs) : ItOk P w K F (xs.zipIdx.map fun p => .tup [.int (p.2 : Nat), p.1]) (Ite K a) := by
  refine ⟨fun i p F1 H k k2 e => ?_, fun i F1 H k k2 e => ⟨vs, SqL.mono (k.trans k2) s1, by rw [← r.length]; simpa using e⟩⟩
  rw [List.getElem?_map, List.getElem?_zipIdx] at e
  cases e1 : xs[i]? with
  | none => rw [e1] at e; cases e
  | some y =>
    rw [e1] at e
    simp at e
    obtain ⟨v, hv, hr⟩ := r.get e1
    refine ⟨⟨vs, v, SqL.mono (k.trans k2) s1, hv⟩, fun x H' ⟨T, x0, e2, hn, e3, e4⟩ => ?_⟩
    subst e2 e3
    have := e4 vs (SqL.mono (k.trans k2) s1)
    rw [hv] at this
    cases this
    rw [← e]
    exact YOk.pair k2 (by rw [RepF]) (RepF.mono k _ _ hr) hn
theorem zip_get {xs ys : List PV} {i : Nat} {p : PV} (e : ((xs.zip ys).map fun p => PV.tup [p.1, p.2])[i]? = some p) : ∃ x y, xs[i]? = some x ∧ ys[i]? = some y ∧ p = .tup [x, y] := by
  rw [List.getElem?_map] at e
  cases e1 : (xs.zip ys)[i]? with
  | none => rw [e1] at e; cases e
  | some q =>
    rw [e1] at e
    obtain ⟨h1, h2⟩ := List.getElem?_zip_eq_some.mp e1
    exact ⟨q.1, q.2, h1, h2, (Option.some.inj e).symm⟩
theorem ItOk.zipL {xs ys : List PV} {vs us : List V} {a b : Addr} (s1 : SqL K F a vs) (r : RepFs P w K F xs vs) (s2 : SqL K F b us) (r2 : RepFs P w K F ys us) : ItOk P w K F ((xs.zip ys).map fun p => .tup [p.1, p.2]) (Itz K a b) := by
  refine ⟨fun i p F1 H k k2 e => ?_, fun i F1 H k k2 e => ⟨vs, us, SqL.mono (k.trans k2) s1, SqL.mono (k.trans k2) s2, by rw [← r.length, ← r2.length]; simp at e; omega⟩⟩
  obtain ⟨x1, y1, e1, e2, rfl⟩ := zip_get e
  obtain ⟨v, hv, hr⟩ := r.get e1
  obtain ⟨u, hu, hr2⟩ := r2.get e2
  refine ⟨⟨vs, us, v, u, SqL.mono (k.trans k2) s1, SqL.mono (k.trans k2) s2, hv, hu⟩, fun x H' ⟨T, x0, y0, e2, hn, e3, e4, e5⟩ => ?_⟩
  subst e2 e3
  have h4 := e4 vs (SqL.mono (k.trans k2) s1)
  have h5 := e5 us (SqL.mono (k.trans k2) s2)
  rw [hv] at h4
  rw [hu] at h5
  cases h4
  cases h5
  exact YOk.pair k2 (RepF.mono k _ _ hr) (RepF.mono k _ _ hr2) hn
theorem ItOk.zipT {xs ys : List PV} {vs us : List V} {a b : Addr} (s1 : SqT K F a vs) (r : RepFs P w K F xs vs) (s2 : SqT K F b us) (r2 : RepFs P w K F ys us) : ItOk P w K F ((xs.zip ys).map fun p => .tup [p.1, p.2]) (RZ.ItzT K a b) := by
  refine ⟨fun i p F1 H k k2 e => ?_, fun i F1 H k k2 e => ⟨vs, us, SqT.mono (k.trans k2) s1, SqT.mono (k.trans k2) s2, by rw [← r.length, ← r2.length]; simp at e; omega⟩⟩
  obtain ⟨x1, y1, e1, e2, rfl⟩ := zip_get e
  obtain ⟨v, hv, hr⟩ := r.get e1
  obtain ⟨u, hu, hr2⟩ := r2.get e2
  refine ⟨⟨vs, us, v, u, SqT.mono (k.trans k2) s1, SqT.mono (k.trans k2) s2, hv, hu⟩, fun x H' ⟨T, x0, y0, e2, hn, e3, e4, e5⟩ => ?_⟩
  subst e2 e3
  have h4 := e4 vs (SqT.mono (k.trans k2) s1)
  have h5 := e5 us (SqT.mono (k.trans k2) s2)
  rw [hv] at h4
  rw [hu] at h5
  cases h4
  cases h5
  exact YOk.pair k2 (RepF.mono k _ _ hr) (RepF.mono k _ _ hr2) hn
end
section
variable {X : Cx} {W : WX} {tg a b c e : Expr} {es : List Expr} {da : D Sl} {ds : D PEnv} {pos : Pos}
theorem frzE_fz {env env1 : PEnv} {e : Sl} {p : PV} (h : frzE env e = some (p, env1)) : p.fz = true := by
  cases e with
  | un => cases h
  | val pv => cases h; exact PV.fz_frz _
  | al j q =>
    have h' : (match look env j q, env[j]? with
      | some x, some (.val pv) => some (x.frz, env.set j (.val pv.frz))
      | _, _ => none) = some (p, env1) := h
    cases e3 : look env j q with
    | none => rw [e3] at h'; cases h'
    | some y =>
      obtain ⟨pv, e4, _, _⟩ := look_some e3
      rw [e3, e4] at h'
      cases h'
      exact PV.fz_frz _
/-- lists and tuples -/
def iLT (K : PySem.W.Frag) (tl : TE) : TI := fun σ H R => tl σ H fun x H1 => ∃ a, x = .ref a ∧ ((∃ xs, SqL K H1 a xs ∧ R (Itl K a) H1) ∨ (∃ xs, SqT K H1 a xs ∧ R (Itt K a) H1))
theorem pi_lt {tl : TE} (hl : PE X a tl) : PI X tg a (iLT X.K tl) := by
  refine ⟨fun pins s σ H R I h => thn (hl.run pins s σ H _ I h) fun v s1 ⟨x, H1, I1, r1, ad, e, q⟩ => ?_⟩
  subst e
  cases r1
  have fr : ∀ b ∈ [s1.heap.objs.size], FpOk X pins H1 b := fun b hb => by
    obtain rfl : b = s1.heap.objs.size := by simpa using hb
    exact I1.fpOk (Nat.le_refl _) (I1.hok.fresh (Nat.le_refl _))
  rcases q with ⟨xs, hq, q⟩ | ⟨xs, hq, q⟩
  · obtain ⟨its, rv, p, hz⟩ := I1.list hq
    exact wpAny_pyIter_list p.isList ⟨s1.heap.objs.size, [s1.heap.objs.size], _, _, H1, rfl, I1.kept (t' := s1.toks) fun _ _ e => Heap.get?_push_of_some _ e, turn_list ad _, ⟨_, Heap.get?_push_size _ rfl, rfl, rfl⟩, fr, q⟩
  · obtain ⟨its, rv, p, hz⟩ := I1.tuple hq
    exact wpAny_pyIter_tuple (show s1.heap.IsTuple ad its.toArray from p) ⟨s1.heap.objs.size, [s1.heap.objs.size], _, _, H1, rfl, I1.kept (t' := s1.toks) fun _ _ e => Heap.get?_push_of_some _ e, turn_tuple ad _, ⟨_, Heap.get?_push_size _ rfl, rfl, rfl⟩, fr, q⟩
theorem tI.expr {d : D Sl} {f : Sl → D (List PV)} {σ : L2.St} {H : Hp} {R : It → Hp → Prop} (h : tI X.prog X.w X.K W (dbind d f) σ H R) :
    tE X.prog X.w X.K W d σ H fun v H1 => ∃ (e : Sl) (env tm : PEnv) (τ : List V) (F : Hp) (L : Lab), Rel X.prog X.w X.K env (tm ++ [e]) σ (τ ++ [v]) F H1 L ∧ (∀ ps env', f e env = .ok ps env' → ∀ F' H' L' J, Same F F' → Rel X.prog X.w X.K env' tm σ τ F' H' L' → ItOk X.prog X.w X.K F' ps J → R J H') ∧ f e env ≠ .no ∧ ∀ c env', f e env = .ex c env' → ∀ F' H' L', Same F F' → Rel X.prog X.w X.K env' tm σ τ F' H' L' → W c none σ H' := by
  obtain ⟨env, tm, τ, F, L, R, h⟩ := h
  refine ⟨env, tm, τ, F, L, rfl, by simpa using R, ?_⟩
  unfold dbind at h
  cases e : d env with
  | no => rw [e] at h; exact h
  | ex c env' => rw [e] at h; exact h
  | ok a env' =>
    rw [e] at h
    intro vs F' H' L' h1 k R' v hv
    subst hv
    dsimp only at h
    refine ⟨a, env', tm, τ, F', L', R', fun ps env2 e2 => ?_, fun e2 => ?_, fun c env2 e2 => ?_⟩
    · rw [e2] at h; exact fun F2 H2 L2 J k2 => h F2 H2 L2 J (k.trans k2)
    · rw [e2] at h; exact h
    · rw [e2] at h; exact fun F2 H2 L2 k2 => h F2 H2 L2 (k.trans k2)
theorem iv_items (ha : EV X W a da) : IV X W tg a (ditems da) := PIimp (pi_lt ha) fun σ H R h => (tI.expr h).mono fun v H1 ⟨e, env, tm, τ, F, L, R', ok, nn, _⟩ => by
  unfold itemsE at ok nn
  cases e1 : frzE env e with
  | none => rw [e1] at nn; exact absurd rfl nn
  | some r =>
    obtain ⟨p, env1⟩ := r
    rw [e1] at ok nn
    obtain ⟨F1, L1, k1, R1⟩ := R'.frzAt (i := tm.length) (v := v) (by simp) (by have := R'.pop.tlen; rw [this]; simp) e1
    have hs : (tm ++ [e]).set tm.length (.val p) = tm ++ [.val p] := by simp
    rw [hs] at R1
    have rp := RepO.toF (frzE_fz e1) R1.top
    cases p with
    | lst o xs =>
      have hz := frzE_fz e1
      cases o with
      | true => simp [PV.fz] at hz
      | false =>
      rw [RepF] at rp
      obtain ⟨_, ad, vs, rfl, s1, r⟩ := rp
      refine ⟨ad, rfl, .inl ⟨vs, SqL.mono R1.fle (SqL.of s1), ok _ _ rfl F1 H1 L1 _ k1 R1.pop (ItOk.list (SqL.of s1) r)⟩⟩
    | tup xs =>
      rw [RepF] at rp
      obtain ⟨ad, vs, rfl, s1, r⟩ := rp
      exact ⟨ad, rfl, .inr ⟨vs, SqT.mono R1.fle s1, ok _ _ rfl F1 H1 L1 _ k1 R1.pop (ItOk.tup s1 r)⟩⟩
    | frl xs =>
      rw [RepF] at rp
      obtain ⟨ad, vs, rfl, s1, r⟩ := rp
      exact ⟨ad, rfl, .inl ⟨vs, SqL.mono R1.fle s1, ok _ _ rfl F1 H1 L1 _ k1 R1.pop (ItOk.list s1 r)⟩⟩
    | _ => exact absurd rfl nn
theorem tI.args {d : D PEnv} {f : PEnv → D (List PV)} {σ : L2.St} {H : Hp} {R : It → Hp → Prop} (h : tI X.prog X.w X.K W (dbind d f) σ H R) :
    tAr X.prog X.w X.K W d σ H fun vs H1 => ∃ (es env tm : PEnv) (τ : List V) (F : Hp) (L : Lab), es.length = vs.length ∧ Rel X.prog X.w X.K env (tm ++ es) σ (τ ++ vs) F H1 L ∧ (∀ ps env', f es env = .ok ps env' → ∀ F' H' L' J, Same F F' → Rel X.prog X.w X.K env' tm σ τ F' H' L' → ItOk X.prog X.w X.K F' ps J → R J H') ∧ f es env ≠ .no := by
  obtain ⟨env, tm, τ, F, L, R, h⟩ := h
  refine ⟨env, tm, τ, F, L, rfl, by simpa using R, ?_⟩
  unfold dbind at h
  cases e : d env with
  | no => rw [e] at h; exact h
  | ex c env' => rw [e] at h; exact h
  | ok a env' =>
    rw [e] at h
    intro vs F' H' L' h1 k R'
    dsimp only at h
    refine ⟨a, env', tm, τ, F', L', h1, R', fun ps env2 e2 => ?_, fun e2 => ?_⟩
    · rw [e2] at h; exact fun F2 H2 L2 J k2 => h F2 H2 L2 J (k.trans k2)
    · rw [e2] at h; exact h
theorem int_of {P : Program} {w : World} {K : PySem.W.Frag} {F H : Hp} {L : Lab} {env : PEnv} {r i : Nat} {a : Sl} {v : V} {j : Int} (h : Ent P w K env F H L r a v) (e : intOf (cont env a) = some j) : v = .int j := by
  cases e1 : cont env a with
  | none => rw [e1] at e; cases e
  | some p =>
    rw [e1] at e
    obtain ⟨q, rp⟩ := h.rep e1
    cases p with
    | int k =>
      have : k = j := by simpa [intOf] using e
      subst this
      rw [RepO] at rp
      exact rp
    | _ => simp [intOf] at e
theorem iv_range1 {p : Pos} (hg : Gl X "range") (hm : X.mg "range" = none) (ha : AV X W [a] ds) (hs : starEach [a] X.env = [(false, eval a X.env)] := by rfl) : IV X W tg (.Call (.Name "range" p) [a] [] pos) (drange1 ds) :=
  PIimp (pi_range1 hg hm ha hs) fun σ H R h => (tI.args h).mono fun vs H1 ⟨es, env, tm, τ, F, L, hl, R', ok, nn⟩ => by
    match es, vs, hl with
    | [], _, _ => exact absurd rfl nn
    | _ :: _ :: _, _, _ => exact absurd rfl nn
    | [x], [v], _ =>
      dsimp only at ok nn
      cases e1 : intOf (cont env x) with
      | none => rw [e1] at nn; exact absurd rfl nn
      | some i =>
        rw [e1] at ok nn
        dsimp only at ok nn
        by_cases hb : okB i
        · rw [if_pos hb] at ok
          have := int_of (i := 0) R'.top e1
          subst this
          exact ⟨i, rfl, hb.1, hb.2, ok _ _ rfl F H1 L _ (Same.refl F) R'.pop ItOk.rng⟩
        · rw [if_neg hb] at nn; exact absurd rfl nn
theorem tm_get {P : Program} {w : World} {K : PySem.W.Frag} {F H : Hp} {L : Lab} {env tm es : PEnv} {σ : L2.St} {τ vs : List V} {n : Nat} {e : Sl} {v : V} (R : Rel P w K env (tm ++ es) σ (τ ++ vs) F H L) (hl : es.length = vs.length) (he : es[n]? = some e) (hv : vs[n]? = some v) :
    Ent P w K env F H L (2 * (tm.length + n) + 1) e v := by
  have h1 := (R.popN hl).tlen
  refine R.tmp (tm.length + n) e v ?_ ?_
  · rw [List.getElem?_append_right (by omega)]
    simpa using he
  · rw [List.getElem?_append_right (by omega)]
    simpa [h1] using hv
theorem iv_range2 {p : Pos} (hg : Gl X "range") (hm : X.mg "range" = none) (ha : AV X W [a, b] ds) (hs : starEach [a, b] X.env = [(false, eval a X.env), (false, eval b X.env)] := by rfl) (hs2 : starEach [b] X.env = [(false, eval b X.env)] := by rfl) : IV X W tg (.Call (.Name "range" p) [a, b] [] pos) (drange2 ds) :=
  PIimp (pi_range2 hg hm ha hs hs2) fun σ H R h => (tI.args h).mono fun vs H1 ⟨es, env, tm, τ, F, L, hl, R', ok, nn⟩ => by
    match es, vs, hl with
    | [], _, _ => exact absurd rfl nn
    | [_], _, _ => exact absurd rfl nn
    | _ :: _ :: _ :: _, _, _ => exact absurd rfl nn
    | [x, y], [v, u], hl =>
      dsimp only at ok nn
      cases e1 : intOf (cont env x) with
      | none => rw [e1] at nn; exact absurd rfl nn
      | some i =>
        cases e2 : intOf (cont env y) with
        | none => rw [e1, e2] at nn; exact absurd rfl nn
        | some j =>
          rw [e1, e2] at ok nn
          dsimp only at ok nn
          by_cases hb : okB i ∧ okB j
          · rw [if_pos hb] at ok
            have t1 := int_of (i := 0) (tm_get (n := 0) R' hl rfl rfl) e1
            have t2 := int_of (i := 0) (tm_get (n := 1) R' hl rfl rfl) e2
            subst t1 t2
            exact ⟨i, j, rfl, ⟨hb.1.1, hb.1.2, hb.2.1, hb.2.2⟩, ok _ _ rfl F H1 L _ (Same.refl F) (R'.popN hl) ItOk.rng⟩
          · rw [if_neg hb] at nn; exact absurd rfl nn
theorem iv_range3 {p : Pos} (hg : Gl X "range") (hm : X.mg "range" = none) (ha : AV X W [a, b, c] ds)
    (hs : starEach [a, b, c] X.env = (false, eval a X.env) :: starEach [b, c] X.env := by rfl) (hpl : (backTo pos (starEach [b, c] X.env)).any (·.1) = false := by rfl) : IV X W tg (.Call (.Name "range" p) [a, b, c] [] pos) (drange3 ds) :=
  PIimp (pi_range3 hg hm ha hs hpl) fun σ H R h => (tI.args h).mono fun vs H1 ⟨es, env, tm, τ, F, L, hl, R', ok, nn⟩ => by
    match es, vs, hl with
    | [], _, _ => exact absurd rfl nn
    | [_], _, _ => exact absurd rfl nn
    | [_, _], _, _ => exact absurd rfl nn
    | _ :: _ :: _ :: _ :: _, _, _ => exact absurd rfl nn
    | [x, y, z], [v, u, t], hl =>
      dsimp only at ok nn
      cases e1 : intOf (cont env x) with
      | none => rw [e1] at nn; exact absurd rfl nn
      | some i =>
        cases e2 : intOf (cont env y) with
        | none => rw [e1, e2] at nn; exact absurd rfl nn
        | some j =>
          cases e3 : intOf (cont env z) with
          | none => rw [e1, e2, e3] at nn; exact absurd rfl nn
          | some k =>
            rw [e1, e2, e3] at ok nn
            dsimp only at ok nn
            by_cases hb : okB i ∧ okB j ∧ k = -1
            · rw [if_pos hb] at ok
              have t1 := int_of (i := 0) (tm_get (n := 0) R' hl rfl rfl) e1
              have t2 := int_of (i := 0) (tm_get (n := 1) R' hl rfl rfl) e2
              have t3 := int_of (i := 0) (tm_get (n := 2) R' hl rfl rfl) e3
              subst t1 t2 t3
              obtain ⟨⟨b1, b2⟩, ⟨b3, b4⟩, rfl⟩ := hb
              exact ⟨i, j, -1, (i - j).toNat, rfl, RgC.neg b1 b2 b3 b4, ok _ _ rfl F H1 L _ (Same.refl F) (R'.popN hl) ItOk.rngC⟩
            · rw [if_neg hb] at nn; exact absurd rfl nn
theorem frzEs_fz {env env1 : PEnv} : ∀ {es : PEnv} {env : PEnv} {ps : List PV}, frzEs env es = some (ps, env1) → PV.fzs ps = true ∧ ps.length = es.length := by
  intro es
  induction es with
  | nil => intro env ps h; cases h; exact ⟨rfl, rfl⟩
  | cons e es ih =>
    intro env ps h
    rw [frzEs] at h
    cases e1 : frzE env e with
    | none => rw [e1] at h; cases h
    | some r =>
      obtain ⟨p, env2⟩ := r
      rw [e1] at h
      dsimp only at h
      cases e2 : frzEs env2 es with
      | none => rw [e2] at h; cases h
      | some r2 =>
        obtain ⟨ps', env3⟩ := r2
        rw [e2] at h
        cases h
        obtain ⟨h1, h2⟩ := ih e2
        exact ⟨by rw [PV.fzs, frzE_fz e1, h1]; rfl, by simp [h2]⟩
theorem enum_cases {ps : List PV} {env1 : PEnv} (nn : (match some (ps, env1) with
  | some ([.lst _ xs], env1) => Out.ok (xs.zipIdx.map fun p => PV.tup [.int (p.2 : Nat), p.1]) env1
  | _ => Out.no) ≠ Out.no) : ∃ o xs, ps = [.lst o xs] := by
  split at nn
  · rename_i h; cases h; exact ⟨_, _, rfl⟩
  · exact absurd rfl nn
theorem iv_enum {elts : List Expr} {kk : Nat} {tpos p : Pos} (hg : Gl X "enumerate") (hm : X.mg "enumerate" = none) (ha : AV X W [e] ds) (hs : starEach [e] X.env = [(false, eval e X.env)] := by rfl) :
    IV X W (.Tuple elts kk tpos) (.Call (.Name "enumerate" p) [e] [] pos) (denum ds) :=
  PIimp (pi_enum hg hm ha hs) fun σ H R h => (tI.args h).mono fun vs H1 ⟨es, env, tm, τ, F, L, hl, R', ok, nn⟩ => by
    cases e1 : frzEs env es with
    | none => rw [e1] at nn; exact absurd rfl nn
    | some r =>
      obtain ⟨ps, env1⟩ := r
      rw [e1] at ok nn
      have hz := frzEs_fz (env := env) e1
      obtain ⟨F1, L1, k1, R1, RF⟩ := R'.frzAll (R'.popN hl).tlen e1
      obtain ⟨o, xs, rfl⟩ := enum_cases nn
      rw [RepFs] at RF
      obtain ⟨v, r, rfl, rp, r2⟩ := RF
      rw [RepFs] at r2
      subst r2
      rw [RepF] at rp
      obtain ⟨_, ad, vs, rfl, s1, r⟩ := rp
      exact ⟨ad, vs, rfl, SqL.mono R1.fle (SqL.of s1), ok _ _ rfl F1 H1 L1 _ k1 (R1.popN (by simp)) (ItOk.enum (SqL.of s1) r)⟩
theorem zip_cases {ps : List PV} {env1 : PEnv} (nn : (match some (ps, env1) with
  | some ([.lst _ xs, .lst _ ys], env1) => Out.ok ((xs.zip ys).map fun p => PV.tup [p.1, p.2]) env1
  | some ([.tup xs, .tup ys], env1) => Out.ok ((xs.zip ys).map fun p => PV.tup [p.1, p.2]) env1
  | _ => Out.no) ≠ Out.no) : (∃ o o' xs ys, ps = [.lst o xs, .lst o' ys]) ∨ ∃ xs ys, ps = [.tup xs, .tup ys] := by
  split at nn
  · rename_i h; cases h; exact .inl ⟨_, _, _, _, rfl⟩
  · rename_i h; cases h; exact .inr ⟨_, _, rfl⟩
  · exact absurd rfl nn
theorem iv_zip {elts : List Expr} {kk : Nat} {tpos p : Pos} {e2 : Expr} (hg : Gl X "zip") (hm : X.mg "zip" = none) (ha : AV X W [e, e2] ds)
    (hs : starEach [e, e2] X.env = (false, eval e X.env) :: starEach [e2] X.env := by rfl) (hpl : (backTo pos (starEach [e2] X.env)).any (·.1) = false := by rfl) :
    IV X W (.Tuple elts kk tpos) (.Call (.Name "zip" p) [e, e2] [] pos) (dzip ds) :=
  PIimp (RZ.pi_zipA hg hm ha hs hpl) fun σ H R h => (tI.args h).mono fun vs H1 ⟨es, env, tm, τ, F, L, hl, R', ok, nn⟩ => by
    cases e1 : frzEs env es with
    | none => rw [e1] at nn; exact absurd rfl nn
    | some r =>
      obtain ⟨ps, env1⟩ := r
      rw [e1] at ok nn
      have hz := frzEs_fz (env := env) e1
      obtain ⟨F1, L1, k1, R1, RF⟩ := R'.frzAll (R'.popN hl).tlen e1
      have go : ∀ {p q : PV}, ps = [p, q] → ∃ v u, vs = [v, u] ∧ RepF X.prog X.w X.K F1 p v ∧ RepF X.prog X.w X.K F1 q u := fun {p q} e => by
        rw [e, RepFs] at RF
        obtain ⟨v, r, rfl, rp, r2⟩ := RF
        rw [RepFs] at r2
        obtain ⟨u, r, rfl, rq, r3⟩ := r2
        rw [RepFs] at r3
        exact ⟨v, u, by rw [r3], rp, rq⟩
      rcases zip_cases nn with ⟨o, o', xs, ys, rfl⟩ | ⟨xs, ys, rfl⟩
      · obtain ⟨v, u, rfl, r1, r2⟩ := go rfl
        rw [RepF] at r1 r2
        obtain ⟨_, ad, vs, rfl, s1, r1⟩ := r1
        obtain ⟨_, bd, us, rfl, s2, r2⟩ := r2
        exact ⟨ad, bd, vs, us, rfl, .inl ⟨SqL.mono R1.fle (SqL.of s1), SqL.mono R1.fle (SqL.of s2), ok _ _ rfl F1 H1 L1 _ k1 (R1.popN (by simp)) (ItOk.zipL (SqL.of s1) r1 (SqL.of s2) r2)⟩⟩
      · obtain ⟨v, u, rfl, r1, r2⟩ := go rfl
        rw [RepF] at r1 r2
        obtain ⟨ad, vs, rfl, s1, r1⟩ := r1
        obtain ⟨bd, us, rfl, s2, r2⟩ := r2
        exact ⟨ad, bd, vs, us, rfl, .inr ⟨SqT.mono R1.fle s1, SqT.mono R1.fle s2, ok _ _ rfl F1 H1 L1 _ k1 (R1.popN (by simp)) (ItOk.zipT s1 r1 s2 r2)⟩⟩
end

/-! ### for, while -/
/-- how a loop goes on behind its body -/
def turnK (k : PEnv → Out Fl) : Out Fl → Out Fl
  | .ok .nx e => k e
  | .ok .ct e => k e
  | .ok .bk e => .ok .nx e
  | .ok (.rt r) e => .ok (.rt r) e
  | .ex c e => .ex c e
  | .no => .no
def forP (t : PV → PEnv → Option PEnv) (body : D Fl) : List PV → D Fl
  | [], env => .ok .nx env
  | p :: ps, env => match t p env with
    | none => .no
    | some env1 => turnK (forP t body ps) (body env1)
def dfor (t : Tg) (di : D (List PV)) (body : D Fl) : D Fl := dbind di fun ps => forP (setT t) body ps
def whN (c : D Bool) (body : D Fl) : Nat → D Fl
  | 0, _ => .no
  | n + 1, env => match c env with
    | .ok true env1 => turnK (whN c body n) (body env1)
    | .ok false env1 => .ok .nx env1
    | .ex c e => .ex c e
    | .no => .no
theorem whN_mono {c : D Bool} {body : D Fl} : ∀ {n m : Nat} {env : PEnv}, n ≤ m → whN c body n env ≠ .no → whN c body m env = whN c body n env
  | 0, _, _, _, h => absurd rfl h
  | n + 1, 0, _, h, _ => by omega
  | n + 1, m + 1, env, h, hn => by
    unfold whN at hn ⊢
    cases e : c env with
    | no => rfl
    | ex _ _ => rfl
    | ok b env1 =>
      cases b with
      | false => rfl
      | true =>
        rw [e] at hn
        dsimp only at hn ⊢
        cases e2 : body env1 with
        | no => rfl
        | ex _ _ => rfl
        | ok f env2 =>
          rw [e2] at hn
          cases f with
          | nx => exact whN_mono (by omega) hn
          | ct => exact whN_mono (by omega) hn
          | bk => rfl
          | rt _ => rfl
open Classical in
noncomputable def dwhile (c : D Bool) (body : D Fl) : D Fl := fun env => if h : ∃ n, whN c body n env ≠ .no then whN c body h.choose env else .no
theorem dwhile_of {c : D Bool} {body : D Fl} {n : Nat} {env : PEnv} {o : Out Fl} (h : whN c body n env = o) (hn : o ≠ .no) : dwhile c body env = o := by
  subst h
  have hx : ∃ n, whN c body n env ≠ .no := ⟨n, hn⟩
  unfold dwhile
  rw [dif_pos hx]
  have hc := hx.choose_spec
  rcases Nat.le_total n hx.choose with h | h
  · exact whN_mono h hn
  · exact (whN_mono h hc).symm
theorem dwhile_some {c : D Bool} {body : D Fl} {env : PEnv} (h : dwhile c body env ≠ .no) : ∃ n, dwhile c body env = whN c body n env := by
  unfold dwhile at h ⊢
  by_cases hx : ∃ n, whN c body n env ≠ .no
  · rw [dif_pos hx]; exact ⟨_, rfl⟩
  · rw [dif_neg hx] at h; exact absurd rfl h
/-- one turn -/
theorem dwhile_eq {c : D Bool} {body : D Fl} {env : PEnv} : dwhile c body env = match c env with
    | .ok true env1 => (turnK (dwhile c body) (body env1))
    | .ok false env1 => .ok .nx env1
    | .ex c e => .ex c e
    | .no => .no := by
  have step : ∀ n, whN c body (n + 1) env = match c env with
    | .ok true env1 => (turnK (whN c body n) (body env1))
    | .ok false env1 => .ok .nx env1
    | .ex c e => .ex c e
    | .no => .no := fun n => by rw [whN] <;> rfl
  have s1 := step 1
  cases e : c env with
  | no =>
    dsimp only
    by_cases hn : dwhile c body env = .no
    · exact hn
    · obtain ⟨n, hw⟩ := dwhile_some hn
      rw [hw] at hn ⊢
      cases n with
      | zero => rfl
      | succ n => rw [step, e]
  | ex _ _ => rw [e] at s1; exact dwhile_of s1 (by simp)
  | ok b env1 =>
    cases b with
    | false => rw [e] at s1; exact dwhile_of s1 (by simp)
    | true =>
      rw [e] at s1
      dsimp only at s1 ⊢
      cases e2 : body env1 with
      | no =>
        show dwhile c body env = .no
        by_cases hn : dwhile c body env = .no
        · exact hn
        · obtain ⟨n, hw⟩ := dwhile_some hn
          rw [hw] at hn ⊢
          cases n with
          | zero => rfl
          | succ n => rw [step, e]; dsimp only; rw [e2]; rfl
      | ex _ _ => rw [e2] at s1; exact dwhile_of s1 (by simp [turnK])
      | ok f env2 =>
        have again : (∀ n, whN c body (n + 1) env = whN c body n env2) → dwhile c body env = dwhile c body env2 := fun hs => by
          by_cases hn : dwhile c body env2 = .no
          · rw [hn]
            by_cases hm : dwhile c body env = .no
            · exact hm
            · obtain ⟨n, hw⟩ := dwhile_some hm
              rw [hw] at hm
              cases n with
              | zero => exact absurd rfl hm
              | succ n =>
                rw [hs n] at hm
                have := dwhile_of rfl hm
                rw [this] at hn
                exact absurd hn hm
          · obtain ⟨n, hw⟩ := dwhile_some hn
            rw [hw] at hn ⊢
            exact dwhile_of (hs n) hn
        rw [e2] at s1
        cases f with
        | nx => exact again fun n => by rw [step, e]; dsimp only; rw [e2]; rfl
        | ct => exact again fun n => by rw [step, e]; dsimp only; rw [e2]; rfl
        | bk => exact dwhile_of s1 (by simp [turnK])
        | rt _ => exact dwhile_of s1 (by simp [turnK])

section
variable {X : Cx} {W : WX} {fi : List Nat} {σ0 : L2.St} {a b c iter tg : Expr} {di : D (List PV)} {sa : D Fl} {ta : D Bool} {body : List Stmt} {pos : Pos} {t : Tg}
theorem out_turn {Dn D' : Ends} {tm : List PV} {τ : List V} {F F1 : Hp} {o : Out Fl} {k : PEnv → Out Fl} (hk : Same F F1) (hb : D'.bk = Dn.nx) (hr : D'.rt = Dn.rt)
    (hn : ∀ e, (o = .ok .nx e ∨ o = .ok .ct e) → ∀ σ' F' H' L', Same F1 F' → Rel X.prog X.w X.K e (tm.map .val) σ' τ F' H' L' → FxOk fi σ0 σ' → outQ X.prog X.w X.K W fi σ0 Dn tm τ F (k e) → D'.nx σ' H' ∧ D'.ct σ' H')
    (h : outQ X.prog X.w X.K W fi σ0 Dn tm τ F (turnK (k) (o))) : outQ X.prog X.w X.K W fi σ0 D' tm τ F1 o := by
  cases o with
  | no => exact h
  | ex c e => exact fun σ' F' H' L' k' => h σ' F' H' L' (hk.trans k')
  | ok f e =>
    cases f with
    | nx => exact fun σ' F' H' L' k' R' fx' => (hn e (.inl rfl) σ' F' H' L' k' R' fx' h).1
    | ct => exact fun σ' F' H' L' k' R' fx' => (hn e (.inr rfl) σ' F' H' L' k' R' fx' h).2
    | bk => exact fun σ' F' H' L' k' R' fx' => by rw [hb]; exact h σ' F' H' L' (hk.trans k') R' fx'
    | rt r => exact fun ex xs σ' v F' H' L' hl k' R' fx' => by rw [hr]; exact h ex xs σ' v F' H' L' hl (hk.trans k') R' fx'
theorem sv_for (G : Good X) (hp : PassesOwn (model X.prog X.w) X.A X.env X.xe) (hi : IV X W tg iter di) (hg : GV X fi σ0 tg t) (hb : BV X W fi σ0 body sa) (hs : ∀ x, foldedSetIterable iter X.env x = pure x := by intro _; rfl) : SV X W fi σ0 (.For tg iter body [] pos) (dfor t di sa) :=
  PSimp (ps_for hp G.calm hi hg hb hs) fun Dn σ H ⟨env, tm, τ, F, L, R, fx, h⟩ => by
    refine ⟨env, tm.map .val, τ, F, L, R, ?_⟩
    unfold dfor dbind at h
    cases e : di env with
    | no => rw [e] at h; exact h
    | ex c env' => rw [e] at h; exact fun F' H' L' k R' => h σ F' H' L' k R' fx
    | ok ps env' =>
      rw [e] at h
      intro F1 H1 L1 J k1 R1 it
      refine ⟨fun i m σ' H' => m = ps.length - i ∧ i ≤ ps.length ∧ ∃ env F' L', Same F1 F' ∧ Rel X.prog X.w X.K env (tm.map .val) σ' τ F' H' L' ∧ FxOk fi σ0 σ' ∧ outQ X.prog X.w X.K W fi σ0 Dn tm τ F' (forP (setT t) sa (ps.drop i) env), ⟨ps.length, rfl, Nat.zero_le _, env', F1, L1, Same.refl _, R1, fx, outQ.mono h k1⟩, ?_⟩
      rintro i m σ2 H2 ⟨rfl, hil, env2, F2, L2, k2, R2, fx2, q⟩
      by_cases hlt : i < ps.length
      · refine .inr ?_
        obtain ⟨g1, g2⟩ := it.go i ps[i] F2 H2 k2 R2.fle (by simp [hlt])
        refine ⟨g1, fun σ' H' => i + 1 ≤ ps.length ∧ ∃ env F' L', Same F1 F' ∧ Rel X.prog X.w X.K env (tm.map .val) σ' τ F' H' L' ∧ FxOk fi σ0 σ' ∧ outQ X.prog X.w X.K W fi σ0 Dn tm τ F' (forP (setT t) sa (ps.drop (i + 1)) env), fun σ' H' hh => ⟨ps.length - (i + 1), by omega, rfl, hh⟩, fun x H3 y => ?_⟩
        obtain ⟨F3, k3, rp, tr⟩ := g2 x H3 y
        obtain ⟨L3, R3⟩ := tr _ _ _ _ _ R2
        rw [List.drop_eq_getElem_cons hlt, forP] at q
        cases e3 : setT t ps[i] env2 with
        | none => rw [e3] at q; exact q.elim
        | some env3 =>
          rw [e3] at q
          refine ⟨env2, tm.map .val, τ, F3, L3, ps[i], env3, R3, fx2, rp, e3, fun σ4 F4 H4 L4 k4 R4 fx4 => ⟨env3, tm, τ, F4, L4, R4, fx4, ?_⟩⟩
          exact out_turn (k3.trans k4) rfl rfl (fun e he σ' F' H' L' k' R' fx' q' => have z := ⟨hlt, e, F', L', ((k2.trans k3).trans k4).trans k', R', fx', outQ.mono q' ((k3.trans k4).trans k')⟩; ⟨z, z⟩) q
      · have e3 : ps.drop i = [] := List.drop_eq_nil_of_le (by omega)
        rw [e3] at q
        exact .inl ⟨it.stop i F2 H2 k2 R2.fle (by omega), q σ2 F2 H2 L2 (Same.refl _) R2 fx2⟩
theorem sv_while (hp : PassesOwn (model X.prog X.w) X.A X.env X.xe) (hc : TV X W c ta) (hb : BV X W fi σ0 body sa) : SV X W fi σ0 (.While c body [] pos) (dwhile ta sa) :=
  PSimp (ps_while hp hc hb) fun Dn σ H ⟨env, tm, τ, F, L, R, fx, h⟩ => by
    have hn : dwhile ta sa env ≠ .no := fun e => by rw [e] at h; exact h
    obtain ⟨n, hw⟩ := dwhile_some hn
    rw [hw] at h
    refine ⟨fun m σ' H' => ∃ env F' L', Same F F' ∧ Rel X.prog X.w X.K env (tm.map .val) σ' τ F' H' L' ∧ FxOk fi σ0 σ' ∧ outQ X.prog X.w X.K W fi σ0 Dn tm τ F' (whN ta sa m env), ⟨n, env, F, L, Same.refl F, R, fx, h⟩, ?_⟩
    rintro m σ2 H2 ⟨env2, F2, L2, k2, R2, fx2, q⟩
    refine ⟨env2, tm.map .val, τ, F2, L2, rfl, by simpa using R2, ?_⟩
    cases m with
    | zero => exact q.elim
    | succ m =>
      rw [whN] at q
      cases e : ta env2 with
      | no => rw [e] at q; exact q
      | ex c env' => rw [e] at q; exact fun F' H' L' k R' => q σ2 F' H' L' k R' fx2
      | ok b env3 =>
        rw [e] at q
        intro vs F3 H3 L3 h1 k3 R3
        have hv : vs = [] := List.length_eq_zero_iff.mp h1.symm
        subst hv
        have R4 : Rel X.prog X.w X.K env3 (tm.map .val) σ2 τ F3 H3 L3 := by rw [List.append_nil, List.append_nil] at R3; exact R3
        cases b with
        | false =>
          dsimp only; rw [if_neg Bool.false_ne_true]
          exact q σ2 F3 H3 L3 k3 R4 fx2
        | true =>
          dsimp only; rw [if_pos rfl]
          refine ⟨fun σ' H' => ∃ env F' L', Same F F' ∧ Rel X.prog X.w X.K env (tm.map .val) σ' τ F' H' L' ∧ FxOk fi σ0 σ' ∧ outQ X.prog X.w X.K W fi σ0 Dn tm τ F' (whN ta sa m env), fun σ' H' hh => ⟨m, Nat.lt_succ_self m, hh⟩, env3, tm, τ, F3, L3, R4, fx2, ?_⟩
          exact out_turn k3 rfl rfl (fun e he σ' F' H' L' k' R' fx' q' => have z := ⟨e, F', L', (k2.trans k3).trans k', R', fx', outQ.mono q' (k3.trans k')⟩; ⟨z, z⟩) q
end
end Pv
namespace Pv
open PySem PySem.Spec PyProof.Rows L2

/-! ### a comprehension's own slots -/
def wipeE (env : PEnv) : List Nat → PEnv
  | [] => env
  | v :: vs => (wipeE env vs).set v .un
/-- what comes back: another name does not -/
def backS : Sl → Sl
  | .al _ _ => .un
  | e => e
def backE (env0 env : PEnv) : List Nat → PEnv
  | [] => env
  | v :: vs => match env0[v]? with
    | some e => (backE env0 env vs).set v (backS e)
    | none => backE env0 env vs
/-- nothing, or a kept value, or another name -/
def plainS : Sl → Bool
  | .un => true
  | .val pv => pv.fz
  | .al _ _ => true
def plainE (env : PEnv) (vs : List Nat) : Bool := vs.all fun v => match env[v]? with
  | some e => plainS e
  | none => true
theorem wipeE_len {env : PEnv} : ∀ {vs : List Nat}, (wipeE env vs).length = env.length
  | [] => rfl
  | v :: vs => by rw [wipeE, List.length_set, wipeE_len]
theorem backE_len {env0 env : PEnv} : ∀ {vs : List Nat}, (backE env0 env vs).length = env.length
  | [] => rfl
  | v :: vs => by
    rw [backE]
    split
    · rw [List.length_set, backE_len]
    · exact backE_len
theorem wipeE_get {env : PEnv} {k : Nat} : ∀ {vs : List Nat} {e : Sl}, (wipeE env vs)[k]? = some e → (k ∈ vs ∧ e = .un) ∨ (k ∉ vs ∧ env[k]? = some e)
  | [], e, h => .inr ⟨by simp, h⟩
  | v :: vs, e, h => by
    rw [wipeE] at h
    rcases getElem?_set_cases h with ⟨h1, h2, _⟩ | ⟨h1, h2⟩
    · exact .inl ⟨by simp [h1], h2⟩
    · rcases wipeE_get h2 with ⟨h3, h4⟩ | ⟨h3, h4⟩
      · exact .inl ⟨by simp [h3], h4⟩
      · exact .inr ⟨by simp only [List.mem_cons, not_or]; exact ⟨fun e => h1 e.symm, h3⟩, h4⟩
theorem backE_get {env0 env : PEnv} {k : Nat} : ∀ {vs : List Nat} {e : Sl}, (backE env0 env vs)[k]? = some e → (k ∈ vs ∧ ∃ e0, env0[k]? = some e0 ∧ e = backS e0) ∨ ((k ∉ vs ∨ env0[k]? = none) ∧ env[k]? = some e)
  | [], e, h => .inr ⟨.inl (by simp), h⟩
  | v :: vs, e, h => by
    rw [backE] at h
    have rest : k ≠ v ∨ env0[k]? = none → (backE env0 env vs)[k]? = some e → (k ∈ v :: vs ∧ ∃ e0, env0[k]? = some e0 ∧ e = backS e0) ∨ ((k ∉ v :: vs ∨ env0[k]? = none) ∧ env[k]? = some e) := fun h1 h2 => by
      rcases backE_get h2 with ⟨h3, h4⟩ | ⟨h3, h4⟩
      · exact .inl ⟨by simp [h3], h4⟩
      · refine .inr ⟨?_, h4⟩
        rcases h3 with h3 | h3
        · rcases h1 with h1 | h1
          · exact .inl (by simp only [List.mem_cons, not_or]; exact ⟨h1, h3⟩)
          · exact .inr h1
        · exact .inr h3
    cases e0 : env0[v]? with
    | none =>
      rw [e0] at h
      by_cases hk : k = v
      · exact rest (.inr (by rw [hk]; exact e0)) h
      · exact rest (.inl hk) h
    | some x =>
      rw [e0] at h
      rcases getElem?_set_cases h with ⟨h1, h2, _⟩ | ⟨h1, h2⟩
      · exact .inl ⟨by simp [h1], x, by rw [← h1, e0], h2⟩
      · exact rest (.inl (Ne.symm h1)) h2
theorem plainE_get {env : PEnv} {vs : List Nat} {k : Nat} {e : Sl} (h : plainE env vs = true) (hk : k ∈ vs) (he : env[k]? = some e) : plainS e = true := by
  unfold plainE at h
  have := List.all_eq_true.mp h k hk
  rw [he] at this
  exact this
theorem wipe_in {σ : L2.St} {k : Nat} {v : V} {vs : List Nat} (h : (wipe σ vs)[k]? = some (some v)) : σ[k]? = some (some v) ∧ k ∉ vs := wipe_some h
section
variable {P : Program} {w : World} {K : PySem.W.Frag} {F F' F0 H H' H0 : Hp} {L L' L0 : Lab} {env env' env0 tm tm' tm0 : PEnv} {σ σ' : L2.St} {τ τ' τ0 : List V}
theorem Rel.wipe {vs : List Nat} (R : Rel P w K env tm σ τ F H L) : Rel P w K (wipeE env vs) tm (L2.wipe σ vs) τ F H L := by
  have go : ∀ {r : Nat} {e : Sl} {u : V}, Ent P w K env F H L r e u → Ent P w K (wipeE env vs) F H L r e u := fun {r e u} h => by
    cases e with
    | un => trivial
    | val q => exact h
    | al j p =>
      intro q hq
      obtain ⟨y, e1, e2, e3⟩ := look_some hq
      rcases wipeE_get e1 with ⟨_, z⟩ | ⟨_, z⟩
      · cases z
      · exact h q (look_of z e2 e3)
  refine ⟨R.fle, R.lf, R.lh, by rw [wipeE_len, wipe_length]; exact R.len, fun k e he hu => ?_, R.tlen, fun k e u he hu => go (R.tmp k e u he hu), R.inj, fun k u j q he hu hq => ?_⟩
  rotate_right
  · obtain ⟨y, e1, e2, e3⟩ := look_some hq
    rcases wipeE_get e1 with ⟨_, z⟩ | ⟨hj, z⟩
    · cases z
    · rw [wipe_out hj]
      exact R.ali k u j q he hu (look_of z e2 e3)
  rcases wipeE_get he with ⟨_, rfl⟩ | ⟨h1, h2⟩
  · exact absurd rfl hu
  · obtain ⟨v, hv, he⟩ := R.slot k e h2 hu
    exact ⟨v, by rw [wipe_out h1]; exact hv, go he⟩
theorem Rel.back {vs : List Nat} (R : Rel P w K env tm (L2.wipe σ vs) τ F H L) (R0 : Rel P w K env0 tm0 σ τ0 F0 H0 L0) (k : Same F0 F) (hp : plainE env0 vs = true) : Rel P w K (backE env0 env vs) tm σ τ F H L := by
  have hlen : env.length = env0.length := by rw [R.len, wipe_length, R0.len]
  have go : ∀ {r : Nat} {e : Sl} {u : V}, Ent P w K env F H L r e u → Ent P w K (backE env0 env vs) F H L r e u := fun {r e u} h => by
    cases e with
    | un => trivial
    | val q => exact h
    | al j p =>
      intro q hq
      obtain ⟨y, e1, e2, e3⟩ := look_some hq
      rcases backE_get e1 with ⟨h1, e0, z, hb⟩ | ⟨_, z⟩
      · cases e0 with
        | un => cases hb
        | al _ _ => cases hb
        | val pv =>
          cases hb
          have := plainE_get hp h1 z
          rw [at_fz _ _ _ this e2] at e3
          cases e3
      · exact h q (look_of z e2 e3)
  refine ⟨R.fle, R.lf, R.lh, by rw [backE_len]; exact hlen.trans R0.len, fun j e he hu => ?_, R.tlen, fun k e u he hu => go (R.tmp k e u he hu), R.inj, fun k u j q he hu hq => ?_⟩
  rotate_right
  · obtain ⟨y, e1, e2, e3⟩ := look_some hq
    rcases backE_get e1 with ⟨h1, e0, z, hb⟩ | ⟨_, z⟩
    · cases e0 with
      | un => cases hb
      | al _ _ => cases hb
      | val pv =>
        cases hb
        have := plainE_get hp h1 z
        rw [at_fz _ _ _ this e2] at e3
        cases e3
    · have h1 := R.ali k u j q he hu (look_of z e2 e3)
      exact (wipe_in h1).1
  rcases backE_get he with ⟨h1, e0, h2, hb⟩ | ⟨h1, h2⟩
  · cases e0 with
    | un => exact absurd hb hu
    | al _ _ => exact absurd hb hu
    | val pv =>
      cases hb
      obtain ⟨v, hv, he⟩ := R0.slot j _ h2 hu
      have hz := plainE_get hp h1 h2
      exact ⟨v, hv, RepO.ofF (RepF.mono k _ _ (RepO.toF hz he))⟩
  · rcases h1 with h1 | h1
    · obtain ⟨v, hv, he⟩ := R.slot j e h2 hu
      exact ⟨v, by rw [← wipe_out h1]; exact hv, go he⟩
    · have := (List.getElem?_eq_some_iff.mp h2).1
      rw [List.getElem?_eq_none_iff] at h1
      omega
theorem RepOs.snoc {p : Path} : ∀ {xs : List PV} {i : Nat} {vs : List V} {y : PV} {u : V}, RepOs P w K F H L p i xs vs → RepO P w K F H L (p ++ [i + xs.length]) y u → RepOs P w K F H L p i (xs ++ [y]) (vs ++ [u])
  | [], i, vs, y, u, h, h2 => by
    rw [RepOs] at h
    subst h
    rw [List.nil_append, RepOs]
    exact ⟨u, [], rfl, h2, by rw [RepOs]⟩
  | x :: xs, i, vs, y, u, h, h2 => by
    rw [RepOs] at h
    obtain ⟨v, r, rfl, h3, h4⟩ := h
    rw [List.cons_append, RepOs]
    refine ⟨v, r ++ [u], rfl, h3, RepOs.snoc h4 ?_⟩
    have e : i + 1 + xs.length = i + (x :: xs).length := by simp; omega
    rw [e]
    exact h2
/-- labels moved from a root to a place -/
def mvP (r : Nat) (p : Path) (L : Lab) : Lab := fun a => match L a with
  | some (x :: s) => if x = r then some (p ++ s) else if p <+: (x :: s) then none else some (x :: s)
  | o => o
theorem mvP_src {r : Nat} {p : Path} {L : Lab} {a : Addr} {s : Path} (h : L a = some (r :: s)) : mvP r p L a = some (p ++ s) := by simp [mvP, h]
theorem mvP_off {r x : Nat} {p : Path} {L : Lab} {a : Addr} {s : Path} (h : L a = some (x :: s)) (h1 : x ≠ r) (h2 : ¬ p <+: (x :: s)) : mvP r p L a = some (x :: s) := by
  unfold mvP
  rw [h]
  show (if x = r then _ else _) = _
  rw [if_neg h1, if_neg h2]
theorem mvP_inv {r : Nat} {p q : Path} {L : Lab} {a : Addr} (hp : p ≠ []) (h : mvP r p L a = some q) : (∃ s, L a = some (r :: s) ∧ q = p ++ s) ∨ (L a = some q ∧ ¬ p <+: q) := by
  unfold mvP at h
  cases e : L a with
  | none => rw [e] at h; cases h
  | some z =>
    rw [e] at h
    cases z with
    | nil => cases h; exact .inr ⟨rfl, fun z => hp (List.prefix_nil.mp z)⟩
    | cons x s =>
      dsimp only at h
      by_cases h1 : x = r
      · rw [if_pos h1] at h
        cases h
        exact .inl ⟨s, by rw [h1], rfl⟩
      · rw [if_neg h1] at h
        by_cases h2 : p <+: (x :: s)
        · rw [if_pos h2] at h; cases h
        · rw [if_neg h2] at h
          cases h
          exact .inr ⟨rfl, h2⟩
theorem mvP_inj {r : Nat} {p : Path} {L : Lab} (hp : p ≠ []) (inj : ∀ a b q, L a = some q → L b = some q → a = b) : ∀ a b q, mvP r p L a = some q → mvP r p L b = some q → a = b := fun a b q h1 h2 => by
  rcases mvP_inv hp h1 with ⟨s, e1, e2⟩ | ⟨e1, e2⟩
  · rcases mvP_inv hp h2 with ⟨s', e3, e4⟩ | ⟨e3, e4⟩
    · rw [e2] at e4
      have := List.append_cancel_left e4
      subst this
      exact inj _ _ _ e1 e3
    · exact absurd ⟨s, e2.symm⟩ e4
  · rcases mvP_inv hp h2 with ⟨s', e3, e4⟩ | ⟨e3, e4⟩
    · exact absurd ⟨s', e4.symm⟩ e2
    · exact inj _ _ _ e1 e3
theorem mvP_some {r : Nat} {p q : Path} {L : Lab} {a : Addr} (h : mvP r p L a = some q) : ∃ q, L a = some q := by
  unfold mvP at h
  cases e : L a with
  | none => rw [e] at h; cases h
  | some q => exact ⟨q, rfl⟩
/-- the value at the top goes behind the list beneath it -/
theorem Rel.app {acc : List PV} {pv : PV} {d y : V} (R : Rel P w K env (tm ++ [.val (.lst true acc), .val pv]) σ (τ ++ [d, y]) F H L) (hl : tm.length = τ.length) :
    ∃ D vs, d = .ref D ∧ H D = some (.lst vs) ∧ acc.length = vs.length ∧ ∃ L', Rel P w K env (tm ++ [.val (.lst true (acc ++ [pv]))]) σ (τ ++ [.ref D]) F (upd H D (.lst (vs ++ [y]))) L' := by
  have t1 : Ent P w K env F H L (2 * tm.length + 1) (.val (.lst true acc)) d := R.tmp tm.length _ d (by simp) (by simp [hl])
  have t2 : Ent P w K env F H L (2 * (tm.length + 1) + 1) (.val pv) y := R.tmp (tm.length + 1) _ y (by simp) (by simp [hl])
  have R0 : Rel P w K env tm σ τ F H L := R.popN (es := [_, _]) (vs := [_, _]) rfl
  rw [Ent, RepO] at t1
  obtain ⟨D, vs, rfl, hL, hD, ks⟩ := t1
  refine ⟨D, vs, rfl, hD, ks.length, mvP (2 * (tm.length + 1) + 1) [2 * tm.length + 1, acc.length] L, ?_⟩
  have fD : F D = none := R.lf D _ hL
  have go : ∀ {r : Nat} {e : Sl} {u : V}, r ≠ 2 * tm.length + 1 → r ≠ 2 * (tm.length + 1) + 1 → Ent P w K env F H L r e u → Ent P w K env F (upd H D (.lst (vs ++ [y]))) (mvP (2 * (tm.length + 1) + 1) [2 * tm.length + 1, acc.length] L) r e u := fun {r e u} h1 h2 h => by
    have ne : ∀ {a : Addr} {x : Nat} {s : Path}, L a = some (x :: s) → x ≠ 2 * tm.length + 1 → a ≠ D := fun {a x s} ha hx z => by
      rw [z, hL] at ha
      cases ha
      exact hx rfl
    cases e with
    | un => trivial
    | val q => exact RepO.tr (Same.refl F) q [r] [r] u (fun a s l => ⟨mvP_off l h2 (fun z => h1 (List.cons_prefix_cons.mp z).1.symm), upd_ne (ne l h1)⟩) h
    | al j p =>
      intro q hq
      exact RepO.tr (Same.refl F) q (2 * j :: p) (2 * j :: p) u (fun a s l => ⟨mvP_off (s := p ++ s) l (by omega) (fun z => by have := (List.cons_prefix_cons.mp z).1; omega), upd_ne (ne (s := p ++ s) l (by omega))⟩) (h q hq)
  refine ⟨fun b o e => ?_, fun a p e => ?_, fun a p e => ?_, R0.len, fun k e he hu => ?_, by simp [hl], fun k e u he hu => ?_, mvP_inj (by simp) R.inj, fun k u j q he hu hq => ?_⟩
  rotate_right
  · by_cases hk : k < tm.length
    · rw [List.getElem?_append_left hk] at he
      rw [List.getElem?_append_left (by omega)] at hu
      exact R0.ali k u j q he hu hq
    · rw [List.getElem?_append_right (by omega)] at he
      cases hx : k - tm.length with
      | zero => rw [hx] at he; cases he
      | succ n => rw [hx] at he; cases he
  · rw [upd_ne (ne_of_none e fD)]
    exact R.fle b o e
  · obtain ⟨q, hq⟩ := mvP_some e; exact R.lf a q hq
  · obtain ⟨q, hq⟩ := mvP_some e
    by_cases ha : a = D
    · subst ha; exact ⟨_, upd_same⟩
    · rw [upd_ne ha]; exact R.lh a q hq
  · obtain ⟨u, h1, h2⟩ := R0.slot k e he hu
    exact ⟨u, h1, go (by omega) (by omega) h2⟩
  · by_cases hk : k < tm.length
    · rw [List.getElem?_append_left hk] at he
      rw [List.getElem?_append_left (by omega)] at hu
      exact go (by omega) (by omega) (R0.tmp k e u he hu)
    · have hk' : k = tm.length := by
        have := (List.getElem?_eq_some_iff.mp he).1
        simp at this
        omega
      subst hk'
      have e1 : e = .val (.lst true (acc ++ [pv])) := by simpa using he.symm
      have e2 : u = .ref D := by
        rw [hl] at hu
        simpa using hu.symm
      subst e1 e2
      rw [Ent, RepO]
      have kids : RepOs P w K F (upd H D (.lst (vs ++ [y]))) (mvP (2 * (tm.length + 1) + 1) [2 * tm.length + 1, acc.length] L) [2 * tm.length + 1] 0 acc vs := by
        refine RepOs.of ks.length fun i x v hx hv => ?_
        obtain ⟨v', hv', rx⟩ := ks.get hx
        rw [hv] at hv'
        cases hv'
        refine RepO.tr (Same.refl F) x _ _ v (fun a s l => ?_) rx
        have hi := (List.getElem?_eq_some_iff.mp hx).1
        refine ⟨mvP_off (s := (0 + i) :: s) l (by omega) (fun z => by have := (List.cons_prefix_cons.mp (List.cons_prefix_cons.mp z).2).1; omega), upd_ne fun z => ?_⟩
        subst z
        rw [hL] at l
        simp at l
      refine ⟨D, vs ++ [y], rfl, mvP_off hL (by omega) (fun z => by simp at z), upd_same, kids.snoc ?_⟩
      refine RepO.tr (Same.refl F) pv [2 * (tm.length + 1) + 1] _ y (fun a s l => ⟨by rw [mvP_src l]; simp, upd_ne fun z => ?_⟩) t2
      subst z
      rw [hL] at l
      simp at l
      omega
end
def unalV (env : PEnv) : Sl → Option (PV × PEnv)
  | .val pv => some (pv, env)
  | e => frzE env e
theorem Rel.unal {P : Program} {w : World} {K : PySem.W.Frag} {F H : Hp} {L : Lab} {env env1 tm : PEnv} {σ : L2.St} {τ : List V} {e : Sl} {v : V} {pv : PV} (R : Rel P w K env (tm ++ [e]) σ (τ ++ [v]) F H L) (h : unalV env e = some (pv, env1)) :
    ∃ F' L', Same F F' ∧ Rel P w K env1 (tm ++ [.val pv]) σ (τ ++ [v]) F' H L' := by
  have fz : frzE env e = some (pv, env1) → ∃ F' L', Same F F' ∧ Rel P w K env1 (tm ++ [.val pv]) σ (τ ++ [v]) F' H L' := fun h => by
    obtain ⟨F1, L1, k1, R1⟩ := R.frzAt (i := tm.length) (v := v) (by simp) (by have := R.pop.tlen; rw [this]; simp) h
    have hs : (tm ++ [e]).set tm.length (.val pv) = tm ++ [.val pv] := by simp
    rw [hs] at R1
    exact ⟨F1, L1, k1, R1⟩
  cases e with
  | val p => cases h; exact ⟨F, L, Same.refl F, R⟩
  | un => cases h
  | al j q => exact fz h

/-! ### the comprehension -/
def lcP (t : PV → PEnv → Option PEnv) (vs : List Nat) (tt : D Bool) (te : D Sl) : List PV → List PV → D (List PV)
  | [], acc, env => .ok acc env
  | p :: ps, acc, env => match t p env with
    | none => .no
    | some env1 => match tt env1 with
      | .ok true env2 => match te env2 with
        | .ok e env3 => match unalV env3 e with
          | some (pv, env4) => lcP t vs tt te ps (acc ++ [pv]) (wipeE env4 vs)
          | none => .no
        | _ => .no
      | .ok false env2 => lcP t vs tt te ps acc (wipeE env2 vs)
      | _ => .no
def lcE (t : Tg) (vs : List Nat) (tt : D Bool) (te : D Sl) (ps : List PV) : D Sl := fun env =>
  if plainE env vs = true ∧ ps.length ≤ 1000000 then match lcP (setT t) vs tt te ps [] (wipeE env vs) with
    | .ok acc env' => .ok (.val (.lst true acc)) (backE env env' vs)
    | _ => .no
  else .no
def dlc (di : D (List PV)) (t : Tg) (vs : List Nat) (tt : D Bool) (te : D Sl) : D Sl := dbind di (lcE t vs tt te)
mutual
/-- names alone -/
def Tg.names : Tg → Bool
  | .nm _ => true
  | .tp ts => Tg.namesL ts
  | .ix _ _ => false
def Tg.namesL : List Tg → Bool
  | [] => true
  | t :: ts => t.names && Tg.namesL ts
end
theorem setT_len : (∀ (t : Tg), t.names = true → ∀ p env env', setT t p env = some env' → env'.length = env.length) := by
  intro t
  refine Tg.rec (motive_1 := fun t => t.names = true → ∀ p env env', setT t p env = some env' → env'.length = env.length) (motive_2 := fun ts => Tg.namesL ts = true → ∀ ps env env', setTs ts ps env = some env' → env'.length = env.length) ?_ ?_ ?_ ?_ ?_ t
  · intro i _ p env env' h
    rw [setT] at h
    cases h
    exact setE_len
  · intro ts ih hn p env env' h
    rw [Tg.names] at hn
    have ih := ih hn
    cases p with
    | tup ps => rw [setT] at h; exact ih _ _ _ h
    | _ => simp [setT] at h
  · intro a b hn
    cases hn
  · intro _ ps env env' h
    cases ps with
    | nil => rw [setTs] at h; cases h; rfl
    | cons p ps => simp [setTs] at h
  · intro t ts ih1 ih2 hn ps env env' h
    rw [Tg.namesL, Bool.and_eq_true] at hn
    have ih1 := ih1 hn.1
    have ih2 := ih2 hn.2
    cases ps with
    | nil => simp [setTs] at h
    | cons p ps =>
      rw [setTs] at h
      cases e1 : setT t p env with
      | none => rw [e1] at h; cases h
      | some env1 =>
        rw [e1] at h
        exact (ih2 _ _ _ h).trans (ih1 _ _ _ e1)
/-- nothing is thrown -/
def noW : WX := fun _ _ _ _ => False
abbrev PtsV (X : Cx) (ifs : List Expr) (d : D Bool) : Prop := PTs X ifs (tT X.prog X.w X.K noW d)
section
variable {X : Cx} {W : WX} {fi : List Nat} {σ0 : L2.St} {a b c iter tg elt : Expr} {di : D (List PV)} {tt : D Bool} {te : D Sl} {ifs : List Expr} {pos : Pos} {t : Tg} {scope : Scope} {own : List (Str × Nat)}
theorem ptsv_nil : PtsV X [] (dpure true) := ⟨fun pins s σ H Q I h => pts_nil.run pins s σ H Q I (tT.pure (W := noW) h)⟩
theorem ptsv_one (h : TV X noW c tt) : PtsV X [c] tt := pts_one h
theorem wipe_same {σ σ2 : L2.St} {vs fi : List Nat} {n : Nat} (hn : σ.length = n) (h2 : σ2.length = n) (hfi : ∀ i, i < n → i ∉ vs → i ∈ fi) (fx : FxOk fi (wipe σ vs) σ2) : wipe σ2 vs = wipe σ vs := by
  refine List.ext_getElem? fun i => ?_
  by_cases hi : i < n
  · by_cases hv : i ∈ vs
    · have none : ∀ {s : L2.St}, s.length = n → (wipe s vs)[i]? = some Option.none := fun {s} hs => by
        have hl : i < (wipe s vs).length := by rw [wipe_length, hs]; exact hi
        rw [List.getElem?_eq_getElem hl]
        cases e : (wipe s vs)[i] with
        | none => rfl
        | some x => exact absurd hv (wipe_some (by rw [List.getElem?_eq_getElem hl, e])).2
      rw [none h2, none hn]
    · rw [wipe_out hv, fx i (hfi i hi hv)]
  · rw [List.getElem?_eq_none (by rw [wipe_length, h2]; omega), List.getElem?_eq_none (by rw [wipe_length, hn]; omega)]
theorem lc_imp {vs : List Nat} {σ : L2.St} {H : Hp} {Q : VK} (hlen : σ.length = X.N.length) (hfi : ∀ i, i < X.N.length → i ∉ vs → i ∈ fi) (hnm : t.names = true) (h : tE X.prog X.w X.K W (dlc di t vs tt te) σ H Q) :
    tLc (tI X.prog X.w X.K W di) (gT X.prog X.w X.K fi (wipe σ vs) t) (tT X.prog X.w X.K noW tt) (tE X.prog X.w X.K noW te) vs σ H Q := by
  obtain ⟨env, tm, τ, F, L, _, R, h⟩ := h
  refine ⟨env, tm, τ, F, L, by simpa using R, ?_⟩
  unfold dlc dbind at h
  cases e : di env with
  | no => rw [e] at h; exact h
  | ex c env' => rw [e] at h; exact h
  | ok ps env0 =>
    rw [e] at h
    intro F0 H0 L0 J k0 R0 it D hD
    dsimp only at h
    unfold lcE at h
    by_cases hpl : plainE env0 vs = true ∧ ps.length ≤ 1000000
    · rw [if_pos hpl] at h
      cases e2 : lcP (setT t) vs tt te ps [] (wipeE env0 vs) with
      | no => rw [e2] at h; exact h.elim
      | ex c env' => rw [e2] at h; exact h.elim
      | ok accf envf =>
        rw [e2] at h
        have R1 : Rel X.prog X.w X.K (wipeE env0 vs) (tm ++ [.val (.lst true [])]) (wipe σ vs) (τ ++ [.ref D]) F0 (upd H0 D (.lst [])) (upL L0 D [2 * tm.length + 1]) := (R0.wipe (vs := vs)).newL hD (by rw [RepFs])
        have htl : tm.length = τ.length := R0.tlen
        have hz : (16777216 : Nat) = sizeLine := sl24
        refine ⟨fun i m H' => m = ps.length - i ∧ i ≤ ps.length ∧ ∃ env' F' L' acc, Same F0 F' ∧ Rel X.prog X.w X.K env' (tm ++ [.val (.lst true acc)]) (wipe σ vs) (τ ++ [.ref D]) F' H' L' ∧ acc.length ≤ i ∧ lcP (setT t) vs tt te (ps.drop i) acc env' = .ok accf envf,
          ⟨ps.length, rfl, Nat.zero_le _, _, F0, _, [], Same.refl _, R1, Nat.le_refl _, e2⟩, ?_⟩
        rintro i m H2 ⟨rfl, hil, env2, F2, L2, acc, k2, R2, hacc, q⟩
        by_cases hlt : i < ps.length
        · refine .inr ?_
          obtain ⟨g1, g2⟩ := it.go i ps[i] F2 H2 k2 R2.fle (by simp [hlt])
          refine ⟨g1, fun H' => i + 1 ≤ ps.length ∧ ∃ env' F' L' acc, Same F0 F' ∧ Rel X.prog X.w X.K env' (tm ++ [.val (.lst true acc)]) (wipe σ vs) (τ ++ [.ref D]) F' H' L' ∧ acc.length ≤ i + 1 ∧ lcP (setT t) vs tt te (ps.drop (i + 1)) acc env' = .ok accf envf, fun H' hh => ⟨ps.length - (i + 1), by omega, rfl, hh⟩, fun x H3 y => ?_⟩
          obtain ⟨F3, k3, rp, tr⟩ := g2 x H3 y
          obtain ⟨L3, R3⟩ := tr _ _ _ _ _ R2
          rw [List.drop_eq_getElem_cons hlt, lcP] at q
          cases e3 : setT t ps[i] env2 with
          | none => rw [e3] at q; cases q
          | some env3 =>
            rw [e3] at q
            refine ⟨env2, _, _, F3, L3, ps[i], env3, R3, fun _ _ => rfl, rp, e3, fun σ4 F4 H4 L4 k4 R4 fx4 => ?_⟩
            have hl4 : σ4.length = X.N.length := by
              rw [← R4.len, setT_len _ hnm _ _ _ e3, R3.len, wipe_length]
              exact hlen
            have hw : wipe σ4 vs = wipe σ vs := wipe_same hlen hl4 hfi fx4
            refine ⟨hw, ?_⟩
            refine ⟨env3, _, _, F4, L4, rfl, by rw [List.append_nil, List.append_nil]; exact R4, ?_⟩
            dsimp only at q
            cases e4 : tt env3 with
            | no => rw [e4] at q; cases q
            | ex c env' => rw [e4] at q; cases q
            | ok bb env4 =>
              rw [e4] at q
              intro vv F5 H5 L5 h1 k5 R5
              have hv : vv = [] := List.length_eq_zero_iff.mp h1.symm
              subst hv
              have R6 : Rel X.prog X.w X.K env4 (tm ++ [.val (.lst true acc)]) σ4 (τ ++ [.ref D]) F5 H5 L5 := by rw [List.append_nil, List.append_nil] at R5; exact R5
              cases bb with
              | false =>
                dsimp only at q ⊢
                rw [if_neg Bool.false_ne_true]
                exact ⟨hlt, _, F5, L5, acc, ((k2.trans k3).trans k4).trans k5, by have := R6.wipe (vs := vs); rw [hw] at this; exact this, by omega, q⟩
              | true =>
                dsimp only at q ⊢
                rw [if_pos rfl]
                refine ⟨env4, _, _, F5, L5, rfl, by rw [List.append_nil, List.append_nil]; exact R6, ?_⟩
                cases e5 : te env4 with
                | no => rw [e5] at q; cases q
                | ex c env' => rw [e5] at q; cases q
                | ok en env5 =>
                  rw [e5] at q
                  intro vv F7 H7 L7 h7 k7 R7 v hv
                  subst hv
                  dsimp only at q
                  cases e6 : unalV env5 en with
                  | none => rw [e6] at q; cases q
                  | some r =>
                    obtain ⟨pv, env6⟩ := r
                    rw [e6] at q
                    obtain ⟨F8, L8, k8, R8⟩ := R7.unal e6
                    have R8' : Rel X.prog X.w X.K env6 (tm ++ [.val (.lst true acc), .val pv]) σ4 (τ ++ [.ref D, v]) F8 H7 L8 := by simpa using R8
                    obtain ⟨D', av, eD, hD', hal, L9, R9⟩ := R8'.app htl
                    cases eD
                    refine ⟨av, hD', by rw [← hal, ← hz]; omega, hlt, _, F8, L9, acc ++ [pv], ((((k2.trans k3).trans k4).trans k5).trans k7).trans k8, by have := R9.wipe (vs := vs); rw [hw] at this; exact this, by simp; omega, q⟩
        · have e3 : ps.drop i = [] := List.drop_eq_nil_of_le (by omega)
          rw [e3] at q
          cases q
          refine .inl ⟨it.stop i F2 H2 k2 R2.fle (by omega), ?_⟩
          exact h [.ref D] F2 H2 L2 rfl (k0.trans k2) (by have := R2.back R0 k2 hpl.1; simpa using this) _ rfl
    · rw [if_neg hpl] at h; exact h.elim
theorem ev_lc (G : Good X) (hi : IV X W tg iter di) (ok : BlkOk X.N X.env.scope scope own) (hfi : ∀ i, i < X.N.length → i ∉ own.map (·.2) → i ∈ fi)
    (hg : ∀ (s : Shared) (H : Hp) (C : Addr) (cl : List (Str × Addr)) (fp : List Addr) (σ0 : L2.St), GV (X.blk s H scope (compEnvC scope cl C X.env) fp) fi σ0 tg t)
    (ht : ∀ (s : Shared) (H : Hp) (C : Addr) (cl : List (Str × Addr)) (fp : List Addr), PtsV (X.blk s H scope (compEnvC scope cl C X.env) fp) ifs tt)
    (he : ∀ (s : Shared) (H : Hp) (C : Addr) (cl : List (Str × Addr)) (fp : List Addr), EV (X.blk s H scope (compEnvC scope cl C X.env) fp) noW elt te) (hs : ∀ x, foldedSetIterable iter X.env x = pure x := by intro _; rfl) (hnm : t.names = true := by rfl) :
    EV X W (.ListComp elt [⟨tg, iter, ifs, 0⟩] scope pos) (dlc di t (own.map (·.2)) tt te) := by
  refine ⟨fun pins s σ H Q I h => (pe_lc (g := gT X.prog X.w X.K fi (wipe σ (own.map (·.2))) t) (tt := tT X.prog X.w X.K noW tt) (te := tE X.prog X.w X.K noW te) G.calm G.nd hi ok (fun s H C cl fp => hg s H C cl fp _) ht he hs).run pins s σ H Q I (lc_imp I.len hfi hnm h)⟩
end
theorem Good.blk {X : Cx} (G : Good X) {s : Shared} {H : Hp} {scope : Scope} {cenv : Env} {fp : List Addr} : Good (X.blk s H scope cenv fp) := ⟨G.calm, G.un, G.gd, G.nd⟩
end Pv
namespace Pv
open PySem PySem.Spec PyProof.Rows L2

/-! ### a def's promise, where nothing is being shown -/
structure FnG (P : Program) (w : World) (K : PySem.W.Frag) (mg : Str → Option Value) (base : Heap) (CX : CXT) (k : Nat) (f : Addr) (fd : FuncData) (ps : List Str) (sp : Sp) : Prop where
  len : ∀ vs H Q E, sp vs H Q E → vs.length = ps.length
  run : ∀ (A : Around) (outer : List Env) (s : Shared) (H : Hp) (args : Args) (us : List Value) (vs : List V) (Q : VK) (E : XK), Room k A → A.guards = some [] → Env0 P w K mg base A outer s H →
    BindsTo s fd args (ps.zip us) → Vals vs us → sp vs H Q E → codeAny (model P w) A (.call (.ref f) args) (CR CX outer P w H s Q E) s
/-- a thing held fast: what it is is not told -/
def lkO (a : Addr) (o : Obj) : HO := .frz o (.ext fun h => h.get? a = some o)
def Msk (F F' : Hp) : Prop := ∀ a o, F a = some o → (∃ ob, o = lkO a ob) ∨ F' a = some o
section
variable {P : Program} {w : World} {K : PySem.W.Frag} {F F' H H' : Hp} {L L' : Lab}
theorem Msk.rd {a : Addr} {u : HO} (k : Msk F F') (hu : ∀ o, u ≠ lkO a o) (hx : ∀ φ, u ≠ .ext φ) (h : Rd F a u) : Rd F' a u := by
  rcases h with h | ⟨o, h⟩
  · rcases k a _ h with ⟨ob, e⟩ | e
    · exact absurd e (hu ob)
    · exact .inl e
  · rcases k a _ h with ⟨ob, e⟩ | e
    · unfold lkO at e
      cases e
      exact absurd rfl (hx _)
    · exact .inr ⟨o, e⟩
theorem Msk.sqL {a : Addr} {xs : List V} (k : Msk F F') (h : SqL K F a xs) : SqL K F' a xs := by
  rcases h with h | h
  · exact .inl (k.rd (fun o e => by unfold lkO at e; cases e) (fun φ e => by cases e) h)
  · exact .inr h
theorem Msk.sqT {a : Addr} {xs : List V} (k : Msk F F') (h : SqT K F a xs) : SqT K F' a xs := by
  rcases h with h | h
  · exact .inl (k.rd (fun o e => by unfold lkO at e; cases e) (fun φ e => by cases e) h)
  · exact .inr h
theorem Msk.some {a : Addr} {u : HO} (k : Msk F F') (hu : ∀ o, u ≠ lkO a o) (h : F a = Option.some u) : F' a = Option.some u := by
  rcases k a _ h with ⟨ob, e⟩ | e
  · exact absurd e (hu ob)
  · exact e
mutual
theorem RepF.mask (k : Msk F F') : ∀ (x : PV) (v : V), RepF P w K F x v → RepF P w K F' x v
  | .tup xs, v, h => by
    rw [RepF] at h ⊢
    obtain ⟨a, vs, e, s, r⟩ := h
    exact ⟨a, vs, e, k.sqT s, RepFs.mask k xs vs r⟩
  | .frl xs, v, h => by
    rw [RepF] at h ⊢
    obtain ⟨a, vs, e, s, r⟩ := h
    exact ⟨a, vs, e, k.sqL s, RepFs.mask k xs vs r⟩
  | .lst o xs, v, h => by
    rw [RepF] at h ⊢
    obtain ⟨eo, a, vs, e, s, r⟩ := h
    exact ⟨eo, a, vs, e, k.some (fun o e => by unfold lkO at e; cases e) s, RepFs.mask k xs vs r⟩
  | .dct o ks xs, v, h => by
    rw [RepF] at h ⊢
    obtain ⟨eo, a, kes, ves, e, s, r, r2⟩ := h
    refine ⟨eo, a, kes, ves, e, ?_, RepFs.mask k ks kes r, RepFs.mask k xs ves r2⟩
    obtain ⟨hs, ob, e, r⟩ := s
    exact ⟨hs, ob, e.imp (k.some fun o e => by unfold lkO DXO at e; cases e) id, r⟩
  | .non, v, h => h
  | .bl _, v, h => h
  | .int _, v, h => h
  | .str _, v, h => h
  | .ref _, v, h => h
  | .ty _, v, h => h
theorem RepFs.mask (k : Msk F F') : ∀ (xs : List PV) (vs : List V), RepFs P w K F xs vs → RepFs P w K F' xs vs
  | [], vs, h => h
  | x :: xs, vs, h => by
    rw [RepFs] at h ⊢
    obtain ⟨v, r, e, h1, h2⟩ := h
    exact ⟨v, r, e, RepF.mask k x v h1, RepFs.mask k xs r h2⟩
end
/-- what may be written -/
def okH : Option HO → Bool
  | some (.lst _) => true
  | some (.dK _) => true
  | some (.ext _) => true
  | _ => false
theorem DctR.okH {a : Addr} {ks : List PV} {kes ves : List V} (h : DctR P w H a ks kes ves) : Pv.okH (H a) = true := by
  obtain ⟨_, o, e, _⟩ := h
  rw [e]
  rfl
mutual
theorem RepO.trM (k : Msk F F') : ∀ (x : PV) (p p' : Path) (v : V), (∀ a s, L a = some (p ++ s) → okH (H a) = true → L' a = some (p' ++ s) ∧ H' a = H a) → RepO P w K F H L p x v → RepO P w K F' H' L' p' x v
  | .lst true xs, p, p', v, m, h => by
    rw [RepO] at h ⊢
    obtain ⟨a, vs, e, l, e2, r⟩ := h
    have z := m a [] (by simpa using l) (by rw [e2]; rfl)
    exact ⟨a, vs, e, by simpa using z.1, by rw [z.2]; exact e2, RepOs.trM k xs p p' 0 vs m r⟩
  | .dct true ks xs, p, p', v, m, h => by
    rw [RepO] at h ⊢
    obtain ⟨a, kes, ves, e, l, e2, r, r2⟩ := h
    have z := m a [] (by simpa using l) e2.okH
    exact ⟨a, kes, ves, e, by simpa using z.1, DctR.mono P w e2 fun o e => by rw [z.2]; exact e, RepFs.mask k _ _ r, RepOs.trM k xs p p' 0 ves m r2⟩
  | .lst false xs, p, p', v, m, h => by
    rw [RepO] at h ⊢
    exact RepF.mask k _ _ h
  | .dct false ks xs, p, p', v, m, h => by
    rw [RepO] at h ⊢
    exact RepF.mask k _ _ h
  | .tup xs, p, p', v, m, h => by
    rw [RepO] at h ⊢
    exact RepF.mask k _ _ h
  | .frl xs, p, p', v, m, h => by
    rw [RepO] at h ⊢
    exact RepF.mask k _ _ h
  | .non, p, p', v, m, h => h
  | .bl _, p, p', v, m, h => h
  | .int _, p, p', v, m, h => h
  | .str _, p, p', v, m, h => h
  | .ref _, p, p', v, m, h => h
  | .ty _, p, p', v, m, h => h
theorem RepOs.trM (k : Msk F F') : ∀ (xs : List PV) (p p' : Path) (i : Nat) (vs : List V), (∀ a s, L a = some (p ++ s) → okH (H a) = true → L' a = some (p' ++ s) ∧ H' a = H a) → RepOs P w K F H L p i xs vs → RepOs P w K F' H' L' p' i xs vs
  | [], p, p', i, vs, m, h => h
  | x :: xs, p, p', i, vs, m, h => by
    rw [RepOs] at h ⊢
    obtain ⟨v, r, e, h1, h2⟩ := h
    refine ⟨v, r, e, RepO.trM k x (p ++ [i]) (p' ++ [i]) v (fun a s l => ?_) h1, RepOs.trM k xs p p' (i + 1) r m h2⟩
    rw [List.append_assoc] at l ⊢
    exact m a ([i] ++ s) l
end
end

/-! ### things held fast through a call -/
def lockZ (Z : Addr → Bool) (h : Heap) (H : Hp) : Hp := fun a => if Z a = true then (match h.get? a with | some o => some (lkO a o) | none => H a) else H a
def unlZ (Z : Addr → Bool) (H H' : Hp) : Hp := fun a => if Z a = true then H a else H' a
section
variable {X : Cx} {k : Nat} {f : Addr} {fd : FuncData} {ps : List Str} {sp : Sp} {ds : List Value} {E : XK} {x : Str} {p pos : Pos} {e : Expr} {es : List Expr} {t : TA} {Z : Addr → Bool}
theorem okH_not {H : Hp} {a : Addr} {o : HO} (h : okH (H a) = true) (e : H a = some o) : (∀ c, o ≠ .own c) ∧ (∀ xs, o ≠ .tup xs) ∧ (∀ ob u, o ≠ .frz ob u) ∧ ∀ ps, o ≠ .tbl ps := by
  rw [e] at h
  cases o <;> simp [okH] at h ⊢
theorem run_fnZ {pins : List (Addr × Obj)} {σ : L2.St} {H : Hp} {s : Shared} {Q : VK} {us : List Value} {vs : List V} (F : FnG X.prog X.w X.K X.mg X.base C8.CX0 k f fd ps sp) (hr : Room k X.A) (hgd : X.A.guards = some []) (hb : Binds X.K fd ps [])
    (I : Inv X pins σ H s) (r : Vals vs us) (hZ : ∀ a, Z a = true → okH (H a) = true)
    (h : sp vs (lockZ Z s.heap H) (fun v H' => (∀ a, Z a = true → H' a = lockZ Z s.heap H a) → Q v (unlZ Z H H')) E) : wpAny (model X.prog X.w) X.A (call (.ref f) us) (EP X pins σ Q) X.xe s := by
  have hl : (us ++ []).length = ps.length := by rw [List.append_nil, ← r.length]; exact F.len _ _ _ _ h
  have e0 := I.env0
  have at_ : ∀ a, Z a = true → ∃ o u, s.heap.get? a = some o ∧ H a = some u ∧ lockZ Z s.heap H a = some (lkO a o) := fun a ha => by
    have h1 := hZ a ha
    cases e : H a with
    | none => rw [e] at h1; cases h1
    | some u =>
      have hg : ∃ o, s.heap.get? a = some o := by
        have x0 := I.hok a u e
        rw [e] at h1
        cases u with
        | lst xs => obtain ⟨_, _, _, _, q⟩ := x0; exact ⟨_, q⟩
        | dK kvs => obtain ⟨_, _, _, _, o, _, _, q, _⟩ := x0; exact ⟨o, q⟩
        | ext φ => obtain ⟨_, q, _⟩ := x0; exact q
        | _ => simp [okH] at h1
      obtain ⟨o, hg⟩ := hg
      refine ⟨o, u, hg, rfl, ?_⟩
      unfold lockZ
      rw [if_pos ha, hg]
  have off : ∀ a, Z a = false → lockZ Z s.heap H a = H a := fun a ha => by
    unfold lockZ
    rw [if_neg (by rw [ha]; exact Bool.false_ne_true)]
  have nn : ∀ a, lockZ Z s.heap H a = none ↔ H a = none := fun a => by
    cases ha : Z a with
    | false => rw [off a ha]
    | true =>
      obtain ⟨o, u, h1, h2, h3⟩ := at_ a ha
      rw [h3, h2]
      simp
  have hokL : HOk X.prog X.w (lockZ Z s.heap H) s.heap := fun a o ea => by
    cases ha : Z a with
    | true =>
      obtain ⟨ob, u, h1, h2, h3⟩ := at_ a ha
      rw [h3] at ea
      cases ea
      exact ⟨h1, h1, ⟨ob, h1⟩, fun h1' h2' q1 q2 => q2 _ q1⟩
    | false =>
      rw [off a ha] at ea
      refine (I.hok a o ea).stay (fun b v _ q => q) (fun b q => ?_) fun b xs q => ?_
      · rw [off b (by cases hb : Z b with | false => rfl | true => exact absurd rfl ((okH_not (hZ b hb) q).1 a))]; exact q
      · rw [off b (by cases hb : Z b with | false => rfl | true => exact absurd rfl ((okH_not (hZ b hb) q).2.1 xs))]; exact q
  have eL : Env0 X.prog X.w X.K X.mg X.base X.A X.stack s (lockZ Z s.heap H) :=
    ⟨e0.frames, e0.mod, fun b o q => ⟨(e0.bs b o q).1, (nn b).mpr (e0.bs b o q).2⟩, e0.bsz, e0.funs, fun b hb => (nn b).mpr (e0.frf b hb), hokL, e0.bare⟩
  refine wpAny_call (codeAny_mono (F.run X.A X.stack s _ ⟨us, []⟩ us vs _ E hr hgd eL (by have := hb s us I.kIn hl; rwa [List.append_nil] at this) r h) fun rr s' hq => ?_)
  cases rr with
  | error e => exact hq.elim
  | ok fl =>
    cases fl with
    | next => exact hq.elim
    | brk => exact hq.elim
    | cont => exact hq.elim
    | ret u =>
      obtain ⟨v, H', os, bare, un, hok, rv, q⟩ := hq
      have keepZ : ∀ a, Z a = true → H' a = lockZ Z s.heap H a := fun a ha => by
        obtain ⟨o, u, h1, h2, h3⟩ := at_ a ha
        rw [h3]
        exact un.frzs _ _ _ h3
      have uoff : ∀ a, Z a = false → unlZ Z H H' a = H' a := fun a ha => by
        unfold unlZ
        rw [if_neg (by rw [ha]; exact Bool.false_ne_true)]
      have uon : ∀ a, Z a = true → unlZ Z H H' a = H a := fun a ha => by
        unfold unlZ
        rw [if_pos ha]
      have un2 : Un (frs X.stack) [] H (unlZ Z H H') s.heap s'.heap := by
        refine ⟨fun b o q n => un.keep b o q ((nn b).mpr n), fun b o q n => un.slot b o q ((nn b).mpr n), fun b o q n hx => ?_, un.there, fun b xs q => ?_, fun b o w q => ?_, fun b pz q => ?_⟩
        · have : Z b = false := by
            cases hb : Z b with
            | false => rfl
            | true => have := hZ b hb; rw [n] at this; cases this
          rw [uoff b this]
          exact un.free b o q ((nn b).mpr n) hx
        · cases hb : Z b with
          | true => rw [uon b hb]; exact q
          | false => rw [uoff b hb]; exact un.tups b xs (by rw [off b hb]; exact q)
        · cases hb : Z b with
          | true => rw [uon b hb]; exact q
          | false => rw [uoff b hb]; exact un.frzs b o w (by rw [off b hb]; exact q)
        · cases hb : Z b with
          | true => exact ⟨#[], by rw [uon b hb, q]; simp⟩
          | false =>
            obtain ⟨m, e⟩ := un.tbls b pz (by rw [off b hb]; exact q)
            exact ⟨m, by rw [uoff b hb]; exact e⟩
      have hok2 : HOk X.prog X.w (unlZ Z H H') s'.heap := fun a o ea => by
        have own : ∀ b c, H' b = some (.own c) → unlZ Z H H' b = some (.own c) := fun b c q => by
          cases hb : Z b with
          | false => rw [uoff b hb]; exact q
          | true =>
            obtain ⟨o, u, h1, h2, h3⟩ := at_ b hb
            rw [keepZ b hb, h3] at q
            cases q
        have tup : ∀ b xs, H' b = some (.tup xs) → unlZ Z H H' b = some (.tup xs) := fun b c q => by
          cases hb : Z b with
          | false => rw [uoff b hb]; exact q
          | true =>
            obtain ⟨o, u, h1, h2, h3⟩ := at_ b hb
            rw [keepZ b hb, h3] at q
            cases q
        cases ha : Z a with
        | false =>
          rw [uoff a ha] at ea
          exact (hok a o ea).stay (fun b v _ q => q) (fun b q => own b a q) fun b xs q => tup b xs q
        | true =>
          rw [uon a ha] at ea
          obtain ⟨ob, u, h1, h2, h3⟩ := at_ a ha
          have h4 := keepZ a ha
          rw [h3] at h4
          obtain ⟨h5, _⟩ := hok a _ h4
          have x0 := I.hok a o ea
          have hz := hZ a ha
          rw [ea] at hz
          have kp : ∀ v, s.heap.get? a = some v → s'.heap.get? a = some v := fun v q => by rw [h1] at q; cases q; exact h5
          cases o with
          | lst xs =>
            obtain ⟨z, its, n, r, e⟩ := x0
            exact ⟨z, its, n, r, kp _ e⟩
          | dK kvs =>
            obtain ⟨z, y, vs, r, oo, es, ep, e, c⟩ := x0
            exact ⟨z, y, vs, r, oo, es, ep, kp _ e, c⟩
          | ext φ =>
            obtain ⟨z, ⟨oo, e⟩, st⟩ := x0
            exact ⟨st _ _ z fun o q => kp _ q, ⟨oo, kp _ e⟩, st⟩
          | _ => simp [okH] at hz
      exact I.after ⟨v, unlZ Z H H', os, bare, un2, hok2, rv, q keepZ⟩
end
end Pv
namespace Pv
open PySem PySem.Spec PyProof.Rows L2

/-! ### what a def does to trees: its result, and what its parameters hold then -/
abbrev FnD := List PV → Option (PV × List PV)
def spI (P : Program) (w : World) (K : PySem.W.Frag) (n : Nat) (d : FnD) : Sp := fun vs H Q _ => vs.length = n ∧ ∃ args F L, Rel P w K (args.map .val) [] (vs.map some) [] F H L ∧ ∃ r as, d args = some (r, as) ∧
  ∀ v F' H' L', Same F F' → Rel P w K (as.map .val) [.val r] (vs.map some) [v] F' H' L' → Q v H'
/-- a def that may be called by its name -/
structure CalG (P : Program) (w : World) (K : PySem.W.Frag) (mg : Str → Option Value) (base : Heap) (k : Nat) (x : Str) (n : Nat) (d : FnD) : Prop where
  ex : ∃ (f : Addr) (fd : FuncData) (ps : List Str), FnG P w K mg base C8.CX0 k f fd ps (spI P w K n d) ∧ mg x = some (.ref f) ∧ PySem.W.keepIn K (.ref f) = true ∧ Binds K fd ps [] ∧ ∀ args r, d args = some r → args.length = n
def tCallZ (sp : Sp) (t : TA) : TE := fun σ H Q => t σ H fun vs H1 => ∃ Z : Addr → Bool, (∀ a, Z a = true → okH (H1 a) = true) ∧ ∀ Hl : Hp, (∀ a, Z a = true → ∃ o, Hl a = some (lkO a o)) → (∀ a, Z a = false → Hl a = H1 a) →
  sp vs Hl (fun v H' => (∀ a, Z a = true → H' a = Hl a) → Q v (unlZ Z H1 H')) C8.E0
section
variable {X : Cx} {k : Nat} {f : Addr} {fd : FuncData} {ps : List Str} {sp : Sp} {x : Str} {p pos : Pos} {e : Expr} {es : List Expr} {t : TA}
theorem pe_callZ (F : FnG X.prog X.w X.K X.mg X.base C8.CX0 k f fd ps sp) (hr : Room k X.A) (hgd : X.A.guards = some []) (hg : Gl X x) (hm : X.mg x = some (.ref f)) (hk : PySem.W.keepIn X.K (.ref f) = true) (hb : Binds X.K fd ps [])
    (ha : PA X (e :: es) t) (hdb : (x == ("__debug__" : Str)) = false := by decide) (he : starEach (e :: es) X.env = (false, eval e X.env) :: starEach es X.env := by rfl) (hpl : (backTo pos (starEach es X.env)).any (·.1) = false := by rfl) :
    PE X (.Call (.Name x p) (e :: es) [] pos) (tCallZ sp t) := by
  refine ⟨fun pins s σ H Q I h => wpAny_Call_Name_kw (ld_glob I hg hm ?_ hdb)⟩
  refine PySem.W.callWith_K (h₀ := X.base) I.ok.mod.kin hk (thn (ha.run pos pins s σ H _ I h) fun us s1 ⟨vs, H1, I1, r, Z, hZ, q⟩ => ⟨I1.kIn, ?_⟩) he hpl
  refine run_fnZ F hr hgd hb I1 r hZ (q (lockZ Z s1.heap H1) (fun a ha => ?_) fun a ha => ?_)
  · have h1 := hZ a ha
    unfold lockZ
    rw [if_pos ha]
    cases e0 : H1 a with
    | none => rw [e0] at h1; cases h1
    | some u =>
      have x0 := I1.hok a u e0
      rw [e0] at h1
      have hg : ∃ o, s1.heap.get? a = some o := by
        cases u with
        | lst xs => obtain ⟨_, _, _, _, q⟩ := x0; exact ⟨_, q⟩
        | dK kvs => obtain ⟨_, _, _, _, o, _, _, q, _⟩ := x0; exact ⟨o, q⟩
        | ext φ => obtain ⟨_, q, _⟩ := x0; exact q
        | _ => simp [okH] at h1
      obtain ⟨o, hg⟩ := hg
      rw [hg]
      exact ⟨o, rfl⟩
  · unfold lockZ
    rw [if_neg (by rw [ha]; exact Bool.false_ne_true)]
end

/-! ### arguments as a def takes them -/
/-- another name stays for a whole slot; a part's is frozen -/
def argE (env : PEnv) : Sl → Option (Sl × PEnv)
  | .val pv => some (.val pv, env)
  | .al j [] => some (.al j [], env)
  | .al j (k :: p) => match frzE env (.al j (k :: p)) with
    | some (q, env1) => some (.val q, env1)
    | none => none
  | .un => none
def argEs : PEnv → PEnv → Option (PEnv × PEnv)
  | env, [] => some ([], env)
  | env, e :: es => match argE env e with
    | some (e', env1) => match argEs env1 es with
      | some (es', env2) => some (e' :: es', env2)
      | none => none
    | none => none
/-- each slot once, whole -/
def dBor : PEnv → Bool
  | [] => true
  | .al j (_ :: _) :: es => false
  | .al j [] :: es => es.all (fun e => match e with
      | .al i _ => i != j
      | _ => true) && dBor es
  | _ :: es => dBor es
def bpos : PEnv → List PV → Nat → Option PV
  | .al j _ :: es, a :: as, i => if j = i then some a else bpos es as i
  | _ :: es, _ :: as, i => bpos es as i
  | _, _, _ => none
def wbS (es : PEnv) (as : List PV) (i : Nat) (e : Sl) : Sl := match bpos es as i with
  | some a => .val a
  | none => match e with
    | .al j p => match bpos es as j with
      | some _ => .un
      | none => .al j p
    | e => e
def wbG (es : PEnv) (as : List PV) : Nat → PEnv → PEnv
  | _, [] => []
  | i, e :: env => wbS es as i e :: wbG es as (i + 1) env
def flatP : PV → Bool
  | .lst _ xs => PV.fzs xs
  | .dct _ _ xs => PV.fzs xs
  | _ => true
def okW : PEnv → List PV → Bool
  | [], [] => true
  | .al _ _ :: es, a :: as => flatP a && okW es as
  | _ :: es, _ :: as => okW es as
  | _, _ => false
def dcallE (f : FnD) (es : PEnv) : D Sl := fun env => match argEs env es with
  | some (es1, env1) => if dBor es1 = true then match conts env1 es1 with
    | some args => match f args with
      | some (r, as) => if okW es1 as = true then .ok (.val r) (wbG es1 as 0 env1) else .no
      | none => .no
    | none => .no
    else .no
  | none => .no
def dcallF (f : FnD) (d : D PEnv) : D Sl := dbind d (dcallE f)

theorem wbG_get {es : PEnv} {as : List PV} : ∀ {env : PEnv} {n i : Nat}, (wbG es as n env)[i]? = (env[i]?).map (wbS es as (n + i))
  | [], n, i => by simp [wbG]
  | e :: env, n, 0 => by simp [wbG]
  | e :: env, n, i + 1 => by
    rw [wbG, List.getElem?_cons_succ, List.getElem?_cons_succ, wbG_get]
    have : n + 1 + i = n + (i + 1) := by omega
    rw [this]
theorem wbG_len {es : PEnv} {as : List PV} : ∀ {env : PEnv} {n : Nat}, (wbG es as n env).length = env.length
  | [], n => rfl
  | e :: env, n => by rw [wbG, List.length_cons, List.length_cons, wbG_len]
theorem bpos_some : ∀ {es : PEnv} {as : List PV} {i : Nat} {a : PV}, dBor es = true → bpos es as i = some a → ∃ k : Nat, es[k]? = some (Sl.al i []) ∧ as[k]? = some a
  | [], as, i, a, hd, h => by cases as <;> simp [bpos] at h
  | e :: es, [], i, a, hd, h => by cases e <;> simp [bpos] at h
  | .val pv :: es, b :: as, i, a, hd, h => by
    rw [bpos] at h
    · obtain ⟨k, h1, h2⟩ := bpos_some (by rw [dBor] at hd; exact hd; all_goals (intros; simp_all)) h
      exact ⟨k + 1, h1, h2⟩
    · intros; simp_all
  | .un :: es, b :: as, i, a, hd, h => by
    rw [bpos] at h
    · obtain ⟨k, h1, h2⟩ := bpos_some (by rw [dBor] at hd; exact hd; all_goals (intros; simp_all)) h
      exact ⟨k + 1, h1, h2⟩
    · intros; simp_all
  | .al j p :: es, b :: as, i, a, hd, h => by
    cases p with
    | cons _ _ => simp [dBor] at hd
    | nil =>
      rw [bpos] at h
      rw [dBor, Bool.and_eq_true] at hd
      by_cases hj : j = i
      · rw [if_pos hj] at h
        cases h
        exact ⟨0, by rw [hj]; rfl, rfl⟩
      · rw [if_neg hj] at h
        obtain ⟨k, h1, h2⟩ := bpos_some hd.2 h
        exact ⟨k + 1, h1, h2⟩
theorem dBor_nil : ∀ {es : PEnv} {k j : Nat} {p : Path}, dBor es = true → es[k]? = some (.al j p) → p = []
  | [], k, j, p, hd, h => by simp at h
  | e :: es, 0, j, p, hd, h => by
    cases Option.some.inj h
    cases p with
    | nil => rfl
    | cons _ _ => simp [dBor] at hd
  | e :: es, k + 1, j, p, hd, h => by
    refine dBor_nil (es := es) (k := k) ?_ (by simpa using h)
    cases e with
    | val _ => simpa [dBor] using hd
    | un => simpa [dBor] using hd
    | al i q =>
      cases q with
      | nil => rw [dBor, Bool.and_eq_true] at hd; exact hd.2
      | cons _ _ => simp [dBor] at hd
theorem dBor_inj : ∀ {es : PEnv} {k k' j : Nat} {p p' : Path}, dBor es = true → es[k]? = some (.al j p) → es[k']? = some (.al j p') → k = k'
  | [], k, k', j, p, p', hd, h, h' => by simp at h
  | e :: es, 0, 0, j, p, p', hd, h, h' => rfl
  | e :: es, k + 1, k' + 1, j, p, p', hd, h, h' => by
    refine congrArg (· + 1) (dBor_inj (es := es) ?_ (by simpa using h) (by simpa using h'))
    cases e with
    | val _ => simpa [dBor] using hd
    | un => simpa [dBor] using hd
    | al i q =>
      cases q with
      | nil => rw [dBor, Bool.and_eq_true] at hd; exact hd.2
      | cons _ _ => simp [dBor] at hd
  | e :: es, 0, k' + 1, j, p, p', hd, h, h' => by
    cases Option.some.inj h
    cases p with
    | cons _ _ => simp [dBor] at hd
    | nil =>
      rw [dBor, Bool.and_eq_true, List.all_eq_true] at hd
      have := hd.1 _ (List.mem_of_getElem? (show es[k']? = some (.al j p') by simpa using h'))
      simp at this
  | e :: es, k + 1, 0, j, p, p', hd, h, h' => by
    cases Option.some.inj h'
    cases p' with
    | cons _ _ => simp [dBor] at hd
    | nil =>
      rw [dBor, Bool.and_eq_true, List.all_eq_true] at hd
      have := hd.1 _ (List.mem_of_getElem? (show es[k]? = some (.al j p) by simpa using h))
      simp at this
theorem okW_len : ∀ {es : PEnv} {as : List PV}, okW es as = true → es.length = as.length
  | [], [], h => rfl
  | [], _ :: _, h => by simp [okW] at h
  | e :: es, [], h => by cases e <;> simp [okW] at h
  | .al _ _ :: es, a :: as, h => by rw [okW, Bool.and_eq_true] at h; simp [okW_len h.2]
  | .val _ :: es, a :: as, h => by rw [okW] at h; simp [okW_len h]; all_goals (intros; simp_all)
  | .un :: es, a :: as, h => by rw [okW] at h; simp [okW_len h]; all_goals (intros; simp_all)
theorem okW_flat : ∀ {es : PEnv} {as : List PV} {k j : Nat} {p : Path} {a : PV}, okW es as = true → es[k]? = some (.al j p) → as[k]? = some a → flatP a = true
  | [], as, k, j, p, a, h, h1, h2 => by simp at h1
  | e :: es, [], k, j, p, a, h, h1, h2 => by simp at h2
  | .al _ _ :: es, b :: as, 0, j, p, a, h, h1, h2 => by
    rw [okW, Bool.and_eq_true] at h
    cases Option.some.inj h2
    exact h.1
  | .al _ _ :: es, b :: as, k + 1, j, p, a, h, h1, h2 => by
    rw [okW, Bool.and_eq_true] at h
    exact okW_flat h.2 (by simpa using h1) (by simpa using h2)
  | .val _ :: es, b :: as, 0, j, p, a, h, h1, h2 => by cases Option.some.inj h1
  | .un :: es, b :: as, 0, j, p, a, h, h1, h2 => by cases Option.some.inj h1
  | .val _ :: es, b :: as, k + 1, j, p, a, h, h1, h2 => by
    rw [okW] at h
    · exact okW_flat h (by simpa using h1) (by simpa using h2)
    · intros; simp_all
  | .un :: es, b :: as, k + 1, j, p, a, h, h1, h2 => by
    rw [okW] at h
    · exact okW_flat h (by simpa using h1) (by simpa using h2)
    · intros; simp_all
theorem bpos_of : ∀ {es : PEnv} {as : List PV} {k j : Nat} {p : Path}, es.length = as.length → es[k]? = some (.al j p) → ∃ a, bpos es as j = some a
  | [], as, k, j, p, hl, h => by simp at h
  | e :: es, [], k, j, p, hl, h => by simp at hl
  | e :: es, b :: as, 0, j, p, hl, h => by
    cases Option.some.inj h
    exact ⟨b, by rw [bpos, if_pos rfl]⟩
  | e :: es, b :: as, k + 1, j, p, hl, h => by
    obtain ⟨a, ha⟩ := bpos_of (es := es) (as := as) (k := k) (j := j) (p := p) (by simpa using hl) (by simpa using h)
    cases e with
    | al i q =>
      rw [bpos]
      by_cases hj : i = j
      · rw [if_pos hj]; exact ⟨b, rfl⟩
      · rw [if_neg hj]; exact ⟨a, ha⟩
    | val _ => exact ⟨a, by rw [bpos]; exact ha; all_goals (intros; simp_all)⟩
    | un => exact ⟨a, by rw [bpos]; exact ha; all_goals (intros; simp_all)⟩
theorem flat_at {a x : PV} {k : Nat} {p : Path} (h : flatP a = true) (e : a.at (k :: p) = some x) : x.fz = true := by
  cases a with
  | lst o xs =>
    rw [at_lst] at e
    cases e1 : xs[k]? with
    | none => rw [e1] at e; cases e
    | some y => rw [e1] at e; exact at_fz p y x (PV.fzs_mem h (List.mem_of_getElem? e1)) e
  | dct o ks xs =>
    rw [at_dct] at e
    cases e1 : xs[k]? with
    | none => rw [e1] at e; cases e
    | some y => rw [e1] at e; exact at_fz p y x (PV.fzs_mem h (List.mem_of_getElem? e1)) e
  | _ => simp [PV.at] at e
end Pv
namespace Pv
open PySem PySem.Spec PyProof.Rows L2

/-- the root of an argument among the caller's -/
def rtE (n0 k : Nat) : Sl → Nat
  | .al j _ => 2 * j
  | _ => 2 * (n0 + k) + 1
open Classical in
noncomputable def lcR (es : PEnv) (n0 : Nat) (L : Lab) : Lab := fun a => match L a with
  | some (r :: s) => if h : ∃ (k : Nat) (e : Sl), es[k]? = some e ∧ rtE n0 k e = r then some (2 * h.choose :: s) else none
  | _ => none
/-- a root of the caller's in use -/
def rtOk (n0 : Nat) : Option Path → Bool
  | some (x :: _) => x % 2 == 0 || decide (x < 2 * n0)
  | some [] => true
  | none => false
noncomputable def zR (es : PEnv) (n0 : Nat) (L : Lab) (H : Hp) : Addr → Bool := fun a => rtOk n0 (L a) && (lcR es n0 L a).isNone && okH (H a)
open Classical in
noncomputable def lbR (es : PEnv) (n0 : Nat) (L L' : Lab) (Z : Addr → Bool) : Lab := fun a => if Z a = true then L a else match L' a with
  | some (x :: s) => if x = 1 then some ((2 * n0 + 1) :: s) else if h : ∃ j k p, x = 2 * k ∧ es[k]? = some (.al j p) then some (2 * h.choose :: s) else none
  | _ => none
def drF (Z : Addr → Bool) (F : Hp) : Hp := fun a => if Z a = true then none else F a
theorem rtE_inj {es : PEnv} {n0 k k' : Nat} {e e' : Sl} (hd : dBor es = true) (h : es[k]? = some e) (h' : es[k']? = some e') (hr : rtE n0 k e = rtE n0 k' e') : k = k' := by
  cases e with
  | al j p =>
    cases e' with
    | al j' p' =>
      have : j = j' := by simp only [rtE] at hr; omega
      subst this
      exact dBor_inj hd h h'
    | _ => simp only [rtE] at hr; omega
  | _ => cases e' <;> (simp only [rtE] at hr; omega)
theorem lcR_of {es : PEnv} {n0 k : Nat} {e : Sl} {L : Lab} {a : Addr} {s : Path} (hd : dBor es = true) (h : es[k]? = some e) (l : L a = some (rtE n0 k e :: s)) : lcR es n0 L a = some (2 * k :: s) := by
  have hx : ∃ (k' : Nat) (e' : Sl), es[k']? = some e' ∧ rtE n0 k' e' = rtE n0 k e := ⟨k, e, h, rfl⟩
  unfold lcR
  rw [l]
  dsimp only
  rw [dif_pos hx]
  obtain ⟨e', h1, h2⟩ := hx.choose_spec
  rw [rtE_inj hd h1 h h2]
theorem lcR_some {es : PEnv} {n0 : Nat} {L : Lab} {a : Addr} {q : Path} (h : lcR es n0 L a = some q) : ∃ q', L a = some q' := by
  unfold lcR at h
  cases e : L a with
  | none => rw [e] at h; cases h
  | some q => exact ⟨q, rfl⟩
theorem lcR_inv {es : PEnv} {n0 : Nat} {L : Lab} {a : Addr} {q : Path} (h : lcR es n0 L a = some q) : ∃ k e s, es[k]? = some e ∧ L a = some (rtE n0 k e :: s) ∧ q = 2 * k :: s := by
  unfold lcR at h
  cases e : L a with
  | none => rw [e] at h; cases h
  | some z =>
    rw [e] at h
    cases z with
    | nil => cases h
    | cons r s =>
      dsimp only at h
      by_cases hx : ∃ (k' : Nat) (e' : Sl), es[k']? = some e' ∧ rtE n0 k' e' = r
      · rw [dif_pos hx] at h
        cases h
        obtain ⟨e', h1, h2⟩ := hx.choose_spec
        exact ⟨_, e', s, h1, by rw [h2], rfl⟩
      · rw [dif_neg hx] at h; cases h
theorem lcR_inj {es : PEnv} {n0 : Nat} {L : Lab} (inj : ∀ a b q, L a = some q → L b = some q → a = b) : ∀ a b q, lcR es n0 L a = some q → lcR es n0 L b = some q → a = b := fun a b q h1 h2 => by
  obtain ⟨k, e, s, e1, e2, rfl⟩ := lcR_inv h1
  obtain ⟨k', e', s', e3, e4, e5⟩ := lcR_inv h2
  injection e5 with e6 e7
  have : k = k' := by omega
  subst this e7
  rw [e1] at e3
  cases e3
  exact inj _ _ _ e2 e4
theorem lbR_inv {es : PEnv} {n0 : Nat} {L L' : Lab} {Z : Addr → Bool} {a : Addr} {q : Path} (h : lbR es n0 L L' Z a = some q) :
    (Z a = true ∧ L a = some q) ∨ (Z a = false ∧ ∃ x s, L' a = some (x :: s) ∧ ((x = 1 ∧ q = (2 * n0 + 1) :: s) ∨ ∃ j k p, x = 2 * k ∧ es[k]? = some (.al j p) ∧ q = 2 * j :: s)) := by
  unfold lbR at h
  cases hz : Z a with
  | true => rw [hz, if_pos rfl] at h; exact .inl ⟨rfl, h⟩
  | false =>
    rw [hz, if_neg Bool.false_ne_true] at h
    refine .inr ⟨rfl, ?_⟩
    cases e : L' a with
    | none => rw [e] at h; cases h
    | some z =>
      rw [e] at h
      cases z with
      | nil => cases h
      | cons x s =>
        dsimp only at h
        refine ⟨x, s, rfl, ?_⟩
        by_cases h1 : x = 1
        · rw [if_pos h1] at h; cases h; exact .inl ⟨h1, rfl⟩
        · rw [if_neg h1] at h
          by_cases hx : ∃ j k p, x = 2 * k ∧ es[k]? = some (Sl.al j p)
          · rw [dif_pos hx] at h
            cases h
            obtain ⟨k, p, e1, e2⟩ := hx.choose_spec
            exact .inr ⟨_, k, p, e1, e2, rfl⟩
          · rw [dif_neg hx] at h; cases h
theorem lcR_none {es : PEnv} {n0 r : Nat} {L : Lab} {a : Addr} {s : Path} (l : L a = some (r :: s)) (h : ∀ (k : Nat) e, es[k]? = some e → rtE n0 k e ≠ r) : lcR es n0 L a = none := by
  unfold lcR
  rw [l]
  dsimp only
  rw [dif_neg]
  rintro ⟨k, e, h1, h2⟩
  exact h k e h1 h2
theorem argE_rel {P : Program} {w : World} {K : PySem.W.Frag} : ∀ {es pre : PEnv} {xs px : List V} {env env' : PEnv} {F H : Hp} {L : Lab} {σ : L2.St} {es' : PEnv}, Rel P w K env (pre ++ es) σ (px ++ xs) F H L → pre.length = px.length → argEs env es = some (es', env') →
    ∃ F' L', Same F F' ∧ Rel P w K env' (pre ++ es') σ (px ++ xs) F' H L' ∧ es'.length = es.length
  | [], pre, xs, px, env, env', F, H, L, σ, es', R, hl, h => by
    cases h
    exact ⟨F, L, Same.refl F, R, rfl⟩
  | e :: es, pre, [], px, env, env', F, H, L, σ, es', R, hl, h => by
    have := R.tlen
    simp at this
    omega
  | e :: es, pre, x :: xs, px, env, env', F, H, L, σ, es', R, hl, h => by
    have step : ∀ {e' : Sl} {env1 : PEnv} {F1 : Hp} {L1 : Lab}, Same F F1 → Rel P w K env1 (pre ++ e' :: es) σ (px ++ x :: xs) F1 H L1 → argE env e = some (e', env1) → ∃ F' L', Same F F' ∧ Rel P w K env' (pre ++ es') σ (px ++ x :: xs) F' H L' ∧ es'.length = (e :: es).length := fun {e' env1 F1 L1} k1 R1 e1 => by
      rw [argEs, e1] at h
      dsimp only at h
      cases e2 : argEs env1 es with
      | none => rw [e2] at h; cases h
      | some r2 =>
        obtain ⟨es2, env2⟩ := r2
        rw [e2] at h
        cases h
        have R1' : Rel P w K env1 ((pre ++ [e']) ++ es) σ ((px ++ [x]) ++ xs) F1 H L1 := by simpa using R1
        obtain ⟨F2, L2, k2, R2, h2⟩ := argE_rel R1' (by simp [hl]) e2
        exact ⟨F2, L2, k1.trans k2, by simpa using R2, by simp [h2]⟩
    cases e with
    | val pv => exact step (Same.refl F) R rfl
    | un => rw [argEs] at h; cases h
    | al j q =>
      cases q with
      | nil => exact step (Same.refl F) R rfl
      | cons k q =>
        cases e1 : frzE env (.al j (k :: q)) with
        | none => rw [argEs, argE, e1] at h; cases h
        | some r =>
          obtain ⟨p, env1⟩ := r
          obtain ⟨F1, L1, k1, R1⟩ := R.frzAt (i := pre.length) (v := x) (by simp) (by rw [hl]; simp) e1
          have hs : (pre ++ Sl.al j (k :: q) :: es).set pre.length (.val p) = pre ++ .val p :: es := by simp
          rw [hs] at R1
          exact step k1 R1 (by rw [argE, e1])
theorem conts_get {env : PEnv} : ∀ {es : PEnv} {ps : List PV}, conts env es = some ps → es.length = ps.length ∧ ∀ (k : Nat) e, es[k]? = some e → ∃ p, ps[k]? = some p ∧ cont env e = some p
  | [], ps, h => by cases h; exact ⟨rfl, fun k e h => by simp at h⟩
  | e :: es, ps, h => by
    rw [conts] at h
    cases e1 : cont env e with
    | none => rw [e1] at h; cases h
    | some p =>
      cases e2 : conts env es with
      | none => rw [e1, e2] at h; cases h
      | some ps' =>
        rw [e1, e2] at h
        cases h
        obtain ⟨h1, h2⟩ := conts_get e2
        refine ⟨by simp [h1], fun k e' h => ?_⟩
        cases k with
        | zero => cases Option.some.inj h; exact ⟨p, rfl, e1⟩
        | succ k => obtain ⟨p', h3, h4⟩ := h2 k e' (by simpa using h); exact ⟨p', by simpa using h3, h4⟩
section
variable {P : Program} {w : World} {K : PySem.W.Frag} {F F' H H' Hl : Hp} {L L' : Lab} {env env' tm tm' es : PEnv} {σ σ' : L2.St} {τ τ' vs : List V} {args as : List PV} {r : PV} {v : V}
/-- into the def -/
theorem Rel.enter (R : Rel P w K env (tm ++ es) σ (τ ++ vs) F H L) (hl : tm.length = τ.length) (hd : dBor es = true) (hc : conts env es = some args)
    (off : ∀ a, zR es tm.length L H a = false → Hl a = H a) : Rel P w K (args.map .val) [] (vs.map some) [] F Hl (lcR es tm.length L) := by
  obtain ⟨hlen, hget⟩ := conts_get hc
  have hlv : es.length = vs.length := by have := R.tlen; simp at this; omega
  have zF : ∀ a, L a = none → zR es tm.length L H a = false := fun a e => by unfold zR; rw [e]; rfl
  have zC : ∀ a q, lcR es tm.length L a = some q → zR es tm.length L H a = false := fun a q e => by unfold zR; rw [e]; simp
  refine ⟨fun a o e => ?_, fun a p e => ?_, fun a p e => ?_, by simp [← hlen, hlv], fun i e he hu => ?_, rfl, fun i e v he _ => by simp at he, lcR_inj R.inj, fun i v j q he _ _ => by simp at he⟩
  · have : L a = none := by
      cases e1 : L a with
      | none => rfl
      | some q => have := R.lf a q e1; rw [e] at this; cases this
    rw [off a (zF a this)]
    exact R.fle a o e
  · obtain ⟨q, hq⟩ := lcR_some e
    exact R.lf a q hq
  · obtain ⟨q, hq⟩ := lcR_some e
    rw [off a (zC a p e)]
    exact R.lh a q hq
  · rw [List.getElem?_map] at he
    cases e1 : args[i]? with
    | none => rw [e1] at he; cases he
    | some pv =>
      rw [e1] at he
      cases he
      have hi : i < args.length := (List.getElem?_eq_some_iff.mp e1).1
      obtain ⟨en, hen⟩ : ∃ en, es[i]? = some en := ⟨_, List.getElem?_eq_getElem (by omega)⟩
      obtain ⟨u, hu⟩ : ∃ u, vs[i]? = some u := ⟨_, List.getElem?_eq_getElem (by omega)⟩
      obtain ⟨pv', h1, h2⟩ := hget i en hen
      rw [e1] at h1
      cases h1
      refine ⟨u, by rw [List.getElem?_map, hu]; rfl, ?_⟩
      have tr : RepO P w K F H L [rtE tm.length i en] pv u → RepO P w K F Hl (lcR es tm.length L) [2 * i] pv u := fun h =>
        RepO.tr (Same.refl F) pv _ _ u (fun a s l => ⟨lcR_of hd hen l, off a (zC a _ (lcR_of hd hen l))⟩) h
      have he2 := tm_get R hlv hen hu
      cases en with
      | un => cases h2
      | val q => cases h2; exact tr he2
      | al j p =>
        obtain rfl := dBor_nil hd hen
        exact tr (he2 pv h2)
/-- and back -/
theorem Rel.leave {Z : Addr → Bool} (R : Rel P w K env (tm ++ es) σ (τ ++ vs) F H L) (hl : tm.length = τ.length) (hd : dBor es = true) (hc : conts env es = some args) (hZ : Z = zR es tm.length L H) (hlk : ∀ a, Z a = true → ∃ o, Hl a = some (lkO a o))
    (R' : Rel P w K (as.map .val) [.val r] (vs.map some) [v] F' H' L') (k : Same F F') (hk : ∀ a, Z a = true → H' a = Hl a) (hw : okW es as = true) :
    ∃ F2 L2, Same F F2 ∧ Rel P w K (wbG es as 0 env) (tm ++ [.val r]) σ (τ ++ [v]) F2 (unlZ Z H H') L2 := by
  obtain ⟨hlen, hget⟩ := conts_get hc
  have hlv : es.length = vs.length := by have := R.tlen; simp at this; omega
  have zL : ∀ a, Z a = true → (∃ q, L a = some q) ∧ lcR es tm.length L a = none ∧ okH (H a) = true := fun a h => by
    rw [hZ] at h
    unfold zR at h
    rw [Bool.and_eq_true, Bool.and_eq_true] at h
    refine ⟨?_, by simpa using h.1.2, h.2⟩
    cases e : L a with
    | none => rw [e] at h; cases h.1.1
    | some q => exact ⟨q, rfl⟩
  have zRt : ∀ a, Z a = true → rtOk tm.length (L a) = true := fun a h => by
    rw [hZ] at h
    unfold zR at h
    rw [Bool.and_eq_true, Bool.and_eq_true] at h
    exact h.1.1
  have zOn : ∀ a x s, L a = some (x :: s) → (x % 2 = 0 ∨ x < 2 * tm.length) → lcR es tm.length L a = none → okH (H a) = true → Z a = true := fun a x s h1 hx h2 h3 => by
    rw [hZ]
    unfold zR
    rw [h1, h2, h3]
    have : rtOk tm.length (some (x :: s)) = true := by
      rcases hx with hx | hx <;> simp [rtOk, hx]
    rw [this]
    rfl
  have on : ∀ a, Z a = true → unlZ Z H H' a = H a := fun a h => by unfold unlZ; rw [if_pos h]
  have off : ∀ a, Z a = false → unlZ Z H H' a = H' a := fun a h => by unfold unlZ; rw [if_neg (by rw [h]; exact Bool.false_ne_true)]
  have zf : ∀ a o, F a = some o → Z a = false := fun a o e => by
    cases h : Z a with
    | false => rfl
    | true =>
      obtain ⟨⟨q, hq⟩, _⟩ := zL a h
      rw [R.lf a q hq] at e
      cases e
  have zk : ∀ a, okH (H' a) = true → Z a = false := fun a h => by
    cases hz : Z a with
    | false => rfl
    | true =>
      obtain ⟨o, e⟩ := hlk a hz
      rw [hk a hz, e] at h
      cases h
  have msk : Msk F' (drF Z F') := fun a o e => by
    cases hz : Z a with
    | false => exact .inr (by unfold drF; rw [if_neg (by rw [hz]; exact Bool.false_ne_true)]; exact e)
    | true =>
      obtain ⟨ob, e2⟩ := hlk a hz
      have := R'.fle a o e
      rw [hk a hz, e2] at this
      exact .inl ⟨ob, (Option.some.inj this).symm⟩
  have mskF : Msk F (drF Z F') := fun a o e => .inr (by unfold drF; rw [if_neg (by rw [zf a o e]; exact Bool.false_ne_true)]; exact k a o e)
  -- what is carried over from the caller's side
  have old : ∀ {x : Nat} {q : PV} {p : Path} {u : V}, (x % 2 = 0 ∨ x < 2 * tm.length) → (∀ (k : Nat) e, es[k]? = some e → rtE tm.length k e ≠ x) → RepO P w K F H L (x :: p) q u →
      RepO P w K (drF Z F') (unlZ Z H H') (lbR es tm.length L L' Z) (x :: p) q u := fun {x q p u} hr hx h =>
    RepO.trM mskF q (x :: p) (x :: p) u (fun a s l ok => by
      have hz := zOn a x (p ++ s) l hr (lcR_none (r := x) (s := p ++ s) l hx) ok
      exact ⟨by unfold lbR; rw [if_pos hz]; exact l, on a hz⟩) h
  -- what comes back in a parameter
  have prm : ∀ {i j : Nat} {p : Path} {q : PV} {u : V}, es[i]? = some (.al j p) → RepO P w K F' H' L' [2 * i] q u → RepO P w K (drF Z F') (unlZ Z H H') (lbR es tm.length L L' Z) [2 * j] q u := fun {i j p q u} hi h =>
    RepO.trM msk q [2 * i] [2 * j] u (fun a s l ok => by
      have hz := zk a ok
      have hx : ∃ j' k p, 2 * i = 2 * k ∧ es[k]? = some (Sl.al j' p) := ⟨j, i, p, rfl, hi⟩
      refine ⟨?_, off a hz⟩
      unfold lbR
      rw [if_neg (by rw [hz]; exact Bool.false_ne_true), l]
      have hne : ¬ 2 * i = 1 := by omega
      show (if 2 * i = 1 then _ else _) = _
      rw [if_neg hne, dif_pos hx]
      obtain ⟨k', p', h1, h2⟩ := hx.choose_spec
      have : k' = i := by omega
      subst this
      rw [hi] at h2
      have h3 := Option.some.inj h2
      injection h3 with h4 h5
      rw [← h4]
      rfl) h
  have slotOf : ∀ {i j : Nat} {p : Path}, es[i]? = some (.al j p) → ∃ u q, vs[i]? = some u ∧ σ[j]? = some (some u) ∧ look env j [] = some q := fun {i j p} hi => by
    obtain rfl := dBor_nil hd hi
    have hil := (List.getElem?_eq_some_iff.mp hi).1
    obtain ⟨u, hu⟩ : ∃ u, vs[i]? = some u := ⟨_, List.getElem?_eq_getElem (by omega)⟩
    obtain ⟨q, _, h2⟩ := hget i _ hi
    refine ⟨u, q, hu, R.ali (tm.length + i) u j q ?_ ?_ h2, h2⟩
    · rw [List.getElem?_append_right (by omega)]; simpa using hi
    · rw [List.getElem?_append_right (by omega)]; simpa [hl] using hu
  have prmV : ∀ {i j : Nat} {p : Path} {a : PV} {u : V}, es[i]? = some (.al j p) → as[i]? = some a → vs[i]? = some u → RepO P w K (drF Z F') (unlZ Z H H') (lbR es tm.length L L' Z) [2 * j] a u := fun {i j p a u} h1 h2 h3 => by
    obtain ⟨u', h4, h5⟩ := R'.slot i (.val a) (by rw [List.getElem?_map, h2]; rfl) (by simp)
    rw [List.getElem?_map, h3] at h4
    cases h4
    exact prm h1 h5
  have nbS : ∀ {i : Nat}, bpos es as i = none → ∀ (k : Nat) e, es[k]? = some e → rtE tm.length k e ≠ 2 * i := fun {i} hb k e he hr => by
    cases e with
    | al j p =>
      obtain ⟨a, ha⟩ := bpos_of (as := as) (okW_len hw) he
      have : j = i := by simp only [rtE] at hr; omega
      rw [this, hb] at ha
      cases ha
    | _ => simp only [rtE] at hr; omega
  have nbT : ∀ {m : Nat}, m < tm.length → ∀ (k : Nat) e, es[k]? = some e → rtE tm.length k e ≠ 2 * m + 1 := fun {m} hm k e he hr => by
    cases e <;> (simp only [rtE] at hr; omega)
  -- other names
  have alOk : ∀ {i : Nat} {p : Path} {u : V}, (∀ q, look env i p = some q → RepO P w K F H L (2 * i :: p) q u) → (p = [] → ∀ q, look env i [] = some q → σ[i]? = some (some u)) →
      ∀ q, look (wbG es as 0 env) i p = some q → RepO P w K (drF Z F') (unlZ Z H H') (lbR es tm.length L L' Z) (2 * i :: p) q u := fun {i p u} h hs q hq => by
    obtain ⟨y, e1, e2, e3⟩ := look_some hq
    rw [wbG_get, Nat.zero_add] at e1
    cases e4 : env[i]? with
    | none => rw [e4] at e1; cases e1
    | some s0 =>
      rw [e4, Option.map_some] at e1
      have e1 := Option.some.inj e1
      unfold wbS at e1
      cases hb : bpos es as i with
      | none =>
        rw [hb] at e1
        have hy : s0 = .val y := by
          cases s0 with
          | un => cases e1
          | val _ => exact e1
          | al j' p' =>
            dsimp only at e1
            split at e1 <;> cases e1
        subst hy
        exact old (.inl (by omega)) (nbS hb) (h q (look_of e4 e2 e3))
      | some a =>
        rw [hb] at e1
        cases e1
        obtain ⟨k', h1, h2⟩ := bpos_some hd hb
        cases p with
        | cons c p => rw [flat_at (okW_flat hw h1 h2) e2] at e3; cases e3
        | nil =>
          rw [PV.at] at e2
          cases e2
          obtain ⟨u', q', h3, h4, h5⟩ := slotOf h1
          have := hs rfl q' h5
          rw [h4] at this
          cases this
          exact prmV h1 h2 h3
  refine ⟨drF Z F', lbR es tm.length L L' Z, fun a o e => ?_, fun a o e => ?_, fun a p e => ?_, fun a p e => ?_, by rw [wbG_len]; exact R.len, fun i e he hu => ?_, by simp [hl], fun m e u he hu => ?_, fun a b q ha hb => ?_, fun m u j q he hu hq => ?_⟩
  · unfold drF
    rw [if_neg (by rw [zf a o e]; exact Bool.false_ne_true)]
    exact k a o e
  · unfold drF at e
    by_cases hz : Z a = true
    · rw [if_pos hz] at e; cases e
    · rw [if_neg hz] at e
      rw [off a (by simpa using hz)]
      exact R'.fle a o e
  · unfold drF
    by_cases hz : Z a = true
    · rw [if_pos hz]
    · rw [if_neg hz]
      unfold lbR at e
      rw [if_neg hz] at e
      cases e1 : L' a with
      | none => rw [e1] at e; cases e
      | some q => exact R'.lf a q e1
  · by_cases hz : Z a = true
    · rw [on a hz]
      have h3 := (zL a hz).2.2
      cases e1 : H a with
      | none => rw [e1] at h3; cases h3
      | some o => exact ⟨o, rfl⟩
    · rw [off a (by simpa using hz)]
      unfold lbR at e
      rw [if_neg hz] at e
      cases e1 : L' a with
      | none => rw [e1] at e; cases e
      | some q => exact R'.lh a q e1
  · rw [wbG_get, Nat.zero_add] at he
    cases e4 : env[i]? with
    | none => rw [e4] at he; cases he
    | some s0 =>
      rw [e4, Option.map_some] at he
      have he := Option.some.inj he
      unfold wbS at he
      cases hb : bpos es as i with
      | some a =>
        rw [hb] at he
        cases he
        obtain ⟨k', h1, h2⟩ := bpos_some hd hb
        obtain ⟨u, q, h3, h4, _⟩ := slotOf h1
        exact ⟨u, h4, prmV h1 h2 h3⟩
      | none =>
        rw [hb] at he
        cases s0 with
        | un => exact absurd he.symm hu
        | val y =>
          cases he
          obtain ⟨u, h1, h2⟩ := R.slot i _ e4 (by simp)
          exact ⟨u, h1, old (.inl (by omega)) (nbS hb) h2⟩
        | al j p =>
          dsimp only at he
          cases hbj : bpos es as j with
          | some a => rw [hbj] at he; exact absurd he.symm hu
          | none =>
            rw [hbj] at he
            cases he
            obtain ⟨u, h1, h2⟩ := R.slot i _ e4 (by simp)
            refine ⟨u, h1, ?_⟩
            intro q hq
            obtain ⟨y, f1, f2, f3⟩ := look_some hq
            rw [wbG_get, Nat.zero_add] at f1
            cases f4 : env[j]? with
            | none => rw [f4] at f1; cases f1
            | some s1 =>
              rw [f4, Option.map_some] at f1
              have f1 := Option.some.inj f1
              unfold wbS at f1
              rw [hbj] at f1
              have hy : s1 = .val y := by
                cases s1 with
                | un => cases f1
                | val _ => exact f1
                | al j' p' =>
                  dsimp only at f1
                  split at f1 <;> cases f1
              subst hy
              exact old (.inl (by omega)) (nbS hbj) (h2 q (look_of f4 f2 f3))
  · by_cases hm : m < tm.length
    · rw [List.getElem?_append_left hm] at he
      rw [List.getElem?_append_left (by omega)] at hu
      have he' : (tm ++ es)[m]? = some e := by rw [List.getElem?_append_left hm]; exact he
      have hu' : (τ ++ vs)[m]? = some u := by rw [List.getElem?_append_left (by omega)]; exact hu
      have h := R.tmp m e u he' hu'
      cases e with
      | un => trivial
      | val y => exact old (.inr (by omega)) (nbT hm) h
      | al i p => exact alOk h fun hp q hq => by subst hp; exact R.ali m u i q he' hu' hq
    · have hm' : m = tm.length := by
        have := (List.getElem?_eq_some_iff.mp he).1
        simp at this
        omega
      subst hm'
      have e1 : e = .val r := by simpa using he.symm
      have e2 : u = v := by
        rw [hl] at hu
        simpa using hu.symm
      subst e1 e2
      refine RepO.trM msk r [1] _ u (fun a s l ok => ?_) (R'.tmp 0 (.val r) u rfl rfl)
      have hz := zk a ok
      refine ⟨?_, off a hz⟩
      unfold lbR
      rw [if_neg (by rw [hz]; exact Bool.false_ne_true), l]
      rfl
  · have cross : ∀ {a b : Addr} {q : Path}, Z a = true → L a = some q → (∃ x s, L' b = some (x :: s) ∧ ((x = 1 ∧ q = (2 * tm.length + 1) :: s) ∨ ∃ j k p, x = 2 * k ∧ es[k]? = some (.al j p) ∧ q = 2 * j :: s)) → False := fun {a b q} hz hq h => by
      obtain ⟨x, s, _, ⟨_, rfl⟩ | ⟨j, k', p, _, e2, rfl⟩⟩ := h
      · have := zRt a hz
        rw [hq] at this
        unfold rtOk at this
        rw [Bool.or_eq_true, beq_iff_eq, decide_eq_true_eq] at this
        omega
      · have h1 := lcR_of (n0 := tm.length) hd e2 hq
        rw [(zL a hz).2.1] at h1
        cases h1
    rcases lbR_inv ha with ⟨h1, h2⟩ | ⟨h1, h2⟩
    · rcases lbR_inv hb with ⟨h3, h4⟩ | ⟨h3, h4⟩
      · exact R.inj a b q h2 h4
      · exact (cross h1 h2 h4).elim
    · rcases lbR_inv hb with ⟨h3, h4⟩ | ⟨h3, h4⟩
      · exact (cross h3 h4 h2).elim
      · obtain ⟨x, s, e1, e2⟩ := h2
        obtain ⟨x', s', e3, e4⟩ := h4
        rcases e2 with ⟨rfl, rfl⟩ | ⟨j, k1, p, rfl, e5, rfl⟩
        · rcases e4 with ⟨rfl, e6⟩ | ⟨j', k2, p', rfl, e7, e6⟩
          · injection e6 with _ e6
            subst e6
            exact R'.inj a b _ e1 e3
          · injection e6 with e6 _
            omega
        · rcases e4 with ⟨rfl, e6⟩ | ⟨j', k2, p', rfl, e7, e6⟩
          · injection e6 with e6 _
            omega
          · injection e6 with e6 e8
            have : j = j' := by omega
            subst this e8
            have := dBor_inj hd e5 e7
            subst this
            exact R'.inj a b _ e1 e3
  · by_cases hm : m < tm.length
    · rw [List.getElem?_append_left hm] at he
      rw [List.getElem?_append_left (by omega)] at hu
      have he' : (tm ++ es)[m]? = some (.al j []) := by rw [List.getElem?_append_left hm]; exact he
      have hu' : (τ ++ vs)[m]? = some u := by rw [List.getElem?_append_left (by omega)]; exact hu
      obtain ⟨y, f1, f2, f3⟩ := look_some hq
      rw [wbG_get, Nat.zero_add] at f1
      cases f4 : env[j]? with
      | none => rw [f4] at f1; cases f1
      | some s1 =>
        rw [f4, Option.map_some] at f1
        have f1 := Option.some.inj f1
        unfold wbS at f1
        cases hb : bpos es as j with
        | some a =>
          obtain ⟨k', h1, h2⟩ := bpos_some hd hb
          obtain ⟨u', q', h3, h4, h5⟩ := slotOf h1
          exact R.ali m u j q' he' hu' h5
        | none =>
          rw [hb] at f1
          have hy : s1 = .val y := by
            cases s1 with
            | un => cases f1
            | val _ => exact f1
            | al j' p' =>
              dsimp only at f1
              split at f1 <;> cases f1
          subst hy
          exact R.ali m u j q he' hu' (look_of f4 f2 f3)
    · rw [List.getElem?_append_right (by omega)] at he
      cases hx : m - tm.length with
      | zero => rw [hx] at he; cases he
      | succ n => rw [hx] at he; cases he
end
section
variable {X : Cx} {W : WX} {k j n : Nat} {x : Str} {f : FnD} {p pos : Pos} {e : Expr} {es : List Expr} {ds : D PEnv}
theorem ev_call (c : CalG X.prog X.w X.K X.mg X.base k x n f) (hr : Room j X.A) (hk : k ≤ j) (G : Good X) (hg : Gl X x) (ha : AV X W (e :: es) ds)
    (hdb : (x == ("__debug__" : Str)) = false := by decide) (he : starEach (e :: es) X.env = (false, eval e X.env) :: starEach es X.env := by rfl) (hpl : (backTo pos (starEach es X.env)).any (·.1) = false := by rfl) :
    EV X W (.Call (.Name x p) (e :: es) [] pos) (dcallF f ds) := by
  obtain ⟨fa, fd, ps, F, hm, kp, b, hfn⟩ := c.ex
  refine ⟨fun pins s σ H Q I h => ?_⟩
  refine (pe_callZ F (hr.mono hk) G.gd hg hm kp b (ha := ha) hdb he hpl).run pins s σ H Q I ?_
  refine (tAr.bind (es := []) (xs := []) h).mono fun vs H1 ⟨en, q⟩ => ?_
  obtain ⟨env, tm, τ, F1, L, hl, R, q⟩ := q
  rw [List.nil_append, List.nil_append] at R
  rw [List.nil_append, List.nil_append] at hl
  have htl : tm.length = τ.length := (R.popN hl).tlen
  unfold dcallE at q
  cases e1 : argEs env en with
  | none => rw [e1] at q; exact q.elim
  | some r1 =>
    obtain ⟨es1, env1⟩ := r1
    rw [e1] at q
    dsimp only at q
    by_cases hd : dBor es1 = true
    · rw [if_pos hd] at q
      cases e2 : conts env1 es1 with
      | none => rw [e2] at q; exact q.elim
      | some args =>
        rw [e2] at q
        dsimp only at q
        cases e3 : f args with
        | none => rw [e3] at q; exact q.elim
        | some r3 =>
          obtain ⟨r, as⟩ := r3
          rw [e3] at q
          dsimp only at q
          by_cases hw : okW es1 as = true
          · rw [if_pos hw] at q
            obtain ⟨F2, L2, k2, R2, hl2⟩ := argE_rel R htl e1
            refine ⟨zR es1 tm.length L2 H1, fun a ha => ?_, fun Hl h1 h2 => ?_⟩
            · unfold zR at ha
              rw [Bool.and_eq_true] at ha
              exact ha.2
            · have RE := R2.enter htl hd e2 h2
              have hlv : vs.length = n := by
                obtain ⟨c1, _⟩ := conts_get e2
                have := RE.len
                rw [← hl, ← hl2, c1]
                exact hfn _ _ e3
              refine ⟨hlv, args, F2, _, RE, r, as, e3, fun v F' H' L' k' R' hz => ?_⟩
              obtain ⟨F3, L3, k3, R3⟩ := R2.leave htl hd e2 rfl h1 R' k' hz hw
              exact q [v] F3 _ L3 rfl (k2.trans k3) R3 v rfl
          · rw [if_neg hw] at q; exact q.elim
    · rw [if_neg hd] at q; exact q.elim
end
end Pv
namespace Pv
open PySem PySem.Spec PyProof.Rows L2

/-! ### a def of trees from its body -/
/-- parameters that the body stores anew begin as kept values -/
def inE (fi : List Nat) : Nat → List PV → PEnv
  | _, [] => []
  | i, a :: as => (if i ∈ fi then .val a else .val a.frz) :: inE fi (i + 1) as
def outP (fi : List Nat) (env : PEnv) : Nat → List PV → Option (List PV)
  | _, [] => some []
  | i, a :: as => match (if i ∈ fi then (match env[i]? with | some (.val b) => some b | _ => none) else some a.frz) with
    | some b => (outP fi env (i + 1) as).map (b :: ·)
    | none => none
/-- what is returned: a list of the def's own is given away -/
def exitE (fi : List Nat) (env : PEnv) : Sl → Option (PV × PEnv)
  | .val pv => some (pv, env)
  | .al k [] => if k ∈ fi then frzE env (.al k []) else match look env k [] with
    | some pv => some (pv, env.set k .un)
    | none => none
  | e => frzE env e
def mkfn (n np : Nat) (fi : List Nat) (body : D Fl) : FnD := fun args => if args.length = np then match body (inE fi 0 args ++ List.replicate (n - np) .un) with
    | .ok (.rt e) env => match exitE fi env e with
      | some (r, env1) => match outP fi env1 0 args with
        | some as => some (r, as)
        | none => none
      | none => none
    | .ok .nx env => match outP fi env 0 args with
      | some as => some (.non, as)
      | none => none
    | _ => none
  else none
theorem mkfn_len {n np : Nat} {fi : List Nat} {body : D Fl} {args : List PV} {r : PV × List PV} (h : mkfn n np fi body args = some r) : args.length = np := by
  unfold mkfn at h
  by_cases hl : args.length = np
  · exact hl
  · rw [if_neg hl] at h; cases h
theorem inE_len {fi : List Nat} : ∀ {as : List PV} {i : Nat}, (inE fi i as).length = as.length
  | [], i => rfl
  | a :: as, i => by rw [inE, List.length_cons, inE_len, List.length_cons]
theorem inE_get {fi : List Nat} : ∀ {as : List PV} {n i : Nat}, (inE fi n as)[i]? = (as[i]?).map fun a => if n + i ∈ fi then Sl.val a else .val a.frz
  | [], n, i => by simp [inE]
  | a :: as, n, 0 => by simp [inE]
  | a :: as, n, i + 1 => by
    rw [inE, List.getElem?_cons_succ, List.getElem?_cons_succ, inE_get]
    have : n + 1 + i = n + (i + 1) := by omega
    rw [this]
theorem outP_get {fi : List Nat} {env : PEnv} : ∀ {as bs : List PV} {n : Nat}, outP fi env n as = some bs → bs.length = as.length ∧ ∀ (i : Nat) b, bs[i]? = some b → (n + i ∈ fi ∧ env[n + i]? = some (.val b)) ∨ (n + i ∉ fi ∧ ∃ a, as[i]? = some a ∧ b = a.frz)
  | [], bs, n, h => by cases h; exact ⟨rfl, fun i b h => by simp at h⟩
  | a :: as, bs, n, h => by
    rw [outP] at h
    cases e1 : (if n ∈ fi then (match env[n]? with | some (.val b) => some b | _ => none) else some a.frz : Option PV) with
    | none => rw [e1] at h; cases h
    | some b =>
      rw [e1] at h
      dsimp only at h
      cases e2 : outP fi env (n + 1) as with
      | none => rw [e2] at h; cases h
      | some bs' =>
        rw [e2] at h
        cases h
        obtain ⟨h1, h2⟩ := outP_get e2
        refine ⟨by simp [h1], fun i c hc => ?_⟩
        cases i with
        | zero =>
          cases Option.some.inj hc
          by_cases hn : n ∈ fi
          · rw [if_pos hn] at e1
            refine .inl ⟨hn, ?_⟩
            show env[n]? = _
            cases e3 : env[n]? with
            | none => rw [e3] at e1; cases e1
            | some s =>
              rw [e3] at e1
              cases s with
              | val y => cases e1; rfl
              | un => cases e1
              | al _ _ => cases e1
          · rw [if_neg hn] at e1
            exact .inr ⟨hn, a, rfl, (Option.some.inj e1).symm⟩
        | succ i =>
          have e4 : n + (i + 1) = n + 1 + i := by omega
          rw [e4]
          rcases h2 i c (by simpa using hc) with h3 | ⟨h3, a', h4, h5⟩
          · exact .inl h3
          · exact .inr ⟨h3, a', by simpa using h4, h5⟩
section
variable {P : Program} {w : World} {K : PySem.W.Frag} {F F' F0 H H' H0 : Hp} {L L' L0 : Lab} {env env' env0 : PEnv} {σ σ' : L2.St} {τ τ' τ0 vs xs : List V} {args as : List PV} {ex : List PV} {r : PV} {v : V} {fi : List Nat}
/-- more slots, empty -/
theorem Rel.ext {tm : PEnv} {n : Nat} (R : Rel P w K env tm σ τ F H L) : Rel P w K (env ++ List.replicate n .un) tm (σ ++ List.replicate n none) τ F H L := by
  have lk : ∀ {i : Nat} {p : Path} {q : PV}, look (env ++ List.replicate n .un) i p = some q → look env i p = some q := fun {i p q} h => by
    obtain ⟨y, e1, e2, e3⟩ := look_some h
    by_cases hi : i < env.length
    · rw [List.getElem?_append_left hi] at e1
      exact look_of e1 e2 e3
    · rw [List.getElem?_append_right (by omega), List.getElem?_replicate] at e1
      split at e1 <;> cases e1
  have go : ∀ {r : Nat} {e : Sl} {u : V}, Ent P w K env F H L r e u → Ent P w K (env ++ List.replicate n .un) F H L r e u := fun {r e u} h => by
    cases e with
    | un => trivial
    | val q => exact h
    | al j p => exact fun q hq => h q (lk hq)
  refine ⟨R.fle, R.lf, R.lh, by simp [R.len], fun i e he hu => ?_, R.tlen, fun i e u he hu => go (R.tmp i e u he hu), R.inj, fun i u j q he hu hq => ?_⟩
  · by_cases hi : i < env.length
    · rw [List.getElem?_append_left hi] at he
      obtain ⟨u, h1, h2⟩ := R.slot i e he hu
      exact ⟨u, by rw [List.getElem?_append_left (by rw [← R.len]; exact hi)]; exact h1, go h2⟩
    · rw [List.getElem?_append_right (by omega), List.getElem?_replicate] at he
      split at he
      · cases he; exact absurd rfl hu
      · cases he
  · have h1 := R.ali i u j q he hu (lk hq)
    rw [List.getElem?_append_left (List.getElem?_eq_some_iff.mp h1).1]
    exact h1
/-- the parameters that are stored anew are frozen -/
theorem Rel.frzIn {tm : PEnv} : ∀ {as : List PV} {pre post : PEnv} {n : Nat} {F : Hp} {L : Lab}, Rel P w K (pre ++ as.map .val ++ post) tm σ τ F H L → pre.length = n →
    ∃ F' L', Same F F' ∧ Rel P w K (pre ++ inE fi n as ++ post) tm σ τ F' H L'
  | [], pre, post, n, F, L, R, hl => ⟨F, L, Same.refl F, R⟩
  | a :: as, pre, post, n, F, L, R, hl => by
    have step : ∀ {e : Sl} {F1 : Hp} {L1 : Lab}, Same F F1 → Rel P w K (pre ++ e :: (as.map .val ++ post)) tm σ τ F1 H L1 → inE fi n (a :: as) = e :: inE fi (n + 1) as → ∃ F' L', Same F F' ∧ Rel P w K (pre ++ inE fi n (a :: as) ++ post) tm σ τ F' H L' := fun {e F1 L1} k1 R1 he => by
      have R1' : Rel P w K ((pre ++ [e]) ++ as.map .val ++ post) tm σ τ F1 H L1 := by simpa using R1
      obtain ⟨F2, L2, k2, R2⟩ := Rel.frzIn R1' (n := n + 1) (by simp [hl])
      exact ⟨F2, L2, k1.trans k2, by rw [he]; simpa using R2⟩
    have R0 : Rel P w K (pre ++ .val a :: (as.map .val ++ post)) tm σ τ F H L := by simpa using R
    by_cases hn : n ∈ fi
    · exact step (Same.refl F) R0 (by rw [inE, if_pos hn])
    · have R1 := R0.frzSlot (j := n) (pv := a) (by rw [← hl]; simp)
      have hs : (pre ++ Sl.val a :: (as.map .val ++ post)).set n (.val a.frz) = pre ++ .val a.frz :: (as.map .val ++ post) := by rw [← hl]; simp
      rw [hs] at R1
      exact step (fF_same R0.lf) R1 (by rw [inE, if_neg hn])
/-- a slot's list is given away -/
theorem Rel.moveOut {k : Nat} {pv : PV} (R : Rel P w K env (ex.map .val ++ [.al k []]) σ (xs ++ [v]) F H L) (h : look env k [] = some pv) :
    ∃ L', Rel P w K (env.set k .un) (ex.map .val ++ [.val pv]) σ (xs ++ [v]) F H L' := by
  have ht : RepO P w K F H L [2 * k] pv v := R.top pv h
  have R' := R.pop
  refine ⟨mvL (2 * k) (2 * (ex.map Sl.val).length + 1) L, ?_⟩
  have go : ∀ {r : Nat} {e : Sl} {u : V}, r ≠ 2 * k → r ≠ 2 * (ex.map Sl.val).length + 1 → Ent P w K env F H L r e u → Ent P w K (env.set k .un) F H (mvL (2 * k) (2 * (ex.map Sl.val).length + 1) L) r e u := fun {r e u} h1 h2 h => by
    cases e with
    | un => trivial
    | val q => exact RepO.tr (Same.refl F) q [r] [r] u (fun a s l => ⟨mvL_off l h1 h2, rfl⟩) h
    | al j p =>
      intro q hq
      obtain ⟨y, e1, e2, e3⟩ := look_some hq
      rcases getElem?_set_cases e1 with ⟨_, z, _⟩ | ⟨hj, e1⟩
      · cases z
      · exact RepO.tr (Same.refl F) q (2 * j :: p) (2 * j :: p) u (fun a s l => ⟨mvL_off (s := p ++ s) l (by omega) (by omega), rfl⟩) (h q (look_of e1 e2 e3))
  have base : Rel P w K (env.set k .un) (ex.map .val) σ xs F H (mvL (2 * k) (2 * (ex.map Sl.val).length + 1) L) := by
    refine ⟨R.fle, fun a p e => ?_, fun a p e => ?_, by rw [List.length_set]; exact R.len, fun i e he hu => ?_, R'.tlen, fun i e u he hu => ?_, mvL_inj R.inj, fun i u j q he hu hq => (no_al (List.mem_of_getElem? he)).elim⟩
    · obtain ⟨q, hq⟩ := mvL_some e; exact R.lf a q hq
    · obtain ⟨q, hq⟩ := mvL_some e; exact R.lh a q hq
    · rcases getElem?_set_cases he with ⟨_, z, _⟩ | ⟨hne, he⟩
      · exact absurd z hu
      · obtain ⟨u, h1, h2⟩ := R.slot i e he hu
        exact ⟨u, h1, go (by omega) (by omega) h2⟩
    · have := (List.getElem?_eq_some_iff.mp he).1
      exact go (by omega) (by omega) (R'.tmp i e u he hu)
  exact base.push (RepO.tr (Same.refl F) pv [2 * k] _ v (fun a s l => ⟨mvL_src l, rfl⟩) ht)
theorem Rel.exit {e : Sl} (R : Rel P w K env (ex.map .val ++ [e]) σ (xs ++ [v]) F H L) (h : exitE fi env e = some (r, env')) : ∃ F' L', Same F F' ∧ Rel P w K env' (ex.map .val ++ [.val r]) σ (xs ++ [v]) F' H L' := by
  have fz : frzE env e = some (r, env') → ∃ F' L', Same F F' ∧ Rel P w K env' (ex.map .val ++ [.val r]) σ (xs ++ [v]) F' H L' := fun h => by
    obtain ⟨F1, L1, k1, R1⟩ := R.frzAt (i := (ex.map Sl.val).length) (v := v) (by simp) (by have := R.pop.tlen; rw [this]; simp) h
    have hs : (ex.map Sl.val ++ [e]).set (ex.map Sl.val).length (.val r) = ex.map Sl.val ++ [.val r] := by simp
    rw [hs] at R1
    exact ⟨F1, L1, k1, R1⟩
  cases e with
  | un => exact fz h
  | val pv => cases h; exact ⟨F, L, Same.refl F, R⟩
  | al k p =>
    cases p with
    | cons _ _ => exact fz h
    | nil =>
      rw [exitE] at h
      by_cases hk : k ∈ fi
      · rw [if_pos hk] at h; exact fz h
      · rw [if_neg hk] at h
        cases e1 : look env k [] with
        | none => rw [e1] at h; cases h
        | some pv =>
          rw [e1] at h
          cases h
          obtain ⟨L1, R1⟩ := R.moveOut e1
          exact ⟨F, L1, Same.refl F, R1⟩
theorem Rel.finish (R : Rel P w K env (ex.map .val ++ [.val r]) σ (xs ++ [v]) F H L) (hl : as.length = vs.length) (h : ∀ (i : Nat) a, as[i]? = some a → ∃ u, vs[i]? = some u ∧ (RepF P w K F a u ∨ (env[i]? = some (.val a) ∧ σ[i]? = some (some u)))) :
    ∃ L', Rel P w K (as.map .val) [.val r] (vs.map some) [v] F H L' := by
  refine ⟨mvL (2 * (ex.map Sl.val).length + 1) 1 L, R.fle, fun a p e => ?_, fun a p e => ?_, by simp [hl], fun i e he hu => ?_, rfl, fun i e u he hu => ?_, mvL_inj R.inj, fun i u j q he hu hq => ?_⟩
  · obtain ⟨q, hq⟩ := mvL_some e; exact R.lf a q hq
  · obtain ⟨q, hq⟩ := mvL_some e; exact R.lh a q hq
  · rw [List.getElem?_map] at he
    cases e1 : as[i]? with
    | none => rw [e1] at he; cases he
    | some a =>
      rw [e1] at he
      cases he
      obtain ⟨u, h1, h2⟩ := h i a e1
      refine ⟨u, by rw [List.getElem?_map, h1]; rfl, ?_⟩
      rcases h2 with h2 | ⟨h2, h3⟩
      · exact RepO.ofF h2
      · obtain ⟨u', h4, h5⟩ := R.slot i _ h2 (by simp)
        rw [h3] at h4
        cases h4
        exact RepO.tr (Same.refl F) a [2 * i] [2 * i] u (fun a s l => ⟨mvL_off l (by omega) (by omega), rfl⟩) h5
  · cases i with
    | zero =>
      cases Option.some.inj he
      cases Option.some.inj hu
      exact RepO.tr (Same.refl F) r [2 * (ex.map Sl.val).length + 1] [1] v (fun a s l => ⟨mvL_src l, rfl⟩) R.top
    | succ i => simp at he
  · cases i with
    | zero => cases Option.some.inj he
    | succ i => simp at he
end

/-! ### the rule of a def -/
section
variable {P : Program} {w : World} {K : PySem.W.Frag} {mg : Str → Option Value} {base : Heap}
/-- the context of a def's body -/
abbrev fnX (P : Program) (w : World) (K : PySem.W.Frag) (mg : Str → Option Value) (base : Heap) (N : List Str) (x : Str) (st : Stmt) (f : Addr) (cdv : Value) (A : Around) (outs : List Env) (s : Shared) (H : Hp) (E : XK) : Cx :=
  (cxOf C8.CX0 P w K mg base N x (defScope st) f cdv A outs s H E).nox
theorem body_run {X : Cx} {n np : Nat} {fi : List Nat} {d : D Fl} {st : List Stmt} {N : List Str} {vs : List V} {H : Hp} {Q : VK} (hN : N.length = n) (hnp : np ≤ n) (hb : BV X noW fi (L2.start N vs) st d)
    (h : spI X.prog X.w X.K np (mkfn n np fi d) vs H Q C8.E0) : tS X.prog X.w X.K noW fi (L2.start N vs) d { nx := fun _ H' => Q .non H', rt := Q } (L2.start N vs) H := by
  obtain ⟨hlv, args, F, L, R, r, as, hd, q⟩ := h
  have hal : args.length = np := mkfn_len hd
  have R1 : Rel X.prog X.w X.K ([] ++ args.map .val ++ List.replicate (n - np) .un) [] (L2.start N vs) [] F H L := by
    have := R.ext (n := n - np)
    unfold L2.start
    rw [hN, hlv]
    simpa using this
  obtain ⟨F1, L1, k1, R2⟩ := R1.frzIn (fi := fi) (n := 0) rfl
  rw [List.nil_append] at R2
  have R2' := R2
  refine ⟨_, [], [], F1, L1, R2, fun _ _ => rfl, ?_⟩
  unfold mkfn at hd
  rw [if_pos hal] at hd
  -- what a parameter holds at the end
  have fin : ∀ {env1 : PEnv} {F2 H2 : Hp} {σ2 : L2.St} {bs : List PV}, Same F1 F2 → FxOk fi (L2.start N vs) σ2 → outP fi env1 0 args = some bs → bs.length = vs.length ∧ ∀ (i : Nat) a, bs[i]? = some a → ∃ u, vs[i]? = some u ∧ (RepF X.prog X.w X.K F2 a u ∨ (env1[i]? = some (.val a) ∧ σ2[i]? = some (some u))) := fun {env1 F2 H2 σ2 bs} k2 fx e => by
    obtain ⟨h1, h2⟩ := outP_get e
    refine ⟨by rw [h1, hal, hlv], fun i a ha => ?_⟩
    have hi : i < vs.length := by
      have := (List.getElem?_eq_some_iff.mp ha).1
      omega
    have hst : (L2.start N vs)[i]? = some (some vs[i]) := by
      unfold L2.start
      rw [List.getElem?_append_left (by simpa using hi), List.getElem?_map, List.getElem?_eq_getElem hi]
      rfl
    refine ⟨vs[i], List.getElem?_eq_getElem hi, ?_⟩
    rcases h2 i a ha with ⟨h3, h4⟩ | ⟨h3, a', h4, rfl⟩
    · rw [Nat.zero_add] at h3 h4
      exact .inr ⟨h4, by rw [fx i h3]; exact hst⟩
    · rw [Nat.zero_add] at h3
      have hin : (inE fi 0 args ++ List.replicate (n - np) Sl.un)[i]? = some (.val a'.frz) := by
        rw [List.getElem?_append_left (by rw [inE_len]; omega), inE_get, h4, Nat.zero_add]
        simp [h3]
      obtain ⟨u, h5, h6⟩ := R2'.slot i _ hin (by simp)
      rw [hst] at h5
      cases h5
      exact .inl (RepF.mono k2 _ _ (RepO.toF (PV.fz_frz _) h6))
  cases e1 : d (inE fi 0 args ++ List.replicate (n - np) Sl.un) with
  | no => rw [e1] at hd; cases hd
  | ex c env' => rw [e1] at hd; cases hd
  | ok fl env' =>
    rw [e1] at hd
    cases fl with
    | bk => cases hd
    | ct => cases hd
    | nx =>
      dsimp only at hd
      cases e2 : outP fi env' 0 args with
      | none => rw [e2] at hd; cases hd
      | some bs =>
        rw [e2] at hd
        cases hd
        intro σ2 F2 H2 L2 k2 R3 fx
        obtain ⟨h1, h2⟩ := fin (H2 := H2) k2 fx e2
        have R4 : Rel X.prog X.w X.K env' (([] : List PV).map .val ++ [.val .non]) σ2 ([] ++ [.non]) F2 H2 L2 := R3.pushF (pv := .non) (v := .non) rfl
        obtain ⟨L3, R5⟩ := R4.finish h1 h2
        exact q .non F2 H2 L3 (k1.trans k2) R5
    | rt e =>
      dsimp only at hd
      cases e2 : exitE fi env' e with
      | none => rw [e2] at hd; cases hd
      | some r1 =>
        obtain ⟨r', env1⟩ := r1
        rw [e2] at hd
        dsimp only at hd
        cases e3 : outP fi env1 0 args with
        | none => rw [e3] at hd; cases hd
        | some bs =>
          rw [e3] at hd
          cases hd
          intro ex xs σ2 v F2 H2 L2 hl k2 R3 fx
          obtain ⟨F3, L3, k3, R4⟩ := Rel.exit (ex := [] ++ ex) (xs := [] ++ xs) R3 e2
          obtain ⟨h1, h2⟩ := fin (H2 := H2) (k2.trans k3) fx e3
          obtain ⟨L4, R5⟩ := R4.finish h1 h2
          exact q v F3 H2 L4 (k1.trans (k2.trans k3)) R5
/-- a def of the text, by what its body does to trees -/
theorem fnG_of {x : Str} {st : Stmt} {f : Addr} {fd : FuncData} {N ps : List Str} {k n np : Nat} {fi : List Nat} {d : D Fl} (Fn : L2.Fun K x x st f fd) (S : FnScope N ps (defScope st)) (hn : N.length = n) (hp : ps.length = np)
    (hbody : ∀ (cdv : Value) (A : Around) (outs : List Env) (s : Shared) (H : Hp) (E : XK) (vs : List V), Room k (A.deeper (envOfC x (defScope st) s.heap.objs.size f cdv)) → A.guards = some [] →
      BV (fnX P w K mg base N x st f cdv A outs s H E) noW fi (L2.start N vs) (defBody st) d) :
    FnG P w K mg base C8.CX0 (k + 1) f fd ps (spI P w K np (mkfn n np fi d)) := by
  obtain ⟨oc, od, kV, doc, pm, an, cdv, ct, osl, rfl, lk, hcd⟩ := Fn.ex
  have hnp : np ≤ n := by rw [← hp, ← hn]; have := congrArg List.length S.pre; rw [List.length_take] at this; omega
  refine ⟨fun vs H Q E h => h.1.trans hp.symm, fun A outs s H args us vs Q E hr hg e0 hb rv hsp => ?_⟩
  have hl : vs.length = ps.length := hsp.1.trans hp.symm
  have KX : K.In s.heap := e0.mod.kin.keeps fun b o q => (e0.bs b o q).1
  have lim : s.heap.NoLimit := e0.mod.nolimit.keeps fun b o q => (e0.bs b o q).1
  have hkind : ∀ y ∈ ps.zip us, (defScope st).names.lookup y.1 = some .local ∨ ((defScope st).names.lookup y.1 = some .cell ∧ ((cellsFrom (s.heap.objs.size + 1) (defScope st).names []).lookup y.1).isSome = true) := by
    rintro ⟨m, v⟩ hy
    rcases S.par m (List.of_mem_zip hy).1 with q | q
    · exact .inl q
    · exact .inr ⟨q, PySem.W.cellsFrom_some _ _ _ (.inl q)⟩
  refine codeAny_call_function hr.depth (KX _ _ lk) rfl S.co S.gen rfl (PySem.W.codeRec_of KX hcd) (hb _ _ _ _ (wpAny_newFunctionEnv_cells S.kind hkind fun env he s1 cl => ?_))
  subst he
  refine ⟨lim.keeps cl.toInCall.keep, codeAny_func ?_⟩
  have bb : PSs (cxOf C8.CX0 P w K mg base N x (defScope st) f cdv A outs s H E) (defBody st) (tS P w K noW fi (L2.start N vs) d) := PSs.nox (hbody cdv A outs s H E vs (hr.deeper _) hg)
  have I0 : Inv (cxOf C8.CX0 P w K mg base N x (defScope st) f cdv A outs s H E) [] (L2.start N vs) H s1 := inv_start S hr.hd e0 hl rv cl
  have run := body_run (X := fnX P w K mg base N x st f cdv A outs s H E) (Q := Q) hn hnp (hbody cdv A outs s H E vs (hr.deeper _) hg) hsp
  refine wpAny_mono (bb.run [] s1 (L2.start N vs) H _ I0 run) (fun fl s2 hs => ?_) fun e s2 hs => hs
  have fin : ∀ {σ2 : L2.St} {H2 : Hp} {v : V} {u : Value}, Inv (cxOf C8.CX0 P w K mg base N x (defScope st) f cdv A outs s H E) [] σ2 H2 s2 → RelV v u → Q v H2 → CE outs P w H s Q u s2 :=
    fun {σ2 H2 v u} J r2 q => ⟨v, H2, J.os, J.bare, J.base, J.hok, r2, q⟩
  match fl, hs with
  | .ret u, ⟨v, σ2, H2, J, r2, q⟩ => exact fin J r2 q
  | .next, ⟨σ2, H2, J, q⟩ => exact fin (v := V.non) (u := Value.none) J rfl q
  | .brk, ⟨_, _, _, q⟩ => exact q.elim
  | .cont, ⟨_, _, _, q⟩ => exact q.elim
end
end Pv
namespace Pv
open PySem PySem.Spec PyProof.Rows L2

/-! ### the law's call -/
/-- the law at a script, as a def of trees -/
def LawD (d : FnD) (ns : List Int) : Prop := ∃ as, d [.frl (ns.map .int)] = some (.bl true, as)
theorem reps_ints {P : Program} {w : World} {K : PySem.W.Frag} {F : Hp} : ∀ ns : List Int, RepFs P w K F (ns.map .int) (ns.map V.int)
  | [] => by rw [List.map_nil, List.map_nil, RepFs]
  | n :: ns => by
    rw [List.map_cons, List.map_cons, RepFs]
    exact ⟨_, _, rfl, by rw [RepF], reps_ints ns⟩
section
variable {P : Program} {w : World} {K : PySem.W.Frag} {mg mb : Str → Option Value} {k : Nat} {fa a : Addr} {fd : FuncData} {x : Str} {d : FnD} {s : Shared} {vs : List Value} {ns : List Int}
theorem lawG_at {H : Hp} (KX : K.In s.heap) (hns : s.heap.Ns mainGlobals mg) (hb : s.heap.Ns builtinsNs mb) (hbb : ∀ x : Str, x ≠ "__name__" → mb x = bootBuiltins x) (hlim : s.heap.NoLimit) (hg : s.gens = #[])
    (ha : s.heap.get? a = some { cls := .type "list", data := .seq vs.toArray }) (hr : Room k callerA)
    (F : ∀ base : Heap, K.In base → base.Ns mainGlobals mg → FnG P w K mg base C8.CX0 k fa fd [x] (spI P w K 1 d)) (hbind : ∀ (s : Shared) (u : Value), BindsTo s fd ⟨[u], []⟩ [(x, u)])
    (hlaw : LawD d ns) (hO : Only H) (hS : SqL K H a (ns.map V.int)) (hok : HOk P w H s.heap) (hA : ∀ b, H b ≠ none → b = a) (hK : H a ≠ none → K.lookup a = none) :
    codeAny (model P w) callerA (.call (.ref fa) ⟨[.ref a], []⟩) (fun r t => r = .ok (.ret (.bool true)) ∧ OldK s.heap t.heap ∧ t.os = s.os ∧ AllBare t.gens) s := by
  have only : ∀ {b : Addr} {u : HO}, H b = some u → b = a := fun {b u} q => hA b (by rw [q]; simp)
  have under : ∀ {b : Addr} {o : Obj}, s.heap.get? b = some o → H b = none → (hidT s.heap H).get? b = some o := fun q n => hidT_get q n
  have dictFree : ∀ {b : Addr} {o : Obj} {es : Array DictEntry} {ep : Nat}, s.heap.get? b = some o → o.data = .dict es ep → H b = none := fun {b o es ep} q dd => by
    cases hq : H b with
    | none => rfl
    | some u =>
      obtain rfl := only hq
      rw [ha] at q
      cases q
      cases (show Data.seq vs.toArray _ = Data.dict es ep from dd)
  have nsU : ∀ {b : Addr} {m : Str → Option Value}, s.heap.Ns b m → (hidT s.heap H).Ns b m := fun {b m} ⟨o, es, ep, q, dd, r⟩ => ⟨o, es, ep, under q (dictFree q dd), dd, r⟩
  have kU : K.In (hidT s.heap H) := fun b o q => under (KX b o q) (by
    cases hq : H b with
    | none => rfl
    | some u =>
      obtain rfl := only hq
      rw [hK (by rw [hq]; simp)] at q
      cases q)
  have modU : Mod K mg (hidT s.heap H) := ⟨kU, nsU hns, ⟨mb, nsU hb, hbb⟩, let ⟨mc, l1, l2⟩ := hlim; ⟨mc, nsU l1, l2⟩⟩
  have e0 : Env0 P w K mg (hidT s.heap H) callerA [] s H := ⟨rfl, modU, fun b o q => of_hidT q, Nat.le_of_eq (hidT_size _ _), trivial, fun b hb => (by cases hb), hok, .of_eq hg⟩
  obtain ⟨as, hd⟩ := hlaw
  have rel : Rel P w K [.val (.frl (ns.map .int))] [] [some (.ref a)] [] H H (fun _ => none) := by
    refine ⟨Same.refl H, fun a p q => (by cases q), fun a p q => (by cases q), rfl, fun i e he hu => ?_, rfl, fun i e u he => (by simp at he), fun a b q h => (by cases h), fun i u j q he => (by simp at he)⟩
    cases i with
    | succ i => simp at he
    | zero =>
      cases Option.some.inj he
      refine ⟨.ref a, rfl, ?_⟩
      refine RepO.ofF ?_
      rw [RepF]
      exact ⟨a, _, rfl, hS, reps_ints ns⟩
  have spec : spI P w K 1 d [.ref a] H (fun v _ => v = .bl true) fun _ _ _ => False := by
    refine ⟨rfl, [.frl (ns.map .int)], H, fun _ => none, rel, _, as, hd, fun v F' H' L' k' R' => ?_⟩
    have := R'.tmp 0 _ v rfl rfl
    exact this
  refine codeAny_mono ((F _ kU (nsU hns)).run callerA [] s H ⟨[.ref a], []⟩ [.ref a] [.ref a] _ _ hr rfl e0 (hbind s (.ref a)) (.cons rfl .nil) spec) fun r t h => ?_
  match r, h with
  | .ok (.ret u), ⟨v, H', os, bare, un, hok', r', q⟩ =>
    obtain rfl : v = .bl true := q
    obtain rfl : u = Value.bool true := r'
    refine ⟨rfl, OldK.of_keep fun b o ho => ?_, os, bare⟩
    cases hq : H b with
    | none => exact un.keep b o ho hq (by intro z; cases z) (by simp)
    | some u =>
      rcases hO b with z | ⟨ob, xs, z⟩
      · rw [hq] at z; cases z
      · obtain ⟨g1, _⟩ := hok b _ z
        obtain ⟨g2, _⟩ := hok' b _ (un.frzs b ob _ z)
        rw [ho] at g1
        cases g1
        exact g2
theorem lawG (KX : K.In s.heap) (hns : s.heap.Ns mainGlobals mg) (hb : s.heap.Ns builtinsNs mb) (hbb : ∀ x : Str, x ≠ "__name__" → mb x = bootBuiltins x) (hlim : s.heap.NoLimit) (hg : s.gens = #[])
    (ha : s.heap.get? a = some { cls := .type "list", data := .seq vs.toArray }) (hi : IntsAre vs ns) (hl : ns.length ≤ sizeLine) (hr : Room k callerA)
    (F : ∀ base : Heap, K.In base → base.Ns mainGlobals mg → FnG P w K mg base C8.CX0 k fa fd [x] (spI P w K 1 d)) (hbind : ∀ (s : Shared) (u : Value), BindsTo s fd ⟨[u], []⟩ [(x, u)]) (hlaw : LawD d ns) :
    codeAny (model P w) callerA (.call (.ref fa) ⟨[.ref a], []⟩) (fun r t => r = .ok (.ret (.bool true)) ∧ OldK s.heap t.heap ∧ t.os = s.os ∧ AllBare t.gens) s := by
  have rv : Vals (ns.map V.int) vs := vals_ints hi
  cases hk : K.lookup a with
  | some o =>
    have q := KX a o hk
    rw [ha] at q
    cases q
    exact lawG_at (H := fun _ => none) KX hns hb hbb hlim hg ha hr F hbind hlaw (fun _ => .inl rfl) (.inr ⟨_, vs.toArray, _, hk, rfl, rfl, rfl, by rw [List.size_toArray, hi.length]; exact hl, by simpa using rv⟩) (fun b u z => by cases z) (fun b z => absurd rfl z) fun z => absurd rfl z
  | none =>
    refine lawG_at (H := fun b => if b = a then some (.frz { cls := .type "list", data := .seq vs.toArray } (.lst (ns.map V.int))) else none) KX hns hb hbb hlim hg ha hr F hbind hlaw (fun b => ?_) (.inl (.inr ⟨_, if_pos rfl⟩)) (fun b u z => ?_) (fun b z => ?_) fun _ => hk
    · by_cases q : b = a
      · exact .inr ⟨_, _, if_pos q⟩
      · exact .inl (if_neg q)
    · by_cases q : b = a
      · cases (if_pos q).symm.trans z
        subst q
        exact ⟨ha, by rw [List.length_map]; exact hl, vs, _, rv, ha⟩
      · cases (if_neg q).symm.trans z
    · by_cases q : b = a
      · exact q
      · exact absurd (if_neg q) z
end
/-- what is left where the head has been dealt with -/
theorem walkG {l : PySem.W.OpenLaw} {n k : Nat} {q : Program} {loose : List Str} {XP : (Str → Option Value) → Heap → Prop} {YP : World → Heap → Prop} {d : DefRec} {K : Params → PySem.W.Frag} {D : FnD} {x : Str}
    (hn : l.most = some n) (hn2 : n ≤ sizeLine) (hdf : d.params.defaults = []) (hr : Room k callerA) (hY : ∀ (w : World) (h : Heap), YP w h → (K w.params).In h)
    (F : ∀ (w : World) (mg : Str → Option Value) (fa : Addr) (h : Heap), (K w.params).In h → h.Ns mainGlobals mg → mg d.name = some (.ref fa) →
      ∃ fd : FuncData, (∀ (s : Shared) (u : Value), BindsTo s fd ⟨[u], []⟩ [(x, u)]) ∧ ∀ base : Heap, (K w.params).In base → base.Ns mainGlobals mg → FnG l.prog w (K w.params) mg base C8.CX0 k fa fd [x] (spI l.prog w (K w.params) 1 D))
    (hD : ∀ ns : List Int, ns.length ≤ n → LawD D ns) : PySem.W.WalkO q loose XP YP l.row.toRowW d [] (fun f vs => PySem.call f vs) := by
  refine Att.attach_call hn hdf fun w s0 s1 mg mb fa o pm cd doc a vs ns G Y ho hd hcd hmg hobj hints hlen hg => ?_
  obtain ⟨fd, hb, hF⟩ := F w mg fa _ (hY w _ Y) G.T.g hmg
  exact lawG (hY w _ Y) G.T.g G.T.b G.T.builtins G.T.nolimit hg hobj hints (Nat.le_trans hlen hn2) hr hF hb (hD ns hlen)
end Pv
namespace HT
open PySem PySem.Spec PyProof.Rows L2
section
variable {prog : Program} {w : World} {A : Around} {E : Value → Shared → Prop} {s : Shared}
theorem applied_back {sl : Addr} {vl vu vs : Value} {n : Nat} {Q : Int × Int × Nat → Shared → Prop} (hs : s.heap.IsSliceOf sl vl vu vs) (pl : IsPart vl none) (pu : IsPart vu none) (ps : IsPart vs (some (-1)))
    (h : Q ((n : Int) - 1, -1, n) s) : wpAny (model prog w) A (Builtin.Slice.sliceApplied (.ref sl) (pure (n : Int))) Q E s := by
  obtain ⟨os, hos, hcs, hds⟩ := id hs
  unfold Builtin.Slice.sliceApplied Builtin.Slice.sliceFields
  refine wpAny_bind (wpAny_bind (wpAny_field hos hds (x := vl) rfl (wpAny_bind (wpAny_field hos hds (x := vu) rfl (wpAny_bind (wpAny_field hos hds (x := vs) rfl (wpAny_pure ?_)))))))
  refine wpAny_bind (slicePart_ ps ?_)
  show wpAny _ _ (if ((-1 : Int) == 0) = true then _ else _) _ _ s
  rw [if_neg (by decide)]
  refine wpAny_bind (slicePart_ pl (wpAny_bind (slicePart_ pu (wpAny_bind (wpAny_pure ?_)))))
  have e : Builtin.Slice.sliceAdjust none none (-1) (n : Int) = ((n : Int) - 1, -1) := by simp [Builtin.Slice.sliceAdjust]
  show wpAny _ _ (match Builtin.Slice.sliceAdjust none none (-1) (n : Int) with | (lo, hi) => pure (lo, (-1 : Int), Builtin.Slice.slicePlaces lo hi (-1))) _ _ s
  rw [e]
  have e2 : Builtin.Slice.slicePlaces ((n : Int) - 1) (-1) (-1) = n := by
    unfold Builtin.Slice.slicePlaces
    have h1 : ¬ ((-1 : Int) > 0) := by decide
    simp only [h1, if_false]
    have e3 : ((-1 : Int) - ((n : Int) - 1)) = -(n : Int) := by omega
    by_cases hn : (-1 : Int) < (n : Int) - 1
    · simp [hn]
      try omega
    · simp [hn]
      try omega
  show wpAny _ _ (pure ((n : Int) - 1, (-1 : Int), Builtin.Slice.slicePlaces ((n : Int) - 1) (-1) (-1))) _ _ s
  rw [e2]
  exact wpAny_pure h
theorem fm_congr {α β : Type} {f g : α → Option β} : ∀ {l : List α}, (∀ m ∈ l, f m = g m) → l.filterMap f = l.filterMap g
  | [], _ => rfl
  | m :: l, h => by
    rw [List.filterMap_cons, List.filterMap_cons, h m (by simp), fm_congr fun k hk => h k (by simp [hk])]
theorem pick_back (xs : Array Value) : ((List.range xs.size).filterMap fun (m : Nat) => xs[(((xs.size : Int) - 1) + (m : Int) * (-1)).toNat]?).toArray = xs.toList.reverse.toArray := by
  have e : (List.range xs.size).filterMap (fun (m : Nat) => xs[(((xs.size : Int) - 1) + (m : Int) * (-1)).toNat]?) = ((List.range xs.size).map fun k => xs.size - 1 - k).filterMap (xs[·]?) := by
    rw [List.filterMap_map]
    refine fm_congr fun m hm => ?_
    have hm := List.mem_range.mp hm
    have : (((xs.size : Int) - 1) + (m : Int) * (-1)).toNat = xs.size - 1 - m := by omega
    rw [this]
    rfl
  have k := PySem.W.krv_pick xs
  unfold slicePick at k
  rw [PySem.W.krv_bounds] at k
  rw [e, ← PySem.W.krv_sliceRange]
  exact k
theorem getItem_tuple_back {t sl : Addr} {items : Array Value} {vl vu vs : Value} {Q : Value → Shared → Prop} (ht : IsTup s.heap t items) (hs : s.heap.IsSliceOf sl vl vu vs) (pl : IsPart vl none) (pu : IsPart vu none) (ps : IsPart vs (some (-1)))
    (h : Q (.ref s.heap.objs.size) { s with heap := s.heap.push { cls := .type "tuple", data := .seq items.toList.reverse.toArray } }) (hsz : items.size ≤ sizeLine) : wpAny (model prog w) A (getItem (.ref t) (.ref sl)) Q E s := by
  have fits : sizeOk (.seq items.toList.reverse.toArray) := by
    show items.toList.reverse.toArray.size ≤ sizeLine
    rw [List.size_toArray, List.length_reverse, Array.length_toList]
    exact hsz
  obtain ⟨os, hos, hcs, hds⟩ := id hs
  have isSl : s.TypeIs (.ref sl) "slice" := ⟨os, hos, hcs⟩
  unfold getItem
  try with_reducible refine wpAny_holding ?_
  first | refine wpAny_bind (wpAny_pure ?_) | skip
  refine wpAny_bind (wpAny_sequenceKey ht.typeIs (by decide) ?_)
  refine wpAny_bind (wpAny_callSpecial?_slot (name := Str.ofString "__getitem__") ht.typeIs PyProof.Rows.slot_tuple_getitem (wpAny_call_entry PyProof.Rows.slot_tuple_getitem ht.typeIs entry_tuple_getitem ?_ (args_tuple_getitem _ _)))
  show wpAny _ _ (Builtin.Tuple.tupleItemsOf (.ref t) >>= _) _ _ s
  refine wpAny_bind (tupleItemsOf_ ht (wpAny_bind (wpAny_typeOf isSl ?_)))
  rw [if_pos (by decide)]
  refine wpAny_bind (applied_back hs pl pu ps ?_)
  have hno : ¬ (((items.size : Int) - 1 == 0 && (-1 : Int) == 1 && items.size == items.size) = true) := by simp
  show wpAny _ _ (if ((items.size : Int) - 1 == 0 && (-1 : Int) == 1 && items.size == items.size) = true then _ else _) _ _ s
  rw [if_neg hno, pick_back]
  first
    | exact wpAny_bind (m := Builtin.Tuple.tupleExact _) (wpAny_newObj_type (wpAny_pure ⟨_, rfl, wpAny_pure h⟩) fits)
    | exact wpAny_bind (m := Builtin.Tuple.tupleExact _) (wpAny_newObj_type (wpAny_bind (wpAny_pure (wpAny_pure ⟨_, rfl, wpAny_pure h⟩))) fits)
    | exact wpAny_bind (wpAny_bind (m := Builtin.Tuple.tupleExact _) (wpAny_newObj_type (wpAny_pure (wpAny_pure ⟨_, rfl, wpAny_pure h⟩)) fits))
    | exact wpAny_bind (wpAny_bind (m := Builtin.Tuple.tupleExact _) (wpAny_newObj_type (wpAny_pure ⟨_, rfl, wpAny_pure h⟩) fits))
end
end HT
namespace Pv
open PySem PySem.Spec PyProof.Rows L2
section
variable {X : Cx} {W : WX} {a b c e : Expr} {da db dc : D Sl} {ds : D PEnv} {es : List Expr} {pos : Pos}
def tRevA (K : PySem.W.Frag) (te : TE) : TE := fun σ H Q => te σ H fun v H1 => ∃ (a : Addr) (xs : List V), v = .ref a ∧ ((SqL K H1 a xs ∧ ∀ p, H1 p = none → Q (.ref p) (upd H1 p (.lst xs.reverse))) ∨ (SqT K H1 a xs ∧ ∀ p, H1 p = none → Q (.ref p) (upd H1 p (.tup xs.reverse))))
theorem pe_revA {te : TE} {k : Nat} {p1 p2 p3 : Pos} (he : PE X e te) : PE X (.Subscript e (.Slice none none (some (.UnaryOp .USub (.Constant (.int 1) k p1) p2)) p3) pos) (tRevA X.K te) := by
  refine ⟨fun pins s σ H Q I h => Subscript_ (thn (he.run pins s σ H _ I h) fun v s1 ⟨x, H1, I1, r1, a, xs, ex, q⟩ => ?_)⟩
  subst ex
  cases r1
  have part : PO X (some (.UnaryOp .USub (.Constant (.int 1) k p1) p2)) (tPart (tUn (rU fun i => .int (-i)) (tC (.int 1)))) := po_some (pe_un un_neg pe_int)
  refine wpAny_Slice (thn (po_none.run pins s1 σ H1 (fun o H2 => o = none ∧ H2 = H1) I1 ⟨rfl, rfl⟩) fun vl s2 ⟨l, H2, I2, pl, el, e2⟩ => ?_)
  obtain rfl := el
  obtain rfl := e2
  refine thn (po_none.run pins s2 σ H2 (fun o H3 => o = none ∧ H3 = H2) I2 ⟨rfl, rfl⟩) fun vu s3 ⟨u, H3, I3, pu, eu, e3⟩ => ?_
  obtain rfl := eu
  obtain rfl := e3
  refine thn (part.run pins s3 σ H3 (fun o H4 => o = some (-1) ∧ H4 = H3) I3 ⟨1, rfl, -1, rfl, rfl, rfl⟩) fun vs s4 ⟨o, H4, I4, ps, eo, e4⟩ => ?_
  obtain rfl := eo
  obtain rfl := e4
  have I5 : Inv X pins σ H4 { s4 with heap := s4.heap.push { cls := .type "slice", data := .fields #[vl, vu, vs] } } := I4.kept (t' := s4.toks) fun _ _ q => Heap.get?_push_of_some _ q
  show wpAny (model X.prog X.w) X.A (subscriptTail e (.Slice none none (some (.UnaryOp .USub (.Constant (.int 1) k p1) p2)) p3) (.ref a) (.ref s4.heap.objs.size)) (EP X pins σ Q) X.xe { s4 with heap := s4.heap.push { cls := .type "slice", data := .fields #[vl, vu, vs] } }
  rcases q with ⟨hx, q⟩ | ⟨hx, q⟩
  · obtain ⟨its, r, ht, hz⟩ := I5.list hx
    refine tail_any (ops := [.ref a, .ref s4.heap.objs.size]) ht.isList.typeIs (PySem.slot_list_getitem.lookup) (wpAny_getItem_list_slice ht.isList (Heap.IsSliceOf.new _ vl vu vs) pl pu ps (by decide) ?_ (by rw [List.size_toArray, ← r.length]; exact hz)) (by with_unfolding_all rfl)
    rw [PySem.W.krv_pick]
    refine ⟨.ref _, _, I5.laid (t' := s4.toks) (o := .lst xs.reverse) (fun _ _ q => Heap.get?_push_of_some _ q) (Nat.le_refl _) ⟨by rw [List.length_reverse]; exact hz, _, 0, r.reverse, Heap.get?_push_size _ rfl⟩, rfl, q _ (I5.hok.fresh (Nat.le_refl _))⟩
  · obtain ⟨its, r, ht, hz⟩ := I5.tuple hx
    refine tail_any (ops := [.ref a, .ref s4.heap.objs.size]) ht.typeIs (PyProof.Rows.slot_tuple_getitem.lookup) (HT.getItem_tuple_back ht (Heap.IsSliceOf.new _ vl vu vs) pl pu ps ?_ (by rw [List.size_toArray, ← r.length]; exact hz)) (by with_unfolding_all rfl)
    refine ⟨.ref _, _, I5.laid (t' := s4.toks) (o := .tup xs.reverse) (fun _ _ q => Heap.get?_push_of_some _ q) (Nat.le_refl _) ⟨by rw [List.length_reverse]; exact hz, _, r.reverse, IsTup.new _ _⟩, rfl, q _ (I5.hok.fresh (Nat.le_refl _))⟩
theorem ev_rev {k : Nat} {p1 p2 p3 : Pos} (ha : EV X W a da) : EV X W (.Subscript a (.Slice none none (some (.UnaryOp .USub (.Constant (.int 1) k p1) p2)) p3) pos) (dbind da drev) :=
  PEimp (pe_revA ha) fun σ H Q q => (tE.bind (es := []) (xs := []) q).mono fun v H1 ⟨en, env, tm, τ, F, L, hl, R, q⟩ => by
    rw [List.nil_append, List.nil_append] at R
    unfold drev at q
    cases e1 : cont env en with
    | none => rw [e1] at q; exact q.elim
    | some pv =>
      rw [e1] at q
      obtain ⟨p0, rp⟩ := R.top.rep e1
      cases pv with
      | lst o xs =>
        dsimp only at q
        by_cases hz : PV.fzs xs = true
        · rw [if_pos hz] at q
          obtain ⟨ad, vs, rfl, hp, hlen, rr⟩ := RepO.asL R.fle rp
          exact ⟨ad, vs, rfl, .inl ⟨SqL.of hp, fun p hn => q [.ref p] F _ _ rfl (Same.refl F) (R.pop.newL hn (rr hz).rev) _ rfl⟩⟩
        · rw [if_neg hz] at q; exact q.elim
      | tup xs =>
        dsimp only at q
        obtain ⟨ad, vs, rfl, hp, rr, _⟩ := RepO.asT R.fle rp
        refine ⟨ad, vs, rfl, .inr ⟨hp, fun p hn => ?_⟩⟩
        obtain ⟨R2, k2⟩ := R.pop.newT hn rr.rev
        exact q [.ref p] _ _ _ rfl k2 R2 _ rfl
      | _ => exact q.elim
end
end Pv
namespace Pv
open PySem PySem.Spec PyProof.Rows L2

/-! ### a list of the frame's own is changed -/
section
variable {P : Program} {w : World} {K : PySem.W.Frag} {F F' H H' : Hp} {L L' : Lab} {env env' tm tm' : PEnv} {σ σ' : L2.St} {τ τ' : List V}
theorem Rel.mutL {j : Nat} {p : Path} {xs ys : List PV} {v : V} {us : List V} (R : Rel P w K env tm σ τ F H L) (hlk : look env j p = some (.lst true xs)) (hv : RepO P w K F H L (2 * j :: p) (.lst true xs) v) (hz : PV.fzs ys = true) (hr : RepFs P w K F ys us) :
    ∃ l vs, v = .ref l ∧ H l = some (.lst vs) ∧ xs.length = vs.length ∧ (PV.fzs xs = true → RepFs P w K F xs vs) ∧ Rel P w K (putE env j p (.lst true ys)) tm σ τ F (upd H l (.lst us)) L := by
  rw [RepO] at hv
  obtain ⟨l, vs, rfl, hL, hH, kids⟩ := hv
  refine ⟨l, vs, rfl, hH, kids.length, fun z => RepOs.toF z kids, ?_⟩
  obtain ⟨pv, e1, e2, e3⟩ := look_some hlk
  have fl : F l = none := R.lf l _ hL
  refine R.mut e1 e2 e3 (Same.refl F) (fun b o e => ?_) R.lf (fun a q e => ?_) (fun u hu => ?_) (fun a s l' hp => ⟨l', upd_ne fun z => ?_⟩) R.inj fun i q hm => ?_
  · rw [upd_ne (ne_of_none e fl)]; exact R.fle b o e
  · by_cases ha : a = l
    · subst ha; exact ⟨_, upd_same⟩
    · rw [upd_ne ha]; exact R.lh a q e
  · rw [RepO] at hu ⊢
    obtain ⟨a, ws, rfl, la, ha, _⟩ := hu
    obtain rfl := R.inj a l _ la hL
    exact ⟨a, us, rfl, la, upd_same, RepOs.ofF hr⟩
  · subst z
    rw [hL] at l'
    cases l'
    exact hp (List.prefix_refl _)
  · by_cases hc : i = j ∧ p <+: q ∧ p ≠ q
    · refine .inr fun x hx => ?_
      obtain ⟨rfl, ⟨r, rfl⟩, hne⟩ := hc
      obtain ⟨y, f1, f2, f3⟩ := look_some hx
      rw [putE_get e1] at f1
      cases f1
      rw [at_append] at f2
      have h0 := put_at p [] pv (.lst true ys) ⟨_, by rw [List.append_nil]; exact e2⟩
      rw [List.append_nil] at h0
      rw [h0, e2] at f2
      cases r with
      | nil => exact hne (by simp)
      | cons c r =>
        have h1 : (PV.lst true ys).at (c :: r) = some x := f2
        rw [flat_at (a := .lst true ys) hz h1] at f3
        cases f3
    · exact .inl hc
end

/-! ### methods of lists -/
def dlk (a : Sl) : D Unit := dget fun env => match a with
  | .al j p => match look env j p with
    | some (.lst true _) => some ()
    | _ => none
  | _ => none
def dmethE (g : List PV → List PV → Option (List PV × PV)) (a : Sl) (es : PEnv) : D Sl := fun env => match frzEs env es with
  | some (ps, env1) => match a with
    | .al j p => match look env1 j p with
      | some (.lst true xs) => if PV.fzs xs = true then match g xs ps with
          | some (ys, r) => if PV.fzs ys = true then .ok (.val r) (putE env1 j p (.lst true ys)) else .no
          | none => .no
        else .no
      | _ => .no
    | _ => .no
  | none => .no
def dmeth (g : List PV → List PV → Option (List PV × PV)) (o : D Sl) (ds : D PEnv) : D Sl := dbind o fun a => dbind (dlk a) fun _ => dbind ds (dmethE g a)
/-- a method of lists does g -/
def MetL (P : Program) (w : World) (K : PySem.W.Frag) (rd : V → List V → Hp → VK → Prop) (g : List PV → List PV → Option (List PV × PV)) : Prop :=
  ∀ (F H : Hp) (l : Addr) (vs us : List V) (xs ps ys : List PV) (r : PV) (Q : VK), Same F H → H l = some (.lst vs) → RepFs P w K F xs vs → RepFs P w K F ps us → g xs ps = some (ys, r) →
    ∃ ws v, RepFs P w K F ys ws ∧ RepF P w K F r v ∧ (Q v (upd H l (.lst ws)) → rd (.ref l) us H Q)
def gAppend (xs ps : List PV) : Option (List PV × PV) := match ps with
  | [p] => if xs.length < 1000000 then some (xs ++ [p], .non) else none
  | _ => none
def gExtend (xs ps : List PV) : Option (List PV × PV) := match ps with
  | [.lst _ zs] => if xs.length + zs.length < 1000000 then some (xs ++ zs, .non) else none
  | _ => none
def gPop (xs ps : List PV) : Option (List PV × PV) := match ps with
  | [] => match xs[xs.length - 1]? with
    | some y => some (xs.dropLast, y)
    | none => none
  | _ => none
def gPopAt (xs ps : List PV) : Option (List PV × PV) := match ps with
  | [.int i] => if -(2 ^ 63) ≤ i ∧ i < 2 ^ 63 then match seqIndex? i xs.length with
      | some k => match xs[k]? with
        | some y => some (xs.eraseIdx k, y)
        | none => none
      | none => none
    else none
  | _ => none
def gInsert (xs ps : List PV) : Option (List PV × PV) := match ps with
  | [.int i, p] => if 0 ≤ i ∧ i < 2 ^ 63 ∧ xs.length < 1000000 then some (xs.take i.toNat ++ [p] ++ xs.drop i.toNat, .non) else none
  | _ => none
section
variable {P : Program} {w : World} {K : PySem.W.Frag} {F H : Hp}
theorem RepFs.one {p : PV} {us : List V} (h : RepFs P w K F [p] us) : ∃ u, us = [u] ∧ RepF P w K F p u := by
  rw [RepFs] at h
  obtain ⟨v, r, rfl, h1, h2⟩ := h
  rw [RepFs] at h2
  subst h2
  exact ⟨v, rfl, h1⟩
theorem RepFs.two {p q : PV} {us : List V} (h : RepFs P w K F [p, q] us) : ∃ u v, us = [u, v] ∧ RepF P w K F p u ∧ RepF P w K F q v := by
  rw [RepFs] at h
  obtain ⟨v, r, rfl, h1, h2⟩ := h
  obtain ⟨u, rfl, h3⟩ := h2.one
  exact ⟨v, u, rfl, h1, h3⟩
theorem RepFs.take {xs : List PV} {vs : List V} (h : RepFs P w K F xs vs) (n : Nat) : RepFs P w K F (xs.take n) (vs.take n) := by
  refine RepFs.of (by rw [List.length_take, List.length_take, h.length]) fun i x v hx hv => ?_
  rw [List.getElem?_take] at hx hv
  split at hx
  · rename_i hi
    rw [if_pos hi] at hv
    obtain ⟨u, e1, e2⟩ := h.get hx
    rw [hv] at e1
    cases e1
    exact e2
  · cases hx
theorem RepFs.drop {xs : List PV} {vs : List V} (h : RepFs P w K F xs vs) (n : Nat) : RepFs P w K F (xs.drop n) (vs.drop n) := by
  refine RepFs.of (by rw [List.length_drop, List.length_drop, h.length]) fun i x v hx hv => ?_
  rw [List.getElem?_drop] at hx hv
  obtain ⟨u, e1, e2⟩ := h.get hx
  rw [hv] at e1
  cases e1
  exact e2
theorem RepFs.set {xs : List PV} {vs : List V} {p : PV} {v : V} (h : RepFs P w K F xs vs) (h2 : RepF P w K F p v) (n : Nat) : RepFs P w K F (xs.set n p) (vs.set n v) := by
  refine RepFs.of (by rw [List.length_set, List.length_set, h.length]) fun i x u hx hu => ?_
  rcases getElem?_set_cases hx with ⟨rfl, rfl, hl⟩ | ⟨hne, hx⟩
  · rw [List.getElem?_set_self (by rw [← h.length]; exact hl)] at hu
    cases hu
    exact h2
  · rw [List.getElem?_set_ne hne] at hu
    obtain ⟨u', e1, e2⟩ := h.get hx
    rw [hu] at e1
    cases e1
    exact e2
theorem met_append : MetL P w K rAppend gAppend := fun F H l vs us xs ps ys r Q k hH hx hp h => by
  have hz : (16777216 : Nat) = sizeLine := sl24
  match ps, h with
  | [p], h =>
    unfold gAppend at h
    dsimp only at h
    by_cases hl : xs.length < 1000000
    · rw [if_pos hl] at h
      cases h
      obtain ⟨u, rfl, hu⟩ := hp.one
      refine ⟨vs ++ [u], .non, hx.append (by rw [RepFs]; exact ⟨u, [], rfl, hu, by rw [RepFs]⟩), by rw [RepF], fun q => ⟨l, vs, u, rfl, rfl, hH, by rw [← hx.length, ← hz]; omega, q⟩⟩
    · rw [if_neg hl] at h; cases h
  | [], h => cases h
  | _ :: _ :: _, h => cases h
theorem met_extend : MetL P w K rExtend gExtend := fun F H l vs us xs ps ys r Q k hH hx hp h => by
  have hz : (16777216 : Nat) = sizeLine := sl24
  match ps, h with
  | [.lst o zs], h =>
    unfold gExtend at h
    dsimp only at h
    by_cases hl : xs.length + zs.length < 1000000
    · rw [if_pos hl] at h
      cases h
      obtain ⟨u, rfl, hu⟩ := hp.one
      rw [RepF] at hu
      obtain ⟨_, b, ws, rfl, hb, hzs⟩ := hu
      exact ⟨vs ++ ws, .non, hx.append hzs, by rw [RepF], fun q => ⟨l, b, vs, ws, rfl, rfl, hH, k _ _ hb, by rw [← hx.length, ← hzs.length, ← hz]; omega, q⟩⟩
    · rw [if_neg hl] at h; cases h
  | [], h => cases h
  | _ :: _ :: _, h => simp [gExtend] at h
  | [.non], h | [.bl _], h | [.int _], h | [.str _], h | [.ref _], h | [.ty _], h | [.tup _], h | [.frl _], h | [.dct _ _ _], h => cases h
theorem met_pop : MetL P w K rPop gPop := fun F H l vs us xs ps ys r Q k hH hx hp h => by
  match ps, h with
  | _ :: _, h => cases h
  | [], h =>
    unfold gPop at h
    dsimp only at h
    cases e : xs[xs.length - 1]? with
    | none => rw [e] at h; cases h
    | some y =>
      rw [e] at h
      cases h
      rw [RepFs] at hp
      subst hp
      obtain ⟨u, hu, hr⟩ := hx.get e
      refine ⟨vs.dropLast, u, ?_, hr, fun q => ⟨l, vs, u, rfl, rfl, hH, by rw [← hx.length]; exact hu, q⟩⟩
      rw [List.dropLast_eq_take, List.dropLast_eq_take, ← hx.length]
      exact hx.take _
theorem met_popAt : MetL P w K rPopAt gPopAt := fun F H l vs us xs ps ys r Q k hH hx hp h => by
  match ps, h with
  | [.int i], h =>
    unfold gPopAt at h
    dsimp only at h
    by_cases hb : -(2 ^ 63) ≤ i ∧ i < 2 ^ 63
    · rw [if_pos hb] at h
      cases e : seqIndex? i xs.length with
      | none => rw [e] at h; cases h
      | some n =>
        rw [e] at h
        dsimp only at h
        cases e2 : xs[n]? with
        | none => rw [e2] at h; cases h
        | some y =>
          rw [e2] at h
          cases h
          obtain ⟨u, rfl, hu⟩ := hp.one
          rw [RepF] at hu
          subst hu
          obtain ⟨u, hu, hr⟩ := hx.get e2
          refine ⟨vs.eraseIdx n, u, ?_, hr, fun q => ⟨l, vs, i, n, u, rfl, rfl, hH, hb.1, hb.2, by rw [← hx.length]; exact e, hu, q⟩⟩
          rw [List.eraseIdx_eq_take_drop_succ, List.eraseIdx_eq_take_drop_succ]
          exact (hx.take _).append (hx.drop _)
    · rw [if_neg hb] at h; cases h
  | [], h => cases h
  | _ :: _ :: _, h => simp [gPopAt] at h
  | [.non], h | [.bl _], h | [.lst _ _], h | [.str _], h | [.ref _], h | [.ty _], h | [.tup _], h | [.frl _], h | [.dct _ _ _], h => cases h
end
section
variable {X : Cx} {W : WX} {fi : List Nat} {σ0 : L2.St} {o e : Expr} {es : List Expr} {dO dI da db : D Sl} {ds : D PEnv} {name : Str} {apos cpos pos : Pos} {id : String} {rd : V → List V → Hp → VK → Prop} {g : List PV → List PV → Option (List PV × PV)}
theorem meth_imp {σ : L2.St} {H : Hp} {Q : VK} (hm : MetL X.prog X.w X.K rd g) (h : tE X.prog X.w X.K W (dmeth g dO ds) σ H Q) :
    tE X.prog X.w X.K W dO σ H fun x H1 => tyV X.K "list" x H1 ∧ tAr X.prog X.w X.K W ds σ H1 fun xs H2 => rd x xs H2 Q :=
  (tE.bind (es := []) (xs := []) h).mono fun v H1 ⟨a, q⟩ => by
    obtain ⟨env, tm, τ, F, L, _, hl, R, hc, q2⟩ := q.get
    rw [List.nil_append, List.nil_append] at R
    cases a with
    | un => cases hc
    | val _ => cases hc
    | al j p =>
      dsimp only at hc
      cases e1 : look env j p with
      | none => rw [e1] at hc; cases hc
      | some x =>
        rw [e1] at hc
        have hx : ∃ xs, x = .lst true xs := by
          cases x with
          | lst ow xs =>
            cases ow with
            | true => exact ⟨xs, rfl⟩
            | false => cases hc
          | _ => cases hc
        obtain ⟨xs, rfl⟩ := hx
        have hr := R.top _ e1
        rw [RepO] at hr
        obtain ⟨l, vs, rfl, _, hH, _⟩ := hr
        refine ⟨.inl ⟨rfl, vs, SqL.of hH⟩, (tAr.bind q2).mono fun us H2 ⟨en, q3⟩ => ?_⟩
        obtain ⟨env2, tm2, τ2, F2, L2, hl2, R2, q3⟩ := q3
        rw [List.nil_append, List.nil_append] at R2 hl2
        have hlen : en.length = us.length := by simpa using hl2
        have R2' : Rel X.prog X.w X.K env2 ((tm2 ++ [Sl.al j p]) ++ en) σ ((τ2 ++ [V.ref l]) ++ us) F2 H2 L2 := by simpa using R2
        unfold dmethE at q3
        cases e3 : frzEs env2 en with
        | none => rw [e3] at q3; exact q3.elim
        | some r3 =>
          obtain ⟨ps, env3⟩ := r3
          rw [e3] at q3
          dsimp only at q3
          obtain ⟨F3, L3, k3, R3, RF⟩ := R2'.frzAll (R2'.popN hlen).tlen e3
          have R4 := R3.popN (by rw [List.length_map]; exact RF.length)
          cases e4 : look env3 j p with
          | none => rw [e4] at q3; exact q3.elim
          | some x =>
            rw [e4] at q3
            cases x with
            | lst ow xs2 =>
              cases ow with
              | false => exact q3.elim
              | true =>
                dsimp only at q3
                by_cases hz : PV.fzs xs2 = true
                · rw [if_pos hz] at q3
                  cases e5 : g xs2 ps with
                  | none => rw [e5] at q3; exact q3.elim
                  | some r5 =>
                    obtain ⟨ys, r⟩ := r5
                    rw [e5] at q3
                    dsimp only at q3
                    by_cases hy : PV.fzs ys = true
                    · rw [if_pos hy] at q3
                      have hr4 := R4.top _ e4
                      have hv := hr4
                      rw [RepO] at hv
                      obtain ⟨l', vs2, el, _, hH2, kids⟩ := hv
                      cases el
                      obtain ⟨ws, rv, h1, h2, h3⟩ := hm F3 H2 l vs2 us xs2 ps ys r Q R4.fle hH2 (RepOs.toF hz kids) RF e5
                      obtain ⟨l2, vs3, el2, _, _, _, R5⟩ := R4.pop.mutL e4 hr4 hy h1
                      cases el2
                      exact h3 (q3 [rv] F3 _ L3 rfl k3 (R5.pushF h2) rv rfl)
                    · rw [if_neg hy] at q3; exact q3.elim
                · rw [if_neg hz] at q3; exact q3.elim
            | _ => exact q3.elim
theorem ev_meth (pa : PlainAttrs "list") (slot : Slot "list" name id) (hty : typeOf (.builtin id) = pure (.type "method_descriptor")) (hr : MtR X id rd) (hm : MetL X.prog X.w X.K rd g) (ho : EV X W o dO) (ha : AV X W (e :: es) ds)
    (hbase : attributeBase o name X.env (eval o X.env) = eval o X.env := by rfl)
    (hfew : ((backTo cpos (starEach (e :: es) X.env)).all (fun x => !x.1) && (backToKw cpos (keywordEach [] X.env)).all (fun x => x.1.isSome)
      && decide ((e :: es).length + ([] : List Keyword).length + (if ([] : List Keyword).isEmpty then 0 else 1) < 30)) = true := by rfl)
    (hline : (apos.endLine == cpos.line) = true := by rfl) (hs : starEach (e :: es) X.env = (false, eval e X.env) :: starEach es X.env := by rfl) (hplain : (backTo cpos (starEach es X.env)).any (·.1) = false := by rfl) :
    EV X W (.Call (.Attribute o name apos) (e :: es) [] cpos) (dmeth g dO ds) :=
  PEimp (pe_bm pa slot hty hr ho ha hbase hfew hline hs hplain) fun σ H Q h => meth_imp hm h
theorem ev_append (ho : EV X W o dO) (ha : AV X W [e] ds) (hbase : attributeBase o "append" X.env (eval o X.env) = eval o X.env := by rfl)
    (hfew : ((backTo cpos (starEach [e] X.env)).all (fun x => !x.1) && (backToKw cpos (keywordEach [] X.env)).all (fun x => x.1.isSome) && decide ([e].length + ([] : List Keyword).length + (if ([] : List Keyword).isEmpty then 0 else 1) < 30)) = true := by rfl)
    (hline : (apos.endLine == cpos.line) = true := by rfl) (hs : starEach [e] X.env = (false, eval e X.env) :: starEach [] X.env := by rfl) (hplain : (backTo cpos (starEach [] X.env)).any (·.1) = false := by rfl) :
    EV X W (.Call (.Attribute o "append" apos) [e] [] cpos) (dmeth gAppend dO ds) := ev_meth PySem.F.plainAttrs_list PySem.F.slot_list_append PySem.F.type_list_append mt_append met_append ho ha hbase hfew hline hs hplain
theorem ev_extend (ho : EV X W o dO) (ha : AV X W [e] ds) (hbase : attributeBase o "extend" X.env (eval o X.env) = eval o X.env := by rfl)
    (hfew : ((backTo cpos (starEach [e] X.env)).all (fun x => !x.1) && (backToKw cpos (keywordEach [] X.env)).all (fun x => x.1.isSome) && decide ([e].length + ([] : List Keyword).length + (if ([] : List Keyword).isEmpty then 0 else 1) < 30)) = true := by rfl)
    (hline : (apos.endLine == cpos.line) = true := by rfl) (hs : starEach [e] X.env = (false, eval e X.env) :: starEach [] X.env := by rfl) (hplain : (backTo cpos (starEach [] X.env)).any (·.1) = false := by rfl) :
    EV X W (.Call (.Attribute o "extend" apos) [e] [] cpos) (dmeth gExtend dO ds) := ev_meth PySem.F.plainAttrs_list PySem.F.slot_list_extend PySem.F.type_list_extend mt_extend met_extend ho ha hbase hfew hline hs hplain
theorem ev_popAt (ho : EV X W o dO) (ha : AV X W [e] ds) (hbase : attributeBase o "pop" X.env (eval o X.env) = eval o X.env := by rfl)
    (hfew : ((backTo cpos (starEach [e] X.env)).all (fun x => !x.1) && (backToKw cpos (keywordEach [] X.env)).all (fun x => x.1.isSome) && decide ([e].length + ([] : List Keyword).length + (if ([] : List Keyword).isEmpty then 0 else 1) < 30)) = true := by rfl)
    (hline : (apos.endLine == cpos.line) = true := by rfl) (hs : starEach [e] X.env = (false, eval e X.env) :: starEach [] X.env := by rfl) (hplain : (backTo cpos (starEach [] X.env)).any (·.1) = false := by rfl) :
    EV X W (.Call (.Attribute o "pop" apos) [e] [] cpos) (dmeth gPopAt dO ds) := ev_meth PySem.F.plainAttrs_list PySem.F.slot_list_pop PySem.F.type_list_pop mt_popAt met_popAt ho ha hbase hfew hline hs hplain

end
end Pv
namespace Pv
open PySem PySem.Spec PyProof.Rows L2

section
variable {X : Cx} {W : WX} {fi : List Nat} {σ0 : L2.St} {a b c e iter tg elt : Expr} {es : List Expr} {ds : D PEnv} {da db dc : D Sl} {sa sb : D Fl} {ta : D Bool} {st : Stmt} {rest : List Stmt} {pos : Pos}
/-- x, y, z = a, b, c as the model swaps stores -/
theorem sv_par3 {i j l : Nat} {x y z : Str} {px py pz pt : Pos} {kt k2 pt2} (G : Good X) (hi : X.N[i]? = some x) (hj : X.N[j]? = some y) (hl : X.N[l]? = some z) (hij : i ≠ j) (hil : i ≠ l) (hjl : j ≠ l) (hfi : i ∉ fi) (hfj : j ∉ fi) (hfl : l ∉ fi)
    (hx : X.env.scope.names.lookup x = some .local) (hy : X.env.scope.names.lookup y = some .local) (hz : X.env.scope.names.lookup z = some .local) (ha : AV X W [a, b, c] ds)
    (hw : swappedStores [.Tuple [.Name x px, .Name y py, .Name z pz] kt pt] (.Tuple [a, b, c] k2 pt2) X.env = pure (some [x, y, z]))
    (hs : swapsWithSole [.Tuple [.Name x px, .Name y py, .Name z pz] kt pt] (.Tuple [a, b, c] k2 pt2) pos.line X.env = pure false := by rfl) :
    SV X W fi σ0 (.Assign [.Tuple [.Name x px, .Name y py, .Name z pz] kt pt] (.Tuple [a, b, c] k2 pt2) pos) (dpars [i, j, l] ds) := by
  refine ⟨fun pins s σ H Dn I h => (ps_par3 (pos := pos) G.calm G.nd hi hj hl hij hil hjl hx hy hz ha hw hs).run pins s σ H Dn I ?_⟩
  have len : ∀ {k : Nat} {u : Str}, X.N[k]? = some u → k < σ.length := fun {k u} hk => by rw [I.len]; exact (List.getElem?_eq_some_iff.mp hk).1
  exact (tS.args h).mono fun vs H1 ⟨es, env, tm, τ, F, L, hle, R, fx, q⟩ => by
    have h3 : vs.length = 3 := by
      unfold dparsE at q
      cases e1 : unalEs env es with
      | none => rw [e1] at q; exact q.elim
      | some r =>
        obtain ⟨ps, env1⟩ := r
        rw [e1] at q
        dsimp only at q
        obtain ⟨F1, L1, k1, R1⟩ := R.unalAll (R.popN hle).tlen e1
        have hlp : ps.length = vs.length := by
          have h1 := R1.tlen
          have h2 := (R.popN hle).tlen
          simp at h1 h2
          omega
        match ps, q with
        | [], q => exact q.elim
        | [_], q => exact q.elim
        | [_, _], q => exact q.elim
        | [_, _, _], _ => exact hlp.symm
        | _ :: _ :: _ :: _ :: _, q => exact q.elim
    match vs, h3 with
    | [v1, v2, v3], _ => exact ⟨v1, v2, v3, rfl, pars_imp hle R fx (by simp [len hi, len hj, len hl]) (by simp [hfi, hfj, hfl]) q⟩
/-- x = [.. for ..] on one line, x a plain local -/
theorem sv_setLc {i : Nat} {y : Str} {py spos : Pos} {ifs : List Expr} {scope : Scope} {own : List (Str × Nat)} {di : D (List PV)} {tt : D Bool} {te : D Sl} {t : Tg} {fb : List Nat} (G : Good X) (hy : X.N[i]? = some y) (hyl : X.env.scope.names.lookup y = some .local) (hf : i ∉ fi)
    (hsw : swapsWith (.ListComp elt [⟨tg, iter, ifs, 0⟩] scope pos) (some (.Name y py)) spos.line X.env = pure true) (hi : IV X W tg iter di) (ok : BlkOk X.N X.env.scope scope own) (hfi : ∀ i, i < X.N.length → i ∉ own.map (·.2) → i ∈ fb)
    (hg : ∀ (s : Shared) (H : Hp) (C : Addr) (cl : List (Str × Addr)) (fp : List Addr) (σ0 : L2.St), GV (X.blk s H scope (compEnvC scope cl C X.env) fp) fb σ0 tg t)
    (ht : ∀ (s : Shared) (H : Hp) (C : Addr) (cl : List (Str × Addr)) (fp : List Addr), PtsV (X.blk s H scope (compEnvC scope cl C X.env) fp) ifs tt)
    (he : ∀ (s : Shared) (H : Hp) (C : Addr) (cl : List (Str × Addr)) (fp : List Addr), EV (X.blk s H scope (compEnvC scope cl C X.env) fp) noW elt te) (hs : ∀ x, foldedSetIterable iter X.env x = pure x := by intro _; rfl) (hnm : t.names = true := by rfl) :
    SV X W fi σ0 (.Assign [.Name y py] (.ListComp elt [⟨tg, iter, ifs, 0⟩] scope pos) spos) (dset i (dlc di t (own.map (·.2)) tt te)) := by
  refine ⟨fun pins s σ H Dn I h => (ps_setLc (py := py) (spos := spos) (g := gT X.prog X.w X.K fb (wipe σ (own.map (·.2))) t) (tt := tT X.prog X.w X.K noW tt) (te := tE X.prog X.w X.K noW te) G.calm G.nd hy hyl hsw hi ok (fun s H C cl fp => hg s H C cl fp _) ht he hs).run pins s σ H Dn I ?_⟩
  have hl : i < σ.length := by rw [I.len]; exact (List.getElem?_eq_some_iff.mp hy).1
  have q := (tS.expr h).mono fun v H1 ⟨e, env, tm, τ, F, L, R, fx, q⟩ => store_imp (i := i) (fi := fi) R fx hl hf q
  exact lc_imp I.len hfi hnm q
end
/-- a constant of the module -/
def GC (K : PySem.W.Frag) (mg : Str → Option Value) (x : Str) (pv : PV) : Prop := ∃ u v, mg x = some u ∧ RelV v u ∧ ∀ P w F, RepF P w K F pv v
theorem ev_gc {X : Cx} {W : WX} {x : Str} {pv : PV} {pos : Pos} (h : GC X.K X.mg x pv) (hg : Gl X x) (hd : (x == ("__debug__" : Str)) = false := by decide) : EV X W (.Name x pos) (dcon pv) := by
  obtain ⟨u, v, h1, h2, h3⟩ := h
  exact ev_glob hg h1 h2 (h3 _ _) hd
theorem good_fn {P : Program} {w : World} {K : PySem.W.Frag} {mg : Str → Option Value} {base : Heap} {N ps : List Str} {x : Str} {st : Stmt} {f : Addr} {cdv : Value} {A : Around} {outs : List Env} {s : Shared} {H : Hp} {E : XK} {k : Nat}
    (hr : Room k (A.deeper (envOfC x (defScope st) s.heap.objs.size f cdv))) (hg : A.guards = some []) (S : FnScope N ps (defScope st)) : Good (fnX P w K mg base N x st f cdv A outs s H E) := by
  refine ⟨rfl, ?_, hg, S.nd⟩
  have := hr.un
  show (A.deeper (envOfC x (defScope st) s.heap.objs.size f cdv)).units + 200 < cLine
  omega
theorem calG {P : Program} {w : World} {K : PySem.W.Frag} {mg : Str → Option Value} {base : Heap} {x : Str} {st : Stmt} {f : Addr} {fd : FuncData} {N ps : List Str} {k n np : Nat} {fi : List Nat} {d : D Fl} (Fn : L2.Fun K x x st f fd) (hm : mg x = some (.ref f)) (b : Binds K fd ps []) (S : FnScope N ps (defScope st)) (hn : N.length = n) (hp : ps.length = np)
    (hbody : ∀ (cdv : Value) (A : Around) (outs : List Env) (s : Shared) (H : Hp) (E : XK) (vs : List V), Room k (A.deeper (envOfC x (defScope st) s.heap.objs.size f cdv)) → A.guards = some [] →
      BV (fnX P w K mg base N x st f cdv A outs s H E) noW fi (L2.start N vs) (defBody st) d) : CalG P w K mg base (k + 1) x np (mkfn n np fi d) :=
  ⟨f, fd, ps, fnG_of Fn S hn hp hbody, hm, Fn.kp, b, fun _ _ h => mkfn_len h⟩
theorem vis_of {sc : Scope} {x : Str} (h : (match sc.names.lookup x with | some .local => true | some .cell => true | some .free => true | _ => false) = true) : Vis sc x := by
  unfold Vis
  cases e : sc.names.lookup x with
  | none => rw [e] at h; cases h
  | some k => cases k <;> first | exact .inl rfl | exact .inr (.inl rfl) | exact .inr (.inr rfl) | (rw [e] at h; cases h)
theorem loc_of {sc : Scope} {x : Str} (h : (match sc.names.lookup x with | some .local => true | some .cell => true | _ => false) = true) : Loc sc x := by
  unfold L2.Loc
  cases e : sc.names.lookup x with
  | none => rw [e] at h; cases h
  | some k => cases k <;> first | exact .inl rfl | exact .inr rfl | (rw [e] at h; cases h)
end Pv
namespace Pv
open PySem PySem.Spec PyProof.Rows L2
/-- an expression's value is shut at once -/
def dfrzE (a : Sl) : D Sl := fun env => match frzEs env [a] with
  | some ([p], env') => .ok (.val p) env'
  | _ => .no
def dfrz (d : D Sl) : D Sl := dbind d dfrzE
section
variable {X : Cx} {W : WX} {e : Expr} {d : D Sl}
theorem ev_frz (h : EV X W e d) : EV X W e (dfrz d) := PEimp h fun σ H Q q => (tE.bind (es := []) (xs := []) q).mono fun v H1 ⟨a, q⟩ => by
  obtain ⟨env, tm, τ, F, L, hl, R, q⟩ := q
  unfold dfrzE at q
  cases e1 : frzEs env [a] with
  | none => rw [e1] at q; exact q.elim
  | some r =>
    obtain ⟨ps, env'⟩ := r
    rw [e1] at q
    obtain ⟨F1, L1, k1, R1, hf⟩ := Rel.frzAll (pre := tm) (px := τ) (es := [a]) (xs := [v]) (by simpa using R) (by have := R.tlen; simp at this; omega) e1
    match ps, q with
    | [p], q => exact q [v] F1 H1 L1 rfl k1 (by simpa using R1) v rfl
end
end Pv
namespace Pv
open PySem PySem.Spec PyProof.Rows L2

mutual
theorem nk_inj : ∀ (a b : PV) (n : NestedKey), plainK a = true → plainK b = true → nk a = some n → nk b = some n → a = b
  | .non, b, n, _, pb, ha, hb => by
    rw [nk] at ha
    cases ha
    cases b <;> simp [nk, plainK] at hb pb ⊢
  | .int i, b, n, _, pb, ha, hb => by
    rw [nk] at ha
    cases ha
    cases b <;> simp [nk, plainK] at hb pb ⊢
    exact hb.symm
  | .str i, b, n, _, pb, ha, hb => by
    rw [nk] at ha
    cases ha
    cases b <;> simp [nk, plainK] at hb pb ⊢
    exact hb.symm
  | .tup xs, b, n, pa, pb, ha, hb => by
    rw [nk] at ha
    obtain ⟨ns, e1, rfl⟩ := Option.map_eq_some_iff.mp ha
    cases b with
    | tup ys =>
      rw [nk] at hb
      obtain ⟨ms, e2, e3⟩ := Option.map_eq_some_iff.mp hb
      cases e3
      rw [nks_inj xs ys ns (by simpa [plainK] using pa) (by simpa [plainK] using pb) e1 e2]
    | bl x => simp [plainK] at pb
    | _ => simp [nk] at hb
  | .bl _, b, n, pa, _, _, _ => by simp [plainK] at pa
  | .ref _, b, n, pa, _, _, _ => by simp [plainK] at pa
  | .ty _, b, n, pa, _, _, _ => by simp [plainK] at pa
  | .lst _ _, b, n, pa, _, _, _ => by simp [plainK] at pa
  | .dct _ _ _, b, n, pa, _, _, _ => by simp [plainK] at pa
  | .frl _, b, n, pa, _, _, _ => by simp [plainK] at pa
theorem nks_inj : ∀ (a b : List PV) (n : List NestedKey), plainKs a = true → plainKs b = true → nks a = some n → nks b = some n → a = b
  | [], b, n, _, pb, ha, hb => by
    rw [nks] at ha
    cases ha
    cases b with
    | nil => rfl
    | cons y ys => rw [nks] at hb; split at hb <;> cases hb
  | x :: xs, b, n, pa, pb, ha, hb => by
    rw [nks] at ha
    split at ha
    · rename_i m ms e1 e2
      cases ha
      cases b with
      | nil => rw [nks] at hb; cases hb
      | cons y ys =>
        rw [nks] at hb
        split at hb
        · rename_i m' ms' e3 e4
          cases hb
          simp [plainKs] at pa pb
          rw [nk_inj x y m pa.1 pb.1 e1 e3, nks_inj xs ys ms pa.2 pb.2 e2 e4]
        · cases hb
    · cases ha
end
def keyPV : Key → PV
  | .inl i => .int i
  | .inr s => .str s
theorem keyPV_inj {a b : Key} (h : keyPV a = keyPV b) : a = b := by
  cases a <;> cases b <;> simp [keyPV] at h <;> rw [h]
theorem keyPV_of {k : PV} (h : scalK k = true) : ∃ key, k = keyPV key := by
  cases k with
  | int i => exact ⟨.inl i, rfl⟩
  | str s => exact ⟨.inr s, rfl⟩
  | _ => simp [scalK] at h
theorem valV_pos {key : Key} : ∀ {kvs : List (Key × V)}, valV kvs key = (kpos (kvs.map fun e => keyPV e.1) (keyPV key)).bind fun i => (kvs.map (·.2))[i]?
  | [] => rfl
  | p :: kvs => by
    have ih := valV_pos (key := key) (kvs := kvs)
    unfold kpos at ih ⊢
    rw [List.map_cons, List.findIdx?_cons]
    by_cases h : p.1 = key
    · rw [valV_pos' h]
      simp [h]
    · have h2 : ¬ keyPV p.1 = keyPV key := fun e => h (keyPV_inj e)
      rw [valV_neg h, ih]
      simp only [h2, decide_false, Bool.false_eq_true, if_false]
      cases List.findIdx? (fun x => decide (x = keyPV key)) (kvs.map fun e => keyPV e.1) with
      | none => rfl
      | some i => simp
where valV_pos' {p : Key × V} {r : List (Key × V)} {k : Key} (e : p.1 = k) : valV (p :: r) k = some p.2 := L2.valV_pos e
section
variable {P : Program} {w : World} {K : PySem.W.Frag} {F H : Hp}
theorem RepFs.tailK {x : PV} {xs : List PV} {v : V} {vs : List V} (h : RepFs P w K F (x :: xs) (v :: vs)) : RepF P w K F x v ∧ RepFs P w K F xs vs := by
  rw [RepFs] at h
  obtain ⟨v', r, e, h1, h2⟩ := h
  cases e
  exact ⟨h1, h2⟩
theorem keys_scal : ∀ {ks : List PV} {kvs : List (Key × V)}, RepFs P w K F ks (kvs.map fun e => kV e.1) → ks = kvs.map fun e => keyPV e.1
  | [], [], _ => rfl
  | [], _ :: _, h => by simp [RepFs] at h
  | _ :: _, [], h => by simp [RepFs] at h
  | k :: ks, p :: kvs, h => by
    obtain ⟨h1, h2⟩ := RepFs.tailK (show RepFs P w K F (k :: ks) (kV p.1 :: kvs.map fun e => kV e.1) from h)
    rw [List.map_cons, ← keys_scal h2]
    congr 1
    obtain ⟨key, v⟩ := p
    cases key with
    | inl i =>
      cases k with
      | int j => have : V.int i = V.int j := h1; cases this; rfl
      | tup xs => rw [RepF] at h1; obtain ⟨a, vs, e, _⟩ := h1; cases e
      | lst o xs => rw [RepF] at h1; obtain ⟨_, a, vs, e, _⟩ := h1; cases e
      | dct o k xs => rw [RepF] at h1; obtain ⟨_, a, _, _, e, _⟩ := h1; cases e
      | frl xs => rw [RepF] at h1; obtain ⟨a, vs, e, _⟩ := h1; cases e
      | non => have : V.int i = V.non := h1; cases this
      | bl b => have : V.int i = V.bl b := h1; cases this
      | str b => have : V.int i = V.str b := h1; cases this
      | ref b => have : V.int i = V.ref b := h1; cases this
      | ty b => have : V.int i = V.ty b := h1; cases this
    | inr i =>
      cases k with
      | str j => have : V.str i = V.str j := h1; cases this; rfl
      | tup xs => rw [RepF] at h1; obtain ⟨a, vs, e, _⟩ := h1; cases e
      | lst o xs => rw [RepF] at h1; obtain ⟨_, a, vs, e, _⟩ := h1; cases e
      | dct o k xs => rw [RepF] at h1; obtain ⟨_, a, _, _, e, _⟩ := h1; cases e
      | frl xs => rw [RepF] at h1; obtain ⟨a, vs, e, _⟩ := h1; cases e
      | non => have : V.str i = V.non := h1; cases this
      | bl b => have : V.str i = V.bl b := h1; cases this
      | int b => have : V.str i = V.int b := h1; cases this
      | ref b => have : V.str i = V.ref b := h1; cases this
      | ty b => have : V.str i = V.ty b := h1; cases this
/-- a dict with numbers and texts as keys, told as one -/
theorem DctO.scal {o : Obj} {ks : List PV} {kes ves : List V} (h : DctO P w o ks kes ves) (hr : RepFs P w K F ks kes) (hs : ks.all scalK = true) :
    ∃ kvs : List (Key × V), DatK P w o kvs ∧ kes = kvs.map (fun e => kV e.1) ∧ ves = kvs.map (·.2) ∧ ks = kvs.map fun e => keyPV e.1 := by
  obtain ⟨_, h⟩ := h
  rcases h with ⟨kvs, h1, h2, h3⟩ | ⟨xs, h1, h2, h3, h4, h5⟩
  · subst h2
    exact ⟨kvs, h1, rfl, h3, keys_scal hr⟩
  · cases xs with
    | nil =>
      subst h2 h3
      have hk : ks = [] := List.length_eq_zero_iff.mp hr.length
      subst hk
      obtain ⟨es, ep, ys, g1, g2, g3, g4, g5⟩ := h1
      cases g3
      have he : es = #[] := by simpa using g4
      subst he
      exact ⟨[], ⟨#[], ep, [], g1, g2, .nil, fun e he => by simp at he, .nil, by simp⟩, rfl, rfl, rfl⟩
    | cons x xs =>
      subst h2
      cases ks with
      | nil => simp [RepFs] at hr
      | cons k ks =>
        obtain ⟨r1, _⟩ := RepFs.tailK (show RepFs P w K F (k :: ks) (V.ref x.2.1 :: xs.map fun e => V.ref e.2.1) from hr)
        obtain ⟨key, rfl⟩ := keyPV_of (k := k) (by simpa using (List.all_eq_true.mp hs k (by simp)))
        cases key with
        | inl i => have : V.ref x.2.1 = V.int i := r1; cases this
        | inr i => have : V.ref x.2.1 = V.str i := r1; cases this
theorem DctO.tupl {o : Obj} {ks : List PV} {kes ves : List V} (h : DctO P w o ks kes ves) (hr : RepFs P w K F ks kes) (hs : ks.all tupK = true) :
    ∃ xs : List (NestedKey × Addr × V), DatT P w o xs ∧ kes = xs.map (fun e => .ref e.2.1) ∧ ves = xs.map (·.2.2) ∧ nks ks = some (xs.map (·.1)) ∧ ∀ x ∈ xs, x.1.depth ≤ 8 := by
  obtain ⟨_, h⟩ := h
  rcases h with ⟨kvs, h1, h2, h3⟩ | h
  · cases kvs with
    | nil =>
      subst h2 h3
      have hk : ks = [] := List.length_eq_zero_iff.mp hr.length
      subst hk
      obtain ⟨es, ep, vs, g1, g2, g3, g4, g5, g6⟩ := h1
      cases g3
      have he : es = #[] := by
        generalize hl : es.toList = l at g5
        cases g5
        simpa using hl
      subst he
      exact ⟨[], ⟨#[], ep, [], g1, g2, .nil, rfl, by simp⟩, rfl, rfl, rfl, fun x hx => by simp at hx⟩
    | cons p kvs =>
      subst h2
      have := keys_scal hr
      subst this
      have := List.all_eq_true.mp hs (keyPV p.1) (by simp)
      cases hp : p.1 <;> rw [hp] at this <;> simp [keyPV, tupK] at this
  · exact h
end
end Pv
namespace Pv
open PySem PySem.Spec PyProof.Rows L2

theorem atKey_pos : ∀ {ks : List PV} {xs : List (NestedKey × Addr × V)} {ys : List (NestedKey × Addr × Value)} {k : PV} {n : NestedKey},
    Paired (fun (p : NestedKey × Addr × V) (q : NestedKey × Addr × Value) => p.1 = q.1 ∧ p.2.1 = q.2.1 ∧ RelV p.2.2 q.2.2) xs ys → nks ks = some (xs.map (·.1)) → plainKs ks = true → plainK k = true → nk k = some n →
    match kpos ks k with
    | some i => ∃ x y, xs[i]? = some x ∧ ys[i]? = some y ∧ x.1 = n ∧ y.1 = n ∧ x.2.1 = y.2.1 ∧ RelV x.2.2 y.2.2 ∧ atKey ys n = some y.2
    | none => atKey ys n = none
  | [], [], _, k, n, .nil, _, _, _, _ => rfl
  | [], _ :: _, _, k, n, _, h, _, _, _ => by simp [nks] at h
  | a :: ks, [], _, k, n, _, h, _, _, _ => by
    rw [nks] at h
    split at h <;> cases h
  | a :: ks, x :: xs, y :: ys, k, n, .cons hp hps, h, pks, pk, hk => by
    rw [nks] at h
    split at h
    · rename_i m ms e1 e2
      have h' : m :: ms = x.1 :: xs.map (·.1) := Option.some.inj h
      obtain ⟨rfl, rfl⟩ : m = x.1 ∧ ms = xs.map (·.1) := by injection h' with g1 g2; exact ⟨g1, g2⟩
      simp [plainKs] at pks
      have ih := atKey_pos (k := k) (n := n) hps e2 pks.2 pk hk
      unfold kpos at ih ⊢
      rw [List.findIdx?_cons]
      by_cases hak : a = k
      · subst hak
        rw [hk] at e1
        have e1 : n = x.1 := Option.some.inj e1
        simp only [decide_true, if_true]
        refine ⟨x, y, rfl, rfl, e1.symm, hp.1 ▸ e1.symm, hp.2.1, hp.2.2, ?_⟩
        unfold atKey
        rw [List.find?_cons]
        have : y.1 = n := hp.1 ▸ e1.symm
        simp [this]
      · have hne : ¬ y.1 = n := fun z => hak (nk_inj a k n pks.1 pk (by rw [e1, hp.1, z]) hk)
        simp only [hak, decide_false, Bool.false_eq_true, if_false]
        have e3 : atKey (y :: ys) n = atKey ys n := by
          unfold atKey
          rw [List.find?_cons]
          simp [hne]
        rw [e3]
        cases e4 : List.findIdx? (fun x => decide (x = k)) ks with
        | none => rw [e4] at ih; exact ih
        | some i =>
          rw [e4] at ih
          obtain ⟨x', y', g⟩ := ih
          exact ⟨x', y', by simpa using g.1, by simpa using g.2.1, g.2.2⟩
    · cases h

section
variable {X : Cx} {pins : List (Addr × Obj)} {σ : L2.St} {F H : Hp} {s : Shared} {L : Lab} {a : Addr}
theorem dxo_get {o : Obj} (I : L2.Inv X pins σ H s) (e : H a = some (DXO a o)) : s.heap.get? a = some o := (I.hok a _ e).1
theorem dctF_get {ks : List PV} {kes ves : List V} (I : L2.Inv X pins σ H s) (k : Same F H) (h : DctF X.prog X.w X.K F a ks kes ves) : (a == sysModules) = false ∧ ∃ o, s.heap.get? a = some o ∧ DctO X.prog X.w o ks kes ves := by
  obtain ⟨hs, o, e, r⟩ := h
  rcases e with e | e
  · exact ⟨hs, o, dxo_get I (k _ _ e), r⟩
  · exact ⟨hs, o, I.kIn a o e, r⟩
mutual
theorem nested_of (I : L2.Inv X pins σ H s) (k : Same F H) : ∀ (x : PV) (v : V) (u : Value) (n : NestedKey), RepF X.prog X.w X.K F x v → RelV v u → nk x = some n → NestedIs s.heap n u
  | .non, v, u, n, h, r, e => by
    rw [nk] at e
    cases e
    cases (show v = .non from h)
    cases (show u = Value.none from r)
    exact .none
  | .bl b, v, u, n, h, r, e => by
    rw [nk] at e
    cases e
    cases (show v = .bl b from h)
    cases (show u = Value.bool b from r)
    exact .bool rfl
  | .int i, v, u, n, h, r, e => by
    rw [nk] at e
    cases e
    cases (show v = .int i from h)
    obtain ⟨t, rfl⟩ : ∃ t, u = Value.int i t := r
    exact .int i t
  | .str i, v, u, n, h, r, e => by
    rw [nk] at e
    cases e
    cases (show v = .str i from h)
    obtain ⟨t, rfl⟩ : ∃ t, u = Value.str i t := r
    exact .text i t
  | .tup xs, v, u, n, h, r, e => by
    rw [nk] at e
    obtain ⟨ns, e1, rfl⟩ := Option.map_eq_some_iff.mp e
    rw [RepF] at h
    obtain ⟨p, vs, rfl, hs, hr⟩ := h
    cases (show u = Value.ref p from r)
    obtain ⟨its, rv, ⟨o, g1, g2, m, g3⟩, _⟩ := I.tuple (SqT.mono k hs)
    exact .tup g1 g2 g3 (by simpa using nesteds_of I k xs vs its ns hr rv e1)
  | .lst .., v, u, n, h, r, e => by simp [nk] at e
  | .dct .., v, u, n, h, r, e => by simp [nk] at e
  | .frl _, v, u, n, h, r, e => by simp [nk] at e
  | .ref _, v, u, n, h, r, e => by simp [nk] at e
  | .ty _, v, u, n, h, r, e => by simp [nk] at e
theorem nesteds_of (I : L2.Inv X pins σ H s) (k : Same F H) : ∀ (xs : List PV) (vs : List V) (us : List Value) (ns : List NestedKey), RepFs X.prog X.w X.K F xs vs → Vals vs us → nks xs = some ns → NestedAll s.heap ns us
  | [], vs, us, ns, h, r, e => by
    rw [RepFs] at h
    subst h
    cases r
    rw [nks] at e
    cases e
    exact .nil
  | x :: xs, vs, us, ns, h, r, e => by
    rw [RepFs] at h
    obtain ⟨v, vr, rfl, h1, h2⟩ := h
    cases r with
    | cons r1 r2 =>
      rw [nks] at e
      split at e
      · rename_i n ns' e1 e2
        cases e
        exact .cons (nested_of I k x v _ n h1 r1 e1) (nesteds_of I k xs vr _ ns' h2 r2 e2)
      · cases e
end
theorem DatK.dictOf {o : Obj} {kvs : List (Key × V)} (h : DatK X.prog X.w o kvs) (e : s.heap.get? a = some o) : ∃ vs, KV kvs vs ∧ s.heap.DictOf (mixKind X.prog X.w) a vs := by
  obtain ⟨es, ep, vs, g1, g2, g3, g4, g5, g6⟩ := h
  exact ⟨vs, g3, o, es, ep, e, g1, g2, g4, g5, g6⟩
theorem DatT.dictOf {o : Obj} {ks : List PV} {xs : List (NestedKey × Addr × V)} (I : L2.Inv X pins σ H s) (k : Same F H) (h : DatT X.prog X.w o xs) (e : s.heap.get? a = some o)
    (hr : RepFs X.prog X.w X.K F ks (xs.map fun e => V.ref e.2.1)) (hn : nks ks = some (xs.map (·.1))) (hd : ∀ x ∈ xs, x.1.depth ≤ 8) :
    ∃ ys, Paired (fun (p : NestedKey × Addr × V) (q : NestedKey × Addr × Value) => p.1 = q.1 ∧ p.2.1 = q.2.1 ∧ RelV p.2.2 q.2.2) xs ys ∧ s.heap.DictOfH (nestedKind X.prog X.w) a ys := by
  obtain ⟨es, ep, ys, g1, g2, g3, g4, g5⟩ := h
  have key : ∀ {ks : List PV} {xs : List (NestedKey × Addr × V)} {ys : List (NestedKey × Addr × Value)}, RepFs X.prog X.w X.K F ks (xs.map fun e => V.ref e.2.1) → nks ks = some (xs.map (·.1)) → (∀ x ∈ xs, x.1.depth ≤ 8) →
      Paired (fun (p : NestedKey × Addr × V) (q : NestedKey × Addr × Value) => p.1 = q.1 ∧ p.2.1 = q.2.1 ∧ RelV p.2.2 q.2.2) xs ys → ∀ y ∈ ys, (nestedKind X.prog X.w).is s.heap y.1 y.2.1 := by
    intro ks xs
    induction xs generalizing ks with
    | nil => intro ys _ _ _ hp y hy; cases hp; cases hy
    | cons x xs ih =>
      intro ys hr hn hd hp y hy
      cases ks with
      | nil => simp [RepFs] at hr
      | cons k0 ks =>
        obtain ⟨r1, r2⟩ := RepFs.tailK (show RepFs X.prog X.w X.K F (k0 :: ks) (V.ref x.2.1 :: xs.map fun e => V.ref e.2.1) from hr)
        rw [nks] at hn
        split at hn
        · rename_i n ns e1 e2
          have hn' : n :: ns = x.1 :: xs.map (·.1) := Option.some.inj hn
          obtain ⟨rfl, rfl⟩ : n = x.1 ∧ ns = xs.map (·.1) := by injection hn' with g1 g2; exact ⟨g1, g2⟩
          cases hp with
          | cons hq hps =>
            rcases List.mem_cons.mp hy with rfl | hy
            · refine ⟨?_, ?_⟩
              · rw [← hq.1, ← hq.2.1]
                exact nested_of I k k0 _ _ _ r1 rfl e1
              · rw [← hq.1]
                exact hd x (by simp)
            · exact ih r2 e2 (fun z hz => hd z (by simp [hz])) hps y hy
        · cases hn
  exact ⟨ys, g3, o, es, ep, e, g1, g2, g4, key hr hn hd g3, g5⟩
/-- a dict, as it stands in the heap -/
structure DctAt (P : Program) (w : World) (K : PySem.W.Frag) (F : Hp) (h : Heap) (a : Addr) (o : Obj) (ks : List PV) (kes ves : List V) : Prop where
  sys : (a == sysModules) = false
  get : h.get? a = some o
  dat : DctO P w o ks kes ves
  keys : RepFs P w K F ks kes
theorem RepO.asD {q : Path} {ow : Bool} {ks vs : List PV} {v : V} (I : L2.Inv X pins σ H s) (k : Same F H) (h : RepO X.prog X.w X.K F H L q (.dct ow ks vs) v) :
    ∃ a o kes ves, v = .ref a ∧ DctAt X.prog X.w X.K F s.heap a o ks kes ves ∧ vs.length = ves.length ∧ (PV.fzs vs = true → RepFs X.prog X.w X.K F vs ves) ∧
      (∀ (i : Nat) (x : PV), vs[i]? = some x → ∃ u, ves[i]? = some u ∧ RepO X.prog X.w X.K F H L (q ++ [i]) x u) := by
  cases ow with
  | true =>
    rw [RepO] at h
    obtain ⟨a, kes, ves, e, _, hd, r1, r2⟩ := h
    obtain ⟨hs, o, g, d⟩ := hd
    refine ⟨a, o, kes, ves, e, ⟨hs, dxo_get I g, d, r1⟩, r2.length, fun hz => RepOs.toF hz r2, fun i x hx => ?_⟩
    obtain ⟨u, h1, h2⟩ := r2.get hx
    rw [Nat.zero_add] at h2
    exact ⟨u, h1, h2⟩
  | false =>
    rw [RepO, RepF] at h
    obtain ⟨_, a, kes, ves, e, hd, r1, r2⟩ := h
    obtain ⟨hs, o, g, d⟩ := dctF_get I k hd
    refine ⟨a, o, kes, ves, e, ⟨hs, g, d, r1⟩, r2.length, fun _ => r2, fun i x hx => ?_⟩
    obtain ⟨u, h1, h2⟩ := r2.get hx
    exact ⟨u, h1, RepO.ofF h2⟩
/-- where an entry's content hangs -/
def entP (r : Nat) : Sl → Path
  | .al j p => 2 * j :: p
  | _ => [r]
theorem Ent.repP {P : Program} {w : World} {K : PySem.W.Frag} {env : PEnv} {r : Nat} {e : Sl} {v : V} {pv : PV} (h : Ent P w K env F H L r e v) (hc : cont env e = some pv) : RepO P w K F H L (entP r e) pv v := by
  cases e with
  | un => cases hc
  | val q => cases hc; exact h
  | al j p => exact h pv hc
end
end Pv
namespace Pv
open PySem PySem.Spec PyProof.Rows L2

abbrev PairT : List (NestedKey × Addr × V) → List (NestedKey × Addr × Value) → Prop := Paired (fun (p : NestedKey × Addr × V) (q : NestedKey × Addr × Value) => p.1 = q.1 ∧ p.2.1 = q.2.1 ∧ RelV p.2.2 q.2.2)
/-- a key that is asked, the dict by its kind -/
inductive Ask (P : Program) (w : World) (h : Heap) (a : Addr) (ks : List PV) (kes ves : List V) (k : PV) (v : V) (u : Value) : Prop
  | sc (key : Key) (kvs : List (Key × V)) (vs : List (Key × Value)) (hk : (mixKind P w).is key u = true) (hd : h.DictOf (mixKind P w) a vs) (kv : KV kvs vs) (e1 : ks = kvs.map fun e => keyPV e.1) (e2 : kes = kvs.map fun e => kV e.1) (e3 : ves = kvs.map (·.2)) (e4 : k = keyPV key) (e5 : v = kV key)
  | tp (b : Addr) (n : NestedKey) (xs : List (NestedKey × Addr × V)) (ys : List (NestedKey × Addr × Value)) (hu : u = .ref b) (hk : (nestedKind P w).is h n b) (hd : h.DictOfH (nestedKind P w) a ys) (kv : PairT xs ys)
      (e1 : nks ks = some (xs.map (·.1))) (e2 : kes = xs.map fun e => .ref e.2.1) (e3 : ves = xs.map (·.2.2)) (e4 : nk k = some n) (e5 : v = .ref b) (e6 : n.depth ≤ 8) (e7 : ∀ x ∈ xs, x.1.depth ≤ 8)
section
variable {X : Cx} {pins : List (Addr × Obj)} {σ : L2.St} {F H : Hp} {s : Shared} {L : Lab} {a : Addr} {o : Obj} {ks : List PV} {kes ves : List V} {k : PV} {v : V} {u : Value}
theorem DctAt.ask (I : L2.Inv X pins σ H s) (kF : Same F H) (h : DctAt X.prog X.w X.K F s.heap a o ks kes ves) (hv : RepF X.prog X.w X.K F k v) (r : RelV v u) (ok : okKey ks k = true) : Ask X.prog X.w s.heap a ks kes ves k v u := by
  unfold okKey at ok
  simp only [Bool.and_eq_true, Bool.or_eq_true] at ok
  obtain ⟨pk, ⟨s1, s2⟩ | ⟨⟨t1, t2⟩, t3⟩⟩ := ok
  · obtain ⟨key, rfl⟩ := keyPV_of s1
    obtain ⟨kvs, g1, g2, g3, g4⟩ := h.dat.scal h.keys s2
    obtain ⟨vs, kv, hd⟩ := g1.dictOf h.get
    have hv' : v = kV key := by
      cases key with
      | inl i => exact hv
      | inr i => exact hv
    subst hv'
    exact .sc key kvs vs (kV_is r) hd kv g4 g2 g3 rfl rfl
  · obtain ⟨xs, g1, g2, g3, g4, g5⟩ := h.dat.tupl h.keys t2
    obtain ⟨ys, kv, hd⟩ := g1.dictOf I kF h.get (by rw [← g2]; exact h.keys) g4 g5
    cases e : nk k with
    | none => rw [e] at t3; cases t3
    | some n =>
      rw [e] at t3
      have t3 : n.depth ≤ 8 := by simpa using t3
      have hb : ∃ b, v = .ref b := by
        cases k with
        | tup xs =>
          rw [RepF] at hv
          obtain ⟨b, _, e, _⟩ := hv
          exact ⟨b, e⟩
        | _ => simp [tupK] at t1
      obtain ⟨b, rfl⟩ := hb
      cases (show u = Value.ref b from r)
      exact .tp b n xs ys rfl ⟨nested_of I kF k _ _ n hv r e, t3⟩ hd kv g4 g2 g3 e rfl t3 g5
theorem ok_plain (ok : okKey ks k = true) : plainK k = true := by
  unfold okKey at ok
  simp only [Bool.and_eq_true] at ok
  exact ok.1
theorem room_n {A : Around} (h : A.units + 200 < cLine) : (nestedKind X.prog X.w).room A.in1 := by
  show A.units + 1 + 8 < cLine
  omega
/-! ### in -/
theorem Ask.there (h : Ask X.prog X.w s.heap a ks kes ves k v u) (pks : plainKs ks = true) (pk : plainK k = true) (hs : (a == sysModules) = false) (hu : X.A.units + 200 < cLine) {Q : Value → Shared → Prop} {E : Value → Shared → Prop}
    (q : ∀ n, Q (.bool (kpos ks k).isSome) { s with toks := s.toks + n }) : wpAny (model X.prog X.w) X.A (compareOp .In u (.ref a)) Q E s := by
  cases h with
  | sc key kvs vs hk hd kv e1 e2 e3 e4 e5 =>
    refine wpAny_in_of hk hs hd.mapOf ?_
    have : (valueAt vs key).isSome = (kpos ks k).isSome := by
      rw [← (kv.val key).isSome_eq, valV_pos, ← e1, ← e4]
      cases e : kpos ks k with
      | none => rfl
      | some i =>
        have hi : i < ks.length := by
          unfold kpos at e
          exact (List.findIdx?_eq_some_iff_findIdx_eq.mp e).1
        rw [e1] at hi
        simp at hi
        simp [hi]
    rw [this]
    exact q 1
  | tp b n xs ys hu' hk hd kv e1 e2 e3 e4 e5 e6 e7 =>
    subst hu'
    refine wpAny_in_heap (room_n hu) hk hs hd ?_
    have := atKey_pos kv e1 pks pk e4
    have e : (atKey ys n).isSome = (kpos ks k).isSome := by
      cases e8 : kpos ks k with
      | none => rw [e8] at this; rw [this]; rfl
      | some i =>
        rw [e8] at this
        obtain ⟨x, y, _, _, _, _, _, _, g⟩ := this
        rw [g]
        rfl
    rw [e]
    exact q _
theorem Ask.notThere (h : Ask X.prog X.w s.heap a ks kes ves k v u) (pks : plainKs ks = true) (pk : plainK k = true) (hs : (a == sysModules) = false) (hu : X.A.units + 200 < cLine) {Q : Value → Shared → Prop} {E : Value → Shared → Prop}
    (q : ∀ n, Q (.bool (!(kpos ks k).isSome)) { s with toks := s.toks + n }) : wpAny (model X.prog X.w) X.A (compareOp .NotIn u (.ref a)) Q E s := by
  cases h with
  | sc key kvs vs hk hd kv e1 e2 e3 e4 e5 =>
    refine wpAny_notIn_of hk hs hd.mapOf ?_
    have : (valueAt vs key).isSome = (kpos ks k).isSome := by
      rw [← (kv.val key).isSome_eq, valV_pos, ← e1, ← e4]
      cases e : kpos ks k with
      | none => rfl
      | some i =>
        have hi : i < ks.length := by
          unfold kpos at e
          exact (List.findIdx?_eq_some_iff_findIdx_eq.mp e).1
        rw [e1] at hi
        simp at hi
        simp [hi]
    rw [this]
    exact q 1
  | tp b n xs ys hu' hk hd kv e1 e2 e3 e4 e5 e6 e7 =>
    subst hu'
    refine wpAny_notIn_heap (room_n hu) hk hs hd ?_
    have := atKey_pos kv e1 pks pk e4
    have e : (atKey ys n).isSome = (kpos ks k).isSome := by
      cases e8 : kpos ks k with
      | none => rw [e8] at this; rw [this]; rfl
      | some i =>
        rw [e8] at this
        obtain ⟨x, y, _, _, _, _, _, _, g⟩ := this
        rw [g]
        rfl
    rw [e]
    exact q _
/-- d[k], there -/
theorem Ask.item (h : Ask X.prog X.w s.heap a ks kes ves k v u) (pks : plainKs ks = true) (pk : plainK k = true) (hu : X.A.units + 200 < cLine) {i : Nat} {x : V} (hi : kpos ks k = some i) (hx : ves[i]? = some x) :
    ∃ n z, RelV x z ∧ ∀ {Q : Value → Shared → Prop} {E : Value → Shared → Prop}, Q z { s with toks := s.toks + n } → wpAny (model X.prog X.w) X.A (getItem (.ref a) u) Q E s := by
  cases h with
  | sc key kvs vs hk hd kv e1 e2 e3 e4 e5 =>
    have hv : valV kvs key = some x := by rw [valV_pos, ← e1, ← e4, hi, ← e3]; exact hx
    obtain ⟨w', hw, rw'⟩ := RelO.some_of (v := x) (o := valueAt vs key) (by rw [← hv]; exact kv.val key)
    exact ⟨1, w', rw', fun q => wpAny_getItem_of hk hd.mapOf hw q⟩
  | tp b n xs ys hu' hk hd kv e1 e2 e3 e4 e5 e6 e7 =>
    subst hu'
    have := atKey_pos kv e1 pks pk e4
    rw [hi] at this
    obtain ⟨x', y, g1, g2, _, _, _, g3, g4⟩ := this
    have hxx : x'.2.2 = x := by
      rw [e3, List.getElem?_map, g1] at hx
      exact Option.some.inj hx
    exact ⟨_, y.2.2, hxx ▸ g3, fun q => wpAny_getItem_heap (room_n hu) hk hd g4 q⟩
theorem Ask.typ (h : Ask X.prog X.w s.heap a ks kes ves k v u) : s.TypeIs (.ref a) "dict" := by
  cases h with
  | sc key kvs vs hk hd kv e1 e2 e3 e4 e5 => exact hd.typeIs
  | tp b n xs ys hu' hk hd kv e1 e2 e3 e4 e5 e6 e7 => exact hd.typeIs
end
/-! as rules -/
def gDIn : List PV → Option PV
  | [k, .dct _ ks _] => if okKey ks k = true then some (.bl (kpos ks k).isSome) else none
  | _ => none
def gDNotIn : List PV → Option PV
  | [k, .dct _ ks _] => if okKey ks k = true then some (.bl (!(kpos ks k).isSome)) else none
  | _ => none
theorem plainK_fz : ∀ {k : PV}, plainK k = true → k.fz = true := by
  have key : ∀ n : Nat, (∀ k : PV, sizeOf k ≤ n → plainK k = true → k.fz = true) := by
    intro n
    induction n with
    | zero => intro k hk; cases k <;> simp at hk
    | succ n ih =>
      intro k hk h
      cases k with
      | tup xs =>
        rw [PV.fz]
        have : ∀ xs : List PV, sizeOf xs ≤ n → plainKs xs = true → PV.fzs xs = true := by
          intro xs
          induction xs with
          | nil => intro _ _; rfl
          | cons x xs ih2 =>
            intro hs hp
            simp [plainKs] at hp
            simp at hs
            rw [PV.fzs, ih x (by omega) hp.1, ih2 (by omega) hp.2]
            rfl
        exact this xs (by simp at hk; omega) (by simpa [plainK] using h)
      | non => rfl
      | int _ => rfl
      | str _ => rfl
      | _ => simp [plainK] at h
  exact fun {k} h => key _ k (Nat.le_refl _) h
section
variable {X : Cx}
theorem rule_dIn (G : Good X) : Rule X (fun us => compareOp .In (us.getD 0 .none) (us.getD 1 .none)) gDIn := ⟨fun pins s σ H xs us Q F L ps r I hv k hr hg q => by
  unfold gDIn at hg
  split at hg
  · split at hg
    · rename_i ok
      cases hg
      obtain ⟨v, q1, v', q2, rfl, h1, h2⟩ := hr.two
      obtain ⟨a, o, kes, ves, rfl, hd, _⟩ := RepO.asD I k h2
      cases hv with
      | cons r1 hv2 =>
        cases hv2 with
        | cons r2 hv3 =>
          cases hv3
          cases r2
          have pk := ok_plain ok
          exact (hd.ask I k (RepO.toF (plainK_fz pk) h1) r1 ok).there hd.dat.1 pk hd.sys G.un fun n => ⟨.bl _, H, I.tok _, rfl, q (.bl _) _ (.inl ⟨rfl, rfl⟩)⟩
    · cases hg
  · cases hg⟩
theorem rule_dNotIn (G : Good X) : Rule X (fun us => compareOp .NotIn (us.getD 0 .none) (us.getD 1 .none)) gDNotIn := ⟨fun pins s σ H xs us Q F L ps r I hv k hr hg q => by
  unfold gDNotIn at hg
  split at hg
  · split at hg
    · rename_i ok
      cases hg
      obtain ⟨v, q1, v', q2, rfl, h1, h2⟩ := hr.two
      obtain ⟨a, o, kes, ves, rfl, hd, _⟩ := RepO.asD I k h2
      cases hv with
      | cons r1 hv2 =>
        cases hv2 with
        | cons r2 hv3 =>
          cases hv3
          cases r2
          have pk := ok_plain ok
          exact (hd.ask I k (RepO.toF (plainK_fz pk) h1) r1 ok).notThere hd.dat.1 pk hd.sys G.un fun n => ⟨.bl _, H, I.tok _, rfl, q (.bl _) _ (.inl ⟨rfl, rfl⟩)⟩
    · cases hg
  · cases hg⟩
/-- in a list, a tuple, a dict -/
def gInA (ps : List PV) : Option PV := match gIn ps with
  | some r => some r
  | none => gDIn ps
def gNotInA (ps : List PV) : Option PV := match gNotIn ps with
  | some r => some r
  | none => gDNotIn ps
theorem rule_inA (G : Good X) : Rule X (fun us => compareOp .In (us.getD 0 .none) (us.getD 1 .none)) gInA := (rule_in G).or (rule_dIn G)
theorem rule_notInA (G : Good X) : Rule X (fun us => compareOp .NotIn (us.getD 0 .none) (us.getD 1 .none)) gNotInA := (rule_notIn G).or (rule_dNotIn G)
end
end Pv
namespace Pv
open PySem PySem.Spec PyProof.Rows L2

/-! ### d[k] -/
def ddE (a b : Sl) : D Sl := fun env => match cont env a, cont env b with
  | some (.dct _ ks vs), some k => if okKey ks k = true then match kpos ks k with
      | some i => match vs[i]? with
        | some x => if x.fz = true then .ok (.val x) env else match a with
          | .al j p => .ok (.al j (p ++ [i])) env
          | _ => .no
        | none => .no
      | none => .no
    else .no
  | _, _ => .no
def dixA (a b : Sl) : D Sl := fun env => match ddE a b env with
  | .no => dixE a b env
  | r => r
section
variable {X : Cx} {W : WX} {a b c : Expr} {da db dc : D Sl} {pos : Pos}
theorem ix_all (G : Good X) : IxR X (rI2 X.prog X.w X.K W dixA) := by
  intro value slice pins s σ0 H x y v u Q I rx ry ⟨σ, a, b, q⟩ hs
  obtain ⟨env, tm, τ, F, L, hl, R, q⟩ := q
  unfold dixA at q
  have Ra : Rel X.prog X.w X.K env ((tm ++ [a]) ++ [b]) σ ((τ ++ [x]) ++ [y]) F H L := by simpa using R
  have ta := Ra.pop.top
  have tb := Ra.top
  cases e0 : ddE a b env with
  | no =>
    rw [e0] at q
    exact ix_any value slice pins s σ0 H x y v u Q I rx ry ⟨σ, a, b, env, tm, τ, F, L, hl, R, q⟩ hs
  | ex c e =>
    exfalso
    unfold ddE at e0
    repeat' split at e0
    all_goals cases e0
  | ok r env' =>
    rw [e0] at q
    dsimp only at q
    unfold ddE at e0
    cases e1 : cont env a with
    | none => rw [e1] at e0; cases e0
    | some pa =>
      cases e2 : cont env b with
      | none => rw [e1, e2] at e0; cases pa <;> cases e0
      | some pb =>
        rw [e1, e2] at e0
        cases pa with
        | dct ow ks vs =>
          dsimp only at e0
          by_cases ok : okKey ks pb = true
          · rw [if_pos ok] at e0
            cases e3 : kpos ks pb with
            | none => rw [e3] at e0; cases e0
            | some i =>
              rw [e3] at e0
              dsimp only at e0
              cases e4 : vs[i]? with
              | none => rw [e4] at e0; cases e0
              | some z =>
                rw [e4] at e0
                dsimp only at e0
                have ra := ta.repP e1
                obtain ⟨qb, rb⟩ := tb.rep e2
                have pk := ok_plain ok
                obtain ⟨p0, o, kes, ves, rfl, hd, hlen, _, hget⟩ := RepO.asD I R.fle ra
                cases (show v = Value.ref p0 from rx)
                obtain ⟨v0, hv0, hz0⟩ := hget i z e4
                have ask := hd.ask I R.fle (RepO.toF (plainK_fz pk) rb) ry ok
                obtain ⟨n, zv, hr, hw⟩ := ask.item hd.dat.1 pk G.un e3 hv0
                refine subscriptTail_builtinR (x := zv) ask.typ PySem.F.slot_dict_getitem.lookup (hw ⟨rfl, v0, H, I.tok _, hr, ?_⟩) hs
                by_cases hz : z.fz = true
                · rw [if_pos hz] at e0
                  cases e0
                  exact q [v0] F H L rfl (Same.refl F) ((R.popN hl).pushF (RepO.toF hz hz0)) v0 rfl
                · rw [if_neg hz] at e0
                  cases a with
                  | un => cases e1
                  | val pv => cases e0
                  | al j p =>
                    cases e0
                    refine q [v0] F H L rfl (Same.refl F) ((R.popN hl).push ?_ fun j' q' ej _ => by simp at ej) v0 rfl
                    intro x' hx'
                    obtain ⟨pv, g1, g2, g3⟩ := look_some hx'
                    obtain ⟨pv', g1', g2', g3'⟩ := look_some e1
                    rw [g1] at g1'
                    cases g1'
                    rw [at_append, g2'] at g2
                    dsimp only at g2
                    rw [at_dct, e4] at g2
                    dsimp only at g2
                    rw [PV.at] at g2
                    cases g2
                    exact hz0
          · rw [if_neg ok] at e0; cases e0
        | _ => cases e0
theorem ev_ixA (G : Good X) (ha : EV X W a da) (hb : EV X W b db) (hs : PlainIx b := by exact fun _ _ => rfl) : EV X W (.Subscript a b pos) (dop dixA da db) :=
  PEimp (pe_ix (ix_all (W := W) G) ha hb hs) fun σ H Q h => (tE.bind (es := []) (xs := []) h).mono fun v H1 ⟨e, q⟩ => (tE.bind q).mono fun u H2 ⟨e2, q2⟩ => ⟨σ, e, e2, q2⟩
end
end Pv
namespace Pv
open PySem PySem.Spec PyProof.Rows L2

/-! ### d[k] = v, the lists -/
theorem kpos_nil {k : PV} : kpos [] k = none := rfl
theorem kpos_cons {x k : PV} {ks : List PV} : kpos (x :: ks) k = if x = k then some 0 else (kpos ks k).map (· + 1) := by
  unfold kpos
  rw [List.findIdx?_cons]
  by_cases h : x = k
  · simp [h]
  · simp [h]
theorem putK_pos {key : Key} {v : V} : ∀ {kvs : List (Key × V)}, (kvs.map (·.1)).Nodup → putK kvs key v = putL (kpos (kvs.map fun e => keyPV e.1) (keyPV key)) kvs (key, v)
  | [], _ => rfl
  | p :: kvs, hn => by
    rw [List.map_cons, List.nodup_cons] at hn
    have ih := putK_pos (key := key) (v := v) hn.2
    rw [List.map_cons, kpos_cons]
    by_cases h : p.1 = key
    · have hk : ∀ q ∈ kvs, ¬ q.1 = key := fun q hq e => hn.1 (by rw [h, ← e]; exact List.mem_map.mpr ⟨q, hq, rfl⟩)
      have hm : kvs.map (fun kv => if kv.1 = key then (kv.1, v) else kv) = kvs := by
        rw [List.map_congr_left (g := id) fun q hq => by rw [if_neg (hk q hq)]; rfl]
        simp
      unfold putK
      simp only [List.any_cons, h, decide_true, Bool.true_or, if_true, List.map_cons, hm]
      rfl
    · have h2 : ¬ keyPV p.1 = keyPV key := fun e => h (keyPV_inj e)
      have e : putK (p :: kvs) key v = p :: putK kvs key v := by
        unfold putK
        simp only [List.any_cons, h, decide_false, Bool.false_or]
        split
        · simp [h]
        · rfl
      rw [e, ih, if_neg h2]
      cases kpos (kvs.map fun e => keyPV e.1) (keyPV key) with
      | none => rfl
      | some i => rfl
theorem putL_map {α β : Type} {f : α → β} {i : Option Nat} {l : List α} {x : α} : (putL i l x).map f = putL i (l.map f) (f x) := by
  cases i with
  | none => simp [putL]
  | some i => simp [putL, List.map_set]
theorem putL_keep {α β : Type} {f : α → β} {i : Nat} {l : List α} {x : α} (h : l[i]?.map f = some (f x)) : (putL (some i) l x).map f = l.map f := by
  show (l.set i x).map f = _
  rw [List.map_set]
  refine List.ext_getElem? fun j => ?_
  rw [List.getElem?_set]
  by_cases hij : i = j
  · subst hij
    by_cases hl : i < (l.map f).length
    · rw [if_pos rfl, if_pos hl, List.getElem?_map, h]
    · rw [if_pos rfl, if_neg hl, List.getElem?_eq_none (by omega)]
  · rw [if_neg hij]
theorem kpos_get {ks : List PV} {k : PV} {i : Nat} (h : kpos ks k = some i) : ks[i]? = some k := by
  unfold kpos at h
  obtain ⟨h1, h2, _⟩ := List.findIdx?_eq_some_iff_getElem.mp h
  have h2 : ks[i] = k := by simpa using h2
  rw [List.getElem?_eq_getElem h1, h2]
/-- the entries behind a store -/
def xput {α : Type} (xs : List (NestedKey × Addr × α)) (n : NestedKey) (b : Addr) (v : α) : List (NestedKey × Addr × α) :=
  if (xs.any fun x => decide (x.1 = n)) = true then xs.map fun x => if x.1 = n then (x.1, x.2.1, v) else x else xs ++ [(n, b, v)]
theorem storedH_xput {ys : List (NestedKey × Addr × Value)} {n : NestedKey} {b : Addr} {v : Value} : storedH ys n b v = xput ys n b v := by
  unfold storedH xput
  have : (atKey ys n).isSome = ys.any fun x => decide (x.1 = n) := by
    induction ys with
    | nil => rfl
    | cons y ys ih =>
      unfold atKey at ih ⊢
      rw [List.find?_cons, List.any_cons]
      by_cases h : y.1 = n
      · simp [h]
      · simp only [h, decide_false, Bool.false_or]
        exact ih
  rw [this]
  rfl
theorem pairT_any {xs : List (NestedKey × Addr × V)} {ys : List (NestedKey × Addr × Value)} (n : NestedKey) (h : PairT xs ys) : (xs.any fun x => decide (x.1 = n)) = ys.any fun x => decide (x.1 = n) := by
  induction h with
  | nil => rfl
  | cons hp _ ih => rw [List.any_cons, List.any_cons, ih, hp.1]
theorem pairT_put {xs : List (NestedKey × Addr × V)} {ys : List (NestedKey × Addr × Value)} {n : NestedKey} {b : Addr} {v : V} {z : Value} (h : PairT xs ys) (r : RelV v z) : PairT (xput xs n b v) (xput ys n b z) := by
  have mp : ∀ (l : List (NestedKey × Addr × V)) (m : List (NestedKey × Addr × Value)), PairT l m → PairT (l.map fun x => if x.1 = n then (x.1, x.2.1, v) else x) (m.map fun x => if x.1 = n then (x.1, x.2.1, z) else x) := by
    intro l m hlm
    induction hlm with
    | nil => exact .nil
    | @cons p q ps qs hp _ ih =>
      rw [List.map_cons, List.map_cons]
      refine .cons ?_ ih
      by_cases hx : p.1 = n
      · rw [if_pos hx, if_pos (hp.1 ▸ hx)]
        exact ⟨hp.1, hp.2.1, r⟩
      · rw [if_neg hx, if_neg (hp.1 ▸ hx)]
        exact hp
  have app : ∀ (l : List (NestedKey × Addr × V)) (m : List (NestedKey × Addr × Value)), PairT l m → PairT (l ++ [(n, b, v)]) (m ++ [(n, b, z)]) := by
    intro l m hlm
    induction hlm with
    | nil => exact .cons ⟨rfl, rfl, r⟩ .nil
    | cons hq _ ih => exact .cons hq ih
  unfold xput
  rw [pairT_any n h]
  split
  · exact mp _ _ h
  · exact app _ _ h
theorem xput_pos : ∀ {ks : List PV} {xs : List (NestedKey × Addr × V)} {k : PV} {n : NestedKey} {b : Addr} {v : V}, nks ks = some (xs.map (·.1)) → plainKs ks = true → plainK k = true → nk k = some n → (xs.map (·.1)).Nodup →
    (xput xs n b v).map (·.1) = keepL (kpos ks k) (xs.map (·.1)) n ∧ (xput xs n b v).map (fun e => V.ref e.2.1) = keepL (kpos ks k) (xs.map fun e => V.ref e.2.1) (V.ref b) ∧ (xput xs n b v).map (·.2.2) = putL (kpos ks k) (xs.map (·.2.2)) v
  | [], [], k, n, b, v, _, _, _, _, _ => ⟨rfl, rfl, rfl⟩
  | [], _ :: _, k, n, b, v, h, _, _, _, _ => by simp [nks] at h
  | a :: ks, [], k, n, b, v, h, _, _, _, _ => by
    rw [nks] at h
    split at h <;> cases h
  | a :: ks, x :: xs, k, n, b, v, h, pks, pk, hk, hn => by
    rw [nks] at h
    split at h
    · rename_i m ms e1 e2
      have h' : m :: ms = x.1 :: xs.map (·.1) := Option.some.inj h
      obtain ⟨rfl, rfl⟩ : m = x.1 ∧ ms = xs.map (·.1) := by injection h' with g1 g2; exact ⟨g1, g2⟩
      simp [plainKs] at pks
      rw [List.map_cons, List.nodup_cons] at hn
      have ih := xput_pos (b := b) (v := v) e2 pks.2 pk hk hn.2
      rw [kpos_cons]
      by_cases hak : a = k
      · subst hak
        rw [hk] at e1
        have e1 : n = x.1 := Option.some.inj e1
        subst e1
        have hk2 : ∀ q ∈ xs, ¬ q.1 = x.1 := fun q hq e => hn.1 (by rw [← e]; exact List.mem_map.mpr ⟨q, hq, rfl⟩)
        have hm : xs.map (fun y => if y.1 = x.1 then (y.1, y.2.1, v) else y) = xs := by
          rw [List.map_congr_left (g := id) fun q hq => by rw [if_neg (hk2 q hq)]; rfl]
          simp
        have e : xput (x :: xs) x.1 b v = (x.1, x.2.1, v) :: xs := by
          unfold xput
          simp only [List.any_cons, decide_true, Bool.true_or, if_true, List.map_cons, hm]
        rw [e, if_pos rfl]
        exact ⟨rfl, rfl, rfl⟩
      · have hne : ¬ x.1 = n := fun z => hak (nk_inj a k n pks.1 pk (by rw [e1, z]) hk)
        have e : xput (x :: xs) n b v = x :: xput xs n b v := by
          unfold xput
          simp only [List.any_cons, hne, decide_false, Bool.false_or]
          split
          · simp [hne]
          · rfl
        rw [e, if_neg hak]
        obtain ⟨i1, i2, i3⟩ := ih
        simp only [List.map_cons, i1, i2, i3]
        cases kpos ks k with
        | none => exact ⟨rfl, rfl, rfl⟩
        | some i => exact ⟨rfl, rfl, rfl⟩
    · cases h
theorem nks_app : ∀ {ks : List PV} {ns : List NestedKey} {k : PV} {n : NestedKey}, nks ks = some ns → nk k = some n → nks (ks ++ [k]) = some (ns ++ [n])
  | [], ns, k, n, h, hk => by
    rw [nks] at h
    cases h
    show nks [k] = _
    rw [nks, nks, hk]
    rfl
  | a :: ks, ns, k, n, h, hk => by
    rw [nks] at h
    split at h
    · rename_i m ms e1 e2
      cases h
      rw [List.cons_append, nks, e1, nks_app e2 hk]
      rfl
    · cases h
theorem plainKs_app : ∀ {ks ls : List PV}, plainKs (ks ++ ls) = (plainKs ks && plainKs ls)
  | [], ls => by simp [plainKs]
  | k :: ks, ls => by rw [List.cons_append, plainKs, plainKs, plainKs_app, Bool.and_assoc]
end Pv
namespace Pv
open PySem PySem.Spec PyProof.Rows L2
section
variable {X : Cx} {pins : List (Addr × Obj)} {σ : L2.St} {F H : Hp} {s : Shared} {L : Lab} {a : Addr} {o : Obj} {ks : List PV} {kes ves : List V} {k : PV} {v : V} {u : Value}
theorem dxo_ok {P : Program} {w : World} {H : Hp} {h : Heap} {a : Addr} {o : Obj} (g : h.get? a = some o) : ObjOk P w H h a (DXO a o) := ⟨g, ⟨o, g⟩, fun h1 h2 e k => k _ e⟩
theorem dxo_write {h' : Heap} {t' : Nat} {o o' : Obj} (I : L2.Inv X pins σ H s) (e : H a = some (DXO a o)) (hs : Heap.SameBut a s.heap h') (g : h'.get? a = some o') : L2.Inv X pins σ (upd H a (DXO a o')) { s with heap := h', toks := t' } :=
  I.write (x := a) (e := a) (by rw [e]; exact True.intro) (.inl rfl) (fun b q hb z => (hs.2 b hb).trans z) ⟨_, g⟩ (dxo_ok g)
theorem plainK_kv {key : Key} : plainK (keyPV key) = true := by cases key <;> rfl
theorem keepL_plain {i : Option Nat} (h : plainKs ks = true) (hk : plainK k = true) : plainKs (keepL i ks k) = true := by
  cases i with
  | none => show plainKs (ks ++ [k]) = true; rw [plainKs_app, h]; simp [plainKs, hk]
  | some i => exact h
theorem Ask.store (h : Ask X.prog X.w s.heap a ks kes ves k v u) (I : L2.Inv X pins σ H s) (e : H a = some (DXO a o)) (pks : plainKs ks = true) (pk : plainK k = true) (hu : X.A.units + 200 < cLine) (hl : ks.length ≤ 1000000) {vv : V} {z : Value} (rz : RelV vv z) {E : Value → Shared → Prop} :
    wpAny (model X.prog X.w) X.A (setItem (.ref a) u z) (fun _ s' => ∃ o', L2.Inv X pins σ (upd H a (DXO a o')) s' ∧ DctO X.prog X.w o' (keepL (kpos ks k) ks k) (keepL (kpos ks k) kes v) (putL (kpos ks k) ves vv)) E s := by
  have hz : (16777216 : Nat) = sizeLine := sl24
  cases h with
  | sc key kvs vs hk hd kv e1 e2 e3 e4 e5 =>
    have hlen : vs.length ≤ sizeLine := by
      have h1 : kvs.length = vs.length := Paired.length kv
      have h2 : ks.length = kvs.length := by rw [e1]; simp
      omega
    refine wpAny_setItem_pairs (hsz := hlen) hk hd fun h' dd' hs => ?_
    obtain ⟨o', es, ep, g, g2, g3, g4, g5, g6⟩ := dd'
    refine ⟨o', dxo_write I e hs g, keepL_plain pks pk, .inl ⟨putK kvs key vv, ⟨es, ep, _, g2, g3, kv.put key rz, g4, g5, g6⟩, ?_, ?_⟩⟩
    all_goals
      have nd : (kvs.map (·.1)).Nodup := by
        obtain ⟨_, _, _, _, _, _, _, _, n⟩ := hd
        rw [kv.keys]
        exact n
      rw [putK_pos nd, ← e1, ← e4, putL_map]
    · rw [e2, e5]
      cases hp : kpos ks k with
      | none => rfl
      | some i =>
        have hg := kpos_get hp
        rw [e1, List.getElem?_map] at hg
        show _ = (kvs.map fun e => kV e.1).set i (kV key)
        have : kvs[i]?.map (fun e => kV e.1) = some (kV key) := by
          cases hq : kvs[i]? with
          | none => rw [hq] at hg; cases hg
          | some q =>
            rw [hq] at hg
            have : keyPV q.1 = k := Option.some.inj hg
            rw [e4] at this
            rw [Option.map_some, keyPV_inj this]
        have hk := putL_keep (f := fun e : Key × V => kV e.1) (i := i) (l := kvs) (x := (key, vv)) this
        rw [putL_map] at hk
        exact hk.symm
    · rw [e3]
  | tp b n xs ys hu' hk hd kv e1 e2 e3 e4 e5 e6 e7 =>
    subst hu'
    have hlen : ys.length ≤ sizeLine := by
      have h1 : xs.length = ys.length := Paired.length kv
      have h2 : ks.length = xs.length := by
        have : ∀ (ks : List PV) (ns : List NestedKey), nks ks = some ns → ks.length = ns.length := by
          intro ks
          induction ks with
          | nil => intro ns h; rw [nks] at h; cases h; rfl
          | cons a ks ih =>
            intro ns h
            rw [nks] at h
            split at h
            · rename_i m ms q1 q2
              cases h
              simp [ih ms q2]
            · cases h
        have := this ks _ e1
        simpa using this
      omega
    refine wpAny_setItem_heap (hsz := hlen) (room_n hu) hk hd fun h' dd' hs => ?_
    obtain ⟨o', es, ep, g, g2, g3, g4, g5, g6⟩ := dd'
    rw [storedH_xput] at g4 g6
    have nd : (xs.map (·.1)).Nodup := by
      obtain ⟨_, _, _, _, _, _, _, _, n⟩ := hd
      have : ∀ (l : List (NestedKey × Addr × V)) (m : List (NestedKey × Addr × Value)), PairT l m → l.map (·.1) = m.map (·.1) := by
        intro l m hlm
        induction hlm with
        | nil => rfl
        | cons hp _ ih => rw [List.map_cons, List.map_cons, ih, hp.1]
      rw [this _ _ kv]
      exact n
    obtain ⟨p1, p2, p3⟩ := xput_pos (b := b) (v := vv) e1 pks pk e4 nd
    refine ⟨o', dxo_write I e hs g, keepL_plain pks pk, .inr ⟨xput xs n b vv, ⟨es, ep, _, g2, g3, pairT_put kv rz, g4, g6⟩, ?_, ?_, ?_, ?_⟩⟩
    · rw [p2, e2, e5]
    · rw [p3, e3]
    · rw [p1]
      cases kpos ks k with
      | none => exact nks_app e1 e4
      | some i => exact e1
    · intro x hx
      have hm : x.1 ∈ (xput xs n b vv).map (·.1) := List.mem_map.mpr ⟨x, hx, rfl⟩
      rw [p1] at hm
      have old : ∀ m ∈ xs.map (·.1), m.depth ≤ 8 := fun m hm => by
        obtain ⟨q, hq, rfl⟩ := List.mem_map.mp hm
        exact e7 q hq
      cases hp : kpos ks k with
      | none =>
        rw [hp] at hm
        rcases List.mem_append.mp hm with h | h
        · exact old _ h
        · rw [List.mem_singleton.mp h]; exact e6
      | some i => rw [hp] at hm; exact old _ hm
end
/-! the tree behind a store -/
def dctPut (ks vs : List PV) (k p : PV) : PV := .dct true (keepL (kpos ks k) ks k) (putL (kpos ks k) vs p)
section
variable {P : Program} {w : World} {K : PySem.W.Frag} {F F' H H' : Hp} {L L' : Lab} {env env' tm tm' : PEnv} {σ σ' : L2.St} {τ τ' : List V}
theorem Rel.mutD {j : Nat} {p : Path} {ks vs ks' vs' : List PV} {a : Addr} {o' : Obj} {kes' ves' : List V} (R : Rel P w K env tm σ τ F H L) (hlk : look env j p = some (.dct true ks vs)) (hL : L a = some (2 * j :: p)) (hs : (a == sysModules) = false) (hz : PV.fzs vs' = true) (hk : RepFs P w K F ks' kes') (hr : RepFs P w K F vs' ves') (hd : DctO P w o' ks' kes' ves') :
    Rel P w K (putE env j p (.dct true ks' vs')) tm σ τ F (upd H a (DXO a o')) L := by
  obtain ⟨pv, e1, e2, e3⟩ := look_some hlk
  have fl : F a = none := R.lf a _ hL
  refine R.mut e1 e2 e3 (Same.refl F) (fun b o e => ?_) R.lf (fun b q e => ?_) (fun u hu => ?_) (fun b s l' hp => ⟨l', upd_ne fun z => ?_⟩) R.inj fun i q hm => ?_
  · rw [upd_ne (ne_of_none e fl)]; exact R.fle b o e
  · by_cases ha : b = a
    · subst ha; exact ⟨_, upd_same⟩
    · rw [upd_ne ha]; exact R.lh b q e
  · rw [RepO] at hu ⊢
    obtain ⟨a', kes, ws, rfl, la, _, _⟩ := hu
    obtain rfl := R.inj a' a _ la hL
    exact ⟨a', kes', ves', rfl, la, ⟨hs, o', upd_same, hd⟩, hk, RepOs.ofF hr⟩
  · subst z
    rw [hL] at l'
    cases l'
    exact hp (List.prefix_refl _)
  · by_cases hc : i = j ∧ p <+: q ∧ p ≠ q
    · refine .inr fun x hx => ?_
      obtain ⟨rfl, ⟨r, rfl⟩, hne⟩ := hc
      obtain ⟨y, f1, f2, f3⟩ := look_some hx
      rw [putE_get e1] at f1
      cases f1
      rw [at_append] at f2
      have h0 := put_at p [] pv (.dct true ks' vs') ⟨_, by rw [List.append_nil]; exact e2⟩
      rw [List.append_nil] at h0
      rw [h0, e2] at f2
      cases r with
      | nil => exact hne (by simp)
      | cons c r =>
        have h1 : (PV.dct true ks' vs').at (c :: r) = some x := f2
        rw [flat_at (a := .dct true ks' vs') hz h1] at f3
        cases f3
    · exact .inl hc
theorem RepFs.keep {ks : List PV} {kes : List V} {k : PV} {v : V} {i : Option Nat} (h : RepFs P w K F ks kes) (hk : RepF P w K F k v) : RepFs P w K F (keepL i ks k) (keepL i kes v) := by
  cases i with
  | none => exact h.append (by rw [RepFs]; exact ⟨v, [], rfl, hk, by rw [RepFs]⟩)
  | some i => exact h
theorem RepFs.putl {ks : List PV} {kes : List V} {k : PV} {v : V} {i : Option Nat} (h : RepFs P w K F ks kes) (hk : RepF P w K F k v) : RepFs P w K F (putL i ks k) (putL i kes v) := by
  cases i with
  | none => exact h.append (by rw [RepFs]; exact ⟨v, [], rfl, hk, by rw [RepFs]⟩)
  | some i => exact h.set hk i
end
end Pv
namespace Pv
open PySem PySem.Spec PyProof.Rows L2

/-! ### x[i] = v, d[k] = v -/
def rSetS (X : Cx) : TSet := fun o i v H Q => ∀ (pins : List (Addr × Obj)) (s : Shared) (σ : L2.St) (ov iv u : Value), L2.Inv X pins σ H s → RelV o ov → RelV i iv → RelV v u →
  wpAny (model X.prog X.w) X.A (setItem ov iv u) (fun _ s' => ∃ H', L2.Inv X pins σ H' s' ∧ Q H') X.xe s
theorem set_sem {X : Cx} : PSet X (rSetS X) := fun pins s σ H o i v ov iv u Q I r1 r2 r3 h => h pins s σ ov iv u I r1 r2 r3
section
variable {X : Cx} {F0 F1 H : Hp} {L : Lab} {env env' tm : PEnv} {σ : L2.St} {τ : List V} {a b : Sl} {p : PV} {x y v : V} {Q : Hp → Prop}
theorem store_list (R : Rel X.prog X.w X.K env ((tm ++ [a]) ++ [b]) σ ((τ ++ [x]) ++ [y]) F1 H L) (hp : RepF X.prog X.w X.K F1 p v) (hs : storeIx a b p env = some env')
    (q : ∀ H', Rel X.prog X.w X.K env' tm σ τ F1 H' L → Q H') : rSetS X x y v H Q := by
  unfold storeIx at hs
  cases a with
  | un => cases hs
  | val _ => cases hs
  | al j pq =>
    dsimp only at hs
    cases e3 : look env j pq with
    | none => rw [e3] at hs; cases hs
    | some z =>
      cases e4 : cont env b with
      | none =>
        rw [e3, e4] at hs
        cases z with
        | lst ow _ => cases ow <;> cases hs
        | _ => cases hs
      | some iz =>
        rw [e3, e4] at hs
        cases z with
        | lst ow xs =>
          cases ow with
          | false => cases hs
          | true =>
            cases iz with
            | int i =>
              dsimp only at hs
              cases e5 : ixN xs.length i with
              | none => rw [e5] at hs; cases hs
              | some k =>
                rw [e5] at hs
                dsimp only at hs
                by_cases hz : PV.fzs xs = true
                · rw [if_pos hz] at hs
                  cases hs
                  have hr := R.pop.top _ e3
                  have hv := hr
                  rw [RepO] at hv
                  obtain ⟨l, vs, el, _, hH, kids⟩ := hv
                  subst el
                  obtain ⟨q5, r5⟩ := R.top.rep e4
                  rw [RepO] at r5
                  subst r5
                  have hset := RepFs.set (RepOs.toF hz kids) hp k
                  have hfz : PV.fzs (xs.set k p) = true := RepFs.fzs _ _ hset
                  obtain ⟨l2, vs3, el2, hH2, hln, _, R5⟩ := R.pop.pop.mutL e3 hr hfz hset
                  cases el2
                  rw [hH] at hH2
                  cases hH2
                  intro pins s σ' ov iv u I ro ri rv
                  exact set_list pins s σ' H _ _ _ ov iv u _ I ro ri rv ⟨l, vs, i, k, rfl, rfl, hH, by rw [← hln]; exact e5, q _ R5⟩
                · rw [if_neg hz] at hs; cases hs
            | _ => cases hs
        | _ => cases hs
theorem store_dict (G : Good X) (R : Rel X.prog X.w X.K env ((tm ++ [a]) ++ [b]) σ ((τ ++ [x]) ++ [y]) F1 H L) (hp : RepF X.prog X.w X.K F1 p v) (hs : storeD a b p env = some env')
    (q : ∀ H', Rel X.prog X.w X.K env' tm σ τ F1 H' L → Q H') : rSetS X x y v H Q := by
  unfold storeD at hs
  cases a with
  | un => cases hs
  | val _ => cases hs
  | al j pq =>
    dsimp only at hs
    cases e3 : look env j pq with
    | none => rw [e3] at hs; cases hs
    | some z =>
      cases e4 : cont env b with
      | none =>
        rw [e3, e4] at hs
        cases z with
        | dct ow _ _ => cases ow <;> cases hs
        | _ => cases hs
      | some k =>
        rw [e3, e4] at hs
        cases z with
        | dct ow ks vs =>
          cases ow with
          | false => cases hs
          | true =>
            dsimp only at hs
            by_cases hc : okKey ks k = true ∧ PV.fzs vs = true ∧ ks.length ≤ 1000000
            · rw [if_pos hc] at hs
              cases hs
              obtain ⟨ok, hz, hl⟩ := hc
              have pk := ok_plain ok
              have hr := R.pop.top _ e3
              have hv := hr
              rw [RepO] at hv
              obtain ⟨a, kes, ves, rfl, hL, hd, hk, kids⟩ := hv
              obtain ⟨hsys, o, hH, hdo⟩ := hd
              obtain ⟨q5, r5⟩ := R.top.rep e4
              have rk := RepO.toF (plainK_fz pk) r5
              intro pins s σ' ov iv u I ro ri rv
              cases (show ov = Value.ref a from ro)
              have at' : DctAt X.prog X.w X.K F1 s.heap a o ks kes ves := ⟨hsys, dxo_get I hH, hdo, hk⟩
              refine wpAny_mono ((at'.ask I R.fle rk ri ok).store I hH hdo.1 pk G.un hl rv) (fun _ s' hh => ?_) fun _ _ e => e
              obtain ⟨o', I', hd'⟩ := hh
              refine ⟨_, I', q _ (R.pop.pop.mutD e3 hL hsys ?_ (hk.keep rk) ((RepOs.toF hz kids).putl hp) hd')⟩
              exact RepFs.fzs _ _ ((RepOs.toF hz kids).putl hp)
            · rw [if_neg hc] at hs; cases hs
        | _ => cases hs
end
section
variable {X : Cx} {o e : Expr} {pos : Pos} {dO dI : D Sl} {fi : List Nat} {σ0 : L2.St}
theorem gv_ix (G : Good X) (ho : EV X noW o dO) (hi : EV X noW e dI) (ha : ∀ v, assign (.Subscript o e pos) X.env v = (do
      let ov ← holding [v] (eval o X.env)
      let iv ← holding [v, ov] (eval e X.env)
      standAt pos
      holding [v, ov, iv] (setItem ov iv v)
      release [v, ov, iv] []) := by intro _; rfl) : GV X fi σ0 (.Subscript o e pos) (.ix dO dI) :=
  PGimp (pg_sub ho hi set_sem ha) fun v σ H Q ⟨env, tm, τ, F, L, p, env', R, fx, hp, hs, q⟩ => by
    rw [setT] at hs
    refine ⟨env, tm, τ, F, L, rfl, by rw [List.append_nil, List.append_nil]; exact R, ?_⟩
    cases e1 : dO env with
    | no => rw [e1] at hs; cases hs
    | ex c env1 => rw [e1] at hs; cases hs
    | ok a env1 =>
      rw [e1] at hs
      dsimp only at hs
      intro vs F1 H1 L1 h1 k1 R1 x hx
      subst hx
      refine ⟨env1, tm ++ [a], τ ++ [x], F1, L1, rfl, by rw [List.append_nil, List.append_nil]; exact R1, ?_⟩
      cases e2 : dI env1 with
      | no => rw [e2] at hs; cases hs
      | ex c env2 => rw [e2] at hs; cases hs
      | ok b env2 =>
        rw [e2] at hs
        dsimp only at hs
        intro vs F2 H2 L2 h2 k2 R2 y hy
        subst hy
        have hp2 := RepF.mono (k1.trans k2) _ _ hp
        unfold storeA at hs
        cases e3 : storeIx a b p env2 with
        | some ee =>
          rw [e3] at hs
          cases hs
          exact store_list R2 hp2 e3 fun H' R' => q σ F2 H' L2 (k1.trans k2) R' fx
        | none =>
          rw [e3] at hs
          exact store_dict G R2 hp2 hs fun H' R' => q σ F2 H' L2 (k1.trans k2) R' fx
end
end Pv
namespace Pv
open PySem PySem.Spec PyProof.Rows L2

/-! ### what a dict's object holds, entry by entry -/
structure Ents (o : Obj) (es : Array DictEntry) (ep : Nat) (kes ves : List V) : Prop where
  ex : o.ExactDict
  dat : o.data = .dict es ep
  nk : es.size = kes.length
  nv : es.size = ves.length
  key : ∀ (i : Nat) (hi : i < es.size) (x : V), kes[i]? = some x → RelV x es[i].key
  val : ∀ (i : Nat) (hi : i < es.size) (x : V), ves[i]? = some x → RelV x es[i].val
theorem pairs_at {K : Type} [DecidableEq K] {prog : Program} {w : World} {knd : KeyKind prog w K} : ∀ {es : List DictEntry} {vs : List (K × Value)}, Pairs knd es vs → es.length = vs.length ∧ ∀ (i : Nat) (e : DictEntry), es[i]? = some e → ∃ p, vs[i]? = some p ∧ knd.is p.1 e.key = true ∧ e.val = p.2
  | [], [], .nil => ⟨rfl, fun i e h => by simp at h⟩
  | e0 :: es, p :: vs, .cons h1 h2 h3 => by
    obtain ⟨l, g⟩ := pairs_at h3
    refine ⟨by simp [l], fun i e h => ?_⟩
    cases i with
    | zero =>
      simp at h
      subst h
      exact ⟨p, rfl, h1, h2⟩
    | succ i => simpa using g i e (by simpa using h)
theorem paired_at {α β : Type} {R : α → β → Prop} : ∀ {xs : List α} {ys : List β}, Paired R xs ys → xs.length = ys.length ∧ ∀ (i : Nat) (x : α), xs[i]? = some x → ∃ y, ys[i]? = some y ∧ R x y
  | [], [], .nil => ⟨rfl, fun i e h => by simp at h⟩
  | x0 :: xs, y0 :: ys, .cons h1 h3 => by
    obtain ⟨l, g⟩ := paired_at h3
    refine ⟨by simp [l], fun i e h => ?_⟩
    cases i with
    | zero =>
      simp at h
      subst h
      exact ⟨y0, rfl, h1⟩
    | succ i => simpa using g i e (by simpa using h)
theorem DctO.ents {P : Program} {w : World} {o : Obj} {ks : List PV} {kes ves : List V} (h : DctO P w o ks kes ves) : ∃ es ep, Ents o es ep kes ves := by
  obtain ⟨_, h⟩ := h
  rcases h with ⟨kvs, ⟨es, ep, vs, g1, g2, g3, g4, g5, g6⟩, rfl, rfl⟩ | ⟨xs, ⟨es, ep, ys, g1, g2, g3, g4, g5⟩, rfl, rfl, _, _⟩
  · obtain ⟨l1, p1⟩ := pairs_at g5
    obtain ⟨l2, p2⟩ := paired_at g3
    rw [Array.length_toList] at l1
    have at1 : ∀ (i : Nat) (hi : i < es.size), ∃ q : Key × V, ∃ p : Key × Value, kvs[i]? = some q ∧ vs[i]? = some p ∧ q.1 = p.1 ∧ RelV q.2 p.2 ∧ (mixKind P w).is p.1 es[i].key = true ∧ es[i].val = p.2 := by
      intro i hi
      obtain ⟨p, h1, h2, h3⟩ := p1 i es[i] (by rw [Array.getElem?_toList]; exact Array.getElem?_eq_getElem hi)
      have hk : i < kvs.length := by rw [l2, ← l1]; exact hi
      obtain ⟨p', h4, h5, h6⟩ := p2 i kvs[i] (List.getElem?_eq_getElem hk)
      rw [h1] at h4
      cases h4
      exact ⟨kvs[i], p, List.getElem?_eq_getElem hk, h1, h5, h6, h2, h3⟩
    refine ⟨es, ep, g1, g2, by simp; omega, by simp; omega, fun i hi x hx => ?_, fun i hi x hx => ?_⟩
    · obtain ⟨q, p, h1, h2, h3, h4, h5, h6⟩ := at1 i hi
      rw [List.getElem?_map, h1] at hx
      cases hx
      show RelV (kV q.1) _
      rw [h3]
      exact relV_key (show keyIs p.1 es[i].key = true from h5)
    · obtain ⟨q, p, h1, h2, h3, h4, h5, h6⟩ := at1 i hi
      rw [List.getElem?_map, h1] at hx
      cases hx
      rw [h6]
      exact h4
  · obtain ⟨l2, p2⟩ := paired_at g3
    have l1 : es.size = ys.length := size_of_entries g4
    have at1 : ∀ (i : Nat) (hi : i < es.size), ∃ x y, xs[i]? = some x ∧ ys[i]? = some y ∧ x.2.1 = y.2.1 ∧ RelV x.2.2 y.2.2 ∧ es[i] = entryOfKey (nestedKind P w) y := by
      intro i hi
      have hk : i < xs.length := by rw [l2, ← l1]; exact hi
      obtain ⟨y, h4, h5, h6, h7⟩ := p2 i xs[i] (List.getElem?_eq_getElem hk)
      have := entry_at g4 i
      rw [h4, Array.getElem?_eq_getElem hi] at this
      exact ⟨xs[i], y, List.getElem?_eq_getElem hk, h4, h6, h7, Option.some.inj this⟩
    refine ⟨es, ep, g1, g2, by simp; omega, by simp; omega, fun i hi x hx => ?_, fun i hi x hx => ?_⟩
    · obtain ⟨q, p, h1, h2, h3, h4, h5⟩ := at1 i hi
      rw [List.getElem?_map, h1] at hx
      cases hx
      rw [h5]
      show RelV (V.ref q.2.1) (Value.ref p.2.1)
      rw [h3]
      exact rfl
    · obtain ⟨q, p, h1, h2, h3, h4, h5⟩ := at1 i hi
      rw [List.getElem?_map, h1] at hx
      cases hx
      rw [h5]
      exact h4
/-! ### walks -/
def StD (K : PySem.W.Frag) (H : Hp) (d : Addr) (o : Obj) : Prop := H d = some (DXO d o) ∨ K.lookup d = some o
theorem StD.get {X : Cx} {pins : List (Addr × Obj)} {σ : L2.St} {H : Hp} {s : Shared} {d : Addr} {o : Obj} (h : StD X.K H d o) (I : L2.Inv X pins σ H s) : s.heap.get? d = some o := by
  rcases h with e | e
  · exact dxo_get I e
  · exact I.kIn d o e
def Itx (K : PySem.W.Frag) (d : Addr) (o : Obj) (xs : List V) : It := ⟨fun i H => StD K H d o ∧ i < xs.length, fun i H x H' => H' = H ∧ xs[i]? = some x, fun i H => StD K H d o ∧ xs.length ≤ i⟩
def Itp (K : PySem.W.Frag) (d : Addr) (o : Obj) (xs ys : List V) : It := ⟨fun i H => StD K H d o ∧ i < xs.length, fun i H v H' => ∃ T x y, v = .ref T ∧ H T = none ∧ H' = upd H T (.tup [x, y]) ∧ xs[i]? = some x ∧ ys[i]? = some y, fun i H => StD K H d o ∧ xs.length ≤ i⟩
section
variable {P : Program} {w : World} {K : PySem.W.Frag} {tg : Expr} {d : Addr} {o : Obj} {es : Array DictEntry} {ep : Nat} {kes ves : List V}
theorem turn_keysX (it : Addr) (en : Ents o es ep kes ves) : Turn P w K tg (Itx K d o kes) [it] it (fun i h => h.IsKeyIter it d i es.size ep) where
  mem := by simp
  obj := fun i h st b hb => by
    have e : b = it := by simpa using hb
    subst e
    obtain ⟨oi, e, c, dd⟩ := st
    exact ⟨oi, e, fun v z => by rw [dd] at z; cases z⟩
  keep := fun i h h' st k => st.at fun oi e => k it (by simp) oi e
  item := by
    intro X hP hw hK hc i pins s σ H E I hf st hg
    subst hP hw hK
    obtain ⟨hd, hi⟩ := hg
    obtain ⟨f0, f1, f2, f3, f4, f5⟩ := hf it (by simp)
    have hi' : i < es.size := by rw [en.nk]; exact hi
    refine wpAny_pyNext_keys_item_raw st ⟨o, hd.get I, en.ex, en.dat⟩ hi' fun h' st' sb => ?_
    have I1 : L2.Inv X pins σ H { s with heap := h' } := I.turned (t' := s.toks) (fun b ob hb e => (sb.2 b hb).trans e) f0 f1 f3 f4 f5
    obtain ⟨oi, e, c, dd⟩ := id st'
    exact ⟨es[i].key, rfl, go_of (s := { s with heap := h' }) e c dd (by decide) ⟨kes[i], H, I1, en.key i hi' _ (List.getElem?_eq_getElem hi), ⟨rfl, List.getElem?_eq_getElem hi⟩, st', fun b hb => (hf b hb).1⟩⟩
  done := by
    intro X hP hw hK hc i pins s σ H E I hf st hg
    subst hP hw hK
    obtain ⟨hd, hi⟩ := hg
    obtain ⟨f0, f1, f2, f3, f4, f5⟩ := hf it (by simp)
    exact wpAny_pyNext_keys_end_raw (I.ok.hd hc) st ⟨o, hd.get I, en.ex, en.dat⟩ (by rw [en.nk]; exact hi) fun h' eb => ⟨rfl, I.turned (t' := s.toks) (fun b ob hb e => eb b ob hb e) f0 f1 f3 f4 f5⟩
  self := fun A i s Q E st h => by
    refine wpAny_pyIter_slot st.typeIs F.slot_dict_keyiterator_iter (wpAny_call_entry F.slot_dict_keyiterator_iter st.typeIs F.entry_dict_keyiterator_iter ?_ (F.args_dict_keyiterator_iter_1 _))
    show wpAny _ _ (ret (.ref it)) _ _ s
    exact wpAny_pure ⟨_, rfl, "dict_keyiterator", _, st.typeIs, F.slot_dict_keyiterator_next.lookup, h⟩
theorem turn_valsX (it : Addr) (en : Ents o es ep kes ves) : Turn P w K tg (Itx K d o ves) [it] it (fun i h => h.IsValIter it d i es.size ep) where
  mem := by simp
  obj := fun i h st b hb => by
    have e : b = it := by simpa using hb
    subst e
    obtain ⟨oi, e, c, dd⟩ := st
    exact ⟨oi, e, fun v z => by rw [dd] at z; cases z⟩
  keep := fun i h h' st k => st.at fun oi e => k it (by simp) oi e
  item := by
    intro X hP hw hK hc i pins s σ H E I hf st hg
    subst hP hw hK
    obtain ⟨hd, hi⟩ := hg
    obtain ⟨f0, f1, f2, f3, f4, f5⟩ := hf it (by simp)
    have hi' : i < es.size := by rw [en.nv]; exact hi
    refine wpAny_pyNext_values_item_raw st ⟨o, hd.get I, en.ex, en.dat⟩ hi' fun h' st' sb => ?_
    have I1 : L2.Inv X pins σ H { s with heap := h' } := I.turned (t' := s.toks) (fun b ob hb e => (sb.2 b hb).trans e) f0 f1 f3 f4 f5
    obtain ⟨oi, e, c, dd⟩ := id st'
    exact ⟨es[i].val, rfl, go_of (s := { s with heap := h' }) e c dd (by decide) ⟨ves[i], H, I1, en.val i hi' _ (List.getElem?_eq_getElem hi), ⟨rfl, List.getElem?_eq_getElem hi⟩, st', fun b hb => (hf b hb).1⟩⟩
  done := by
    intro X hP hw hK hc i pins s σ H E I hf st hg
    subst hP hw hK
    obtain ⟨hd, hi⟩ := hg
    obtain ⟨f0, f1, f2, f3, f4, f5⟩ := hf it (by simp)
    exact wpAny_pyNext_values_end_raw (I.ok.hd hc) st ⟨o, hd.get I, en.ex, en.dat⟩ (by rw [en.nv]; exact hi) fun h' eb => ⟨rfl, I.turned (t' := s.toks) (fun b ob hb e => eb b ob hb e) f0 f1 f3 f4 f5⟩
  self := fun A i s Q E st h => wpAny_pyIter_valiter st h
theorem turn_itemsX {elts : List Expr} {kk : Nat} {tpos : Pos} (it : Addr) (en : Ents o es ep kes ves) :
    Turn P w K (.Tuple elts kk tpos) (Itp K d o kes ves) [it] it (fun i h => ∃ ok ov, IsItemIter h it d i es.size ep ok ov) where
  mem := by simp
  obj := fun i h st b hb => by
    have e : b = it := by simpa using hb
    subst e
    obtain ⟨ok, ov, e⟩ := st
    exact ⟨_, e, fun v z => nomatch z⟩
  keep := fun i h h' st k => let ⟨ok, ov, e⟩ := st; ⟨ok, ov, k it (by simp) _ e⟩
  item := by
    intro X hP hw hK hc i pins s σ H E I hf st hg
    subst hP hw hK
    obtain ⟨hd, hi⟩ := hg
    have hi' : i < es.size := by rw [en.nk]; exact hi
    have hj : i < ves.length := by rw [← en.nv]; exact hi'
    obtain ⟨ok, ov, he⟩ := st
    have hlt : it < s.heap.objs.size := Heap.lt_size he
    refine wpAny_pyNext_items_item_raw he ⟨o, hd.get I, en.ex, en.dat⟩ hi' fun h' ho hT hz hk => ?_
    refine ⟨_, rfl, wpAny_letOwnedTupleGo_items (s := { s with heap := h' }) ho fun h'' he' sb => ?_⟩
    have hT2 : h''.get? s.heap.objs.size = some { cls := .type "tuple", data := .seq #[es[i].key, es[i].val] } := (sb.2 _ (Nat.ne_of_gt hlt)).trans hT
    have new : ObjOk X.prog X.w (upd H s.heap.objs.size (.tup [kes[i], ves[i]])) h'' s.heap.objs.size (.tup [kes[i], ves[i]]) :=
      ⟨by show 2 ≤ sizeLine; decide, [es[i].key, es[i].val], .cons (en.key i hi' _ (List.getElem?_eq_getElem hi)) (.cons (en.val i hi' _ (List.getElem?_eq_getElem hj)) .nil), ⟨_, hT2, rfl, _, rfl⟩⟩
    have I1 : L2.Inv X pins σ (upd H s.heap.objs.size (.tup [kes[i], ves[i]])) { s with heap := h'' } :=
      I.turnedNew (t' := s.toks) (ch := [it]) (fun b ob hb e => (sb.2 b (by simpa using hb)).trans (hk b ob (by simpa using hb) e)) hf (Nat.le_refl _) new
    refine ⟨.ref s.heap.objs.size, _, I1, rfl, ⟨_, kes[i], ves[i], rfl, I.hok.fresh (Nat.le_refl _), rfl, List.getElem?_eq_getElem hi, List.getElem?_eq_getElem hj⟩, ⟨es[i].key, es[i].val, he'⟩, fun b hb => ?_⟩
    have e : b = it := by simpa using hb
    rw [e, upd_ne (Nat.ne_of_lt hlt)]
    exact (hf it (by simp)).1
  done := by
    intro X hP hw hK hc i pins s σ H E I hf st hg
    subst hP hw hK
    obtain ⟨hd, hi⟩ := hg
    obtain ⟨f0, f1, f2, f3, f4, f5⟩ := hf it (by simp)
    obtain ⟨ok, ov, he⟩ := st
    exact wpAny_pyNext_items_end_raw (I.ok.hd hc) he ⟨o, hd.get I, en.ex, en.dat⟩ (by rw [en.nk]; exact hi) fun h' eb => ⟨rfl, I.turned (t' := s.toks) (fun b ob hb e => eb b ob hb e) f0 f1 f3 f4 f5⟩
  self := fun A i s Q E st h => let ⟨_, _, e⟩ := st; PySem.W.kcp_self e h
end
end Pv
namespace Pv
open PySem PySem.Spec PyProof.Rows L2

/-! ### what is walked: lists, tuples, dicts -/
def itemsA (e : Sl) : D (List PV) := fun env => match frzE env e with
  | some (.lst _ xs, env1) => .ok xs env1
  | some (.tup xs, env1) => .ok xs env1
  | some (.frl xs, env1) => .ok xs env1
  | some (.dct _ ks _, env1) => .ok ks env1
  | _ => .no
def ditemsA (d : D Sl) : D (List PV) := dbind d itemsA
def valsE (e : Sl) : D (List PV) := fun env => match frzE env e with
  | some (.dct _ _ vs, env1) => .ok vs env1
  | _ => .no
def dvals (d : D Sl) : D (List PV) := dbind d valsE
def prsE (e : Sl) : D (List PV) := fun env => match frzE env e with
  | some (.dct _ ks vs, env1) => .ok ((ks.zip vs).map fun p => .tup [p.1, p.2]) env1
  | _ => .no
def dprs (d : D Sl) : D (List PV) := dbind d prsE
section
variable {P : Program} {w : World} {K : PySem.W.Frag} {F H : Hp} {d : Addr} {o : Obj}
theorem StD.mono {H' : Hp} (h : StD K H d o) (k : Same H H') : StD K H' d o := h.imp (k _ _) id
theorem ItOk.dict {xs : List PV} {vs : List V} (s1 : StD K F d o) (r : RepFs P w K F xs vs) : ItOk P w K F xs (Itx K d o vs) := by
  refine ⟨fun i p F' H k1 k2 hp => ?_, fun i F' H k1 k2 hl => ⟨s1.mono (k1.trans k2), by rw [← r.length]; exact hl⟩⟩
  obtain ⟨u, h1, h2⟩ := r.get hp
  refine ⟨⟨s1.mono (k1.trans k2), (List.getElem?_eq_some_iff.mp h1).1⟩, fun x H' hy => ?_⟩
  obtain ⟨rfl, hx⟩ := hy
  rw [h1] at hx
  cases hx
  exact YOk.same (RepF.mono k1 _ _ h2)
theorem ItOk.items {ks vs : List PV} {kes ves : List V} (s1 : StD K F d o) (r : RepFs P w K F ks kes) (r2 : RepFs P w K F vs ves) (hl : kes.length = ves.length) : ItOk P w K F ((ks.zip vs).map fun p => .tup [p.1, p.2]) (Itp K d o kes ves) := by
  have l1 := r.length
  have l2 := r2.length
  refine ⟨fun i p F' H k1 k2 hp => ?_, fun i F' H k1 k2 h => ⟨s1.mono (k1.trans k2), by simp at h; omega⟩⟩
  rw [List.getElem?_map] at hp
  cases e : (ks.zip vs)[i]? with
  | none => rw [e] at hp; cases hp
  | some q =>
    rw [e] at hp
    cases hp
    obtain ⟨hk, hv⟩ := List.getElem?_zip_eq_some.mp e
    obtain ⟨u, h1, h2⟩ := r.get hk
    obtain ⟨u', h3, h4⟩ := r2.get hv
    refine ⟨⟨s1.mono (k1.trans k2), (List.getElem?_eq_some_iff.mp h1).1⟩, fun x H' hy => ?_⟩
    obtain ⟨T, x', y', rfl, hn, rfl, hx, hy⟩ := hy
    rw [h1] at hx
    rw [h3] at hy
    cases hx
    cases hy
    exact YOk.pair k2 (RepF.mono k1 _ _ h2) (RepF.mono k1 _ _ h4) hn
end
section
variable {X : Cx} {W : WX} {tg a : Expr} {da : D Sl} {apos cpos : Pos}
def iLTD (X : Cx) (tl : TE) : TI := fun σ H R => tl σ H fun x H1 => ∃ a, x = .ref a ∧ ((∃ xs, SqL X.K H1 a xs ∧ R (Itl X.K a) H1) ∨ (∃ xs, SqT X.K H1 a xs ∧ R (Itt X.K a) H1) ∨
  (∃ o es ep kes ves, (a == sysModules) = false ∧ StD X.K H1 a o ∧ Ents o es ep kes ves ∧ R (Itx X.K a o kes) H1))
theorem pi_ltd {tl : TE} (hl : PE X a tl) : PI X tg a (iLTD X tl) := by
  refine ⟨fun pins s σ H R I h => thn (hl.run pins s σ H _ I h) fun v s1 ⟨x, H1, I1, r1, ad, e, q⟩ => ?_⟩
  subst e
  cases r1
  have fr : ∀ b ∈ [s1.heap.objs.size], FpOk X pins H1 b := fun b hb => by
    obtain rfl : b = s1.heap.objs.size := by simpa using hb
    exact I1.fpOk (Nat.le_refl _) (I1.hok.fresh (Nat.le_refl _))
  rcases q with ⟨xs, hq, q⟩ | ⟨xs, hq, q⟩ | ⟨o, es, ep, kes, ves, hs, hd, en, q⟩
  · obtain ⟨its, rv, p, hz⟩ := I1.list hq
    exact wpAny_pyIter_list p.isList ⟨s1.heap.objs.size, [s1.heap.objs.size], _, _, H1, rfl, I1.kept (t' := s1.toks) fun _ _ e => Heap.get?_push_of_some _ e, turn_list ad _, ⟨_, Heap.get?_push_size _ rfl, rfl, rfl⟩, fr, q⟩
  · obtain ⟨its, rv, p, hz⟩ := I1.tuple hq
    exact wpAny_pyIter_tuple (show s1.heap.IsTuple ad its.toArray from p) ⟨s1.heap.objs.size, [s1.heap.objs.size], _, _, H1, rfl, I1.kept (t' := s1.toks) fun _ _ e => Heap.get?_push_of_some _ e, turn_tuple ad _, ⟨_, Heap.get?_push_size _ rfl, rfl, rfl⟩, fr, q⟩
  · exact wpAny_pyIter_dict_raw hs ⟨o, hd.get I1, en.ex, en.dat⟩ (pi_one (tk := s1.toks) I1 _ (turn_keysX _ en) ⟨_, Heap.get?_push_size _ rfl, rfl, rfl⟩ q)
theorem DctF.std {P : Program} {w : World} {K : PySem.W.Frag} {F : Hp} {a : Addr} {ks : List PV} {kes ves : List V} (h : DctF P w K F a ks kes ves) : (a == sysModules) = false ∧ ∃ o es ep, StD K F a o ∧ Ents o es ep kes ves := by
  obtain ⟨hs, o, e, r⟩ := h
  obtain ⟨es, ep, en⟩ := r.ents
  exact ⟨hs, o, es, ep, e, en⟩
theorem iv_itemsA (ha : EV X W a da) : IV X W tg a (ditemsA da) := PIimp (pi_ltd ha) fun σ H R h => (tI.expr h).mono fun v H1 ⟨e, env, tm, τ, F, L, R', ok, nn, _⟩ => by
  unfold itemsA at ok nn
  cases e1 : frzE env e with
  | none => rw [e1] at nn; exact absurd rfl nn
  | some r =>
    obtain ⟨p, env1⟩ := r
    rw [e1] at ok nn
    obtain ⟨F1, L1, k1, R1⟩ := R'.frzAt (i := tm.length) (v := v) (by simp) (by have := R'.pop.tlen; rw [this]; simp) e1
    have hs : (tm ++ [e]).set tm.length (.val p) = tm ++ [.val p] := by simp
    rw [hs] at R1
    have rp := RepO.toF (frzE_fz e1) R1.top
    cases p with
    | lst o xs =>
      have hz := frzE_fz e1
      cases o with
      | true => simp [PV.fz] at hz
      | false =>
      rw [RepF] at rp
      obtain ⟨_, ad, vs, rfl, s1, r⟩ := rp
      refine ⟨ad, rfl, .inl ⟨vs, SqL.mono R1.fle (SqL.of s1), ok _ _ rfl F1 H1 L1 _ k1 R1.pop (ItOk.list (SqL.of s1) r)⟩⟩
    | tup xs =>
      rw [RepF] at rp
      obtain ⟨ad, vs, rfl, s1, r⟩ := rp
      exact ⟨ad, rfl, .inr (.inl ⟨vs, SqT.mono R1.fle s1, ok _ _ rfl F1 H1 L1 _ k1 R1.pop (ItOk.tup s1 r)⟩)⟩
    | frl xs =>
      rw [RepF] at rp
      obtain ⟨ad, vs, rfl, s1, r⟩ := rp
      exact ⟨ad, rfl, .inl ⟨vs, SqL.mono R1.fle s1, ok _ _ rfl F1 H1 L1 _ k1 R1.pop (ItOk.list s1 r)⟩⟩
    | dct ow ks vs =>
      have hz := frzE_fz e1
      cases ow with
      | true => simp [PV.fz] at hz
      | false =>
      rw [RepF] at rp
      obtain ⟨_, ad, kes, ves, rfl, hd, rk, rv⟩ := rp
      obtain ⟨hsys, o, es, ep, st, en⟩ := hd.std
      exact ⟨ad, rfl, .inr (.inr ⟨o, es, ep, kes, ves, hsys, st.mono R1.fle, en, ok _ _ rfl F1 H1 L1 _ k1 R1.pop (ItOk.dict st rk)⟩)⟩
    | _ => exact absurd rfl nn
/-! d.values(), d.items() -/
def iValsX (X : Cx) (td : TE) : TI := fun σ H R => td σ H fun x H1 => ∃ d o es ep kes ves, x = .ref d ∧ (d == sysModules) = false ∧ StD X.K H1 d o ∧ Ents o es ep kes ves ∧ R (Itx X.K d o ves) H1
def iItemsX (X : Cx) (td : TE) : TI := fun σ H R => td σ H fun x H1 => ∃ d o es ep kes ves, x = .ref d ∧ (d == sysModules) = false ∧ StD X.K H1 d o ∧ Ents o es ep kes ves ∧ R (Itp X.K d o kes ves) H1
theorem pi_valsX {e : Expr} {td : TE} (he : PE X e td) (hbase : attributeBase e "values" X.env (eval e X.env) = eval e X.env := by rfl) (hline : (apos.endLine == cpos.line) = true := by rfl) : PI X tg (.Call (.Attribute e "values" apos) [] [] cpos) (iValsX X td) := by
  refine ⟨fun pins s σ H R I h => ?_⟩
  refine wpAny_Call_method (T := "dict") (id := "dict.values") hbase rfl hline F.plainAttrs_dict F.slot_dict_values F.type_dict_values (thn (he.run pins s σ H _ I h) fun u s1 ⟨x, H1, I1, rx, d, o, es, ep, kes, ves, ex, hs, hd, en, q⟩ => ?_)
  subst ex
  obtain rfl : u = Value.ref d := rx
  have hm : s1.heap.DictRaw d es ep := ⟨o, hd.get I1, en.ex, en.dat⟩
  refine ⟨hm.typeIs, fun b q => by cases q; exact ⟨o, hd.get I1, en.ex.2.1⟩, ?_⟩
  have I2 : L2.Inv X pins σ H1 { s1 with heap := s1.heap.push { cls := .type "dict_values", data := .fields #[.ref d] } } := I1.kept (t' := s1.toks) fun b ob q => Heap.get?_push_of_some _ q
  have fin : wpAny (model X.prog X.w) X.A (pyIter (.ref s1.heap.objs.size)) (PIE X pins σ tg R) X.xe { s1 with heap := s1.heap.push { cls := .type "dict_values", data := .fields #[.ref d] } } :=
    wpAny_pyIter_values_raw (d := d) ⟨_, Heap.get?_push_size _ rfl, rfl, rfl⟩ (hm.at fun o e => Heap.get?_push_of_some _ e) (pi_one (tk := s1.toks) I2 _ (turn_valsX _ en) ⟨_, Heap.get?_push_size _ rfl, rfl, rfl⟩ q)
  show wpAny _ _ (callWith cpos (.builtin "dict.values") [.ref d] [] []) _ X.xe s1
  exact method_meetsIn F.slot_dict_values F.entry_dict_values rfl (PySem.evalArgs_none ⟨rfl, hm.typeIs, F.args_dict_values_1 _, _, meets_dict_values_raw d hs, ⟨es, ep, hm⟩, fin⟩)
theorem pi_itemsX {e : Expr} {td : TE} {elts : List Expr} {kk : Nat} {tpos : Pos} (he : PE X e td) (hbase : attributeBase e "items" X.env (eval e X.env) = eval e X.env := by rfl) (hline : (apos.endLine == cpos.line) = true := by rfl) : PI X (.Tuple elts kk tpos) (.Call (.Attribute e "items" apos) [] [] cpos) (iItemsX X td) := by
  refine ⟨fun pins s σ H R I h => ?_⟩
  refine wpAny_Call_method (T := "dict") (id := "dict.items") hbase rfl hline F.plainAttrs_dict F.slot_dict_items F.type_dict_items (thn (he.run pins s σ H _ I h) fun u s1 ⟨x, H1, I1, rx, d, o, es, ep, kes, ves, ex, hs, hd, en, q⟩ => ?_)
  subst ex
  obtain rfl : u = Value.ref d := rx
  have hm : s1.heap.DictRaw d es ep := ⟨o, hd.get I1, en.ex, en.dat⟩
  refine ⟨hm.typeIs, fun b q => by cases q; exact ⟨o, hd.get I1, en.ex.2.1⟩, ?_⟩
  have I2 : L2.Inv X pins σ H1 { s1 with heap := s1.heap.push { cls := .type "dict_items", data := .fields #[.ref d] } } := I1.kept (t' := s1.toks) fun b ob q => Heap.get?_push_of_some _ q
  have fin : wpAny (model X.prog X.w) X.A (pyIter (.ref s1.heap.objs.size)) (PIE X pins σ (.Tuple elts kk tpos) R) X.xe { s1 with heap := s1.heap.push { cls := .type "dict_items", data := .fields #[.ref d] } } :=
    wpAny_pyIter_items_raw (d := d) ⟨_, Heap.get?_push_size _ rfl, rfl, rfl⟩ (hm.at fun o e => Heap.get?_push_of_some _ e) (pi_one (tk := s1.toks) I2 _ (turn_itemsX _ en) ⟨.none, .none, Heap.get?_push_size _ rfl⟩ q)
  show wpAny _ _ (callWith cpos (.builtin "dict.items") [.ref d] [] []) _ X.xe s1
  exact method_meetsIn F.slot_dict_items F.entry_dict_items rfl (PySem.evalArgs_none ⟨rfl, hm.typeIs, F.args_dict_items_1 _, _, meets_dict_items_raw d hs, ⟨es, ep, hm⟩, fin⟩)
theorem iv_vals (ha : EV X W a da) (hbase : attributeBase a "values" X.env (eval a X.env) = eval a X.env := by rfl) (hline : (apos.endLine == cpos.line) = true := by rfl) : IV X W tg (.Call (.Attribute a "values" apos) [] [] cpos) (dvals da) :=
  PIimp (pi_valsX ha hbase hline) fun σ H R h => (tI.expr h).mono fun v H1 ⟨e, env, tm, τ, F, L, R', ok, nn, _⟩ => by
  unfold valsE at ok nn
  cases e1 : frzE env e with
  | none => rw [e1] at nn; exact absurd rfl nn
  | some r =>
    obtain ⟨p, env1⟩ := r
    rw [e1] at ok nn
    obtain ⟨F1, L1, k1, R1⟩ := R'.frzAt (i := tm.length) (v := v) (by simp) (by have := R'.pop.tlen; rw [this]; simp) e1
    have hs : (tm ++ [e]).set tm.length (.val p) = tm ++ [.val p] := by simp
    rw [hs] at R1
    have rp := RepO.toF (frzE_fz e1) R1.top
    cases p with
    | dct ow ks vs =>
      have hz := frzE_fz e1
      cases ow with
      | true => simp [PV.fz] at hz
      | false =>
      rw [RepF] at rp
      obtain ⟨_, ad, kes, ves, rfl, hd, rk, rv⟩ := rp
      obtain ⟨hsys, o, es, ep, st, en⟩ := hd.std
      exact ⟨ad, o, es, ep, kes, ves, rfl, hsys, st.mono R1.fle, en, ok _ _ rfl F1 H1 L1 _ k1 R1.pop (ItOk.dict st rv)⟩
    | _ => exact absurd rfl nn
theorem iv_prs {elts : List Expr} {kk : Nat} {tpos : Pos} (ha : EV X W a da) (hbase : attributeBase a "items" X.env (eval a X.env) = eval a X.env := by rfl) (hline : (apos.endLine == cpos.line) = true := by rfl) : IV X W (.Tuple elts kk tpos) (.Call (.Attribute a "items" apos) [] [] cpos) (dprs da) :=
  PIimp (pi_itemsX ha hbase hline) fun σ H R h => (tI.expr h).mono fun v H1 ⟨e, env, tm, τ, F, L, R', ok, nn, _⟩ => by
  unfold prsE at ok nn
  cases e1 : frzE env e with
  | none => rw [e1] at nn; exact absurd rfl nn
  | some r =>
    obtain ⟨p, env1⟩ := r
    rw [e1] at ok nn
    obtain ⟨F1, L1, k1, R1⟩ := R'.frzAt (i := tm.length) (v := v) (by simp) (by have := R'.pop.tlen; rw [this]; simp) e1
    have hs : (tm ++ [e]).set tm.length (.val p) = tm ++ [.val p] := by simp
    rw [hs] at R1
    have rp := RepO.toF (frzE_fz e1) R1.top
    cases p with
    | dct ow ks vs =>
      have hz := frzE_fz e1
      cases ow with
      | true => simp [PV.fz] at hz
      | false =>
      rw [RepF] at rp
      obtain ⟨_, ad, kes, ves, rfl, hd, rk, rv⟩ := rp
      obtain ⟨hsys, o, es, ep, st, en⟩ := hd.std
      exact ⟨ad, o, es, ep, kes, ves, rfl, hsys, st.mono R1.fle, en, ok _ _ rfl F1 H1 L1 _ k1 R1.pop (ItOk.items st rk rv (by rw [← en.nk, ← en.nv]))⟩
    | _ => exact absurd rfl nn
end
end Pv
namespace Pv
open PySem PySem.Spec PyProof.Rows L2

/-! ### a new dict -/
section
variable {P : Program} {w : World} {K : PySem.W.Frag} {F F' H H' : Hp} {L L' : Lab} {env env' tm tm' : PEnv} {σ σ' : L2.St} {τ τ' : List V}
theorem Rel.newD {a : Addr} {o : Obj} {ks vs : List PV} {kes ves : List V} (R : Rel P w K env tm σ τ F H L) (hn : H a = none) (hs : (a == sysModules) = false) (hd : DctO P w o ks kes ves) (hk : RepFs P w K F ks kes) (hv : RepFs P w K F vs ves) :
    Rel P w K env (tm ++ [.val (.dct true ks vs)]) σ (τ ++ [.ref a]) F (upd H a (DXO a o)) (upL L a [2 * tm.length + 1]) := by
  refine R.alloc hn ?_
  rw [RepO]
  exact ⟨a, kes, ves, rfl, upL_same, ⟨hs, o, upd_same, hd⟩, hk, RepOs.ofF hv⟩
theorem dct_empty {o : Obj} (h1 : o.ExactDict) {ep : Nat} (h2 : o.data = .dict #[] ep) : DctO P w o [] [] [] := ⟨rfl, .inl ⟨[], ⟨#[], ep, [], h1, h2, .nil, fun e he => by simp at he, .nil, by simp⟩, rfl, rfl⟩⟩
end
def ddct0 : D Sl := dcon (.dct true [] [])
def tDNewX (X : Cx) : TE := fun _ H Q => ∀ p o, H p = none → (p == sysModules) = false → DctO X.prog X.w o [] [] [] → Q (.ref p) (upd H p (DXO p o))
section
variable {X : Cx} {W : WX} {pos : Pos} {a : Expr} {da : D Sl}
theorem pe_dnewX : PE X (.Dict [] [] pos) (tDNewX X) := ⟨fun pins s σ H Q I h => by
  refine wpAny_Dict_empty ⟨.ref s.heap.objs.size, upd H s.heap.objs.size (DXO s.heap.objs.size { cls := .type "dict", data := .dict #[] }), I.laid (a := s.heap.objs.size) (t' := s.toks) (fun _ _ q => Heap.get?_push_of_some _ q) (Nat.le_refl _) (dxo_ok (Heap.get?_push_size _ rfl)), rfl, ?_⟩
  exact h _ _ (I.hok.fresh (Nat.le_refl _)) (beq_eq_false_iff_ne.mpr (Ne.symm (Nat.ne_of_lt I.big))) (dct_empty ⟨rfl, rfl, rfl⟩ rfl)⟩
theorem ev_dct0 : EV X W (.Dict [] [] pos) ddct0 := PEimp pe_dnewX fun σ H Q ⟨env, tm, τ, F, L, hl, R, q⟩ p o hn hs hd => by
  have R' : Rel X.prog X.w X.K env tm σ τ F H L := by simpa using R
  exact q [.ref p] F _ _ rfl (Same.refl F) (R'.newD hn hs hd (by rw [RepFs]) (by rw [RepFs])) _ rfl
end
/-! ### a call, as it is -/
def rSem (X : Cx) (f : Value) : List V → Hp → VK → Prop := fun xs H Q => ∀ (pins : List (Addr × Obj)) (s : Shared) (σ : L2.St) (us : List Value), L2.Inv X pins σ H s → Vals xs us → wpAny (model X.prog X.w) X.A (call f us) (EP X pins σ Q) X.xe s
theorem cr_sem {X : Cx} {f : Value} : CallR X f (rSem X f) := fun pins s σ H xs us Q I r h => h pins s σ us I r
/-! ### dict(pairs) -/
def putP (d : List PV × List PV) (p : PV × PV) : List PV × List PV := (keepL (kpos d.1 p.1) d.1 p.1, putL (kpos d.1 p.1) d.2 p.2)
def mergeP (d : List PV × List PV) (ps : List (PV × PV)) : List PV × List PV := ps.foldl putP d
def prsOf : List PV → Option (List (PV × PV))
  | [] => some []
  | .tup [k, v] :: xs => (prsOf xs).map ((k, v) :: ·)
  | _ => none
def keyT (k : PV) : Bool := plainK k && tupK k && (match nk k with | some n => decide (n.depth ≤ 8) | none => false)
def okPrs (ps : List (PV × PV)) : Bool := (ps.all fun p => scalK p.1) || (ps.all fun p => keyT p.1)
def ddictE (a : Sl) : D Sl := fun env => match cont env a with
  | some (.lst _ xs) => match prsOf xs with
    | some ps => if okPrs ps = true ∧ PV.fzs xs = true ∧ ps.length ≤ 1000000 then .ok (.val (.dct true (mergeP ([], []) ps).1 (mergeP ([], []) ps).2)) env else .no
    | none => .no
  | _ => .no
def ddict (d : D Sl) : D Sl := dbind d ddictE
section
variable {P : Program} {w : World} {K : PySem.W.Frag} {F : Hp}
/-- numbers and texts: one more -/
structure AccK (P : Program) (w : World) (K : PySem.W.Frag) (F : Hp) (acc : List (Key × V)) (d : List PV × List PV) : Prop where
  k : RepFs P w K F d.1 (acc.map fun e => kV e.1)
  v : RepFs P w K F d.2 (acc.map (·.2))
  n : (acc.map (·.1)).Nodup
theorem repK {key : Key} : RepF P w K F (keyPV key) (kV key) := by cases key <;> (unfold keyPV kV; rw [RepF])
theorem AccK.step {acc : List (Key × V)} {d : List PV × List PV} {key : Key} {p : PV} {v : V} (h : AccK P w K F acc d) (hp : RepF P w K F p v) : AccK P w K F (putK acc key v) (putP d (keyPV key, p)) := by
  have hk := keys_scal h.k
  have e := putK_pos (key := key) (v := v) h.n
  rw [← hk] at e
  have em : ∀ {β : Type} (f : Key → β), (putK acc key v).map (fun e => f e.1) = keepL (kpos d.1 (keyPV key)) (acc.map fun e => f e.1) (f key) := fun {β} f => by
    rw [e]
    cases hq : kpos d.1 (keyPV key) with
    | none => simp [putL, keepL]
    | some i =>
      have hg := kpos_get hq
      rw [hk, List.getElem?_map] at hg
      refine putL_keep (f := fun e : Key × V => f e.1) ?_
      cases h2 : acc[i]? with
      | none => rw [h2] at hg; cases hg
      | some q =>
        rw [h2] at hg
        rw [Option.map_some, keyPV_inj (Option.some.inj hg)]
  refine ⟨?_, ?_, ?_⟩
  · rw [em kV]
    exact h.k.keep repK
  · rw [e, putL_map]
    exact h.v.putl hp
  · have e3 : (putK acc key v).map (·.1) = keepL (kpos d.1 (keyPV key)) (acc.map (·.1)) key := em id
    rw [e3]
    show (keepL (kpos d.1 (keyPV key)) (acc.map (·.1)) key).Nodup
    cases hq : kpos d.1 (keyPV key) with
    | some i => exact h.n
    | none =>
      show ((acc.map (·.1)) ++ [key]).Nodup
      rw [List.nodup_append]
      refine ⟨h.n, by simp, fun a ha b hb => ?_⟩
      rw [List.mem_singleton.mp hb]
      intro e2
      subst e2
      obtain ⟨q, hq1, hq2⟩ := List.mem_map.mp ha
      unfold kpos at hq
      have := List.findIdx?_eq_none_iff.mp hq (keyPV a) (by rw [hk]; exact List.mem_map.mpr ⟨q, hq1, by rw [hq2]⟩)
      simp at this
theorem AccK.all : ∀ {more : List (Key × V)} {ps : List (PV × PV)} {acc : List (Key × V)} {d : List PV × List PV}, ps.map (·.1) = more.map (fun e => keyPV e.1) → RepFs P w K F (ps.map (·.2)) (more.map (·.2)) → AccK P w K F acc d → AccK P w K F (mergeK acc more) (mergeP d ps)
  | [], [], acc, d, _, _, h => h
  | [], _ :: _, acc, d, e, _, h => by simp at e
  | _ :: _, [], acc, d, e, _, h => by simp at e
  | (key, v) :: more, (k, p) :: ps, acc, d, e, r, h => by
    simp at e
    obtain ⟨rfl, e⟩ := e
    obtain ⟨r1, r2⟩ := RepFs.tailK (show RepFs P w K F (p :: ps.map (·.2)) (v :: more.map (·.2)) from r)
    exact AccK.all (more := more) (ps := ps) e r2 (h.step r1)
/-- tuples: one more -/
structure AccT (P : Program) (w : World) (K : PySem.W.Frag) (F : Hp) (acc : List (NestedKey × Addr × V)) (d : List PV × List PV) : Prop where
  k : RepFs P w K F d.1 (acc.map fun e => V.ref e.2.1)
  v : RepFs P w K F d.2 (acc.map (·.2.2))
  n : (acc.map (·.1)).Nodup
  m : nks d.1 = some (acc.map (·.1))
  p : plainKs d.1 = true
  t : ∀ x ∈ acc, x.1.depth ≤ 8
theorem AccT.step {acc : List (NestedKey × Addr × V)} {d : List PV × List PV} {n : NestedKey} {b : Addr} {k p : PV} {v : V} (h : AccT P w K F acc d) (hk : RepF P w K F k (.ref b)) (hn : nk k = some n) (hd : n.depth ≤ 8) (pk : plainK k = true) (hp : RepF P w K F p v) : AccT P w K F (xput acc n b v) (putP d (k, p)) := by
  obtain ⟨p1, p2, p3⟩ := xput_pos (b := b) (v := v) h.m h.p pk hn h.n
  refine ⟨?_, ?_, ?_, ?_, ?_, ?_⟩
  · rw [p2]; exact h.k.keep hk
  · rw [p3]; exact h.v.putl hp
  · rw [p1]
    cases hq : kpos d.1 k with
    | some i => exact h.n
    | none =>
      show ((acc.map (·.1)) ++ [n]).Nodup
      rw [List.nodup_append]
      refine ⟨h.n, by simp, fun a ha b hb => ?_⟩
      rw [List.mem_singleton.mp hb]
      intro e2
      subst e2
      have hz : ∀ (ks : List PV) (ns : List NestedKey), nks ks = some ns → plainKs ks = true → a ∈ ns → k ∈ ks := by
        intro ks
        induction ks with
        | nil => intro ns h1 _ h2; rw [nks] at h1; cases h1; cases h2
        | cons x ks ih =>
          intro ns h1 hp h2
          rw [nks] at h1
          split at h1
          · rename_i m ms e1 e2
            cases h1
            simp [plainKs] at hp
            rcases List.mem_cons.mp h2 with e | h2
            · rw [nk_inj x k m hp.1 pk e1 (e ▸ hn)]
              exact List.mem_cons_self
            · exact List.mem_cons_of_mem _ (ih ms e2 hp.2 h2)
          · cases h1
      have hin := hz d.1 _ h.m h.p ha
      unfold kpos at hq
      have := List.findIdx?_eq_none_iff.mp hq k hin
      simp at this
  · rw [p1]
    show nks (keepL (kpos d.1 k) d.1 k) = _
    cases hq : kpos d.1 k with
    | none => exact nks_app h.m hn
    | some i => exact h.m
  · exact keepL_plain h.p pk
  · intro x hx
    have hm : x.1 ∈ (xput acc n b v).map (·.1) := List.mem_map.mpr ⟨x, hx, rfl⟩
    rw [p1] at hm
    have old : ∀ m ∈ acc.map (·.1), m.depth ≤ 8 := fun m hm => by
      obtain ⟨q, hq, rfl⟩ := List.mem_map.mp hm
      exact h.t q hq
    cases hq : kpos d.1 k with
    | none =>
      rw [hq] at hm
      rcases List.mem_append.mp hm with h | h
      · exact old _ h
      · rw [List.mem_singleton.mp h]; exact hd
    | some i => rw [hq] at hm; exact old _ hm
/-- pairs with tuple keys, as they stand -/
inductive PrT (P : Program) (w : World) (K : PySem.W.Frag) (F : Hp) : List (PV × PV) → List (NestedKey × Addr × V) → Prop
  | nil : PrT P w K F [] []
  | cons {k p : PV} {n : NestedKey} {b : Addr} {v : V} {ps : List (PV × PV)} {xs : List (NestedKey × Addr × V)} (hk : RepF P w K F k (.ref b)) (hn : nk k = some n) (hd : n.depth ≤ 8) (pk : plainK k = true) (hp : RepF P w K F p v) (t : PrT P w K F ps xs) : PrT P w K F ((k, p) :: ps) ((n, b, v) :: xs)
def mergeX (acc more : List (NestedKey × Addr × V)) : List (NestedKey × Addr × V) := more.foldl (fun a x => xput a x.1 x.2.1 x.2.2) acc
theorem AccT.all {more : List (NestedKey × Addr × V)} {ps : List (PV × PV)} (t : PrT P w K F ps more) : ∀ {acc : List (NestedKey × Addr × V)} {d : List PV × List PV}, AccT P w K F acc d → AccT P w K F (mergeX acc more) (mergeP d ps) := by
  induction t with
  | nil => intro acc d h; exact h
  | cons hk hn hd pk hp _ ih => intro acc d h; exact ih (h.step hk hn hd pk hp)
theorem pairT_merge {more : List (NestedKey × Addr × V)} {ms : List (NestedKey × Addr × Value)} (t : PairT more ms) : ∀ {acc : List (NestedKey × Addr × V)} {as : List (NestedKey × Addr × Value)}, PairT acc as → PairT (mergeX acc more) (storedAllH as ms) := by
  induction t with
  | nil => intro acc as h; exact h
  | cons hp _ ih =>
    intro acc as h
    refine ih ?_
    rename_i x y _ _ _
    show PairT (xput acc x.1 x.2.1 x.2.2) (storedH as y.1 y.2.1 y.2.2)
    rw [storedH_xput, ← hp.1, ← hp.2.1]
    exact pairT_put h hp.2.2
end
end Pv
namespace Pv
open PySem PySem.Spec PyProof.Rows L2

inductive PrU (P : Program) (w : World) (K : PySem.W.Frag) (F : Hp) (h : Heap) : List (PV × PV) → List Addr → List (V × V) → List (Value × Value) → Prop
  | nil : PrU P w K F h [] [] [] []
  | cons {k p : PV} {T : Addr} {kv pv : V} {ku pu : Value} {ps : List (PV × PV)} {Ts : List Addr} {kvs : List (V × V)} {us : List (Value × Value)} (h1 : RepF P w K F k kv) (h2 : RepF P w K F p pv) (h3 : RelV kv ku) (h4 : RelV pv pu) (h5 : h.IsTuple T #[ku, pu])
      (t : PrU P w K F h ps Ts kvs us) : PrU P w K F h ((k, p) :: ps) (T :: Ts) ((kv, pv) :: kvs) ((ku, pu) :: us)
section
variable {X : Cx} {pins : List (Addr × Obj)} {σ : L2.St} {F H : Hp} {s : Shared}
theorem prU_of (I : L2.Inv X pins σ H s) (k : Same F H) : ∀ (xs : List PV) (vs : List V) (its : List Value) (ps : List (PV × PV)), RepFs X.prog X.w X.K F xs vs → Vals vs its → prsOf xs = some ps →
    ∃ Ts kvs us, PrU X.prog X.w X.K F s.heap ps Ts kvs us ∧ its = Ts.map Value.ref
  | [], vs, its, ps, h, r, e => by
    rw [RepFs] at h
    subst h
    cases r
    rw [prsOf] at e
    cases e
    exact ⟨[], [], [], .nil, rfl⟩
  | x :: xs, vs, its, ps, h, r, e => by
    unfold prsOf at e
    split at e
    · rename_i e0; cases e0
    · rename_i a b ys e0
      cases e0
      obtain ⟨ps', e1, rfl⟩ := Option.map_eq_some_iff.mp e
      rw [RepFs] at h
      obtain ⟨v, vr, rfl, h1, h2⟩ := h
      cases r with
      | cons r1 r2 =>
        obtain ⟨Ts, kvs, us, g1, g2⟩ := prU_of I k xs vr _ ps' h2 r2 e1
        rw [RepF] at h1
        obtain ⟨T, ws, rfl, hs, hr⟩ := h1
        obtain ⟨kv, pv, rfl, q1, q2⟩ := RepFs.two hr
        obtain ⟨jts, rv, hT, _⟩ := I.tuple (SqT.mono k hs)
        cases r1
        cases rv with
        | cons r3 rv =>
          cases rv with
          | cons r4 rv =>
            cases rv
            exact ⟨T :: Ts, (kv, pv) :: kvs, (_, _) :: us, .cons q1 q2 r3 r4 hT g1, by rw [g2]; rfl⟩
    · cases e
theorem PrU.len {ps : List (PV × PV)} {Ts : List Addr} {kvs : List (V × V)} {us : List (Value × Value)} (h : PrU X.prog X.w X.K F s.heap ps Ts kvs us) : Ts.length = us.length ∧ ps.length = us.length := by
  induction h with
  | nil => exact ⟨rfl, rfl⟩
  | cons _ _ _ _ _ _ ih => exact ⟨by simp [ih.1], by simp [ih.2]⟩
theorem PrU.items {ps : List (PV × PV)} {Ts : List Addr} {kvs : List (V × V)} {us : List (Value × Value)} (h : PrU X.prog X.w X.K F s.heap ps Ts kvs us) : PairItems s.heap (Ts.map Value.ref).toArray (fun j => Ts.getD j 0) us := by
  refine ⟨by simp [h.len.1], ?_⟩
  induction h with
  | nil => intro j k v e; simp at e
  | cons h1 h2 h3 h4 h5 t ih =>
    intro j k v e
    cases j with
    | zero =>
      simp at e
      obtain ⟨rfl, rfl⟩ := e
      exact ⟨by simp, .inl h5⟩
    | succ j =>
      have := ih j k v (by simpa using e)
      refine ⟨?_, ?_⟩
      · simpa using this.1
      · simpa using this.2
theorem PrU.scal {ps : List (PV × PV)} {Ts : List Addr} {kvs : List (V × V)} {us : List (Value × Value)} (h : PrU X.prog X.w X.K F s.heap ps Ts kvs us) (hs : (ps.all fun p => scalK p.1) = true) :
    ∃ (mk : List (Key × V)) (ms : List (Key × Value)), ps.map (·.1) = mk.map (fun e => keyPV e.1) ∧ RepFs X.prog X.w X.K F (ps.map (·.2)) (mk.map (·.2)) ∧ KV mk ms ∧ PairsHave (mixKind X.prog X.w) us.length (PairRel us) ms := by
  induction h with
  | nil => exact ⟨[], [], rfl, by simp [RepFs], .nil, rfl, fun i key v e => by simp [PairRel] at e⟩
  | @cons k p T kv pv ku pu ps Ts kvs us h1 h2 h3 h4 h5 t ih =>
    rw [List.all_cons, Bool.and_eq_true] at hs
    obtain ⟨mk, ms, g1, g2, g3, g4, g5⟩ := ih hs.2
    obtain ⟨key, rfl⟩ := keyPV_of hs.1
    have hv' : kv = kV key := by
      cases key with
      | inl i => exact h1
      | inr i => exact h1
    subst hv'
    refine ⟨(key, pv) :: mk, (key, pu) :: ms, by simp [g1], ?_, .cons ⟨rfl, h4⟩ g3, by simp [g4], fun i ky v e => ?_⟩
    · show RepFs _ _ _ F (p :: ps.map (·.2)) (pv :: mk.map (·.2))
      rw [RepFs]
      exact ⟨pv, _, rfl, h2, g2⟩
    · unfold PairRel at e
      cases i with
      | zero =>
        simp at e
        obtain ⟨rfl, rfl⟩ := e
        exact ⟨key, rfl, kV_is h3⟩
      | succ i => simpa using g5 i ky v (by simpa [PairRel] using e)
theorem PrU.tupl {ps : List (PV × PV)} {Ts : List Addr} {kvs : List (V × V)} {us : List (Value × Value)} (I : L2.Inv X pins σ H s) (kF : Same F H) (h : PrU X.prog X.w X.K F s.heap ps Ts kvs us) (hs : (ps.all fun p => keyT p.1) = true) :
    ∃ (xs : List (NestedKey × Addr × V)) (ms : List (NestedKey × Addr × Value)), PrT X.prog X.w X.K F ps xs ∧ PairT xs ms ∧ PairsHaveH (nestedKind X.prog X.w) us.length (PairRel us) ms ∧ ∀ y ∈ ms, (nestedKind X.prog X.w).is s.heap y.1 y.2.1 := by
  induction h with
  | nil => exact ⟨[], [], .nil, .nil, ⟨rfl, fun i key v e => by simp [PairRel] at e⟩, fun y hy => by cases hy⟩
  | @cons k p T kv pv ku pu ps Ts kvs us h1 h2 h3 h4 h5 t ih =>
    rw [List.all_cons, Bool.and_eq_true] at hs
    obtain ⟨xs, ms, g1, g2, ⟨g3, g4⟩, g5⟩ := ih hs.2
    have hk := hs.1
    unfold keyT at hk
    simp only [Bool.and_eq_true] at hk
    obtain ⟨⟨pk, tk⟩, dk⟩ := hk
    cases en : nk k with
    | none => rw [en] at dk; cases dk
    | some n =>
      rw [en] at dk
      have dk : n.depth ≤ 8 := by simpa using dk
      obtain ⟨b, rfl⟩ : ∃ b, kv = .ref b := by
        cases k with
        | tup ys => rw [RepF] at h1; obtain ⟨b, _, e, _⟩ := h1; exact ⟨b, e⟩
        | _ => simp [tupK] at tk
      cases (show ku = Value.ref b from h3)
      refine ⟨(n, b, pv) :: xs, (n, b, pu) :: ms, .cons h1 en dk pk h2 g1, .cons ⟨rfl, rfl, h4⟩ g2, ⟨by simp [g3], fun i ky v e => ?_⟩, fun y hy => ?_⟩
      · unfold PairRel at e
        cases i with
        | zero =>
          simp at e
          obtain ⟨rfl, rfl⟩ := e
          exact ⟨n, b, rfl, rfl⟩
        | succ i => simpa using g4 i ky v (by simpa [PairRel] using e)
      · rcases List.mem_cons.mp hy with rfl | hy
        · exact ⟨nested_of I kF k _ _ n h1 h3 en, dk⟩
        · exact g5 y hy
end
def ddictA (ds : D PEnv) : D Sl := dbind ds fun es => match es with
  | [a] => ddictE a
  | _ => dno
section
variable {X : Cx} {W : WX} {p pos : Pos} {e : Expr} {ds : D PEnv}
theorem ev_dict (G : Good X) (hg : Gl X "dict") (hm : X.mg "dict" = none) (ha : AV X W [e] ds)
    (he : starEach (e :: []) X.env = (false, eval e X.env) :: starEach [] X.env := by rfl) (hpl : (backTo pos (starEach [] X.env)).any (·.1) = false := by rfl) : EV X W (.Call (.Name "dict" p) (e :: []) [] pos) (ddictA ds) :=
  PEimp (pe_callTy (T := "dict") cr_sem hg hm rfl ha (by decide) (by decide) he hpl) fun σ H Q q => (tAr.bind (es := []) (xs := []) q).mono fun vs H1 ⟨en, q⟩ => by
    obtain ⟨env, tm, τ, F, L, hl, R, q⟩ := q
    match en, hl, R, q with
    | [], hl, R, q => exact q.elim
    | _ :: _ :: _, hl, R, q => exact q.elim
    | [a], hl, R, q =>
      obtain ⟨x, rfl⟩ : ∃ x, vs = [x] := by
        match vs, hl with
        | [x], _ => exact ⟨x, rfl⟩
      dsimp only at q
      unfold ddictE at q
      have R1 : Rel X.prog X.w X.K env (tm ++ [a]) σ (τ ++ [x]) F H1 L := by simpa using R
      cases e1 : cont env a with
      | none => rw [e1] at q; exact q.elim
      | some pa =>
        rw [e1] at q
        cases pa with
        | lst ow xs =>
          dsimp only at q
          cases e2 : prsOf xs with
          | none => rw [e2] at q; exact q.elim
          | some ps =>
            rw [e2] at q
            dsimp only at q
            by_cases hc : okPrs ps = true ∧ PV.fzs xs = true ∧ ps.length ≤ 1000000
            · rw [if_pos hc] at q
              obtain ⟨ok, hz, hlen⟩ := hc
              obtain ⟨q1, ra⟩ := R1.top.rep e1
              obtain ⟨p0, vl, rfl, hp, _, hr⟩ := RepO.asL R1.fle ra
              intro pins s σ' us I rv
              cases rv with
              | cons rv1 rv2 =>
                cases rv2
                cases rv1
                obtain ⟨its, rvs, pl, hsz⟩ := I.list (SqL.of hp)
                obtain ⟨Ts, kvs, us2, pu, rfl⟩ := prU_of I R1.fle xs vl its ps (hr hz) rvs e2
                have l2 := pu.len
                have hz2 : (16777216 : Nat) = sizeLine := sl24
                have fresh : H1 s.heap.objs.size = none := I.hok.fresh (Nat.le_refl _)
                have sys : (s.heap.objs.size == sysModules) = false := beq_eq_false_iff_ne.mpr (Ne.symm (Nat.ne_of_lt I.big))
                have fin : ∀ (h' : Heap) (tk : Nat) (o : Obj) (ks vs : List PV) (kes ves : List V), h'.get? s.heap.objs.size = some o → (∀ b o, b ∉ ([] : List Addr) → s.heap.get? b = some o → h'.get? b = some o) → DctO X.prog X.w o ks kes ves → RepFs X.prog X.w X.K F ks kes → RepFs X.prog X.w X.K F vs ves →
                    (∀ vs1 F' H' L', (1 : Nat) = vs1.length → Same F F' → Rel X.prog X.w X.K env (tm ++ [.val (.dct true ks vs)]) σ (τ ++ vs1) F' H' L' → ∀ v, vs1 = [v] → Q v H') → EP X pins σ' Q (.ref s.heap.objs.size) { s with heap := h', toks := tk } := by
                  intro h' tk o ks vs kes ves g hk hd r1 r2 qq
                  refine ⟨.ref s.heap.objs.size, upd H1 s.heap.objs.size (DXO s.heap.objs.size o), I.laid (t' := tk) (fun b o e => hk b o (fun z => by cases z) e) (Nat.le_refl _) (dxo_ok g), rfl, ?_⟩
                  exact qq [.ref s.heap.objs.size] F _ _ rfl (Same.refl F) (R1.pop.newD fresh sys hd r1 r2) _ rfl
                unfold okPrs at ok
                rw [Bool.or_eq_true] at ok
                rcases ok with ok | ok
                · obtain ⟨mk, ms, g1, g2, g3, g4⟩ := pu.scal ok
                  refine PySem.call_dict_pairs (knd := mixKind X.prog X.w) (PairArg.list p0 _ _ us2) (I.ok.hd G.calm) ⟨pl, pu.items⟩ g4 (by omega) fun h' tk hd hk => ?_
                  obtain ⟨o, es, ep, k1, k2, k3, k4, k5, k6⟩ := hd
                  have ak := AccK.all (P := X.prog) (w := X.w) (K := X.K) (F := F) (acc := []) (d := ([], [])) g1 g2 ⟨by simp [RepFs], by simp [RepFs], by simp⟩
                  have hks := keys_scal ak.k
                  refine fin h' tk o _ _ _ _ k1 hk ⟨?_, .inl ⟨mergeK [] mk, ⟨es, ep, _, k2, k3, KV.merge g3 .nil, k4, k5, k6⟩, rfl, rfl⟩⟩ ak.k ak.v q
                  rw [hks]
                  have : ∀ l : List (Key × V), plainKs (l.map fun e => keyPV e.1) = true := by
                    intro l
                    induction l with
                    | nil => rfl
                    | cons a l ih => rw [List.map_cons, plainKs, plainK_kv, ih]; rfl
                  exact this _
                · obtain ⟨xs', ms, g1, g2, g3, g4⟩ := pu.tupl I R1.fle ok
                  refine PySem.call_dict_pairsH (knd := nestedKind X.prog X.w) (PairArg.list p0 _ _ us2) (I.ok.hd G.calm) (by show X.A.units + 1 + 1 + 8 < cLine; have := G.un; omega) ⟨pl, pu.items⟩ g3 (fun h' hk x hx => nestedKind_stays.stays (fun b o vs n h1 h2 => hk b o (fun z => by rw [z] at h1; exact absurd (Heap.lt_size h1) (Nat.lt_irrefl _)) (fun z => by cases z) h1) (g4 x hx)) (by omega) fun h' tk hd hk => ?_
                  obtain ⟨o, es, ep, k1, k2, k3, k4, k5, k6⟩ := hd
                  have at' := AccT.all g1 (acc := []) (d := ([], [])) ⟨by simp [RepFs], by simp [RepFs], by simp, by simp [nks], rfl, fun x hx => by cases hx⟩
                  exact fin h' tk o _ _ _ _ k1 hk ⟨at'.p, .inr ⟨mergeX [] xs', ⟨es, ep, _, k2, k3, pairT_merge g2 .nil, k4, k6⟩, rfl, rfl, at'.m, at'.t⟩⟩ at'.k at'.v q
            · rw [if_neg hc] at q; exact q.elim
        | _ => exact q.elim
end
end Pv
namespace Pv
open PySem PySem.Spec PyProof.Rows L2

/-! ### a display: the new dict stands empty while the pairs are made -/
def Ms2 (p : Addr) (F F' : Hp) : Prop := F p = some (.dK []) ∧ F' = fun b => if b = p then none else F b
section
variable {P : Program} {w : World} {K : PySem.W.Frag} {F F' H H' : Hp} {L L' : Lab} {p : Addr} {env env' tm tm' : PEnv} {σ σ' : L2.St} {τ τ' : List V}
theorem Ms2.some {a : Addr} {u : HO} (k : Ms2 p F F') (hu : u ≠ .dK []) (h : F a = Option.some u) : F' a = Option.some u := by
  obtain ⟨k1, rfl⟩ := k
  have : a ≠ p := fun e => by
    subst e
    rw [k1] at h
    cases h
    exact hu rfl
  simp [this, h]
theorem Ms2.sqL {a : Addr} {xs : List V} (k : Ms2 p F F') (h : SqL K F a xs) : SqL K F' a xs := by
  rcases h with (h | ⟨o, h⟩) | h
  · exact .inl (.inl (k.some (fun e => by cases e) h))
  · exact .inl (.inr ⟨o, k.some (fun e => by cases e) h⟩)
  · exact .inr h
theorem Ms2.sqT {a : Addr} {xs : List V} (k : Ms2 p F F') (h : SqT K F a xs) : SqT K F' a xs := by
  rcases h with (h | ⟨o, h⟩) | h
  · exact .inl (.inl (k.some (fun e => by cases e) h))
  · exact .inl (.inr ⟨o, k.some (fun e => by cases e) h⟩)
  · exact .inr h
mutual
theorem RepF.mask2 (k : Ms2 p F F') : ∀ (x : PV) (v : V), RepF P w K F x v → RepF P w K F' x v
  | .tup xs, v, h => by
    rw [RepF] at h ⊢
    obtain ⟨a, vs, e, s, r⟩ := h
    exact ⟨a, vs, e, k.sqT s, RepFs.mask2 k xs vs r⟩
  | .frl xs, v, h => by
    rw [RepF] at h ⊢
    obtain ⟨a, vs, e, s, r⟩ := h
    exact ⟨a, vs, e, k.sqL s, RepFs.mask2 k xs vs r⟩
  | .lst o xs, v, h => by
    rw [RepF] at h ⊢
    obtain ⟨eo, a, vs, e, s, r⟩ := h
    exact ⟨eo, a, vs, e, k.some (fun e => by cases e) s, RepFs.mask2 k xs vs r⟩
  | .dct o ks xs, v, h => by
    rw [RepF] at h ⊢
    obtain ⟨eo, a, kes, ves, e, s, r, r2⟩ := h
    refine ⟨eo, a, kes, ves, e, ?_, RepFs.mask2 k ks kes r, RepFs.mask2 k xs ves r2⟩
    obtain ⟨hs, ob, e, r⟩ := s
    exact ⟨hs, ob, e.imp (k.some fun e => by unfold DXO at e; cases e) id, r⟩
  | .non, v, h => h
  | .bl _, v, h => h
  | .int _, v, h => h
  | .str _, v, h => h
  | .ref _, v, h => h
  | .ty _, v, h => h
theorem RepFs.mask2 (k : Ms2 p F F') : ∀ (xs : List PV) (vs : List V), RepFs P w K F xs vs → RepFs P w K F' xs vs
  | [], vs, h => h
  | x :: xs, vs, h => by
    rw [RepFs] at h ⊢
    obtain ⟨v, r, e, h1, h2⟩ := h
    exact ⟨v, r, e, RepF.mask2 k x v h1, RepFs.mask2 k xs r h2⟩
end
mutual
theorem RepO.mask2 (k : Ms2 p F F') : ∀ (x : PV) (q : Path) (v : V), RepO P w K F H L q x v → RepO P w K F' H L q x v
  | .lst true xs, q, v, h => by
    rw [RepO] at h ⊢
    obtain ⟨a, vs, e, l, e2, r⟩ := h
    exact ⟨a, vs, e, l, e2, RepOs.mask2 k xs q 0 vs r⟩
  | .dct true ks xs, q, v, h => by
    rw [RepO] at h ⊢
    obtain ⟨a, kes, ves, e, l, e2, r, r2⟩ := h
    exact ⟨a, kes, ves, e, l, e2, RepFs.mask2 k _ _ r, RepOs.mask2 k xs q 0 ves r2⟩
  | .lst false xs, q, v, h => by
    rw [RepO] at h ⊢
    exact RepF.mask2 k _ _ h
  | .dct false ks xs, q, v, h => by
    rw [RepO] at h ⊢
    exact RepF.mask2 k _ _ h
  | .tup xs, q, v, h => by
    rw [RepO] at h ⊢
    exact RepF.mask2 k _ _ h
  | .frl xs, q, v, h => by
    rw [RepO] at h ⊢
    exact RepF.mask2 k _ _ h
  | .non, q, v, h => h
  | .bl _, q, v, h => h
  | .int _, q, v, h => h
  | .str _, q, v, h => h
  | .ref _, q, v, h => h
  | .ty _, q, v, h => h
theorem RepOs.mask2 (k : Ms2 p F F') : ∀ (xs : List PV) (q : Path) (i : Nat) (vs : List V), RepOs P w K F H L q i xs vs → RepOs P w K F' H L q i xs vs
  | [], q, i, vs, h => h
  | x :: xs, q, i, vs, h => by
    rw [RepOs] at h ⊢
    obtain ⟨v, r, e, h1, h2⟩ := h
    exact ⟨v, r, e, RepO.mask2 k x _ v h1, RepOs.mask2 k xs q (i + 1) r h2⟩
end
theorem Ent.mask2 {r : Nat} {e : Sl} {v : V} (k : Ms2 p F F') (h : Ent P w K env F H L r e v) : Ent P w K env F' H L r e v := by
  cases e with
  | un => trivial
  | val q => exact RepO.mask2 k q _ v h
  | al j q => exact fun x hx => RepO.mask2 k x _ v (h x hx)
theorem Rel.unhold (R : Rel P w K env tm σ τ F H L) (k : Ms2 p F F') : Rel P w K env tm σ τ F' H L := by
  refine ⟨fun a o e => ?_, fun a q e => ?_, R.lh, R.len, fun i e he hu => ?_, R.tlen, fun i e v he hv => (R.tmp i e v he hv).mask2 k, R.inj, R.ali⟩
  · obtain ⟨k1, rfl⟩ := k
    dsimp only at e
    split at e
    · cases e
    · exact R.fle a o e
  · obtain ⟨k1, rfl⟩ := k
    have := R.lf a q e
    dsimp only
    split
    · rfl
    · exact this
  · obtain ⟨v, h1, h2⟩ := R.slot i e he hu
    exact ⟨v, h1, h2.mask2 k⟩
theorem Rel.hold {o : HO} (R : Rel P w K env tm σ τ F H L) (hn : H p = none) : Rel P w K env tm σ τ (upd F p o) (upd H p o) L ∧ Same F (upd F p o) := by
  have ln : ∀ q, L p ≠ some q := fun q e => by
    obtain ⟨o, ho⟩ := R.lh p q e
    rw [hn] at ho
    cases ho
  have fn : F p = none := by
    cases e : F p with
    | none => rfl
    | some o =>
      have := R.fle p o e
      rw [hn] at this
      cases this
  have k : Same F (upd F p o) := fun b o' e => by
    rw [upd_ne (ne_of_none e fn)]
    exact e
  refine ⟨R.grow k (fun b o' e => ?_) (fun b q e => ?_) (fun b q e => ?_) (fun b x s e _ => ?_) R.inj, k⟩
  · by_cases hb : b = p
    · subst hb
      rw [upd_same] at e ⊢
      exact e
    · rw [upd_ne hb] at e ⊢
      exact R.fle b o' e
  · have hb : b ≠ p := fun z => ln q (z ▸ e)
    rw [upd_ne hb]
    exact R.lf b q e
  · have hb : b ≠ p := fun z => ln q (z ▸ e)
    rw [upd_ne hb]
    exact R.lh b q e
  · have hb : b ≠ p := fun z => ln _ (z ▸ e)
    rw [upd_ne hb]
    exact ⟨e, rfl⟩
end
def tDispX (X : Cx) (trs : List (TE × TE)) : TE := fun σ H Q => ∀ p, H p = none → tPairs trs σ (upd H p (.dK [])) fun ps H2 => H2 p = some (.dK []) ∧ ∃ kvs : List (Key × V), ps = kvs.map (fun kv => (kV kv.1, kv.2)) ∧ kvs.length ≤ 15 ∧
  ∀ o, (p == sysModules) = false → DatK X.prog X.w o (mergeK [] kvs) → Q (.ref p) (upd H2 p (DXO p o))
theorem tPairs_mono : ∀ {trs : List (TE × TE)} {σ : L2.St} {H : Hp} {Q Q' : List (V × V) → Hp → Prop}, (∀ tr ∈ trs, (∀ σ H (Q Q' : VK), tr.1 σ H Q → (∀ v H', Q v H' → Q' v H') → tr.1 σ H Q') ∧ ∀ σ H (Q Q' : VK), tr.2 σ H Q → (∀ v H', Q v H' → Q' v H') → tr.2 σ H Q') → tPairs trs σ H Q → (∀ ps H', Q ps H' → Q' ps H') → tPairs trs σ H Q'
  | [], σ, H, Q, Q', _, h, k => k _ _ h
  | (tk, tv) :: r, σ, H, Q, Q', hm, h, k => by
    obtain ⟨m1, m2⟩ := hm (tk, tv) (by simp)
    exact m1 _ _ _ _ h fun x H1 h1 => m2 _ _ _ _ h1 fun y H2 h2 => tPairs_mono (fun tr ht => hm tr (by simp [ht])) h2 fun ps H3 h3 => k _ _ h3
theorem pe_dispX {X : Cx} {pos : Pos} {keys : List (Option Expr)} {values : List Expr} {trs : List (TE × TE)} (h : PPs X pos keys values trs) (hm : ∀ tr ∈ trs, (∀ σ H (Q Q' : VK), tr.1 σ H Q → (∀ v H', Q v H' → Q' v H') → tr.1 σ H Q') ∧ ∀ σ H (Q Q' : VK), tr.2 σ H Q → (∀ v H', Q v H' → Q' v H') → tr.2 σ H Q')
    (hall : keys.all (·.isSome) = true) (hl : keys.length = values.length) (h0 : keys ≠ []) (h15 : keys.length ≤ 15) : PE X (.Dict keys values pos) (tDispX X trs) := by
  refine ⟨fun pins s σ H Q I q => ?_⟩
  refine wpAny_mono ((pe_disp h hall hl h0 h15).run pins s σ H (fun x H' => ∃ p H2 kvs, x = .ref p ∧ H' = upd H2 p (.dK (mergeK [] kvs)) ∧ ∀ o, (p == sysModules) = false → DatK X.prog X.w o (mergeK [] kvs) → Q (.ref p) (upd H2 p (DXO p o))) I fun p hp => tPairs_mono hm (q p hp) fun ps H2 ⟨e, kvs, ep, lk, qq⟩ => ⟨e, kvs, ep, lk, p, H2, kvs, rfl, rfl, qq⟩) (fun u s' hh => ?_) fun _ _ e => e
  obtain ⟨x, H', I', rx, p, H2, kvs, rfl, rfl, qq⟩ := hh
  obtain ⟨z, hd, vs, kv, o, es, ep, g1, g2, g3, g4, g5, g6⟩ := dk_of I'.hok (upd_same (H := H2) (a := p) (o := .dK (mergeK [] kvs)))
  have I2 := I'.write (x := p) (e := p) (o := DXO p o) (h' := s'.heap) (t' := s'.toks) (by rw [upd_same]; exact True.intro) (.inl rfl) (fun b u _ z => z) ⟨o, g1⟩ (dxo_ok g1)
  rw [upd_upd] at I2
  exact ⟨.ref p, _, I2, rx, qq o hd ⟨es, ep, vs, g2, g3, kv, g4, g5, g6⟩⟩
end Pv
namespace Pv
open PySem PySem.Spec PyProof.Rows L2

def pairUp : List V → List (V × V)
  | a :: b :: r => (a, b) :: pairUp r
  | _ => []
def pairPs : List PV → Option (List (PV × PV))
  | [] => some []
  | a :: b :: r => (pairPs r).map ((a, b) :: ·)
  | _ => none
def ddispE (es : PEnv) : D Sl := fun env => match frzEs env es with
  | some (ps, env1) => match pairPs ps with
    | some prs => if (prs.all fun p => scalK p.1) = true ∧ prs.length ≤ 15 then .ok (.val (.dct true (mergeP ([], []) prs).1 (mergeP ([], []) prs).2)) env1 else .no
    | none => .no
  | none => .no
def ddisp (ds : D PEnv) : D Sl := dbind ds ddispE
abbrev MonoE (t : TE) : Prop := ∀ σ H (Q Q' : VK), t σ H Q → (∀ v H', Q v H' → Q' v H') → t σ H Q'
/-- the pairs of a display -/
def PPV (X : Cx) (W : WX) (pos : Pos) (keys : List (Option Expr)) (values : List Expr) (ds : D PEnv) : Prop := ∃ trs, PPs X pos keys values trs ∧ (∀ tr ∈ trs, MonoE tr.1 ∧ MonoE tr.2) ∧
  ∀ σ H Q, (tAr X.prog X.w X.K W ds σ H fun vs H' => Q (pairUp vs) H') → tPairs trs σ H Q
section
variable {X : Cx} {W : WX} {pos : Pos} {k v : Expr} {keys : List (Option Expr)} {values : List Expr} {dk dv : D Sl} {ds : D PEnv}
theorem ppv_nil : PPV X W pos [] [] dnil := ⟨[], pps_nil, fun tr h => by (cases h), fun σ H Q ⟨env, tm, τ, F, L, _, R, h⟩ => h [] F H L rfl (Same.refl F) R⟩
theorem ppv_cons (hk : EV X W k dk) (hv : EV X W v dv) (hr : PPV X W pos keys values ds) : PPV X W pos (some k :: keys) (v :: values) (dcons dk (dcons dv ds)) := by
  obtain ⟨trs, h1, h2, h3⟩ := hr
  refine ⟨(tE X.prog X.w X.K W dk, tE X.prog X.w X.K W dv) :: trs, pps_cons hk hv h1, fun tr ht => ?_, fun σ H Q h => ?_⟩
  · rcases List.mem_cons.mp ht with rfl | ht
    · exact ⟨fun σ H Q Q' a b => tE.mono a b, fun σ H Q Q' a b => tE.mono a b⟩
    · exact h2 tr ht
  · refine (tE.bind (es := []) (xs := []) (f := fun e => dbind (dcons dv ds) fun es => dpure (e :: es)) h).mono fun x H1 ⟨e, q⟩ => ?_
    have e1 : (dbind (dcons dv ds) fun es => dpure (e :: es)) = dbind dv fun e2 => dbind ds fun es => dpure (e :: e2 :: es) := by
      unfold dcons
      rw [dbind_assoc]
      congr
      funext a
      rw [dbind_assoc]
      rfl
    rw [e1] at q
    refine (tE.bind q).mono fun y H2 ⟨e2, q2⟩ => ?_
    refine h3 σ H2 _ ((tAr.bind q2).mono fun vs H3 ⟨es', q3⟩ => ?_)
    obtain ⟨env, tm, τ, F, L, hl, R, q3⟩ := q3
    exact q3 (x :: y :: vs) F H3 L (by simpa using hl) (Same.refl F) (by simpa using R)
theorem disp_scal {P : Program} {w : World} {K : PySem.W.Frag} {F : Hp} : ∀ {ps : List PV} {vs : List V} {prs : List (PV × PV)}, RepFs P w K F ps vs → pairPs ps = some prs → (prs.all fun p => scalK p.1) = true →
    ∃ mk : List (Key × V), pairUp vs = mk.map (fun e => (kV e.1, e.2)) ∧ prs.map (·.1) = mk.map (fun e => keyPV e.1) ∧ RepFs P w K F (prs.map (·.2)) (mk.map (·.2))
  | [], vs, prs, r, h, _ => by
    rw [RepFs] at r
    subst r
    rw [pairPs] at h
    cases h
    exact ⟨[], rfl, rfl, by simp [RepFs]⟩
  | [a], vs, prs, r, h, _ => by simp [pairPs] at h
  | a :: b :: ps, vs, prs, r, h, hs => by
    rw [pairPs] at h
    obtain ⟨prs', h1, rfl⟩ := Option.map_eq_some_iff.mp h
    rw [RepFs] at r
    obtain ⟨v1, r1, rfl, q1, r⟩ := r
    rw [RepFs] at r
    obtain ⟨v2, r2, rfl, q2, r⟩ := r
    rw [List.all_cons, Bool.and_eq_true] at hs
    obtain ⟨mk, g1, g2, g3⟩ := disp_scal r h1 hs.2
    obtain ⟨key, rfl⟩ := keyPV_of hs.1
    have hv' : v1 = kV key := by
      cases key with
      | inl i => exact q1
      | inr i => exact q1
    subst hv'
    refine ⟨(key, v2) :: mk, by simp [pairUp, g1], by simp [g2], ?_⟩
    show RepFs P w K F (b :: prs'.map (·.2)) (v2 :: mk.map (·.2))
    rw [RepFs]
    exact ⟨v2, _, rfl, q2, g3⟩
theorem ev_disp (hp : PPV X W pos keys values ds) (hall : keys.all (·.isSome) = true := by rfl) (hl : keys.length = values.length := by rfl) (h0 : keys ≠ [] := by exact List.cons_ne_nil _ _) (h15 : keys.length ≤ 15 := by decide) : EV X W (.Dict keys values pos) (ddisp ds) := by
  obtain ⟨trs, h1, h2, h3⟩ := hp
  refine PEimp (pe_dispX h1 h2 hall hl h0 h15) fun σ H Q q p hn => ?_
  obtain ⟨env, tm, τ, F, L, _, R, q⟩ := q
  have R0 : Rel X.prog X.w X.K env tm σ τ F H L := by simpa using R
  obtain ⟨R1, k1⟩ := R0.hold (o := .dK []) hn
  refine h3 σ _ _ ⟨env, tm, τ, _, L, rfl, by simpa using R1, ?_⟩
  unfold ddisp dbind at q
  cases e1 : ds env with
  | no => rw [e1] at q; exact q
  | ex c env' => rw [e1] at q; exact fun F' H' L' k R' => q F' H' L' (k1.trans k) R'
  | ok es env' =>
    rw [e1] at q
    dsimp only at q ⊢
    intro vs F' H' L' hlen k R'
    have hF : F' p = some (.dK []) := k _ _ upd_same
    have hH : H' p = some (.dK []) := R'.fle _ _ hF
    unfold ddispE at q
    cases e2 : frzEs env' es with
    | none => rw [e2] at q; exact q.elim
    | some r =>
      obtain ⟨ps, env1⟩ := r
      rw [e2] at q
      dsimp only at q
      cases e3 : pairPs ps with
      | none => rw [e3] at q; exact q.elim
      | some prs =>
        rw [e3] at q
        dsimp only at q
        by_cases hc : (prs.all fun p => scalK p.1) = true ∧ prs.length ≤ 15
        · rw [if_pos hc] at q
          obtain ⟨F1, L1, k2, R2, hf⟩ := Rel.frzAll (pre := tm) (px := τ) R' (by have := R0.tlen; exact this) e2
          obtain ⟨mk, g1, g2, g3⟩ := disp_scal hf e3 hc.1
          refine ⟨hH, mk, g1, ?_, fun o hs hd => ?_⟩
          · have := congrArg List.length g2
            simp at this
            omega
          · have hlm : (ps.map Sl.val).length = vs.length := by have := hf.length; simpa using this
            have R3 := R2.popN hlm
            have hF1 : F1 p = some (.dK []) := k2 _ _ hF
            have ms : Ms2 p F1 (fun b => if b = p then none else F1 b) := ⟨hF1, rfl⟩
            have R4 := R3.unhold ms
            have lp : ∀ q, L1 p ≠ some q := fun q e => by
              have := R3.lf p q e
              rw [hF1] at this
              cases this
            have R5 : Rel X.prog X.w X.K env1 tm σ τ (fun b => if b = p then none else F1 b) (fun b => if b = p then none else H' b) L1 := by
              refine R4.grow (Same.refl _) (fun b o' e => ?_) R4.lf (fun b q e => ?_) (fun b x s e _ => ?_) R4.inj
              · by_cases hb : b = p
                · simp [hb] at e
                · simp only [hb, if_false] at e ⊢
                  exact R3.fle b o' e
              · have hb : b ≠ p := fun z => lp q (z ▸ e)
                rw [if_neg hb]
                exact R3.lh b q e
              · have hb : b ≠ p := fun z => lp _ (z ▸ e)
                rw [if_neg hb]
                exact ⟨e, rfl⟩
            have ak := AccK.all (P := X.prog) (w := X.w) (K := X.K) (F := fun b => if b = p then none else F1 b) (acc := []) (d := ([], [])) g2 (RepFs.mask2 ms _ _ g3) ⟨by simp [RepFs], by simp [RepFs], by simp⟩
            have hks := keys_scal ak.k
            have pl : plainKs (mergeP ([], []) prs).1 = true := by
              rw [hks]
              have : ∀ l : List (Key × V), plainKs (l.map fun e => keyPV e.1) = true := by
                intro l
                induction l with
                | nil => rfl
                | cons a l ih => rw [List.map_cons, plainKs, plainK_kv, ih]; rfl
              exact this _
            have R6 := R5.newD (a := p) (o := o) (by simp) hs ⟨pl, .inl ⟨_, hd, rfl, rfl⟩⟩ ak.k ak.v
            have eH : upd (fun b => if b = p then none else H' b) p (DXO p o) = upd H' p (DXO p o) := by
              funext b
              unfold upd
              split
              · rfl
              · rename_i hb
                simp [hb]
            rw [eH] at R6
            have kk : Same F (fun b => if b = p then none else F1 b) := fun b o' e => by
              have hb : b ≠ p := fun z => by
                subst z
                have := R0.fle b o' e
                rw [hn] at this
                cases this
              simp only [hb, if_false]
              exact k2 _ _ (k _ _ (k1 _ _ e))
            exact q [.ref p] _ _ _ rfl kk R6 _ rfl
        · rw [if_neg hc] at q; exact q.elim
end
end Pv
namespace Pv
open PySem PySem.Spec PyProof.Rows L2
section
variable {X : Cx} {k : Nat} {f : Addr} {fd : FuncData} {ps : List Str} {sp : Sp} {x : Str} {p pos : Pos}
/-- a call without arguments -/
theorem pe_callZ0 (F : FnG X.prog X.w X.K X.mg X.base C8.CX0 k f fd ps sp) (hr : Room k X.A) (hgd : X.A.guards = some []) (hg : Gl X x) (hm : X.mg x = some (.ref f)) (hk : PySem.W.keepIn X.K (.ref f) = true) (hb : Binds X.K fd ps [])
    (hdb : (x == ("__debug__" : Str)) = false := by decide) :
    PE X (.Call (.Name x p) [] [] pos) (tCallZ sp (fun _ H Q => Q [] H)) := by
  refine ⟨fun pins s σ H Q I h => wpAny_Call_Name_kw (ld_glob I hg hm ?_ hdb)⟩
  obtain ⟨Z, hZ, q⟩ := h
  refine PySem.W.callWith_K0 I.kIn hk (run_fnZ (us := []) F hr hgd hb I .nil hZ (q (lockZ Z s.heap H) (fun a ha => ?_) fun a ha => ?_))
  · have h1 := hZ a ha
    unfold lockZ
    rw [if_pos ha]
    cases e0 : H a with
    | none => rw [e0] at h1; cases h1
    | some u =>
      have x0 := I.hok a u e0
      rw [e0] at h1
      have hg : ∃ o, s.heap.get? a = some o := by
        cases u with
        | lst xs => obtain ⟨_, _, _, _, q⟩ := x0; exact ⟨_, q⟩
        | dK kvs => obtain ⟨_, _, _, _, o, _, _, q, _⟩ := x0; exact ⟨o, q⟩
        | ext φ => obtain ⟨_, q, _⟩ := x0; exact q
        | _ => simp [okH] at h1
      obtain ⟨o, hg⟩ := hg
      rw [hg]
      exact ⟨o, rfl⟩
  · unfold lockZ
    rw [if_neg (by rw [ha]; exact Bool.false_ne_true)]
end
section
variable {X : Cx} {W : WX} {k j n : Nat} {x : Str} {f : FnD} {p pos : Pos}
theorem ev_call0 (c : CalG X.prog X.w X.K X.mg X.base k x n f) (hr : Room j X.A) (hk : k ≤ j) (G : Good X) (hg : Gl X x) (hdb : (x == ("__debug__" : Str)) = false := by decide) :
    EV X W (.Call (.Name x p) [] [] pos) (dcallF f dnil) := by
  obtain ⟨fa, fd, ps, F, hm, kp, b, hfn⟩ := c.ex
  refine ⟨fun pins s σ H Q I h => ?_⟩
  refine (pe_callZ0 F (hr.mono hk) G.gd hg hm kp b hdb).run pins s σ H Q I ?_
  obtain ⟨env, tm, τ, F1, L, hl0, R, q⟩ := h
  have htl : tm.length = τ.length := by have := R.tlen; simpa using this
  have hl : ([] : PEnv).length = ([] : List V).length := rfl
  have e0 : dcallF f dnil env = dcallE f [] env := rfl
  rw [e0] at q
  unfold dcallE at q
  cases e1 : argEs env [] with
  | none => rw [e1] at q; exact q.elim
  | some r1 =>
    obtain ⟨es1, env1⟩ := r1
    rw [e1] at q
    dsimp only at q
    by_cases hd : dBor es1 = true
    · rw [if_pos hd] at q
      cases e2 : conts env1 es1 with
      | none => rw [e2] at q; exact q.elim
      | some args =>
        rw [e2] at q
        dsimp only at q
        cases e3 : f args with
        | none => rw [e3] at q; exact q.elim
        | some r3 =>
          obtain ⟨r, as⟩ := r3
          rw [e3] at q
          dsimp only at q
          by_cases hw : okW es1 as = true
          · rw [if_pos hw] at q
            obtain ⟨F2, L2, k2, R2, hl2⟩ := argE_rel R htl e1
            refine ⟨zR es1 tm.length L2 H, fun a ha => ?_, fun Hl h1 h2 => ?_⟩
            · unfold zR at ha
              rw [Bool.and_eq_true] at ha
              exact ha.2
            · have RE := R2.enter htl hd e2 h2
              have hlv : ([] : List V).length = n := by
                obtain ⟨c1, _⟩ := conts_get e2
                have := RE.len
                rw [← hl, ← hl2, c1]
                exact hfn _ _ e3
              refine ⟨hlv, args, F2, _, RE, r, as, e3, fun v F' H' L' k' R' hz => ?_⟩
              obtain ⟨F3, L3, k3, R3⟩ := R2.leave htl hd e2 rfl h1 R' k' hz hw
              exact q [v] F3 _ L3 rfl (k2.trans k3) R3 v rfl
          · rw [if_neg hw] at q; exact q.elim
    · rw [if_neg hd] at q; exact q.elim
end
end Pv
namespace Pv
open PySem PySem.Spec PyProof.Rows L2

/-! ### reckoning with denotations -/
@[irreducible] def WP {α : Type} (d : D α) (env : PEnv) (Q : α → PEnv → Prop) : Prop := match d env with
  | .ok a e => Q a e
  | _ => False
/-- a continuation as an instance: so simp leaves it as it stands -/
class Cont (β : Type) where run : β → Prop
def gateI {β : Type} (o : Option β) [k : Cont β] : Prop := match o with
  | some b => k.run b
  | none => False
def gate {β : Type} (o : Option β) (k : β → Prop) : Prop := @gateI β o ⟨k⟩
@[simp ↓ low] theorem gate_in {β : Type} {o : Option β} {k : β → Prop} : gate o k = @gateI β o ⟨k⟩ := rfl
@[simp] theorem gateI_some {β : Type} {b : β} {k : β → Prop} : @gateI β (some b) ⟨k⟩ = k b := rfl
@[simp] theorem gateI_none {β : Type} {k : β → Prop} : @gateI β none ⟨k⟩ = False := rfl
@[simp] theorem gateI_ite {β : Type} {c : Prop} [Decidable c] {b : β} {k : β → Prop} : @gateI β (if c then some b else none) ⟨k⟩ = (c ∧ k b) := by
  by_cases h : c <;> simp [h]
@[simp ↓] theorem ite_bnot {k : Bool} {a b : Prop} : (if (!k) = true then a else b) = (if k = true then b else a) := by cases k <;> rfl
/-- one that does not go on for now -/
def gateO {β : Type} (o : Option β) (k : β → Prop) : Prop := @gateI β o ⟨k⟩
@[simp low] theorem gateI_out {β : Type} {o : Option β} {k : β → Prop} : @gateI β o ⟨k⟩ = gateO o k := rfl
@[simp] theorem gateO_some {β : Type} {b : β} {k : β → Prop} : gateO (some b) k = k b := rfl
@[simp] theorem gateO_none {β : Type} {k : β → Prop} : gateO none k = False := rfl
@[simp] theorem gateO_ite {β : Type} {c : Prop} [Decidable c] {b : β} {k : β → Prop} : gateO (if c then some b else none) k = (c ∧ k b) := gateI_ite
theorem gate_some {β : Type} {b : β} {k : β → Prop} : gate (some b) k = k b := rfl
theorem gate_none {β : Type} {k : β → Prop} : gate (none : Option β) k = False := rfl
theorem gate_ite {β : Type} {c : Prop} [Decidable c] {b : β} {k : β → Prop} : gate (if c then some b else none) k = (c ∧ k b) := by
  by_cases h : c <;> simp [h]
theorem wp_of {α : Type} {d : D α} {env : PEnv} {Q : α → PEnv → Prop} (h : WP d env Q) : ∃ a e, d env = .ok a e ∧ Q a e := by
  unfold WP at h
  cases e : d env with
  | ok a e' => rw [e] at h; exact ⟨a, e', rfl, h⟩
  | no => rw [e] at h; exact h.elim
  | ex _ _ => rw [e] at h; exact h.elim
theorem wp_mono {α : Type} {d : D α} {env : PEnv} {Q Q' : α → PEnv → Prop} (h : WP d env Q) (k : ∀ a e, Q a e → Q' a e) : WP d env Q' := by
  obtain ⟨a, e, h1, h2⟩ := wp_of h
  unfold WP
  rw [h1]
  exact k a e h2
section
variable {α β : Type} {env : PEnv}
@[simp ↓] theorem wp_bind {d : D α} {f : α → D β} {Q : β → PEnv → Prop} : WP (dbind d f) env Q = WP d env fun a e => WP (f a) e Q := by
  unfold WP dbind
  cases d env <;> rfl
@[simp ↓] theorem wp_pure {a : α} {Q : α → PEnv → Prop} : WP (dpure a) env Q = Q a env := by unfold WP; rfl
@[simp ↓] theorem wp_no {Q : α → PEnv → Prop} : WP dno env Q = False := by unfold WP; rfl
@[simp ↓] theorem wp_con {pv : PV} {Q : Sl → PEnv → Prop} : WP (dcon pv) env Q = Q (.val pv) env := by unfold WP; rfl
@[simp ↓] theorem wp_nil {Q : PEnv → PEnv → Prop} : WP dnil env Q = Q [] env := by unfold WP; rfl
@[simp ↓] theorem wp_cons {d : D Sl} {r : D PEnv} {Q : PEnv → PEnv → Prop} : WP (dcons d r) env Q = WP d env fun a e => WP r e fun es e2 => Q (a :: es) e2 := by
  unfold dcons
  rw [wp_bind]
  congr
  funext a e
  rw [wp_bind]
  congr
  all_goals (repeat funext _); (first | rfl | simp only [wp_pure, wp_con])
def nameV (i : Nat) : Option Sl → Option Sl
  | some (.val pv) => if pv.fz = true then some (.val pv) else some (.al i [])
  | some (.al j (k :: p)) => some (.al j (k :: p))
  | _ => none
@[simp] theorem nameV_val {i : Nat} {pv : PV} : nameV i (some (.val pv)) = if pv.fz = true then some (.val pv) else some (.al i []) := rfl
@[simp] theorem nameV_al {i j k : Nat} {p : Path} : nameV i (some (.al j (k :: p))) = some (.al j (k :: p)) := rfl
@[simp ↓] theorem wp_name {i : Nat} {Q : Sl → PEnv → Prop} : WP (dname i) env Q = gate (nameV i env[i]?) fun e => Q e env := by
  unfold WP dname
  cases e : env[i]? with
  | none => (first | rfl | (unfold WP; rfl))
  | some s =>
    cases s with
    | un => (first | rfl | (unfold WP; rfl))
    | al j p => cases p <;> (first | rfl | (unfold WP; rfl))
    | val pv =>
      dsimp only
      rw [nameV_val]
      by_cases h : pv.fz = true
      · rw [if_pos h, if_pos h]; (first | rfl | (unfold WP; rfl))
      · rw [if_neg h, if_neg h]; (first | rfl | (unfold WP; rfl))
@[simp ↓] theorem wp_op {f : Sl → Sl → D Sl} {a b : D Sl} {Q : Sl → PEnv → Prop} : WP (dop f a b) env Q = WP a env fun x e => WP b e fun y e2 => WP (f x y) e2 Q := by
  unfold dop
  rw [wp_bind]
  congr
  funext x e
  rw [wp_bind]
@[simp ↓] theorem wp_un {f : Sl → D Sl} {a : D Sl} {Q : Sl → PEnv → Prop} : WP (dun f a) env Q = WP a env fun x e => WP (f x) e Q := by unfold dun; rw [wp_bind]
@[simp ↓] theorem wp_dcall {f : PEnv → D Sl} {a : D PEnv} {Q : Sl → PEnv → Prop} : WP (dcall f a) env Q = WP a env fun x e => WP (f x) e Q := by unfold dcall; rw [wp_bind]
@[simp ↓] theorem wp_fn {g : List PV → Option PV} {es : PEnv} {Q : Sl → PEnv → Prop} : WP (dfn g es) env Q = gate (conts env es) fun ps => gate (g ps) fun r => Q (.val r) env := by
  unfold WP dfn
  cases conts env es with
  | none => (first | rfl | (unfold WP; rfl))
  | some ps =>
    dsimp only
    rw [gate_some]
    cases e : g ps <;> (first | rfl | (unfold WP; rfl))
@[simp ↓] theorem wp_get {f : PEnv → Option α} {Q : α → PEnv → Prop} : WP (dget f) env Q = gate (f env) fun a => Q a env := by
  unfold WP dget
  cases e : f env <;> (first | rfl | (unfold WP; rfl))
@[simp ↓] theorem wp_bool {a : Sl} {Q : Bool → PEnv → Prop} : WP (dbool a) env Q = gate (boolOf (cont env a)) fun b => Q b env := by unfold dbool; rw [wp_get]
@[simp ↓] theorem wp_tst {d : D Sl} {Q : Bool → PEnv → Prop} : WP (dtst d) env Q = WP d env fun a e => gate (boolOf (cont e a)) fun b => Q b e := by
  unfold dtst
  rw [wp_bind]
  congr
  funext a e
  rw [wp_bool]
@[simp ↓] theorem wp_ite {c : Prop} [Decidable c] {a b : D α} {Q : α → PEnv → Prop} : WP (if c then a else b) env Q = if c then WP a env Q else WP b env Q := by
  by_cases h : c <;> simp only [h, if_true, if_false]
@[simp ↓] theorem wp_and {a b : D Sl} {Q : Sl → PEnv → Prop} : WP (dand a b) env Q = WP a env fun x e => gate (boolOf (cont e x)) fun k => if k = true then WP b e Q else Q (.val (.bl false)) e := by
  unfold dand
  rw [wp_bind]
  congr
  funext x e
  rw [wp_bind, wp_bool]
  congr
  funext k
  rw [wp_ite, wp_con]
@[simp ↓] theorem wp_or {a b : D Sl} {Q : Sl → PEnv → Prop} : WP (dor a b) env Q = WP a env fun x e => gate (boolOf (cont e x)) fun k => if k = true then Q (.val (.bl true)) e else WP b e Q := by
  unfold dor
  rw [wp_bind]
  congr
  funext x e
  rw [wp_bind, wp_bool]
  congr
  funext k
  rw [wp_ite, wp_con]
@[simp ↓] theorem wp_not {a : D Sl} {Q : Sl → PEnv → Prop} : WP (dnot a) env Q = WP a env fun x e => gate (boolOf (cont e x)) fun k => Q (.val (.bl (!k))) e := by
  unfold dnot
  rw [wp_bind]
  congr
  funext x e
  rw [wp_bind, wp_bool]
  congr
  all_goals (repeat funext _); (first | rfl | simp only [wp_pure, wp_con])
@[simp ↓] theorem wp_tand {a b : D Bool} {Q : Bool → PEnv → Prop} : WP (dtand a b) env Q = WP a env fun k e => if k = true then WP b e Q else Q false e := by
  unfold dtand
  rw [wp_bind]
  congr
  funext k e
  rw [wp_ite, wp_pure]
@[simp ↓] theorem wp_tor {a b : D Bool} {Q : Bool → PEnv → Prop} : WP (dtor a b) env Q = WP a env fun k e => if k = true then Q true e else WP b e Q := by
  unfold dtor
  rw [wp_bind]
  congr
  funext k e
  rw [wp_ite, wp_pure]
@[simp ↓] theorem wp_tnot {a : D Bool} {Q : Bool → PEnv → Prop} : WP (dtnot a) env Q = WP a env fun k e => Q (!k) e := by
  unfold dtnot
  rw [wp_bind]
  congr
  all_goals (repeat funext _); (first | rfl | simp only [wp_pure, wp_con])
@[simp ↓] theorem wp_dif {t : D Bool} {a b : D Sl} {Q : Sl → PEnv → Prop} : WP (dif t a b) env Q = WP t env fun k e => if k = true then WP a e Q else WP b e Q := by
  unfold dif
  rw [wp_bind]
  congr
  funext k e
  rw [wp_ite]
@[simp ↓] theorem wp_chain {f g : List PV → Option PV} {a b c : D Sl} {Q : Sl → PEnv → Prop} : WP (dchain f g a b c) env Q = WP a env fun x e => WP b e fun y e2 => gate (conts e2 [x, y]) fun ps => gate (boolOf (f ps)) fun k => if k = true then WP c e2 fun z e3 => WP (dfn g [y, z]) e3 Q else Q (.val (.bl false)) e2 := by
  unfold dchain
  rw [wp_bind]
  congr
  funext x e
  rw [wp_bind]
  congr
  funext y e2
  rw [wp_bind]
  unfold dcmp
  rw [wp_get]
  cases conts e2 [x, y] with
  | none => (first | rfl | (unfold WP; rfl))
  | some ps =>
    dsimp only
    rw [gate_some]
    congr
    funext k
    rw [wp_ite, wp_con, wp_bind]
@[simp ↓] theorem wp_tup {d : D PEnv} {Q : Sl → PEnv → Prop} : WP (dtup d) env Q = WP d env fun es e => gate (frzEs e es) fun r => es.length ≤ 1000 ∧ Q (.val (.tup r.1)) r.2 := by
  unfold dtup
  rw [wp_bind]
  congr
  funext es e
  unfold WP dtupE
  cases frzEs e es with
  | none => (first | rfl | (unfold WP; rfl))
  | some r =>
    dsimp only
    rw [gate_some]
    by_cases h : es.length ≤ 1000 <;> simp [h]
@[simp ↓] theorem wp_lst {d : D PEnv} {Q : Sl → PEnv → Prop} : WP (dlst d) env Q = WP d env fun es e => gate (frzEs e es) fun r => es.length ≤ 1000 ∧ Q (.val (.lst true r.1)) r.2 := by
  unfold dlst
  rw [wp_bind]
  congr
  funext es e
  unfold WP dlstE
  cases frzEs e es with
  | none => (first | rfl | (unfold WP; rfl))
  | some r =>
    dsimp only
    rw [gate_some]
    by_cases h : es.length ≤ 1000 <;> simp [h]
/-- a subscript's entry -/
def ixV (a : Sl) : Option PV → Option PV → Option Sl
  | some (.lst _ xs), some (.int i) => match ixN xs.length i with
    | some k => match xs[k]? with
      | some x => if x.fz = true then some (.val x) else match a with
        | .al j p => some (.al j (p ++ [k]))
        | _ => none
      | none => none
    | none => none
  | some (.tup xs), some (.int i) => (atI xs i).map .val
  | _, _ => none
@[simp ↓] theorem wp_ix {a b : Sl} {Q : Sl → PEnv → Prop} : WP (dixE a b) env Q = gate (ixV a (cont env a) (cont env b)) fun e => Q e env := by
  unfold WP dixE
  cases cont env a with
  | none => (first | rfl | (unfold WP; rfl))
  | some pa =>
    cases cont env b with
    | none => cases pa <;> (first | rfl | (unfold WP; rfl))
    | some pb =>
      cases pb with
      | int i =>
        cases pa with
        | lst o xs =>
          dsimp only [ixV]
          cases ixN xs.length i with
          | none => (first | rfl | (unfold WP; rfl))
          | some k =>
            dsimp only
            cases xs[k]? with
            | none => (first | rfl | (unfold WP; rfl))
            | some x =>
              dsimp only
              by_cases h : x.fz = true
              · rw [if_pos h, if_pos h]; (first | rfl | (unfold WP; rfl))
              · rw [if_neg h, if_neg h]
                cases a <;> (first | rfl | (unfold WP; rfl))
        | tup xs =>
          dsimp only [ixV]
          cases atI xs i <;> (first | rfl | (unfold WP; rfl))
        | _ => (first | rfl | (unfold WP; rfl))
      | _ => cases pa <;> (first | rfl | (unfold WP; rfl))
def cutO (p : Option PV) (lo hi : Option Int) : Option PV := match p with
  | some (.lst _ xs) => if PV.fzs xs = true then some (.lst true (cutP xs lo hi)) else none
  | some (.frl xs) => some (.lst true (cutP xs lo hi))
  | some (.tup xs) => some (.tup (cutP xs lo hi))
  | _ => none
def revO (p : Option PV) : Option PV := match p with
  | some (.lst _ xs) => if PV.fzs xs = true then some (.lst true xs.reverse) else none
  | some (.tup xs) => some (.tup xs.reverse)
  | _ => none
@[simp ↓] theorem wp_cut {a : Sl} {lo hi : Option Int} {Q : Sl → PEnv → Prop} : WP (dcut a lo hi) env Q = gate (cutO (cont env a) lo hi) fun r => Q (.val r) env := by
  unfold WP dcut
  cases cont env a with
  | none => (first | rfl | (unfold WP; rfl))
  | some pa =>
    cases pa with
    | lst o xs =>
      dsimp only [cutO]
      by_cases h : PV.fzs xs = true
      · rw [if_pos h, if_pos h]; (first | rfl | (unfold WP; rfl))
      · rw [if_neg h, if_neg h]; (first | rfl | (unfold WP; rfl))
    | _ => (first | rfl | (unfold WP; rfl))
@[simp ↓] theorem wp_rev {a : Sl} {Q : Sl → PEnv → Prop} : WP (drev a) env Q = gate (revO (cont env a)) fun r => Q (.val r) env := by
  unfold WP drev
  cases cont env a with
  | none => (first | rfl | (unfold WP; rfl))
  | some pa =>
    cases pa with
    | lst o xs =>
      dsimp only [revO]
      by_cases h : PV.fzs xs = true
      · rw [if_pos h, if_pos h]; (first | rfl | (unfold WP; rfl))
      · rw [if_neg h, if_neg h]; (first | rfl | (unfold WP; rfl))
    | _ => (first | rfl | (unfold WP; rfl))
@[simp ↓] theorem wp_part0 {Q : Option Int → PEnv → Prop} : WP (dpart none) env Q = Q none env := by unfold WP; rfl
@[simp ↓] theorem wp_part1 {d : D Sl} {Q : Option Int → PEnv → Prop} : WP (dpart (some d)) env Q = WP d env fun a e => gate (intOf (cont e a)) fun i => Q (some i) e := by
  unfold dpart
  rw [wp_bind]
  congr
  funext a e
  rw [wp_bind]
  unfold dint
  rw [wp_get]
  congr
  all_goals (repeat funext _); (first | rfl | simp only [wp_pure, wp_con])
@[simp ↓] theorem wp_slice {d : D Sl} {lo hi : Option (D Sl)} {Q : Sl → PEnv → Prop} : WP (dslice d lo hi) env Q = WP d env fun a e => WP (dpart lo) e fun l e2 => WP (dpart hi) e2 fun h e3 => WP (dcut a l h) e3 Q := by
  unfold dslice
  rw [wp_bind]
  congr
  funext a e
  rw [wp_bind]
  congr
  funext l e2
  rw [wp_bind]
/-! statements -/
@[simp ↓] theorem wp_ret {d : D Sl} {Q : Fl → PEnv → Prop} : WP (dret d) env Q = WP d env fun e env' => Q (.rt e) env' := by
  unfold dret
  rw [wp_bind]
  congr
  all_goals (repeat funext _); (first | rfl | simp only [wp_pure, wp_con])
@[simp ↓] theorem wp_dite {t : D Bool} {a b : D Fl} {Q : Fl → PEnv → Prop} : WP (dite t a b) env Q = WP t env fun k e => if k = true then WP a e Q else WP b e Q := by
  unfold dite
  rw [wp_bind]
  congr
  funext k e
  rw [wp_ite]
@[simp ↓] theorem wp_expr {d : D Sl} {Q : Fl → PEnv → Prop} : WP (dexpr d) env Q = WP d env fun _ env' => Q .nx env' := by
  unfold dexpr
  rw [wp_bind]
  congr
  all_goals (repeat funext _); (first | rfl | simp only [wp_pure, wp_con])
@[simp ↓] theorem wp_skip {Q : Fl → PEnv → Prop} : WP dskip env Q = Q .nx env := by unfold WP; rfl
/-- going on behind a statement -/
def thenF (f : Fl) (b : PEnv → (Fl → PEnv → Prop) → Prop) (Q : Fl → PEnv → Prop) (e : PEnv) : Prop := match f with
  | .nx => b e Q
  | f => Q f e
@[simp ↓] theorem thenF_nx {b : PEnv → (Fl → PEnv → Prop) → Prop} {Q : Fl → PEnv → Prop} {e : PEnv} : thenF .nx b Q e = b e Q := rfl
@[simp ↓] theorem thenF_rt {b : PEnv → (Fl → PEnv → Prop) → Prop} {Q : Fl → PEnv → Prop} {e : PEnv} {r : Sl} : thenF (.rt r) b Q e = Q (.rt r) e := rfl
@[simp ↓] theorem thenF_bk {b : PEnv → (Fl → PEnv → Prop) → Prop} {Q : Fl → PEnv → Prop} {e : PEnv} : thenF .bk b Q e = Q .bk e := rfl
@[simp ↓] theorem thenF_ct {b : PEnv → (Fl → PEnv → Prop) → Prop} {Q : Fl → PEnv → Prop} {e : PEnv} : thenF .ct b Q e = Q .ct e := rfl
@[simp ↓] theorem wp_seq {a b : D Fl} {Q : Fl → PEnv → Prop} : WP (dseq a b) env Q = WP a env fun f e => thenF f (fun e Q => WP b e Q) Q e := by
  unfold dseq
  rw [wp_bind]
  congr
  funext f e
  cases f <;> (first | rfl | (unfold WP; rfl))
@[simp ↓] theorem wp_set {i : Nat} {d : D Sl} {Q : Fl → PEnv → Prop} : WP (dset i d) env Q = WP d env fun e env' => WP (dstore i e) env' Q := by
  unfold dset
  rw [wp_bind]
@[simp ↓] theorem wp_store {i : Nat} {pv : PV} {Q : Fl → PEnv → Prop} : WP (dstore i (.val pv)) env Q = Q .nx (setE env i (.val pv)) := by unfold WP; rfl
@[simp ↓] theorem wp_storeA {i j k : Nat} {p : Path} {Q : Fl → PEnv → Prop} : WP (dstore i (.al j (k :: p))) env Q = if j = i then gate (frzE env (.al j (k :: p))) fun r => Q .nx (setE r.2 i (.val r.1)) else Q .nx (setE env i (.al j (k :: p))) := by
  unfold WP dstore
  dsimp only
  by_cases h : j = i
  · rw [if_pos (.inr h), if_pos h]
    cases frzE env (.al j (k :: p)) <;> (first | rfl | (unfold WP; rfl))
  · rw [if_neg (by simp [h]), if_neg h]
@[simp ↓] theorem wp_storeW {i j : Nat} {Q : Fl → PEnv → Prop} : WP (dstore i (.al j [])) env Q = gate (frzE env (.al j [])) fun r => Q .nx (setE r.2 i (.val r.1)) := by
  unfold WP dstore
  dsimp only
  rw [if_pos (.inl rfl)]
  cases frzE env (.al j []) <;> (first | rfl | (unfold WP; rfl))
@[simp] theorem setE_def {i : Nat} {e : Sl} : setE env i e = (env.map (killR i)).set i e := rfl
@[simp] theorem killR_val {i : Nat} {pv : PV} : killR i (.val pv) = .val pv := rfl
@[simp] theorem killR_un {i : Nat} : killR i .un = .un := rfl
@[simp] theorem killR_al {i j : Nat} {p : Path} : killR i (.al j p) = if j = i then .un else .al j p := rfl
@[simp ↓] theorem wp_pars {is : List Nat} {d : D PEnv} {Q : Fl → PEnv → Prop} : WP (dpars is d) env Q = WP d env fun es e => gate (unalEs e es) fun r => gate (setAll r.2 is r.1) fun e2 => Q .nx e2 := by
  unfold dpars
  rw [wp_bind]
  congr
  funext es e
  unfold WP dparsE
  cases unalEs e es with
  | none => (first | rfl | (unfold WP; rfl))
  | some r =>
    dsimp only
    rw [gate_some]
    cases setAll r.2 is r.1 <;> (first | rfl | (unfold WP; rfl))
@[simp ↓] theorem wp_asg {t : Tg} {d : D Sl} {Q : Fl → PEnv → Prop} : WP (dasg t d) env Q = WP d env fun a e => gate (frzE e a) fun r => gate (setT t r.1 r.2) fun e2 => Q .nx e2 := by
  unfold dasg
  rw [wp_bind]
  congr
  funext a e
  unfold WP dunpack
  cases frzE e a with
  | none => (first | rfl | (unfold WP; rfl))
  | some r =>
    dsimp only
    rw [gate_some]
    cases setT t r.1 r.2 <;> (first | rfl | (unfold WP; rfl))
@[simp ↓] theorem wp_items {d : D Sl} {Q : List PV → PEnv → Prop} : WP (ditems d) env Q = WP d env fun a e => WP (itemsE a) e Q := by
  unfold ditems
  rw [wp_bind]
def itemsO (r : PV) : Option (List PV) := match r with
  | .lst _ xs => some xs
  | .tup xs => some xs
  | .frl xs => some xs
  | _ => none
@[simp ↓] theorem wp_itemsE {a : Sl} {Q : List PV → PEnv → Prop} : WP (itemsE a) env Q = gate (frzE env a) fun r => gate (itemsO r.1) fun xs => Q xs r.2 := by
  unfold WP itemsE
  cases frzE env a with
  | none => (first | rfl | (unfold WP; rfl))
  | some r =>
    obtain ⟨p, e⟩ := r
    cases p <;> (first | rfl | (unfold WP; rfl))
@[simp ↓] theorem wp_range1 {d : D PEnv} {Q : List PV → PEnv → Prop} : WP (drange1 d) env Q = WP d env fun es e => match es with
    | [a] => gate (intOf (cont e a)) fun i => okB i ∧ Q (rangeP 0 i.toNat 1) e
    | _ => False := by
  unfold drange1
  rw [wp_bind]
  congr
  funext es e
  match es with
  | [] => (first | rfl | (unfold WP; rfl))
  | _ :: _ :: _ => (first | rfl | (unfold WP; rfl))
  | [a] =>
    unfold WP
    dsimp only
    cases intOf (cont e a) with
    | none => (first | rfl | (unfold WP; rfl))
    | some i =>
      dsimp only
      rw [gate_some]
      by_cases h : okB i <;> simp [h]
@[simp ↓] theorem wp_range2 {d : D PEnv} {Q : List PV → PEnv → Prop} : WP (drange2 d) env Q = WP d env fun es e => match es with
    | [a, b] => gate (intOf (cont e a)) fun i => gate (intOf (cont e b)) fun j => (okB i ∧ okB j) ∧ Q (rangeP i (j - i).toNat 1) e
    | _ => False := by
  unfold drange2
  rw [wp_bind]
  congr
  funext es e
  match es with
  | [] => (first | rfl | (unfold WP; rfl))
  | [_] => (first | rfl | (unfold WP; rfl))
  | _ :: _ :: _ :: _ => (first | rfl | (unfold WP; rfl))
  | [a, b] =>
    unfold WP
    dsimp only
    cases intOf (cont e a) with
    | none => (first | rfl | (unfold WP; rfl))
    | some i =>
      cases intOf (cont e b) with
      | none => (first | rfl | (unfold WP; rfl))
      | some j =>
        dsimp only
        rw [gate_some, gate_some]
        by_cases h : okB i ∧ okB j
        · rw [if_pos h]; simp [h]
        · rw [if_neg h]; simp [h]
def zipO (r : List PV) : Option (List PV) := match r with
  | [.lst _ xs, .lst _ ys] => some ((xs.zip ys).map fun p => .tup [p.1, p.2])
  | [.tup xs, .tup ys] => some ((xs.zip ys).map fun p => .tup [p.1, p.2])
  | _ => none
@[simp ↓] theorem wp_zip {d : D PEnv} {Q : List PV → PEnv → Prop} : WP (dzip d) env Q = WP d env fun es e => gate (frzEs e es) fun r => gate (zipO r.1) fun xs => Q xs r.2 := by
  unfold dzip
  rw [wp_bind]
  congr
  funext es e
  unfold WP
  dsimp only
  generalize frzEs e es = z
  match z with
  | none => (first | rfl | (unfold WP; rfl))
  | some ([], _) => (first | rfl | (unfold WP; rfl))
  | some ([x], _) => cases x <;> (first | rfl | (unfold WP; rfl))
  | some ([x, y], _) => cases x <;> cases y <;> (first | rfl | (unfold WP; rfl))
  | some (x :: y :: _ :: _, _) => cases x <;> cases y <;> (first | rfl | (unfold WP; rfl))
@[simp ↓] theorem wp_for {t : Tg} {di : D (List PV)} {b : D Fl} {Q : Fl → PEnv → Prop} : WP (dfor t di b) env Q = WP di env fun ps e => WP (forP (setT t) b ps) e Q := by
  unfold dfor
  rw [wp_bind]
@[simp ↓] theorem wp_callF {f : FnD} {d : D PEnv} {Q : Sl → PEnv → Prop} : WP (dcallF f d) env Q = WP d env fun es e => gate (argEs e es) fun r => dBor r.1 = true ∧ gate (conts r.2 r.1) fun args => gate (f args) fun z => okW r.1 z.2 = true ∧ Q (.val z.1) (wbG r.1 z.2 0 r.2) := by
  unfold dcallF
  rw [wp_bind]
  congr
  funext es e
  unfold WP dcallE
  cases argEs e es with
  | none => (first | rfl | (unfold WP; rfl))
  | some r =>
    obtain ⟨es1, e1⟩ := r
    rw [gate_some]
    dsimp only
    by_cases h : dBor es1 = true
    · rw [if_pos h]
      cases conts e1 es1 with
      | none => simp
      | some args =>
        dsimp only
        rw [gate_some]
        cases f args with
        | none => simp
        | some z =>
          obtain ⟨r, as⟩ := z
          dsimp only
          rw [gate_some]
          by_cases h2 : okW es1 as = true <;> simp [h, h2]
    · rw [if_neg h]; simp [h]
@[simp ↓] theorem wp_meth {g : List PV → List PV → Option (List PV × PV)} {o : D Sl} {ds : D PEnv} {Q : Sl → PEnv → Prop} : WP (dmeth g o ds) env Q = WP o env fun a e => WP (dlk a) e fun _ e2 => WP ds e2 fun es e3 => WP (dmethE g a es) e3 Q := by
  unfold dmeth
  rw [wp_bind]
  congr
  funext a e
  rw [wp_bind]
  congr
  funext u e2
  rw [wp_bind]
@[simp ↓] theorem wp_lk {j : Nat} {p : Path} {Q : Unit → PEnv → Prop} : WP (dlk (.al j p)) env Q = gate (look env j p) fun x => (match x with | .lst true _ => True | _ => False) ∧ Q () env := by
  unfold dlk
  rw [wp_get]
  dsimp only
  cases look env j p with
  | none => (first | rfl | (unfold WP; rfl))
  | some x =>
    rw [gate_some]
    cases x with
    | lst o xs => cases o <;> simp
    | _ => simp
@[simp ↓] theorem wp_methE {g : List PV → List PV → Option (List PV × PV)} {j : Nat} {p : Path} {es : PEnv} {Q : Sl → PEnv → Prop} : WP (dmethE g (.al j p) es) env Q = gate (frzEs env es) fun r => gate (look r.2 j p) fun x => match x with
    | .lst true xs => PV.fzs xs = true ∧ gate (g xs r.1) fun z => PV.fzs z.1 = true ∧ Q (.val z.2) (putE r.2 j p (.lst true z.1))
    | _ => False := by
  unfold WP dmethE
  cases frzEs env es with
  | none => (first | rfl | (unfold WP; rfl))
  | some r =>
    obtain ⟨ps, e1⟩ := r
    rw [gate_some]
    dsimp only
    cases look e1 j p with
    | none => (first | rfl | (unfold WP; rfl))
    | some x =>
      rw [gate_some]
      cases x with
      | lst o xs =>
        cases o with
        | false => (first | rfl | (unfold WP; rfl))
        | true =>
          dsimp only
          by_cases h : PV.fzs xs = true
          · rw [if_pos h]
            cases g xs ps with
            | none => simp
            | some z =>
              obtain ⟨ys, r⟩ := z
              dsimp only
              rw [gate_some]
              by_cases h2 : PV.fzs ys = true <;> simp [h, h2]
          · rw [if_neg h]; simp [h]
      | _ => (first | rfl | (unfold WP; rfl))
end

/-! ### loops, comprehensions -/
section
variable {t : PV → PEnv → Option PEnv} {b : D Fl} {Q : Fl → PEnv → Prop}
/-- a loop by an invariant over the turns -/
theorem wp_forP (I : Nat → PEnv → Prop) : ∀ {ps : List PV} {n : Nat} {env : PEnv}, I n env → (∀ (i : Nat) p e, ps[i]? = some p → I (n + i) e → gate (t p e) fun e1 => WP b e1 fun f e2 => match f with
      | .nx => I (n + i + 1) e2
      | .ct => I (n + i + 1) e2
      | .bk => Q .nx e2
      | .rt r => Q (.rt r) e2) → (∀ e, I (n + ps.length) e → Q .nx e) → WP (forP t b ps) env Q
  | [], n, env, h0, hs, hd => by
    unfold WP
    exact hd env h0
  | p :: ps, n, env, h0, hs, hd => by
    have h1 := hs 0 p env rfl h0
    unfold WP forP
    cases e1 : t p env with
    | none => rw [e1] at h1; exact h1.elim
    | some env1 =>
      rw [e1, gate_some] at h1
      obtain ⟨f, e2, h2, h3⟩ := wp_of h1
      dsimp only
      rw [h2]
      have go : I (n + 1) e2 → WP (forP t b ps) e2 Q := fun hi => wp_forP I hi (fun i q e hq hI => by
        have := hs (i + 1) q e (by simpa using hq) (by have e4 : n + (i + 1) = n + 1 + i := by omega
                                                       rw [e4]; exact hI)
        have e5 : n + (i + 1) + 1 = n + 1 + i + 1 := by omega
        rw [e5] at this
        exact this) (fun e he => hd e (by rw [List.length_cons]; have e6 : n + (ps.length + 1) = n + 1 + ps.length := by omega
                                          rw [e6]; exact he))
      cases f with
      | nx => have g := go h3; unfold WP at g; exact g
      | ct => have g := go h3; unfold WP at g; exact g
      | bk => exact h3
      | rt r => exact h3
end
/-- a comprehension that leaves the state as it is -/
theorem lcP_pure {t : PV → PEnv → Option PEnv} {vs : List Nat} {tt : D Bool} {te : D Sl} {env : PEnv} (c : PV → Bool) (g : PV → PV) : ∀ {ps acc : List PV}, (∀ p ∈ ps, gate (t p env) fun e1 => WP tt e1 fun k e2 => k = c p ∧ if c p = true then WP te e2 fun r e3 => r = .val (g p) ∧ wipeE e3 vs = env else wipeE e2 vs = env) →
    lcP t vs tt te ps acc env = .ok (acc ++ (ps.filter c).map g) env
  | [], acc, _ => by rw [lcP]; simp
  | p :: ps, acc, h => by
    have h1 := h p (by simp)
    have ih := fun acc => lcP_pure (t := t) (vs := vs) (tt := tt) (te := te) (env := env) c g (ps := ps) (acc := acc) fun q hq => h q (by simp [hq])
    rw [lcP]
    cases e1 : t p env with
    | none => rw [e1] at h1; exact h1.elim
    | some env1 =>
      rw [e1, gate_some] at h1
      obtain ⟨k, e2, h2, rfl, h3⟩ := wp_of h1
      dsimp only
      rw [h2]
      cases hc : c p with
      | false =>
        rw [hc, if_neg Bool.false_ne_true] at h3
        dsimp only
        rw [h3, ih, List.filter_cons_of_neg (by simp [hc])]
      | true =>
        rw [hc, if_pos rfl] at h3
        obtain ⟨r, e3, h4, rfl, h5⟩ := wp_of h3
        dsimp only
        rw [h4]
        dsimp only [unalV]
        rw [h5, ih, List.filter_cons_of_pos hc]
        simp
end Pv
namespace Pv
open PySem PySem.Spec PyProof.Rows L2

@[simp] theorem fz_non : PV.fz .non = true := rfl
@[simp] theorem fz_bl {b : Bool} : PV.fz (.bl b) = true := rfl
@[simp] theorem fz_int {i : Int} : PV.fz (.int i) = true := rfl
@[simp] theorem fz_str {s : Str} : PV.fz (.str s) = true := rfl
@[simp] theorem fz_ty {s : String} : PV.fz (.ty s) = true := rfl
@[simp] theorem fz_tup {xs : List PV} : PV.fz (.tup xs) = PV.fzs xs := by rw [PV.fz]
@[simp] theorem fz_frl {xs : List PV} : PV.fz (.frl xs) = PV.fzs xs := by rw [PV.fz]
@[simp] theorem fz_lst {o : Bool} {xs : List PV} : PV.fz (.lst o xs) = (!o && PV.fzs xs) := by rw [PV.fz]
@[simp] theorem fzs_nil : PV.fzs [] = true := rfl
@[simp] theorem fzs_cons {x : PV} {xs : List PV} : PV.fzs (x :: xs) = (x.fz && PV.fzs xs) := by rw [PV.fzs]
@[simp] theorem fzs_app {xs ys : List PV} : PV.fzs (xs ++ ys) = (PV.fzs xs && PV.fzs ys) := PV.fzs_append xs ys
@[simp] theorem fzs_map {α : Type} {f : α → PV} (h : ∀ a, (f a).fz = true) : ∀ {l : List α}, PV.fzs (l.map f) = true
  | [] => rfl
  | a :: l => by rw [List.map_cons, PV.fzs, h a, fzs_map h]; rfl
@[simp] theorem fzs_ints {l : List Int} : PV.fzs (l.map .int) = true := fzs_map fun _ => rfl
@[simp] theorem fzs_bls {l : List Bool} : PV.fzs (l.map .bl) = true := fzs_map fun _ => rfl
@[simp] theorem frz_non : PV.frz .non = .non := rfl
@[simp] theorem frz_bl {b : Bool} : PV.frz (.bl b) = .bl b := rfl
@[simp] theorem frz_int {i : Int} : PV.frz (.int i) = .int i := rfl
@[simp] theorem frz_str {s : Str} : PV.frz (.str s) = .str s := rfl
@[simp] theorem frz_lst {o : Bool} {xs : List PV} : PV.frz (.lst o xs) = .lst false (PV.frzs xs) := by rw [PV.frz]
@[simp] theorem frz_tup {xs : List PV} : PV.frz (.tup xs) = .tup (PV.frzs xs) := by rw [PV.frz]
@[simp] theorem frzs_nil : PV.frzs [] = [] := rfl
theorem frzs_of {xs : List PV} (h : PV.fzs xs = true) : PV.frzs xs = xs := PV.frzs_of_fzs xs h
@[simp] theorem frzs_map {α : Type} {f : α → PV} {l : List α} (h : ∀ a, (f a).fz = true) : PV.frzs (l.map f) = l.map f := frzs_of (fzs_map h)
@[simp] theorem fzs_frzs {xs : List PV} : PV.fzs (PV.frzs xs) = true := PV.fzs_frzs xs
theorem frzs_len : ∀ {xs : List PV}, (PV.frzs xs).length = xs.length
  | [] => rfl
  | x :: xs => by rw [PV.frzs, List.length_cons, List.length_cons, frzs_len]
@[simp] theorem filt_true {α : Type} {l : List α} : l.filter (fun _ => true) = l := List.filter_eq_self.mpr fun _ _ => rfl
@[simp] theorem frzs_ints {l : List Int} : PV.frzs (l.map .int) = l.map .int := frzs_of fzs_ints
@[simp] theorem frzs_cons {x : PV} {xs : List PV} : PV.frzs (x :: xs) = x.frz :: PV.frzs xs := by rw [PV.frzs]

@[simp] theorem frzE_val {env : PEnv} {pv : PV} : frzE env (.val pv) = some (pv.frz, env) := rfl
@[simp] theorem frzE_al {env : PEnv} {j : Nat} {p : Path} : frzE env (.al j p) = (match look env j p, env[j]? with
      | some q, some (.val pv) => some (q.frz, env.set j (.val pv.frz))
      | _, _ => none) := rfl
@[simp] theorem frzEs_nil {env : PEnv} : frzEs env [] = some ([], env) := rfl
@[simp] theorem frzEs_val {env : PEnv} {pv : PV} {es : PEnv} : frzEs env (.val pv :: es) = (frzEs env es).map fun r => (pv.frz :: r.1, r.2) := by
  rw [frzEs, frzE_val]
  dsimp only
  cases frzEs env es <;> rfl
@[simp] theorem frzEs_al {env : PEnv} {j : Nat} {p : Path} {es : PEnv} : frzEs env (.al j p :: es) = (frzE env (.al j p)).bind fun q => (frzEs q.2 es).map fun r => (q.1 :: r.1, r.2) := by
  rw [frzEs]
  cases frzE env (.al j p) with
  | none => rfl
  | some q =>
    dsimp only [Option.bind]
    cases frzEs q.2 es <;> rfl
@[simp] theorem conts_nil {env : PEnv} : conts env [] = some [] := rfl
@[simp] theorem conts_val {env : PEnv} {pv : PV} {es : PEnv} : conts env (.val pv :: es) = (conts env es).map fun r => pv :: r := by
  rw [conts]
  show (match some pv, conts env es with | some p, some ps => some (p :: ps) | _, _ => none) = _
  cases conts env es <;> rfl
@[simp] theorem conts_al {env : PEnv} {j : Nat} {p : Path} {es : PEnv} : conts env (.al j p :: es) = (look env j p).bind fun q => (conts env es).map fun r => q :: r := by
  rw [conts]
  show (match look env j p, conts env es with | some p, some ps => some (p :: ps) | _, _ => none) = _
  cases look env j p <;> cases conts env es <;> rfl
@[simp] theorem cont_val {env : PEnv} {pv : PV} : cont env (.val pv) = some pv := rfl
@[simp] theorem cont_al {env : PEnv} {j : Nat} {p : Path} : cont env (.al j p) = look env j p := rfl
@[simp] theorem look_def {env : PEnv} {j : Nat} {p : Path} : look env j p = (match env[j]? with
  | some (.val pv) => (match PV.at p pv with
    | some q => if q.fz = true then none else some q
    | none => none)
  | _ => none) := rfl
@[simp] theorem at_nil {x : PV} : PV.at [] x = some x := by rw [PV.at]
@[simp] theorem at_lst' {i : Nat} {q : Path} {o : Bool} {xs : List PV} : PV.at (i :: q) (.lst o xs) = xs[i]?.bind fun x => PV.at q x := by
  rw [at_lst]
  cases xs[i]? <;> rfl
@[simp] theorem boolOf_bl {b : Bool} : boolOf (some (.bl b)) = some b := rfl
@[simp] theorem intOf_int {i : Int} : intOf (some (.int i)) = some i := rfl
@[simp] theorem argEs_nil {env : PEnv} : argEs env [] = some ([], env) := rfl
@[simp] theorem argEs_val {env : PEnv} {pv : PV} {es : PEnv} : argEs env (.val pv :: es) = (argEs env es).map fun r => (Sl.val pv :: r.1, r.2) := by
  rw [argEs]
  show (match argEs env es with | some (es', env2) => some (Sl.val pv :: es', env2) | none => none) = _
  cases argEs env es <;> rfl
@[simp] theorem argEs_al {env : PEnv} {j : Nat} {es : PEnv} : argEs env (.al j [] :: es) = (argEs env es).map fun r => (Sl.al j [] :: r.1, r.2) := by
  rw [argEs]
  show (match argEs env es with | some (es', env2) => some (Sl.al j [] :: es', env2) | none => none) = _
  cases argEs env es <;> rfl
@[simp] theorem dBor_n : dBor [] = true := rfl
@[simp] theorem dBor_val {pv : PV} {es : PEnv} : dBor (.val pv :: es) = dBor es := by rw [dBor]; all_goals (intros; simp_all)
@[simp] theorem dBor_al {j : Nat} {es : PEnv} : dBor (.al j [] :: es) = (es.all (fun e => match e with
      | .al i _ => i != j
      | _ => true) && dBor es) := rfl
@[simp] theorem okW_nil : okW [] [] = true := rfl
@[simp] theorem okW_val {pv a : PV} {es : PEnv} {as : List PV} : okW (.val pv :: es) (a :: as) = okW es as := by rw [okW]; all_goals (intros; simp_all)
@[simp] theorem okW_al {j : Nat} {p : Path} {a : PV} {es : PEnv} {as : List PV} : okW (.al j p :: es) (a :: as) = (flatP a && okW es as) := by rw [okW]
@[simp] theorem bpos_n {as : List PV} {i : Nat} : bpos [] as i = none := by cases as <;> rfl
@[simp] theorem bpos_val {pv a : PV} {es : PEnv} {as : List PV} {i : Nat} : bpos (.val pv :: es) (a :: as) i = bpos es as i := by rw [bpos]; all_goals (intros; simp_all)
@[simp] theorem bpos_al {j : Nat} {p : Path} {a : PV} {es : PEnv} {as : List PV} {i : Nat} : bpos (.al j p :: es) (a :: as) i = if j = i then some a else bpos es as i := by rw [bpos]
@[simp] theorem wbG_n {es : PEnv} {as : List PV} {i : Nat} : wbG es as i [] = [] := rfl
@[simp] theorem wbG_c {es : PEnv} {as : List PV} {i : Nat} {e : Sl} {env : PEnv} : wbG es as i (e :: env) = wbS es as i e :: wbG es as (i + 1) env := rfl
@[simp] theorem wbS_val {es : PEnv} {as : List PV} {i : Nat} {pv : PV} : wbS es as i (.val pv) = .val ((bpos es as i).getD pv) := by
  unfold wbS
  cases bpos es as i <;> rfl
@[simp] theorem wbS_un {es : PEnv} {as : List PV} {i : Nat} : wbS es as i .un = (match bpos es as i with | some a => .val a | none => .un) := by
  unfold wbS
  cases bpos es as i <;> rfl
@[simp] theorem wbS_al {es : PEnv} {as : List PV} {i j : Nat} {p : Path} : wbS es as i (.al j p) = (match bpos es as i with
  | some a => .val a
  | none => match bpos es as j with
      | some _ => .un
      | none => .al j p) := rfl
@[simp] theorem flatP_lst {o : Bool} {xs : List PV} : flatP (.lst o xs) = PV.fzs xs := rfl
@[simp] theorem unalEs_nil {env : PEnv} : unalEs env [] = some ([], env) := rfl
@[simp] theorem unalEs_val {env : PEnv} {pv : PV} {es : PEnv} : unalEs env (.val pv :: es) = (unalEs env es).map fun r => (pv :: r.1, r.2) := by
  rw [unalEs]
  cases unalEs env es <;> rfl
@[simp] theorem unalEs_al {env : PEnv} {j : Nat} {p : Path} {es : PEnv} : unalEs env (.al j p :: es) = (frzE env (.al j p)).bind fun q => (unalEs q.2 es).map fun r => (q.1 :: r.1, r.2) := by
  rw [unalEs]
  · cases frzE env (.al j p) with
    | none => rfl
    | some q =>
      dsimp only [Option.bind]
      cases unalEs q.2 es <;> rfl
  · intro pv h
    cases h
@[simp] theorem setAll_nil {env : PEnv} : setAll env [] [] = some env := rfl
@[simp] theorem setAll_cons {env : PEnv} {i : Nat} {is : List Nat} {p : PV} {ps : List PV} : setAll env (i :: is) (p :: ps) = setAll (setE env i (.val p)) is ps := rfl
@[simp] theorem setT_nm {i : Nat} {p : PV} {env : PEnv} : setT (.nm i) p env = some (setE env i (.val p)) := by rw [setT]
@[simp] theorem setT_tp {ts : List Tg} {ps : List PV} {env : PEnv} : setT (.tp ts) (.tup ps) env = setTs ts ps env := by rw [setT]
@[simp] theorem setTs_nil {env : PEnv} : setTs [] [] env = some env := by rw [setTs]
@[simp] theorem setTs_cons {t : Tg} {ts : List Tg} {p : PV} {ps : List PV} {env : PEnv} : setTs (t :: ts) (p :: ps) env = (setT t p env).bind fun e => setTs ts ps e := by
  rw [setTs]
  cases setT t p env <;> rfl
@[simp] theorem itemsO_lst {o : Bool} {xs : List PV} : itemsO (.lst o xs) = some xs := rfl
@[simp] theorem itemsO_tup {xs : List PV} : itemsO (.tup xs) = some xs := rfl
@[simp] theorem itemsO_frl {xs : List PV} : itemsO (.frl xs) = some xs := rfl
@[simp] theorem wipeE_nil {env : PEnv} : wipeE env [] = env := rfl
@[simp] theorem wipeE_cons {env : PEnv} {v : Nat} {vs : List Nat} : wipeE env (v :: vs) = (wipeE env vs).set v .un := rfl
@[simp] theorem backE_nil {env0 env : PEnv} : backE env0 env [] = env := rfl
@[simp] theorem backE_cons {env0 env : PEnv} {v : Nat} {vs : List Nat} : backE env0 env (v :: vs) = (match env0[v]? with
    | some e => (backE env0 env vs).set v (backS e)
    | none => backE env0 env vs) := rfl
@[simp] theorem backS_val {pv : PV} : backS (.val pv) = .val pv := rfl
@[simp] theorem backS_un : backS .un = .un := rfl
@[simp] theorem backS_al {j : Nat} {p : Path} : backS (.al j p) = .un := rfl
@[simp] theorem plainS_al {j : Nat} {p : Path} : plainS (.al j p) = true := rfl
@[simp] theorem plainS_val {pv : PV} : plainS (.val pv) = pv.fz := rfl
@[simp] theorem plainS_un : plainS .un = true := rfl
@[simp] theorem plainE_nil {env : PEnv} : plainE env [] = true := rfl
@[simp] theorem plainE_cons {env : PEnv} {v : Nat} {vs : List Nat} : plainE env (v :: vs) = ((match env[v]? with
  | some e => plainS e
  | none => true) && plainE env vs) := rfl
@[simp] theorem inE_n {fi : List Nat} {i : Nat} : inE fi i [] = [] := rfl
@[simp] theorem inE_c {fi : List Nat} {i : Nat} {a : PV} {as : List PV} : inE fi i (a :: as) = (if i ∈ fi then .val a else .val a.frz) :: inE fi (i + 1) as := rfl
@[simp] theorem outP_n {fi : List Nat} {env : PEnv} {i : Nat} : outP fi env i [] = some [] := rfl
@[simp] theorem outP_c {fi : List Nat} {env : PEnv} {i : Nat} {a : PV} {as : List PV} : outP fi env i (a :: as) = (if i ∈ fi then (match env[i]? with | some (.val b) => some b | _ => none) else some a.frz).bind fun b => (outP fi env (i + 1) as).map (b :: ·) := by
  rw [outP]
  cases (if i ∈ fi then (match env[i]? with | some (.val b) => some b | _ => none) else some a.frz : Option PV) <;> rfl
@[simp] theorem exitE_val {fi : List Nat} {env : PEnv} {pv : PV} : exitE fi env (.val pv) = some (pv, env) := rfl
@[simp] theorem exitE_al {fi : List Nat} {env : PEnv} {k : Nat} : exitE fi env (.al k []) = if k ∈ fi then frzE env (.al k []) else (look env k []).map fun pv => (pv, env.set k .un) := by
  rw [exitE]
  by_cases h : k ∈ fi
  · rw [if_pos h, if_pos h]
  · rw [if_neg h, if_neg h]
    cases look env k [] <;> rfl
theorem wp_exit {n np : Nat} {fi : List Nat} {b : D Fl} {args : List PV} {R : PV → List PV → Prop} (hl : args.length = np)
    (h : WP b (inE fi 0 args ++ List.replicate (n - np) .un) fun f env => match f with
      | .rt e => gate (exitE fi env e) fun z => gate (outP fi z.2 0 args) fun as => R z.1 as
      | .nx => gate (outP fi env 0 args) fun as => R .non as
      | _ => False) : ∃ r as, mkfn n np fi b args = some (r, as) ∧ R r as := by
  obtain ⟨f, env, h1, h2⟩ := wp_of h
  unfold mkfn
  rw [if_pos hl, h1]
  cases f with
  | bk => exact h2.elim
  | ct => exact h2.elim
  | nx =>
    dsimp only at h2 ⊢
    cases e : outP fi env 0 args with
    | none => rw [e] at h2; exact h2.elim
    | some as => rw [e] at h2; exact ⟨_, _, rfl, h2⟩
  | rt r =>
    dsimp only at h2 ⊢
    cases e : exitE fi env r with
    | none => rw [e] at h2; exact h2.elim
    | some z =>
      rw [e] at h2
      obtain ⟨q, env1⟩ := z
      dsimp only at h2 ⊢
      rw [gate_some] at h2
      cases e2 : outP fi env1 0 args with
      | none => rw [e2] at h2; exact h2.elim
      | some as => rw [e2] at h2; exact ⟨_, _, rfl, h2⟩
/-- what a def tells of kept arguments -/
theorem fn_val {f : FnD} {args as : List PV} {r : PV} (h : ∃ q bs, f args = some (q, bs) ∧ q = r ∧ bs = as) : f args = some (r, as) := by
  obtain ⟨q, bs, h1, rfl, rfl⟩ := h
  exact h1
end Pv
namespace Pv
open PySem PySem.Spec PyProof.Rows L2
section
variable {a b : Int} {p q : PV} {xs ys : List PV} {o o' : Bool}
@[simp] theorem gAdd_int : gAdd [.int a, .int b] = some (.int (a + b)) := rfl
@[simp] theorem gAdd_tup : gAdd [.tup xs, .tup ys] = if xs.length + ys.length ≤ 16777216 then some (.tup (xs ++ ys)) else none := rfl
@[simp] theorem gAdd_lst : gAdd [.lst o xs, .lst o' ys] = if PV.fzs xs = true ∧ PV.fzs ys = true ∧ xs.length + ys.length ≤ 16777216 then some (.lst true (xs ++ ys)) else none := rfl
@[simp] theorem gSub_int : Pv.gSub [.int a, .int b] = some (.int (a - b)) := rfl
@[simp] theorem gMul_int : gMul [.int a, .int b] = if mulOk a b = true then some (.int (a * b)) else none := rfl
@[simp] theorem gMod_int : gMod [.int a, .int b] = if 0 < b then some (.int (a % b)) else none := rfl
@[simp] theorem gDiv_int : gDiv [.int a, .int b] = if 0 < b ∧ b.natAbs.log2 < 9000 then some (.int (a / b)) else none := rfl
@[simp] theorem gNeg_int : gNeg [.int a] = some (.int (-a)) := rfl
@[simp] theorem gLt_int : gLt [.int a, .int b] = some (.bl (decide (a < b))) := rfl
@[simp] theorem gGt_int : gGt [.int a, .int b] = some (.bl (decide (b < a))) := rfl
@[simp] theorem gLe_int : gLe [.int a, .int b] = some (.bl (decide (a ≤ b))) := rfl
@[simp] theorem gGe_int : gGe [.int a, .int b] = some (.bl (decide (b ≤ a))) := rfl
theorem peq_int : peq (.int a) (.int b) = some (decide (a = b)) := by
  have e : (a == b) = decide (a = b) := by rw [Bool.eq_iff_iff]; simp
  unfold peq
  simp [pd, SeqAt.shaped, PyData.eqv, PyData.canLay0, PyData.depth, e]
@[simp] theorem gEq_int : gEq [.int a, .int b] = some (.bl (decide (a = b))) := by
  show ((peq (.int a) (.int b)).map PV.bl) = _
  rw [peq_int]
  rfl
@[simp] theorem gNe_int : gNe [.int a, .int b] = some (.bl (!decide (a = b))) := by
  show ((peq (.int a) (.int b)).map fun b => PV.bl (!b)) = _
  rw [peq_int]
  rfl
@[simp] theorem gIs_non : gIs [p, .non] = some (.bl (isN p)) := by cases p <;> rfl
@[simp] theorem gIsNot_non : gIsNot [p, .non] = some (.bl (!isN p)) := by cases p <;> rfl
@[simp] theorem isN_non : isN .non = true := rfl
@[simp] theorem isN_int : isN (.int a) = false := rfl
@[simp] theorem isN_tup : isN (.tup xs) = false := rfl
@[simp] theorem isN_lst : isN (.lst o xs) = false := rfl
@[simp] theorem gLen_lst : gLen [.lst o xs] = some (.int xs.length) := rfl
@[simp] theorem gLen_tup : gLen [.tup xs] = some (.int xs.length) := rfl
@[simp] theorem gAbs_int : gAbs [.int a] = some (.int (if a < 0 then -a else a)) := rfl
@[simp] theorem gInt_int : gInt [.int a] = some (.int a) := rfl
@[simp] theorem gInt_bl {k : Bool} : gInt [.bl k] = some (.int (if k = true then 1 else 0)) := rfl
@[simp] theorem intsP_map {l : List Int} : intsP (l.map .int) = some l := by
  induction l with
  | nil => rfl
  | cons i l ih => rw [List.map_cons, intsP, ih]
@[simp] theorem blsP_map {l : List Bool} : blsP (l.map .bl) = some l := by
  induction l with
  | nil => rfl
  | cons i l ih => rw [List.map_cons, blsP, ih]
theorem blsP_of {α : Type} {f : α → Bool} {l : List α} : blsP (l.map fun x => .bl (f x)) = some (l.map f) := by
  have := blsP_map (l := l.map f)
  rwa [List.map_map] at this
@[simp] theorem gSum_lst : gSum [.lst o xs] = (intsP xs).map fun is => .int is.sum := rfl
@[simp] theorem gSum_tup : gSum [.tup xs] = (intsP xs).map fun is => .int is.sum := rfl
@[simp] theorem gAll_lst : gAll [.lst o xs] = (blsP xs).map fun bs => .bl (bs.all id) := rfl
@[simp] theorem gAny_lst : gAny [.lst o xs] = (blsP xs).map fun bs => .bl (bs.any id) := rfl
@[simp] theorem gTuple_lst : gTuple [.lst o xs] = if PV.fzs xs = true then some (.tup xs) else none := rfl
@[simp] theorem gTuple_tup : gTuple [.tup xs] = some (.tup xs) := rfl
@[simp] theorem gList_lst : gList [.lst o xs] = if PV.fzs xs = true then some (.lst true xs) else none := rfl
@[simp] theorem gList_tup : gList [.tup xs] = some (.lst true xs) := rfl
@[simp] theorem gMin_int : gMin [.int a, .int b] = some (.int (if b < a then b else a)) := rfl
@[simp] theorem gMax_int : gMax [.int a, .int b] = some (.int (if b > a then b else a)) := rfl
@[simp] theorem gAppend_one : gAppend xs [p] = if xs.length < 1000000 then some (xs ++ [p], .non) else none := rfl
@[simp] theorem gExtend_lst {zs : List PV} : gExtend xs [.lst o zs] = if xs.length + zs.length < 1000000 then some (xs ++ zs, .non) else none := rfl
@[simp] theorem cutO_tup {lo hi : Option Int} : cutO (some (.tup xs)) lo hi = some (.tup (cutP xs lo hi)) := rfl
@[simp] theorem cutO_lst {lo hi : Option Int} : cutO (some (.lst o xs)) lo hi = if PV.fzs xs = true then some (.lst true (cutP xs lo hi)) else none := rfl
@[simp] theorem revO_tup : revO (some (.tup xs)) = some (.tup xs.reverse) := rfl
@[simp] theorem revO_lst : revO (some (.lst o xs)) = if PV.fzs xs = true then some (.lst true xs.reverse) else none := rfl
@[simp] theorem zipO_lst : zipO [.lst o xs, .lst o' ys] = some ((xs.zip ys).map fun p => .tup [p.1, p.2]) := rfl
@[simp] theorem zipO_tup : zipO [.tup xs, .tup ys] = some ((xs.zip ys).map fun p => .tup [p.1, p.2]) := rfl
end
@[simp] theorem putE_def {env : PEnv} {j : Nat} {p : Path} {y : PV} : putE env j p y = (match env[j]? with
  | some (.val pv) => (env.map (kill j p)).set j (.val (pv.put p y))
  | _ => env) := rfl
@[simp] theorem kill_val {j : Nat} {p : Path} {pv : PV} : kill j p (.val pv) = .val pv := rfl
@[simp] theorem kill_un {j : Nat} {p : Path} : kill j p .un = .un := rfl
@[simp] theorem put_nil {x y : PV} : PV.put [] x y = y := by rw [PV.put]
/-- the comprehension's value -/
@[simp ↓] theorem wp_lc {di : D (List PV)} {t : Tg} {vs : List Nat} {tt : D Bool} {te : D Sl} {env : PEnv} {Q : Sl → PEnv → Prop} : WP (dlc di t vs tt te) env Q = WP di env fun ps e => WP (lcE t vs tt te ps) e Q := by
  unfold dlc
  rw [wp_bind]
@[simp ↓] theorem wp_lcE {t : Tg} {vs : List Nat} {tt : D Bool} {te : D Sl} {ps : List PV} {env : PEnv} {Q : Sl → PEnv → Prop} : WP (lcE t vs tt te ps) env Q = ((plainE env vs = true ∧ ps.length ≤ 1000000) ∧ WP (lcP (setT t) vs tt te ps []) (wipeE env vs) fun acc e => Q (.val (.lst true acc)) (backE env e vs)) := by
  unfold WP lcE
  by_cases h : plainE env vs = true ∧ ps.length ≤ 1000000
  · rw [if_pos h]
    cases lcP (setT t) vs tt te ps [] (wipeE env vs) <;> simp [h]
  · rw [if_neg h]; simp [h]

theorem wp_lcP {t : PV → PEnv → Option PEnv} {vs : List Nat} {tt : D Bool} {te : D Sl} {env : PEnv} {ps acc : List PV} {Q : List PV → PEnv → Prop} (c : PV → Bool) (g : PV → PV) (h : ∀ p ∈ ps, gate (t p env) fun e1 => WP tt e1 fun k e2 => k = c p ∧ if c p = true then WP te e2 fun r e3 => r = .val (g p) ∧ wipeE e3 vs = env else wipeE e2 vs = env)
    (q : Q (acc ++ (ps.filter c).map g) env) : WP (lcP t vs tt te ps acc) env Q := by
  unfold WP
  rw [lcP_pure c g h]
  exact q
/-- .. over things of a type -/
theorem wp_lcT {α : Type} {t : PV → PEnv → Option PEnv} {vs : List Nat} {tt : D Bool} {te : D Sl} {env : PEnv} {l : List α} {f : α → PV} {Q : List PV → PEnv → Prop} (c : α → Bool) (g : α → PV)
    (h : ∀ x ∈ l, gate (t (f x) env) fun e1 => WP tt e1 fun k e2 => k = c x ∧ if c x = true then WP te e2 fun r e3 => r = .val (g x) ∧ wipeE e3 vs = env else wipeE e2 vs = env)
    (q : Q ((l.filter c).map g) env) : WP (lcP t vs tt te (l.map f) []) env Q := by
  have go : ∀ (l : List α) (acc : List PV), (∀ x ∈ l, gate (t (f x) env) fun e1 => WP tt e1 fun k e2 => k = c x ∧ if c x = true then WP te e2 fun r e3 => r = .val (g x) ∧ wipeE e3 vs = env else wipeE e2 vs = env) → lcP t vs tt te (l.map f) acc env = .ok (acc ++ (l.filter c).map g) env := by
    intro l
    induction l with
    | nil => intro acc _; rw [List.map_nil, lcP]; simp
    | cons x l ih =>
      intro acc h
      have h1 := h x (by simp)
      have ih := fun acc => ih acc fun y hy => h y (by simp [hy])
      rw [List.map_cons, lcP]
      cases e1 : t (f x) env with
      | none => rw [e1] at h1; exact h1.elim
      | some env1 =>
        rw [e1, gate_some] at h1
        obtain ⟨k, e2, h2, rfl, h3⟩ := wp_of h1
        dsimp only
        rw [h2]
        cases hc : c x with
        | false =>
          rw [hc, if_neg Bool.false_ne_true] at h3
          dsimp only
          rw [h3, ih, List.filter_cons_of_neg (by simp [hc])]
        | true =>
          rw [hc, if_pos rfl] at h3
          obtain ⟨r, e3, h4, rfl, h5⟩ := wp_of h3
          dsimp only
          rw [h4]
          dsimp only [unalV]
          rw [h5, ih, List.filter_cons_of_pos hc]
          simp
  unfold WP
  rw [go l [] h]
  exact q
end Pv
namespace Pv
open PySem PySem.Spec PyProof.Rows L2
/-! ### how long a thing's text is -/
mutual
def tidy : PyData → Bool
  | .none | .bool _ => true
  | .int i => decide (i.natAbs < 10 ^ 12)
  | .str _ => false
  | .list xs | .tuple xs => tidyAll xs
  | .dict _ => false
def tidyAll : List PyData → Bool
  | [] => true
  | x :: xs => tidy x && tidyAll xs
end
mutual
def tx : PyData → Nat
  | .list xs | .tuple xs => txAll xs + 3
  | _ => 13
def txAll : List PyData → Nat
  | [] => 0
  | x :: xs => tx x + 2 + txAll xs
end
def Low (x : Str) : Prop := ∀ c ∈ x.cps.toList, c < 0x110000
theorem strOk_of {x : Str} (h : Low x) : PyData.strOk x = true := by
  unfold PyData.strOk
  rw [Array.all_eq_true_iff_forall_mem]
  intro c hc
  simpa using h c (Array.mem_toList_iff.mpr hc)
theorem low_app {x y : Str} (h : Low x) (k : Low y) : Low (x ++ y) := fun c hc => by
  rcases mem_cps_append.mp hc with h1 | h1
  · exact h c h1
  · exact k c h1
theorem low_of (s : String) : Low (Str.ofString s) := fun c hc => by
  rw [signs_ofString] at hc
  obtain ⟨ch, _, rfl⟩ := List.mem_map.mp hc
  have := ch.valid
  have e : ch.toNat = ch.val.toNat := rfl
  rw [e]
  rcases this with h | ⟨_, h⟩
  · have h' : ch.val.toNat < 55296 := h
    omega
  · exact h
theorem low_join {sep : Str} {ts : List Str} (hs : Low sep) (h : ∀ t ∈ ts, Low t) : Low (Str.join sep ts) := fun c hc => by
  rcases (mem_join sep c ts).mp hc with ⟨t, ht, h1⟩ | ⟨_, h1⟩
  · exact h t ht c h1
  · exact hs c h1
mutual
theorem low_shown : ∀ d : PyData, tidy d = true → Low d.shown
  | .none, _ => low_of "None"
  | .bool b, _ => by
    rw [PyData.shown_bool]
    cases b
    · exact low_of "False"
    · exact low_of "True"
  | .int i, _ => by
    rw [PyData.shown_int]
    exact low_of _
  | .str _, h => by simp [tidy] at h
  | .dict _, h => by simp [tidy] at h
  | .list xs, h => by
    simp only [PyData.shown]
    rw [listText_eq_join]
    exact low_app (low_app (low_of "[") (low_join (low_of ", ") (low_all xs (by simpa [tidy] using h)))) (low_of "]")
  | .tuple xs, h => by
    simp only [PyData.shown, tupleText]
    refine low_app (low_app (low_of "(") (low_join (low_of ", ") (low_all xs (by simpa [tidy] using h)))) ?_
    split
    · exact low_of ",)"
    · exact low_of ")"
theorem low_all : ∀ xs : List PyData, tidyAll xs = true → ∀ t ∈ PyData.shownAll xs, Low t
  | [], _, t, ht => by rw [PyData.shownAll_nil] at ht; exact absurd ht (by simp)
  | x :: xs, h, t, ht => by
    have h' : tidy x = true ∧ tidyAll xs = true := by simpa [tidyAll] using h
    rw [PyData.shownAll_cons, List.mem_cons] at ht
    rcases ht with rfl | ht
    · exact low_shown x h'.1
    · exact low_all xs h'.2 t ht
end
mutual
theorem tx_len : ∀ d : PyData, tidy d = true → d.shown.length ≤ tx d
  | .none, _ => by
    have e : (PyData.shown .none).length = 4 := rfl
    rw [e]; simp [tx]
  | .bool b, _ => by
    have e : (PyData.shown (.bool b)).length ≤ 5 := by cases b <;> decide
    simp only [tx]; omega
  | .int i, h => by
    have e : (PyData.shown (.int i)).length ≤ 13 := PyData.shown_int_le (by simpa [tidy] using h)
    simpa only [tx] using e
  | .str _, h => by simp [tidy] at h
  | .dict _, h => by simp [tidy] at h
  | .list xs, h => by
    have h1 := tx_lens xs (by simpa [tidy] using h)
    have h2 := listText_len_le (PyData.shownAll xs)
    have h3 := PyData.shownAll_length xs
    simp only [PyData.shown, tx]
    omega
  | .tuple xs, h => by
    have h1 := tx_lens xs (by simpa [tidy] using h)
    have h2 := tupleText_len_le (PyData.shownAll xs)
    have h3 := PyData.shownAll_length xs
    simp only [PyData.shown, tx]
    omega
theorem tx_lens : ∀ xs : List PyData, tidyAll xs = true → ((PyData.shownAll xs).map (·.length)).sum + 2 * xs.length ≤ txAll xs
  | [], _ => by simp [PyData.shownAll, txAll]
  | x :: xs, h => by
    have h' : tidy x = true ∧ tidyAll xs = true := by simpa [tidyAll] using h
    have h1 := tx_len x h'.1
    have h2 := tx_lens xs h'.2
    simp only [PyData.shownAll, txAll, List.map_cons, List.sum_cons, List.length_cons]
    omega
end
mutual
theorem tidy_show : ∀ d : PyData, tidy d = true → d.showable = true ∧ d.hasDict = false
  | .none, _ => ⟨rfl, rfl⟩
  | .bool b, _ => ⟨rfl, rfl⟩
  | .int i, h => by
    have h' : i.natAbs < 10 ^ 12 := by simpa [tidy] using h
    refine ⟨?_, rfl⟩
    simp only [PyData.showable, decide_eq_true_eq]
    by_cases h0 : i.natAbs = 0
    · rw [h0]; decide
    · rw [Nat.log2_lt h0]
      exact Nat.lt_of_lt_of_le h' (Nat.le_trans (by decide : (10 : Nat) ^ 12 ≤ 2 ^ 40) (Nat.pow_le_pow_right (by decide) (by decide)))
  | .str _, h => by simp [tidy] at h
  | .dict _, h => by simp [tidy] at h
  | .list xs, h => by
    have := tidy_shows xs (by simpa [tidy] using h)
    simpa only [PyData.showable, PyData.hasDict] using this
  | .tuple xs, h => by
    have := tidy_shows xs (by simpa [tidy] using h)
    simpa only [PyData.showable, PyData.hasDict] using this
theorem tidy_shows : ∀ xs : List PyData, tidyAll xs = true → PyData.showableAll xs = true ∧ PyData.hasDictAll xs = false
  | [], _ => ⟨rfl, rfl⟩
  | x :: xs, h => by
    have h' : tidy x = true ∧ tidyAll xs = true := by simpa [tidyAll] using h
    have h1 := tidy_show x h'.1
    have h2 := tidy_shows xs h'.2
    simp only [PyData.showableAll, PyData.hasDictAll, h1.1, h1.2, h2.1, h2.2]
    exact ⟨rfl, rfl⟩
end
/-- small, with a text of at most n signs, at most k deep -/
structure Tidy (d : PyData) (n k : Nat) : Prop where
  t : tidy d = true
  l : tx d ≤ n
  d : d.depth ≤ k
structure TidyAll (ds : List PyData) (n k : Nat) : Prop where
  t : tidyAll ds = true
  l : txAll ds ≤ n
  d : PyData.depthAll ds ≤ k
theorem Tidy.none : Tidy .none 13 0 := ⟨rfl, Nat.le_refl _, by simp [PyData.depth]⟩
theorem Tidy.bool {b : Bool} : Tidy (.bool b) 13 0 := ⟨rfl, Nat.le_refl _, by simp [PyData.depth]⟩
theorem Tidy.int {i : Int} (h1 : -1000000000000 < i) (h2 : i < 1000000000000) : Tidy (.int i) 13 0 := ⟨by
  simp only [tidy, decide_eq_true_eq]
  have : (10 : Nat) ^ 12 = 1000000000000 := by decide
  omega, Nat.le_refl _, by simp [PyData.depth]⟩
theorem TidyAll.nil {k : Nat} : TidyAll [] 0 k := ⟨rfl, Nat.le_refl _, by simp [PyData.depthAll]⟩
theorem TidyAll.cons {d : PyData} {ds : List PyData} {n m k : Nat} (h : Tidy d n k) (h2 : TidyAll ds m k) : TidyAll (d :: ds) (n + 2 + m) k :=
  ⟨by simp [tidyAll, h.t, h2.t], by have := h.l; have := h2.l; simp only [txAll]; omega, by have := h.d; have := h2.d; simp only [PyData.depthAll]; omega⟩
theorem Tidy.le {d : PyData} {n k n' k' : Nat} (h : Tidy d n k) (hn : n ≤ n') (hk : k ≤ k') : Tidy d n' k' := ⟨h.t, Nat.le_trans h.l hn, Nat.le_trans h.d hk⟩
theorem Tidy.tuple {ds : List PyData} {n k : Nat} (h : TidyAll ds n k) : Tidy (.tuple ds) (n + 3) (k + 1) := ⟨by simp [tidy, h.t], by have := h.l; simp only [tx]; omega, by have := h.d; simp only [PyData.depth]; omega⟩
theorem Tidy.list {ds : List PyData} {n k : Nat} (h : TidyAll ds n k) : Tidy (.list ds) (n + 3) (k + 1) := ⟨by simp [tidy, h.t], by have := h.l; simp only [tx]; omega, by have := h.d; simp only [PyData.depth]; omega⟩
theorem TidyAll.map {α : Type} {f : α → PyData} {n k : Nat} : ∀ {l : List α}, (∀ x ∈ l, Tidy (f x) n k) → TidyAll (l.map f) (l.length * (n + 2)) k
  | [], _ => by simpa using (TidyAll.nil (k := k))
  | a :: l, h => by
    have h1 := h a (by simp)
    have h2 := TidyAll.map (l := l) fun x hx => h x (by simp [hx])
    have h3 := TidyAll.cons h1 h2
    refine ⟨h3.t, Nat.le_trans h3.l ?_, h3.d⟩
    rw [List.length_cons, Nat.add_mul, Nat.one_mul]
    omega
theorem TidyAll.mapN {α : Type} {f : α → PyData} {n k m : Nat} {l : List α} (h : ∀ x ∈ l, Tidy (f x) n k) (hl : l.length ≤ m) : TidyAll (l.map f) (m * (n + 2)) k := by
  have h1 := TidyAll.map h
  exact ⟨h1.t, Nat.le_trans h1.l (Nat.mul_le_mul_right _ hl), h1.d⟩
theorem Tidy.small {d : PyData} {n k : Nat} (h : Tidy d n k) (hn : n ≤ 16777216) (hk : k ≤ 60) : isSmall d = true ∧ PyData.strOk d.shown = true := by
  have h1 := tidy_show d h.t
  have h2 := tx_len d h.t
  have := h.l
  have := h.d
  refine ⟨?_, strOk_of (low_shown d h.t)⟩
  unfold isSmall
  simp [h1.1, h1.2]
  omega
end Pv
namespace Pv
open PySem PySem.Spec PyProof.Rows L2
@[simp ↓] theorem wp_frz {d : D Sl} {env : PEnv} {Q : Sl → PEnv → Prop} : WP (dfrz d) env Q = WP d env fun a e => gate (frzE e a) fun r => Q (.val r.1) r.2 := by
  unfold dfrz
  rw [wp_bind]
  congr
  funext a e
  unfold WP dfrzE
  rw [frzEs]
  cases frzE e a with
  | none => rfl
  | some r => rfl
end Pv
namespace Pv
open PySem PySem.Spec PyProof.Rows L2
def isValS : Sl → Bool
  | .val _ => true
  | _ => false
@[simp] theorem isValS_val {p : PV} : isValS (.val p) = true := rfl
theorem bpos_vals {i : Nat} : ∀ {es : PEnv} {as : List PV}, es.all isValS = true → bpos es as i = none
  | [], as, _ => bpos_n
  | .val p :: es, [], _ => by unfold bpos; rfl
  | .val p :: es, a :: as, h => by
    rw [bpos_val]
    exact bpos_vals (by simpa using h)
  | .un :: es, _, h => by simp [isValS] at h
  | .al _ _ :: es, _, h => by simp [isValS] at h
@[simp] theorem wbS_vals {es : PEnv} {as : List PV} {i : Nat} {x : Sl} (h : es.all isValS = true) : wbS es as i x = x := by
  cases x with
  | val p => rw [wbS_val, bpos_vals h]; rfl
  | un => rw [wbS_un, bpos_vals h]
  | al j p => rw [wbS_al, bpos_vals h, bpos_vals h]
end Pv
namespace Pv
open PySem PySem.Spec PyProof.Rows L2
theorem outP_len {fi : List Nat} {env : PEnv} : ∀ {as bs : List PV} {i : Nat}, outP fi env i as = some bs → bs.length = as.length
  | [], bs, i, h => by
    rw [outP_n] at h
    cases h
    rfl
  | a :: as, bs, i, h => by
    rw [outP_c] at h
    obtain ⟨b, _, h⟩ := Option.bind_eq_some_iff.mp h
    obtain ⟨cs, e2, rfl⟩ := Option.map_eq_some_iff.mp h
    simp [outP_len e2]
theorem mkfn_out {n np : Nat} {fi : List Nat} {body : D Fl} {args as : List PV} {r : PV} (h : mkfn n np fi body args = some (r, as)) : as.length = args.length := by
  unfold mkfn at h
  split at h
  · split at h
    · split at h
      · split at h
        · rename_i h2
          cases h
          exact outP_len h2
        · cases h
      · cases h
    · split at h
      · rename_i h2
        cases h
        exact outP_len h2
      · cases h
    · cases h
  · cases h
end Pv
namespace Pv
open PySem PySem.Spec PyProof.Rows L2
section
variable {env : PEnv}
/-- an item's entry, of a list, a tuple or a dict -/
def ixA (a : Sl) : Option PV → Option PV → Option Sl
  | some (.dct _ ks vs), some k => if okKey ks k = true then (kpos ks k).bind fun i => (vs[i]?).bind fun x => if x.fz = true then some (.val x) else match a with
      | .al j p => some (.al j (p ++ [i]))
      | _ => none
    else none
  | x, y => ixV a x y
theorem ddE_eq {a b : Sl} : ddE a b env = match cont env a, cont env b with
    | some (.dct o ks vs), some k => (match ixA a (some (.dct o ks vs)) (some k) with
      | some e => .ok e env
      | none => .no)
    | _, _ => .no := by
  unfold ddE
  cases cont env a with
  | none => rfl
  | some pa =>
    cases cont env b with
    | none => cases pa <;> rfl
    | some k =>
      cases pa with
      | dct o ks vs =>
        dsimp only [ixA]
        by_cases ok : okKey ks k = true
        · rw [if_pos ok, if_pos ok]
          cases kpos ks k with
          | none => rfl
          | some i =>
            dsimp only [Option.bind]
            cases vs[i]? with
            | none => rfl
            | some x =>
              dsimp only
              by_cases hz : x.fz = true
              · rw [if_pos hz, if_pos hz]
              · rw [if_neg hz, if_neg hz]
                cases a <;> rfl
        · rw [if_neg ok, if_neg ok]
      | _ => rfl
@[simp ↓] theorem wp_ixA {a b : Sl} {Q : Sl → PEnv → Prop} : WP (dixA a b) env Q = gate (ixA a (cont env a) (cont env b)) fun e => Q e env := by
  have hE := wp_ix (env := env) (a := a) (b := b) (Q := Q)
  unfold WP at hE ⊢
  unfold dixA
  rw [ddE_eq]
  cases e1 : cont env a with
  | none => rw [e1] at hE; exact hE
  | some pa =>
    cases e2 : cont env b with
    | none =>
      rw [e1, e2] at hE
      cases pa <;> exact hE
    | some k =>
      rw [e1, e2] at hE
      cases pa with
      | dct o ks vs =>
        dsimp only
        cases e3 : ixA a (some (.dct o ks vs)) (some k) with
        | none =>
          dsimp only
          rw [hE]
          rfl
        | some r => rfl
      | _ => exact hE
@[simp] theorem ixA_lst {a : Sl} {o : Bool} {xs : List PV} {y : Option PV} : ixA a (some (.lst o xs)) y = ixV a (some (.lst o xs)) y := by cases y <;> rfl
@[simp] theorem ixA_tup {a : Sl} {xs : List PV} {y : Option PV} : ixA a (some (.tup xs)) y = ixV a (some (.tup xs)) y := by cases y <;> rfl
theorem ixA_dct {a : Sl} {o : Bool} {ks vs : List PV} {k : PV} : ixA a (some (.dct o ks vs)) (some k) = if okKey ks k = true then (kpos ks k).bind fun i => (vs[i]?).bind fun x => if x.fz = true then some (.val x) else match a with
      | .al j p => some (.al j (p ++ [i]))
      | _ => none
    else none := rfl
@[simp ↓] theorem wp_dct0 {Q : Sl → PEnv → Prop} : WP ddct0 env Q = Q (.val (.dct true [] [])) env := by unfold ddct0; rw [wp_con]
def dictO : PV → Option PV
  | .lst _ xs => (prsOf xs).bind fun ps => if okPrs ps = true ∧ PV.fzs xs = true ∧ ps.length ≤ 1000000 then some (.dct true (mergeP ([], []) ps).1 (mergeP ([], []) ps).2) else none
  | _ => none
@[simp ↓] theorem wp_dictA {ds : D PEnv} {Q : Sl → PEnv → Prop} : WP (ddictA ds) env Q = WP ds env fun es e => match es with
    | [a] => gate ((cont e a).bind dictO) fun r => Q (.val r) e
    | _ => False := by
  unfold ddictA
  rw [wp_bind]
  congr
  funext es e
  match es with
  | [] => rw [wp_no]
  | _ :: _ :: _ => rw [wp_no]
  | [a] =>
    unfold WP ddictE
    dsimp only
    cases cont e a with
    | none => rfl
    | some pa =>
      cases pa with
      | lst o xs =>
        dsimp only [Option.bind, dictO]
        cases prsOf xs with
        | none => rfl
        | some ps =>
          dsimp only
          by_cases hc : okPrs ps = true ∧ PV.fzs xs = true ∧ ps.length ≤ 1000000
          · rw [if_pos hc, if_pos hc]; rfl
          · rw [if_neg hc, if_neg hc]; rfl
      | _ => rfl
def dispO (ps : List PV) : Option PV := (pairPs ps).bind fun prs => if (prs.all fun p => scalK p.1) = true ∧ prs.length ≤ 15 then some (.dct true (mergeP ([], []) prs).1 (mergeP ([], []) prs).2) else none
@[simp ↓] theorem wp_disp {ds : D PEnv} {Q : Sl → PEnv → Prop} : WP (ddisp ds) env Q = WP ds env fun es e => gate (frzEs e es) fun r => gate (dispO r.1) fun z => Q (.val z) r.2 := by
  unfold ddisp
  rw [wp_bind]
  congr
  funext es e
  unfold WP ddispE dispO
  cases frzEs e es with
  | none => rfl
  | some r =>
    obtain ⟨ps, e1⟩ := r
    dsimp only
    rw [gate_some]
    cases pairPs ps with
    | none => rfl
    | some prs =>
      dsimp only [Option.bind]
      by_cases hc : (prs.all fun p => scalK p.1) = true ∧ prs.length ≤ 15
      · rw [if_pos hc, if_pos hc]; rfl
      · rw [if_neg hc, if_neg hc]; rfl
def itemsB (r : PV) : Option (List PV) := match r with
  | .lst _ xs => some xs
  | .tup xs => some xs
  | .frl xs => some xs
  | .dct _ ks _ => some ks
  | _ => none
@[simp ↓] theorem wp_ditemsA {d : D Sl} {Q : List PV → PEnv → Prop} : WP (ditemsA d) env Q = WP d env fun a e => gate (frzE e a) fun r => gate (itemsB r.1) fun xs => Q xs r.2 := by
  unfold ditemsA
  rw [wp_bind]
  congr
  funext a e
  unfold WP itemsA
  cases frzE e a with
  | none => rfl
  | some r =>
    obtain ⟨p, e⟩ := r
    cases p <;> rfl
@[simp] theorem itemsB_lst {o : Bool} {xs : List PV} : itemsB (.lst o xs) = some xs := rfl
@[simp] theorem itemsB_tup {xs : List PV} : itemsB (.tup xs) = some xs := rfl
@[simp] theorem itemsB_frl {xs : List PV} : itemsB (.frl xs) = some xs := rfl
@[simp] theorem itemsB_dct {o : Bool} {ks vs : List PV} : itemsB (.dct o ks vs) = some ks := rfl
def valsO (r : PV) : Option (List PV) := match r with
  | .dct _ _ vs => some vs
  | _ => none
def prsO (r : PV) : Option (List PV) := match r with
  | .dct _ ks vs => some ((ks.zip vs).map fun p => .tup [p.1, p.2])
  | _ => none
@[simp ↓] theorem wp_vals {d : D Sl} {Q : List PV → PEnv → Prop} : WP (dvals d) env Q = WP d env fun a e => gate (frzE e a) fun r => gate (valsO r.1) fun xs => Q xs r.2 := by
  unfold dvals
  rw [wp_bind]
  congr
  funext a e
  unfold WP valsE
  cases frzE e a with
  | none => rfl
  | some r =>
    obtain ⟨p, e⟩ := r
    cases p <;> rfl
@[simp ↓] theorem wp_prs {d : D Sl} {Q : List PV → PEnv → Prop} : WP (dprs d) env Q = WP d env fun a e => gate (frzE e a) fun r => gate (prsO r.1) fun xs => Q xs r.2 := by
  unfold dprs
  rw [wp_bind]
  congr
  funext a e
  unfold WP prsE
  cases frzE e a with
  | none => rfl
  | some r =>
    obtain ⟨p, e⟩ := r
    cases p <;> rfl
@[simp] theorem valsO_dct {o : Bool} {ks vs : List PV} : valsO (.dct o ks vs) = some vs := rfl
@[simp] theorem prsO_dct {o : Bool} {ks vs : List PV} : prsO (.dct o ks vs) = some ((ks.zip vs).map fun p => .tup [p.1, p.2]) := rfl
/-! stores -/
def storeO (x y p : PV) : Option PV := match x, y with
  | .lst true xs, .int i => match ixN xs.length i with
    | some k => if PV.fzs xs = true then some (.lst true (xs.set k p)) else none
    | none => none
  | .dct true ks vs, k => if okKey ks k = true ∧ PV.fzs vs = true ∧ ks.length ≤ 1000000 then some (.dct true (keepL (kpos ks k) ks k) (putL (kpos ks k) vs p)) else none
  | _, _ => none
@[simp ↓] theorem gate_ix {a b : D Sl} {p : PV} {env : PEnv} {k : PEnv → Prop} : gate (setT (.ix a b) p env) k = WP a env fun x e1 => WP b e1 fun y e2 => gate (storeA x y p e2) k := by
  unfold WP
  rw [setT]
  cases a env with
  | no => rfl
  | ex _ _ => rfl
  | ok x e1 =>
    dsimp only
    cases b e1 <;> rfl
@[simp] theorem storeA_al {j : Nat} {q : Path} {b : Sl} {p : PV} {env : PEnv} : storeA (.al j q) b p env = (look env j q).bind fun x => (cont env b).bind fun y => (storeO x y p).map fun z => putE env j q z := by
  unfold storeA storeIx storeD
  dsimp only
  generalize look env j q = u
  generalize cont env b = v
  cases u with
  | none => cases v <;> rfl
  | some x =>
    cases v with
    | none => cases x with
      | lst o xs => cases o <;> rfl
      | dct o ks vs => cases o <;> rfl
      | _ => rfl
    | some y =>
      cases x with
      | lst o xs =>
        cases o with
        | false => cases y <;> rfl
        | true =>
          cases y with
          | int i =>
            dsimp only [Option.bind, storeO]
            cases ixN xs.length i with
            | none => rfl
            | some k =>
              dsimp only
              by_cases h : PV.fzs xs = true
              · rw [if_pos h, if_pos h]; rfl
              · rw [if_neg h, if_neg h]; rfl
          | _ => rfl
      | dct o ks vs =>
        cases o with
        | false => rfl
        | true =>
          dsimp only [Option.bind, storeO]
          by_cases h : okKey ks y = true ∧ PV.fzs vs = true ∧ ks.length ≤ 1000000
          · rw [if_pos h, if_pos h]; rfl
          · rw [if_neg h, if_neg h]; rfl
      | _ => cases y <;> rfl
@[simp] theorem kill_al {i j : Nat} {p q : Path} : kill j p (.al i q) = if i = j ∧ p <+: q ∧ p ≠ q then .un else .al i q := rfl
@[simp] theorem fz_dct {o : Bool} {ks vs : List PV} : PV.fz (.dct o ks vs) = (!o && PV.fzs ks && PV.fzs vs) := by rw [PV.fz]
@[simp] theorem frz_dct {o : Bool} {ks vs : List PV} : PV.frz (.dct o ks vs) = .dct false (PV.frzs ks) (PV.frzs vs) := by rw [PV.frz]
@[simp] theorem flatP_dct {o : Bool} {ks vs : List PV} : flatP (.dct o ks vs) = PV.fzs vs := rfl
end
end Pv
namespace Pv
open PySem PySem.Spec PyProof.Rows L2

/-! ### things of a type, as trees -/
structure En (α : Type) where
  f : α → PV
  d : α → PyData
  k : Nat
  fz : ∀ a, (f a).fz = true
  pd : ∀ a, Pv.pd (f a) = some (d a)
  lay : ∀ a, (d a).canLay0 = true
  dp : ∀ a, (d a).depth ≤ k
  eq : ∀ a b, PyData.eqv (d a) (d b) = true ↔ a = b
def En.int : En Int where
  f := .int
  d := .int
  k := 0
  fz := fun _ => rfl
  pd := fun _ => rfl
  lay := fun _ => by simp [PyData.canLay0]
  dp := fun _ => by simp [PyData.depth]
  eq := fun a b => by simp [PyData.eqv]
def En.bl : En Bool where
  f := .bl
  d := .bool
  k := 0
  fz := fun _ => rfl
  pd := fun _ => rfl
  lay := fun _ => by simp [PyData.canLay0]
  dp := fun _ => by simp [PyData.depth]
  eq := fun a b => by simp [PyData.eqv]
section
variable {α β γ : Type}
theorem En.inj (E : En α) {a b : α} (h : E.f a = E.f b) : a = b := by
  have h1 := E.pd a
  rw [h, E.pd b] at h1
  have h2 : E.d b = E.d a := Option.some.inj h1
  have h3 := (E.eq b b).mpr rfl
  rw [h2] at h3
  exact (E.eq a a).mp h3 ▸ ((E.eq a b).mp (by rw [h2]; exact (E.eq a a).mpr rfl))
theorem En.fzs (E : En α) {l : List α} : PV.fzs (l.map E.f) = true := fzs_map fun a => E.fz a
theorem En.frz (E : En α) {a : α} : (E.f a).frz = E.f a := PV.frz_of_fz _ (E.fz a)
theorem En.frzs (E : En α) {l : List α} : PV.frzs (l.map E.f) = l.map E.f := frzs_of E.fzs
theorem En.pds (E : En α) : ∀ l : List α, Pv.pds (l.map E.f) = some (l.map E.d)
  | [] => rfl
  | a :: l => by rw [List.map_cons, Pv.pds, E.pds l, E.pd a]; rfl
theorem En.lays (E : En α) : ∀ l : List α, PyData.canLayAll0 (l.map E.d) = true
  | [] => by simp [PyData.canLayAll0]
  | a :: l => by simp [PyData.canLayAll0, E.lays l, E.lay a]
theorem En.dps (E : En α) : ∀ l : List α, PyData.depthAll (l.map E.d) ≤ E.k
  | [] => by simp [PyData.depthAll]
  | a :: l => by
    have := E.dps l
    have := E.dp a
    simp only [List.map_cons, PyData.depthAll]
    omega
theorem En.eqs (E : En α) : ∀ l m : List α, PyData.eqvAll (l.map E.d) (m.map E.d) = true ↔ l = m
  | [], [] => by simp [PyData.eqvAll]
  | [], _ :: _ => by simp [PyData.eqvAll]
  | _ :: _, [] => by simp [PyData.eqvAll]
  | a :: l, b :: m => by
    rw [List.map_cons, List.map_cons, PyData.eqvAll, Bool.and_eq_true, E.eq a b, E.eqs l m]
    simp
def En.pair (E : En α) (G : En β) : En (α × β) where
  f := fun p => .tup [E.f p.1, G.f p.2]
  d := fun p => .tuple [E.d p.1, G.d p.2]
  k := max E.k G.k + 1
  fz := fun p => by simp [E.fz, G.fz]
  pd := fun p => by simp [Pv.pd, Pv.pds, E.pd, G.pd]
  lay := fun p => by simp [PyData.canLay0, PyData.canLayAll0, E.lay, G.lay]
  dp := fun p => by
    have := E.dp p.1
    have := G.dp p.2
    simp only [PyData.depth, PyData.depthAll]
    omega
  eq := fun a b => by
    rw [PyData.eqv, PyData.eqvAll, PyData.eqvAll, PyData.eqvAll, Bool.and_true, Bool.and_eq_true, E.eq, G.eq, Prod.ext_iff]
def En.tup (E : En α) : En (List α) where
  f := fun l => .tup (l.map E.f)
  d := fun l => .tuple (l.map E.d)
  k := E.k + 1
  fz := fun l => by simp [E.fzs]
  pd := fun l => by rw [Pv.pd, E.pds]
  lay := fun l => by simp [PyData.canLay0, E.lays]
  dp := fun l => by have := E.dps l; simp only [PyData.depth]; omega
  eq := fun a b => by rw [PyData.eqv, E.eqs]
def En.flst (E : En α) : En (List α) where
  f := fun l => .lst false (l.map E.f)
  d := fun l => .list (l.map E.d)
  k := E.k + 1
  fz := fun l => by simp [E.fzs]
  pd := fun l => by rw [Pv.pd, E.pds]
  lay := fun l => by simp [PyData.canLay0, E.lays]
  dp := fun l => by have := E.dps l; simp only [PyData.depth]; omega
  eq := fun a b => by rw [PyData.eqv, E.eqs]
theorem En.shaped (E : En α) (h : E.k ≤ 64) (a : α) : SeqAt.shaped (E.d a) = true := by
  unfold SeqAt.shaped
  have := E.dp a
  simp [E.lay]
  omega
theorem En.peq (E : En α) [DecidableEq α] (h : E.k ≤ 64) (a b : α) : Pv.peq (E.f a) (E.f b) = some (decide (a = b)) := by
  unfold Pv.peq
  rw [E.pd, E.pd]
  dsimp only
  rw [if_pos ⟨E.shaped h a, E.shaped h b⟩]
  congr 1
  rw [Bool.eq_iff_iff, E.eq]
  simp
theorem En.gEq (E : En α) [DecidableEq α] (h : E.k ≤ 64) (a b : α) : Pv.gEq [E.f a, E.f b] = some (.bl (decide (a = b))) := by
  show ((Pv.peq (E.f a) (E.f b)).map PV.bl) = _
  rw [E.peq h]
  rfl
theorem En.gNe (E : En α) [DecidableEq α] (h : E.k ≤ 64) (a b : α) : Pv.gNe [E.f a, E.f b] = some (.bl (!decide (a = b))) := by
  show ((Pv.peq (E.f a) (E.f b)).map fun b => PV.bl (!b)) = _
  rw [E.peq h]
  rfl
theorem En.peqL (E : En α) [DecidableEq α] (h : E.k + 1 ≤ 64) (o o' : Bool) (a b : List α) : Pv.peq (.lst o (a.map E.f)) (.lst o' (b.map E.f)) = some (decide (a = b)) := by
  have e := E.flst.peq h a b
  unfold Pv.peq at e ⊢
  have h1 : ∀ (o : Bool) (l : List α), Pv.pd (.lst o (l.map E.f)) = some (.list (l.map E.d)) := fun o l => by rw [Pv.pd, E.pds]
  rw [h1, h1]
  rw [E.flst.pd, E.flst.pd] at e
  exact e
theorem En.gEqL (E : En α) [DecidableEq α] (h : E.k + 1 ≤ 64) (o o' : Bool) (a b : List α) : Pv.gEq [.lst o (a.map E.f), .lst o' (b.map E.f)] = some (.bl (decide (a = b))) := by
  show ((Pv.peq (.lst o (a.map E.f)) (.lst o' (b.map E.f))).map PV.bl) = _
  rw [E.peqL h]
  rfl
theorem En.gNeL (E : En α) [DecidableEq α] (h : E.k + 1 ≤ 64) (o o' : Bool) (a b : List α) : Pv.gNe [.lst o (a.map E.f), .lst o' (b.map E.f)] = some (.bl (!decide (a = b))) := by
  show ((Pv.peq (.lst o (a.map E.f)) (.lst o' (b.map E.f))).map fun b => PV.bl (!b)) = _
  rw [E.peqL h]
  rfl
end
/-! ### order -/
structure Or {α : Type} (E : En α) where
  lt : α → α → Bool
  al : ∀ a b, PySem.W.alike (E.d a) (E.d b) = true
  nd : ∀ a, ndN (E.d a) = true
  is : ∀ a b, PySem.W.dataLt (E.d a) (E.d b) = lt a b
  irr : ∀ a, lt a a = false
  tr : ∀ a b c, lt a b = true → lt b c = true → lt a c = true
  tot : ∀ a b, a ≠ b → lt a b = true ∨ lt b a = true
theorem dataLt_int {a b : Int} : PySem.W.dataLt (.int a) (.int b) = decide (a < b) := by
  unfold PySem.W.dataLt
  simp only [PySem.W.keyToks]
  rw [PyProof.Rows.lex_cons]
  have e : ∀ x y : Int, itemOrd.blt (Sum.inl x) (Sum.inl y) = decide (x < y) := fun x y => rfl
  rw [e, e]
  by_cases h : a < b
  · simp [h]
  · simp [h]
    intro _
    rfl
def Or.int : Or En.int where
  lt := fun a b => decide (a < b)
  al := fun a b => by simp [En.int, PySem.W.alike]
  nd := fun a => rfl
  is := fun a b => dataLt_int
  irr := fun a => by simp
  tr := fun a b c h1 h2 => by simp at *; omega
  tot := fun a b h => by simp; omega
section
variable {α β : Type} {E : En α} {G : En β}
theorem Or.asym (O : Or E) {a b : α} (h : O.lt a b = true) : O.lt b a = false := by
  cases e : O.lt b a with
  | false => rfl
  | true =>
    have := O.tr a b a h e
    rw [O.irr] at this
    cases this
theorem dataLt_pair {x x' y y' : PyData} (hx : PySem.W.alike x x' = true) (hy : PySem.W.alike y y' = true) : PySem.W.dataLt (.tuple [x, y]) (.tuple [x', y']) = if PyData.eqv x x' = true then (if PyData.eqv y y' = true then false else PySem.W.dataLt y y') else PySem.W.dataLt x x' := by
  obtain ⟨a1, a2⟩ := PySem.W.toks_eqv x x' hx
  obtain ⟨b1, b2⟩ := PySem.W.toks_eqv y y' hy
  unfold PySem.W.dataLt
  simp only [PySem.W.keyToks, PySem.W.keyToksAll]
  rw [PyProof.Rows.lex_self]
  cases e1 : PyData.eqv x x' with
  | true =>
    rw [if_pos rfl, a1 e1, PySem.W.lex_pre, PyProof.Rows.lex_self]
    cases e2 : PyData.eqv y y' with
    | true =>
      rw [if_pos rfl, b1 e2, PySem.W.lex_pre, PyProof.Rows.lex_self]
      rfl
    | false =>
      rw [if_neg (by decide)]
      exact b2 e2 _ _
  | false =>
    rw [if_neg (by decide)]
    exact a2 e1 _ _
def Or.pair [DecidableEq α] [DecidableEq β] (O : Or E) (U : Or G) : Or (E.pair G) where
  lt := fun p q => if p.1 = q.1 then U.lt p.2 q.2 else O.lt p.1 q.1
  al := fun a b => by simp [En.pair, PySem.W.alike, PySem.W.alikeAll, O.al, U.al]
  nd := fun a => rfl
  is := fun a b => by
    show PySem.W.dataLt (.tuple [E.d a.1, G.d a.2]) (.tuple [E.d b.1, G.d b.2]) = _
    rw [dataLt_pair (O.al _ _) (U.al _ _), O.is, U.is]
    by_cases h1 : a.1 = b.1
    · rw [if_pos ((E.eq _ _).mpr h1), if_pos h1]
      by_cases h2 : a.2 = b.2
      · rw [if_pos ((G.eq _ _).mpr h2), h2, U.irr]
      · rw [if_neg (fun e => h2 ((G.eq _ _).mp e))]
    · rw [if_neg (fun e => h1 ((E.eq _ _).mp e)), if_neg h1]
  irr := fun a => by simp [U.irr]
  tr := fun a b c h1 h2 => by
    show (if a.1 = c.1 then U.lt a.2 c.2 else O.lt a.1 c.1) = true
    split at h1
    · rename_i e1
      split at h2
      · rename_i e2
        rw [if_pos (e1.trans e2)]
        exact U.tr _ _ _ h1 h2
      · rename_i e2
        rw [if_neg (by rw [e1]; exact e2), e1]
        exact h2
    · rename_i e1
      split at h2
      · rename_i e2
        rw [if_neg (by rw [← e2]; exact e1), ← e2]
        exact h1
      · rename_i e2
        have := O.tr _ _ _ h1 h2
        split
        · rename_i e3
          rw [e3, O.irr] at this
          cases this
        · exact this
  tot := fun a b h => by
    show (if a.1 = b.1 then U.lt a.2 b.2 else O.lt a.1 b.1) = true ∨ (if b.1 = a.1 then U.lt b.2 a.2 else O.lt b.1 a.1) = true
    by_cases h1 : a.1 = b.1
    · rw [if_pos h1, if_pos h1.symm]
      exact U.tot _ _ fun e => h (Prod.ext h1 e)
    · rw [if_neg h1, if_neg (Ne.symm h1)]
      exact O.tot _ _ h1
/-- the order of sorting -/
def Or.le (O : Or E) (a b : α) : Bool := !O.lt b a
def Or.maxL (O : Or E) (a : α) (l : List α) : α := l.foldl (fun a y => if O.lt a y = true then y else a) a
def Or.minL (O : Or E) (a : α) (l : List α) : α := l.foldl (fun a y => if O.lt y a = true then y else a) a
theorem En.pdD (E : En α) (a : α) : Pv.pdD (E.f a) = E.d a := by unfold Pv.pdD; rw [E.pd]
theorem Or.cmpAll (O : Or E) (h : E.k ≤ 60) (l : List α) : Pv.cmpAll (l.map E.f) = true := by
  unfold Pv.cmpAll
  rw [E.pds]
  have h1 : alikes (l.map E.d) = true := by
    unfold alikes
    simp [List.all_map]
    intro x _ y _
    exact O.al x y
  have h2 : (l.map E.d).all ndN = true := by
    simp [List.all_map]
    intro x _
    exact O.nd x
  have h3 := E.dps l
  simp [E.fzs, h1, h2]
  omega
theorem Or.gLt (O : Or E) (h : E.k ≤ 60) (a b : α) : Pv.gLt [E.f a, E.f b] = some (.bl (O.lt a b)) := by
  have hc : cmpOk (E.d a) (E.d b) = true := by
    unfold cmpOk
    have := E.dp a
    simp [O.al, O.nd]
    omega
  unfold Pv.gLt
  split
  · rename_i x y e
    have e1 : E.f a = .int x := by injection e with e1 _
    have e2 : E.f b = .int y := by injection e with _ e2; injection e2 with e2 _
    have h1 := E.pd a
    have h2 := E.pd b
    rw [e1] at h1
    rw [e2] at h2
    have h1 : PyData.int x = E.d a := Option.some.inj h1
    have h2 : PyData.int y = E.d b := Option.some.inj h2
    rw [← O.is, ← h1, ← h2, dataLt_int]
  · rename_i p q _ e
    injection e with e1 e2
    injection e2 with e2 _
    subst e1 e2
    rw [E.pd, E.pd]
    dsimp only
    rw [if_pos hc, O.is]
  · rename_i e1 e2
    exact absurd rfl (e2 _ _)
theorem Or.sortP (O : Or E) (l : List α) : Pv.sortP (l.map E.f) = (l.mergeSort O.le).map E.f := by
  unfold Pv.sortP
  refine (List.map_mergeSort fun a _ b _ => ?_).symm
  show _ = !(PySem.W.dataLt (Pv.pdD (E.f b)) (Pv.pdD (E.f a)))
  rw [E.pdD, E.pdD, O.is]
  rfl
theorem Or.gSorted (O : Or E) (h : E.k ≤ 60) (ht : (∀ a, isTupC (E.d a) = true) ∨ ∀ a, notTup (E.d a) = true) (o : Bool) (l : List α) : Pv.gSorted [.lst o (l.map E.f)] = some (.lst true ((l.mergeSort O.le).map E.f)) := by
  show (if sortOk (l.map E.f) = true then some (PV.lst true (Pv.sortP (l.map E.f))) else none) = _
  have hs : sortOk (l.map E.f) = true := by
    unfold sortOk
    rw [O.cmpAll h]
    have e : (l.map E.f).map Pv.pdD = l.map E.d := by
      rw [List.map_map]
      exact List.map_congr_left fun a _ => E.pdD a
    rw [e]
    rcases ht with ht | ht
    · simp [List.all_map]
      exact .inl fun x _ => ht x
    · simp [List.all_map]
      exact .inr fun x _ => ht x
  rw [if_pos hs, O.sortP]
theorem Or.maxP (O : Or E) (a : α) (l : List α) : Pv.maxP (E.f a) (l.map E.f) = E.f (O.maxL a l) := by
  unfold Pv.maxP Or.maxL
  induction l generalizing a with
  | nil => rfl
  | cons y l ih =>
    rw [List.map_cons, List.foldl_cons, List.foldl_cons, E.pdD, E.pdD, O.is]
    by_cases h : O.lt a y = true
    · rw [if_pos h, if_pos h]; exact ih y
    · rw [if_neg h, if_neg h]; exact ih a
theorem Or.minP (O : Or E) (a : α) (l : List α) : Pv.minP (E.f a) (l.map E.f) = E.f (O.minL a l) := by
  unfold Pv.minP Or.minL
  induction l generalizing a with
  | nil => rfl
  | cons y l ih =>
    rw [List.map_cons, List.foldl_cons, List.foldl_cons, E.pdD, E.pdD, O.is]
    by_cases h : O.lt y a = true
    · rw [if_pos h, if_pos h]; exact ih y
    · rw [if_neg h, if_neg h]; exact ih a
theorem Or.gMax (O : Or E) (h : E.k ≤ 60) (o : Bool) (a : α) (l : List α) : Pv.gMax [.lst o (E.f a :: l.map E.f)] = some (E.f (O.maxL a l)) := by
  show (if Pv.cmpAll (E.f a :: l.map E.f) = true then some (Pv.maxP (E.f a) (l.map E.f)) else none) = _
  have hc : Pv.cmpAll (E.f a :: l.map E.f) = true := O.cmpAll h (a :: l)
  rw [if_pos hc, O.maxP]
theorem Or.gMin (O : Or E) (h : E.k ≤ 60) (o : Bool) (a : α) (l : List α) : Pv.gMin [.lst o (E.f a :: l.map E.f)] = some (E.f (O.minL a l)) := by
  show (if Pv.cmpAll (E.f a :: l.map E.f) = true then some (Pv.minP (E.f a) (l.map E.f)) else none) = _
  have hc : Pv.cmpAll (E.f a :: l.map E.f) = true := O.cmpAll h (a :: l)
  rw [if_pos hc, O.minP]
theorem Or.max_mem (O : Or E) (a : α) (l : List α) : O.maxL a l ∈ a :: l := by
  unfold Or.maxL
  induction l generalizing a with
  | nil => simp
  | cons y l ih =>
    rw [List.foldl_cons]
    have h := ih (if O.lt a y = true then y else a)
    rcases List.mem_cons.mp h with h | h
    · rw [h]
      split <;> simp
    · simp [h]
theorem Or.min_mem (O : Or E) (a : α) (l : List α) : O.minL a l ∈ a :: l := by
  unfold Or.minL
  induction l generalizing a with
  | nil => simp
  | cons y l ih =>
    rw [List.foldl_cons]
    have h := ih (if O.lt y a = true then y else a)
    rcases List.mem_cons.mp h with h | h
    · rw [h]
      split <;> simp
    · simp [h]
end
end Pv
namespace Pv
open PySem PySem.Spec PyProof.Rows L2

/-! ### things in lists and tuples -/
section
variable {α β κ : Type} {E : En α}
theorem En.pin (E : En α) [DecidableEq α] (h : E.k + 1 ≤ 64) (a : α) (l : List α) : Pv.pin (E.f a) (l.map E.f) = some (decide (a ∈ l)) := by
  unfold Pv.pin
  rw [E.pd, E.pds]
  dsimp only
  rw [if_pos ⟨E.shaped (by omega) a, E.flst.shaped h l⟩]
  congr 1
  rw [Bool.eq_iff_iff, List.any_map, List.any_eq_true]
  simp only [Function.comp, decide_eq_true_eq]
  constructor
  · rintro ⟨x, hx, e⟩
    rw [← (E.eq x a).mp e]
    exact hx
  · intro hx
    exact ⟨a, hx, (E.eq a a).mpr rfl⟩
theorem En.gInL (E : En α) [DecidableEq α] (h : E.k + 1 ≤ 64) (o : Bool) (a : α) (l : List α) : gInA [E.f a, .lst o (l.map E.f)] = some (.bl (decide (a ∈ l))) := by
  have : gIn [E.f a, .lst o (l.map E.f)] = some (.bl (decide (a ∈ l))) := by
    show (Pv.pin _ _).map _ = _
    rw [E.pin h]
    rfl
  unfold gInA
  rw [this]
theorem En.gInT (E : En α) [DecidableEq α] (h : E.k + 1 ≤ 64) (a : α) (l : List α) : gInA [E.f a, .tup (l.map E.f)] = some (.bl (decide (a ∈ l))) := by
  have : gIn [E.f a, .tup (l.map E.f)] = some (.bl (decide (a ∈ l))) := by
    show (Pv.pin _ _).map _ = _
    rw [E.pin h]
    rfl
  unfold gInA
  rw [this]
theorem En.gNotInL (E : En α) [DecidableEq α] (h : E.k + 1 ≤ 64) (o : Bool) (a : α) (l : List α) : gNotInA [E.f a, .lst o (l.map E.f)] = some (.bl (!decide (a ∈ l))) := by
  have : gNotIn [E.f a, .lst o (l.map E.f)] = some (.bl (!decide (a ∈ l))) := by
    show (Pv.pin _ _).map _ = _
    rw [E.pin h]
    rfl
  unfold gNotInA
  rw [this]
theorem En.gNotInT (E : En α) [DecidableEq α] (h : E.k + 1 ≤ 64) (a : α) (l : List α) : gNotInA [E.f a, .tup (l.map E.f)] = some (.bl (!decide (a ∈ l))) := by
  have : gNotIn [E.f a, .tup (l.map E.f)] = some (.bl (!decide (a ∈ l))) := by
    show (Pv.pin _ _).map _ = _
    rw [E.pin h]
    rfl
  unfold gNotInA
  rw [this]
end
/-! ### dicts of a type -/
/-- things that may be keys: all numbers or texts, or all tuples -/
structure Ky {κ : Type} (E : En κ) where
  pl : ∀ a, plainK (E.f a) = true
  kd : (∀ a, scalK (E.f a) = true) ∨ ∀ a, keyT (E.f a) = true
def Ky.int : Ky En.int where
  pl := fun _ => rfl
  kd := .inl fun _ => rfl
section
variable {α β κ : Type} {E : En κ} {A : En α}
theorem Ky.ok (Y : Ky E) (l : List κ) (a : κ) : okKey (l.map E.f) (E.f a) = true := by
  unfold okKey
  rw [Y.pl]
  rcases Y.kd with h | h
  · have : (l.map E.f).all scalK = true := by
      simp [List.all_map]
      exact fun x _ => h x
    rw [h, this]
    rfl
  · have h2 := h a
    unfold keyT at h2
    simp only [Bool.and_eq_true] at h2
    have : (l.map E.f).all tupK = true := by
      simp [List.all_map]
      intro x _
      have h3 := h x
      unfold keyT at h3
      simp only [Bool.and_eq_true] at h3
      exact h3.1.2
    obtain ⟨⟨_, t1⟩, t2⟩ := h2
    cases e : nk (E.f a) with
    | none => rw [e] at t2; cases t2
    | some n =>
      rw [e] at t2
      simp [this, t1]
      exact .inr (by simpa using t2)
def dkeys (d : List (κ × α)) : List κ := d.map (·.1)
def dvals' (d : List (κ × α)) : List α := d.map (·.2)
def kget [DecidableEq κ] : List (κ × α) → κ → Option α
  | [], _ => none
  | e :: d, k => if e.1 = k then some e.2 else kget d k
def kput [DecidableEq κ] : List (κ × α) → κ → α → List (κ × α)
  | [], k, v => [(k, v)]
  | e :: d, k, v => if e.1 = k then (e.1, v) :: d else e :: kput d k v
def pvD (E : En κ) (A : En α) (o : Bool) (d : List (κ × α)) : PV := .dct o ((dkeys d).map E.f) ((dvals' d).map A.f)
theorem kpos_en (E : En κ) [DecidableEq κ] {x k : κ} {l : List κ} : kpos ((x :: l).map E.f) (E.f k) = if x = k then some 0 else (kpos (l.map E.f) (E.f k)).map (· + 1) := by
  rw [List.map_cons, kpos_cons]
  by_cases h : x = k
  · rw [if_pos h, if_pos (by rw [h])]
  · rw [if_neg h, if_neg (fun e => h (E.inj e))]
theorem kget_pos (E : En κ) [DecidableEq κ] : ∀ (d : List (κ × α)) (k : κ), kget d k = (kpos ((dkeys d).map E.f) (E.f k)).bind fun i => (dvals' d)[i]?
  | [], k => rfl
  | e :: d, k => by
    have ih := kget_pos E d k
    show kget (e :: d) k = (kpos ((e.1 :: dkeys d).map E.f) (E.f k)).bind fun i => (e.2 :: dvals' d)[i]?
    rw [kpos_en, kget]
    by_cases h : e.1 = k
    · rw [if_pos h, if_pos h]; rfl
    · rw [if_neg h, if_neg h, ih]
      cases kpos ((dkeys d).map E.f) (E.f k) with
      | none => rfl
      | some i => rfl
theorem kput_pos (E : En κ) [DecidableEq κ] : ∀ (d : List (κ × α)) (k : κ) (v : α), dkeys (kput d k v) = keepL (kpos ((dkeys d).map E.f) (E.f k)) (dkeys d) k ∧ dvals' (kput d k v) = putL (kpos ((dkeys d).map E.f) (E.f k)) (dvals' d) v
  | [], k, v => ⟨rfl, rfl⟩
  | e :: d, k, v => by
    obtain ⟨i1, i2⟩ := kput_pos E d k v
    have hk : dkeys (e :: d) = e.1 :: dkeys d := rfl
    have hv : dvals' (e :: d) = e.2 :: dvals' d := rfl
    rw [hk, hv, kpos_en, kput]
    by_cases h : e.1 = k
    · rw [if_pos h, if_pos h]
      exact ⟨rfl, rfl⟩
    · rw [if_neg h, if_neg h]
      have h1 : dkeys (e :: kput d k v) = e.1 :: dkeys (kput d k v) := rfl
      have h2 : dvals' (e :: kput d k v) = e.2 :: dvals' (kput d k v) := rfl
      rw [h1, h2, i1, i2]
      cases kpos ((dkeys d).map E.f) (E.f k) with
      | none => exact ⟨rfl, rfl⟩
      | some i => exact ⟨rfl, rfl⟩
theorem keepL_map {γ δ : Type} {f : γ → δ} {i : Option Nat} {l : List γ} {x : γ} : keepL i (l.map f) (f x) = (keepL i l x).map f := by
  cases i with
  | none => simp [keepL]
  | some i => rfl
section
variable [DecidableEq κ]
theorem pvD_put (E : En κ) (A : En α) (o : Bool) (d : List (κ × α)) (k : κ) (v : α) : PV.dct o (keepL (kpos ((dkeys d).map E.f) (E.f k)) ((dkeys d).map E.f) (E.f k)) (putL (kpos ((dkeys d).map E.f) (E.f k)) ((dvals' d).map A.f) (A.f v)) = pvD E A o (kput d k v) := by
  obtain ⟨h1, h2⟩ := kput_pos E d k v
  unfold pvD
  rw [h1, h2, keepL_map, putL_map]
theorem pvD_store (Y : Ky E) (d : List (κ × α)) (k : κ) (v : α) (hl : d.length ≤ 1000000) : storeO (pvD E A true d) (E.f k) (A.f v) = some (pvD E A true (kput d k v)) := by
  have h1 : storeO (pvD E A true d) (E.f k) (A.f v) = if okKey ((dkeys d).map E.f) (E.f k) = true ∧ PV.fzs ((dvals' d).map A.f) = true ∧ ((dkeys d).map E.f).length ≤ 1000000 then some (.dct true (keepL (kpos ((dkeys d).map E.f) (E.f k)) ((dkeys d).map E.f) (E.f k)) (putL (kpos ((dkeys d).map E.f) (E.f k)) ((dvals' d).map A.f) (A.f v))) else none := by
    unfold pvD
    cases E.f k <;> rfl
  rw [h1, if_pos ⟨Y.ok _ _, A.fzs, by simpa [dkeys] using hl⟩, pvD_put]
theorem pvD_ix (Y : Ky E) (a : Sl) (o : Bool) (d : List (κ × α)) (k : κ) : ixA a (some (pvD E A o d)) (some (E.f k)) = (kget d k).map fun v => .val (A.f v) := by
  unfold pvD
  rw [ixA_dct, if_pos (Y.ok _ _), kget_pos E]
  cases kpos ((dkeys d).map E.f) (E.f k) with
  | none => rfl
  | some i =>
    dsimp only [Option.bind]
    rw [List.getElem?_map]
    cases (dvals' d)[i]? with
    | none => rfl
    | some v => simp [A.fz]
theorem kget_in (E : En κ) (d : List (κ × α)) (k : κ) : (kpos ((dkeys d).map E.f) (E.f k)).isSome = (kget d k).isSome := by
  induction d with
  | nil => rfl
  | cons e d ih =>
    have hk : dkeys (e :: d) = e.1 :: dkeys d := rfl
    rw [hk, kpos_en, kget]
    by_cases h : e.1 = k
    · rw [if_pos h, if_pos h]; rfl
    · rw [if_neg h, if_neg h, ← ih]
      cases kpos ((dkeys d).map E.f) (E.f k) <;> rfl
theorem pvD_in (Y : Ky E) (o : Bool) (d : List (κ × α)) (k : κ) : gInA [E.f k, pvD E A o d] = some (.bl (kget d k).isSome) := by
  have h1 : gInA [E.f k, pvD E A o d] = gDIn [E.f k, pvD E A o d] := by
    unfold pvD
    cases E.f k <;> rfl
  rw [h1]
  show (if okKey ((dkeys d).map E.f) (E.f k) = true then some (PV.bl (kpos ((dkeys d).map E.f) (E.f k)).isSome) else none) = _
  rw [if_pos (Y.ok _ _), kget_in]
theorem pvD_notIn (Y : Ky E) (o : Bool) (d : List (κ × α)) (k : κ) : gNotInA [E.f k, pvD E A o d] = some (.bl (!(kget d k).isSome)) := by
  have h1 : gNotInA [E.f k, pvD E A o d] = gDNotIn [E.f k, pvD E A o d] := by
    unfold pvD
    cases E.f k <;> rfl
  rw [h1]
  show (if okKey ((dkeys d).map E.f) (E.f k) = true then some (PV.bl (!(kpos ((dkeys d).map E.f) (E.f k)).isSome)) else none) = _
  rw [if_pos (Y.ok _ _), kget_in]
def dmerge (d more : List (κ × α)) : List (κ × α) := more.foldl (fun d e => kput d e.1 e.2) d
theorem mergeP_en (E : En κ) (A : En α) : ∀ (more d : List (κ × α)), mergeP ((dkeys d).map E.f, (dvals' d).map A.f) (more.map fun e => (E.f e.1, A.f e.2)) = ((dkeys (dmerge d more)).map E.f, (dvals' (dmerge d more)).map A.f)
  | [], d => rfl
  | e :: more, d => by
    show mergeP (putP ((dkeys d).map E.f, (dvals' d).map A.f) (E.f e.1, A.f e.2)) (more.map fun e => (E.f e.1, A.f e.2)) = _
    have h := pvD_put E A true d e.1 e.2
    unfold pvD at h
    injection h with _ h1 h2
    unfold putP
    dsimp only
    rw [h1, h2, mergeP_en E A more (kput d e.1 e.2)]
    rfl
theorem prsOf_en (E : En κ) (A : En α) : ∀ l : List (κ × α), prsOf (l.map fun e => PV.tup [E.f e.1, A.f e.2]) = some (l.map fun e => (E.f e.1, A.f e.2))
  | [] => rfl
  | e :: l => by rw [List.map_cons, List.map_cons, prsOf, prsOf_en E A l]; rfl
theorem Ky.okPrs (Y : Ky E) (A : En α) (l : List (κ × α)) : Pv.okPrs (l.map fun e => (E.f e.1, A.f e.2)) = true := by
  unfold Pv.okPrs
  rw [Bool.or_eq_true]
  rcases Y.kd with h | h
  · exact .inl (by simp [List.all_map]; exact fun a b _ => h a)
  · exact .inr (by simp [List.all_map]; exact fun a b _ => h a)
/-- dict([(k, v), ..]) -/
theorem pvD_dict (Y : Ky E) (o : Bool) (l : List (κ × α)) (hl : l.length ≤ 1000000) : dictO (.lst o (l.map fun e => PV.tup [E.f e.1, A.f e.2])) = some (pvD E A true (dmerge [] l)) := by
  unfold dictO
  dsimp only
  rw [prsOf_en]
  dsimp only [Option.bind]
  have hz : PV.fzs (l.map fun e => PV.tup [E.f e.1, A.f e.2]) = true := (E.pair A).fzs
  rw [if_pos ⟨Y.okPrs A l, hz, by simpa using hl⟩]
  have h := mergeP_en E A l []
  have e0 : ((dkeys ([] : List (κ × α))).map E.f, (dvals' ([] : List (κ × α))).map A.f) = (([], []) : List PV × List PV) := rfl
  rw [e0] at h
  rw [h]
  rfl
theorem kget_put (d : List (κ × α)) (k j : κ) (v : α) : kget (kput d k v) j = if j = k then some v else kget d j := by
  induction d with
  | nil =>
    show (if k = j then some v else none) = (if j = k then some v else none)
    by_cases h : k = j
    · rw [if_pos h, if_pos h.symm]
    · rw [if_neg h, if_neg (Ne.symm h)]
  | cons e d ih =>
    rw [kput]
    by_cases h : e.1 = k
    · rw [if_pos h, kget, kget]
      by_cases h2 : e.1 = j
      · rw [if_pos h2, if_pos (h2.symm.trans h)]
      · rw [if_neg h2, if_neg h2, if_neg (fun z => h2 (h.trans z.symm))]
    · rw [if_neg h, kget, kget, ih]
      by_cases h2 : e.1 = j
      · rw [if_pos h2, if_pos h2, if_neg (fun z => h (h2.trans z))]
      · rw [if_neg h2, if_neg h2]
theorem kput_new (d : List (κ × α)) (k : κ) (v : α) (h : k ∉ dkeys d) : kput d k v = d ++ [(k, v)] := by
  induction d with
  | nil => rfl
  | cons e d ih =>
    have hk : dkeys (e :: d) = e.1 :: dkeys d := rfl
    rw [hk, List.mem_cons, not_or] at h
    rw [kput, if_neg (Ne.symm h.1), ih h.2]
    rfl
theorem kput_len (d : List (κ × α)) (k : κ) (v : α) : (kput d k v).length ≤ d.length + 1 := by
  induction d with
  | nil => simp [kput]
  | cons e d ih =>
    rw [kput]
    split
    · simp
    · simp; exact ih
/-- pairs with unlike keys stay as they are -/
theorem dmerge_nodup : ∀ (l d : List (κ × α)), (dkeys d ++ dkeys l).Nodup → dmerge d l = d ++ l
  | [], d, _ => by simp [dmerge]
  | e :: l, d, h => by
    have hk : dkeys (e :: l) = e.1 :: dkeys l := rfl
    rw [hk] at h
    have h1 : e.1 ∉ dkeys d := fun hm => by
      rw [List.nodup_append] at h
      exact h.2.2 _ hm _ (by simp) rfl
    show dmerge (kput d e.1 e.2) l = _
    rw [kput_new d e.1 e.2 h1, dmerge_nodup l]
    · simp
    · have : dkeys (d ++ [(e.1, e.2)]) = dkeys d ++ [e.1] := by simp [dkeys]
      rw [this, List.append_assoc]
      exact h
theorem kget_map {l : List κ} {g : κ → α} {k : κ} : kget (l.map fun x => (x, g x)) k = if k ∈ l then some (g k) else none := by
  induction l with
  | nil => rfl
  | cons x l ih =>
    rw [List.map_cons, kget]
    by_cases h : x = k
    · subst h
      simp
    · rw [if_neg h, ih]
      simp [Ne.symm h]
theorem kget_mem {d : List (κ × α)} {k : κ} : (kget d k).isSome = decide (k ∈ dkeys d) := by
  induction d with
  | nil => rfl
  | cons e d ih =>
    have hk : dkeys (e :: d) = e.1 :: dkeys d := rfl
    rw [hk, kget]
    by_cases h : e.1 = k
    · subst h
      simp
    · rw [if_neg h, ih]
      simp [Ne.symm h]
end
@[simp] theorem pvD_fz {o : Bool} {d : List (κ × α)} : (pvD E A o d).fz = !o := by unfold pvD; simp [E.fzs, A.fzs]
@[simp] theorem pvD_frz {o : Bool} {d : List (κ × α)} : (pvD E A o d).frz = pvD E A false d := by unfold pvD; simp [E.frzs, A.frzs]
@[simp] theorem pvD_flat {o : Bool} {d : List (κ × α)} : flatP (pvD E A o d) = true := by unfold pvD; simp [A.fzs]
theorem pvD_items {o : Bool} {d : List (κ × α)} : itemsB (pvD E A o d) = some ((dkeys d).map E.f) := rfl
theorem pvD_vals {o : Bool} {d : List (κ × α)} : valsO (pvD E A o d) = some ((dvals' d).map A.f) := rfl
theorem pvD_nil {o : Bool} : PV.dct o [] [] = pvD E A o [] := rfl
end
end Pv
namespace Pv
open PySem PySem.Spec PyProof.Rows L2

theorem wp_while {c : D Bool} {b : D Fl} {Q : Fl → PEnv → Prop} (I : Nat → PEnv → Prop) (hs : ∀ n e, I (n + 1) e → WP c e fun k e1 => k = true ∧ WP b e1 fun f e2 => f = .nx ∧ I n e2)
    (h0 : ∀ e, I 0 e → WP c e fun k e1 => k = false ∧ Q .nx e1) : ∀ n e, I n e → WP (dwhile c b) e Q
  | 0, e, h => by
    obtain ⟨k, e1, h1, rfl, h2⟩ := wp_of (h0 e h)
    unfold WP
    rw [dwhile_eq, h1]
    exact h2
  | n + 1, e, h => by
    obtain ⟨k, e1, h1, rfl, h2⟩ := wp_of (hs n e h)
    obtain ⟨f, e2, h3, rfl, h4⟩ := wp_of h2
    have ih := wp_while I hs h0 n e2 h4
    unfold WP
    rw [dwhile_eq, h1]
    dsimp only
    rw [h3]
    unfold WP at ih
    exact ih
@[simp ↓] theorem wp_forP_nil {t : PV → PEnv → Option PEnv} {b : D Fl} {env : PEnv} {Q : Fl → PEnv → Prop} : WP (forP t b []) env Q = Q .nx env := by unfold WP; rfl
@[simp ↓] theorem wp_forP_cons {t : PV → PEnv → Option PEnv} {b : D Fl} {p : PV} {ps : List PV} {env : PEnv} {Q : Fl → PEnv → Prop} : WP (forP t b (p :: ps)) env Q = gate (t p env) fun e1 => WP b e1 fun f e2 => match f with
    | .nx => WP (forP t b ps) e2 Q
    | .ct => WP (forP t b ps) e2 Q
    | .bk => Q .nx e2
    | .rt r => Q (.rt r) e2 := by
  unfold WP
  rw [forP]
  cases t p env with
  | none => rfl
  | some e1 =>
    dsimp only
    rw [gate_some]
    cases e : b e1 with
    | no => rfl
    | ex _ _ => rfl
    | ok f e2 => cases f <;> rfl
/-- what a def does, by what it tells and leaves -/
def FW (f : FnD) (args : List PV) (R : PV → List PV → Prop) : Prop := ∃ r as, f args = some (r, as) ∧ R r as
theorem gate_fw {f : FnD} {args : List PV} {R : PV → List PV → Prop} {k : PV × List PV → Prop} (h : FW f args R) (hk : ∀ r as, R r as → k (r, as)) : gate (f args) k := by
  obtain ⟨r, as, h1, h2⟩ := h
  rw [h1]
  exact hk r as h2
/-- a comprehension that may change the state, by an invariant over the turns -/
theorem wp_lcI {t : PV → PEnv → Option PEnv} {vs : List Nat} {tt : D Bool} {te : D Sl} {Q : List PV → PEnv → Prop} (I : Nat → List PV → PEnv → Prop) : ∀ {ps acc : List PV} {n : Nat} {env : PEnv}, I n acc env →
    (∀ (i : Nat) p a e, ps[i]? = some p → I (n + i) a e → gate (t p e) fun e1 => WP tt e1 fun k e2 => if k = true then WP te e2 fun r e3 => gate (unalV e3 r) fun z => I (n + i + 1) (a ++ [z.1]) (wipeE z.2 vs) else I (n + i + 1) a (wipeE e2 vs)) →
    (∀ a e, I (n + ps.length) a e → Q a e) → WP (lcP t vs tt te ps acc) env Q
  | [], acc, n, env, h0, hs, hd => by
    unfold WP
    rw [lcP]
    exact hd acc env h0
  | p :: ps, acc, n, env, h0, hs, hd => by
    have h1 := hs 0 p acc env rfl h0
    have go : ∀ {a e}, I (n + 1) a e → WP (lcP t vs tt te ps a) e Q := fun {a e} hi => wp_lcI I hi (fun i q a e hq hI => by
        have := hs (i + 1) q a e (by simpa using hq) (by have e4 : n + (i + 1) = n + 1 + i := by omega
                                                         rw [e4]; exact hI)
        have e5 : n + (i + 1) + 1 = n + 1 + i + 1 := by omega
        rw [e5] at this
        exact this) (fun a e he => hd a e (by rw [List.length_cons]; have e6 : n + (ps.length + 1) = n + 1 + ps.length := by omega
                                              rw [e6]; exact he))
    unfold WP
    rw [lcP]
    cases e1 : t p env with
    | none => rw [e1] at h1; exact h1.elim
    | some env1 =>
      rw [e1, gate_some] at h1
      obtain ⟨k, e2, h2, h3⟩ := wp_of h1
      dsimp only
      rw [h2]
      cases k with
      | false =>
        rw [if_neg (by decide)] at h3
        have g := go h3
        unfold WP at g
        exact g
      | true =>
        rw [if_pos rfl] at h3
        obtain ⟨r, e3, h4, h5⟩ := wp_of h3
        dsimp only
        rw [h4]
        dsimp only
        cases e6 : unalV e3 r with
        | none => rw [e6] at h5; exact h5.elim
        | some z =>
          rw [e6, gate_some] at h5
          have g := go h5
          unfold WP at g
          exact g
theorem unalV_val {e : PEnv} {v : PV} : unalV e (.val v) = some (v, e) := by rw [unalV]
structure Plain (x : Sl) : Prop where
  r : ∀ k, killR k x = x
  k : ∀ k p, kill k p x = x
theorem plain_val {v : PV} : Plain (.val v) := ⟨fun k => by simp, fun k p => by simp⟩
theorem plain_un : Plain .un := ⟨fun k => by simp, fun k p => by simp⟩
theorem then_nx {K : PEnv → (Fl → PEnv → Prop) → Prop} {Q : Fl → PEnv → Prop} {e : PEnv} (h : K e Q) : thenF .nx K Q e := h
theorem then_rt {K : PEnv → (Fl → PEnv → Prop) → Prop} {Q : Fl → PEnv → Prop} {e : PEnv} {r : Sl} (h : Q (.rt r) e) : thenF (.rt r) K Q e := h
theorem map_get {α : Type} {f : α → PV} {l : List α} {i : Nat} {p : PV} (h : (l.map f)[i]? = some p) : ∃ x, l[i]? = some x ∧ p = f x := by
  rw [List.getElem?_map] at h
  cases e : l[i]? with
  | none => rw [e] at h; cases h
  | some x => rw [e] at h; exact ⟨x, rfl, (Option.some.inj h).symm⟩
theorem take_snoc {α : Type} {l : List α} {i : Nat} {x : α} (h : l[i]? = some x) : l.take (i + 1) = l.take i ++ [x] := by
  rw [List.take_add_one, h]
  rfl
theorem rangeP0 {n : Nat} : rangeP 0 n 1 = (List.range n).map fun (k : Nat) => PV.int (k : Int) := by
  unfold rangeP
  refine List.map_congr_left fun k _ => ?_
  simp
theorem okB_nat {n : Nat} (h : n ≤ 1000000) : okB (n : Int) := by
  unfold okB
  constructor
  · omega
  · omega
theorem ixN_nat {n : Nat} {i : Int} (h0 : 0 ≤ i) (h1 : i < n) : ixN n i = some i.toNat := by
  unfold ixN
  rw [if_pos h0, if_pos h1]
theorem atI_nat {α : Type} {xs : List α} {i : Int} (h0 : 0 ≤ i) (h1 : i < xs.length) (d : α) : atI xs i = some (xs.getD i.toNat d) := by
  unfold atI ixN
  rw [if_pos h0, if_pos h1]
  have : i.toNat < xs.length := by omega
  simp [List.getD, List.getElem?_eq_getElem this]
theorem cutP_to {xs : List PV} {i : Int} (h0 : 0 ≤ i) (h1 : i ≤ xs.length) : cutP xs none (some i) = xs.take i.toNat := by
  have h2 : ¬ i < 0 := by omega
  unfold cutP HT.sIx
  simp [h2]
theorem cutP_from {xs : List PV} {i : Int} (h0 : 0 ≤ i) (h1 : i ≤ xs.length) : cutP xs (some i) none = xs.drop i.toNat := by
  have h2 : ¬ i < 0 := by omega
  unfold cutP HT.sIx
  simp [h2]
  rw [Nat.min_eq_left (by omega)]
  exact List.take_of_length_le (by rw [List.length_drop]; exact Nat.le_refl _)
@[simp ↓] theorem wp_enum {d : D PEnv} {env : PEnv} {Q : List PV → PEnv → Prop} : WP (denum d) env Q = WP d env fun es e => gate (frzEs e es) fun r => (match r.1 with
    | [.lst _ xs] => Q (xs.zipIdx.map fun p => .tup [.int (p.2 : Nat), p.1]) r.2
    | _ => False) := by
  unfold denum
  rw [wp_bind]
  congr
  funext es e
  unfold WP
  dsimp only
  generalize frzEs e es = z
  match z with
  | none => rfl
  | some ([], _) => rfl
  | some ([x], _) => cases x <;> rfl
  | some (x :: _ :: _, _) => cases x <;> rfl
def cutG {α : Type} (xs : List α) (lo hi : Option Int) : List α := (xs.drop (HT.sIx xs.length 0 lo)).take (HT.sIx xs.length xs.length hi - HT.sIx xs.length 0 lo)
theorem cutP_map {α : Type} {f : α → PV} {l : List α} {lo hi : Option Int} : cutP (l.map f) lo hi = (cutG l lo hi).map f := by
  unfold cutP cutG
  simp [List.map_take, List.map_drop]
theorem cutG_mem {α : Type} {l : List α} {lo hi : Option Int} {x : α} (h : x ∈ cutG l lo hi) : x ∈ l := List.mem_of_mem_drop (List.mem_of_mem_take h)
theorem cutG_len {α : Type} {l : List α} {lo hi : Option Int} : (cutG l lo hi).length ≤ l.length := by
  unfold cutG
  simp
  omega
theorem cutG_to {α : Type} {l : List α} {i : Int} (h0 : 0 ≤ i) (h1 : i ≤ l.length) : cutG l none (some i) = l.take i.toNat := by
  have h2 : ¬ i < 0 := by omega
  unfold cutG HT.sIx
  simp [h2]
theorem cutG_from {α : Type} {l : List α} {i : Int} (h0 : 0 ≤ i) (h1 : i ≤ l.length) : cutG l (some i) none = l.drop i.toNat := by
  have h2 : ¬ i < 0 := by omega
  unfold cutG HT.sIx
  simp [h2]
  rw [Nat.min_eq_left (by omega)]
  exact List.take_of_length_le (by rw [List.length_drop]; exact Nat.le_refl _)
theorem cutG_init {α : Type} {l : List α} : cutG l none (some (-1)) = l.dropLast := by
  unfold cutG HT.sIx
  simp
  rw [List.dropLast_eq_take]
  congr 1
  omega
/-- strictly rising lists with the same members are one -/
theorem Or.rise_eq {α : Type} {E : En α} (O : Or E) : ∀ {l m : List α}, l.Pairwise (fun a b => O.lt a b = true) → m.Pairwise (fun a b => O.lt a b = true) → (∀ x, x ∈ l ↔ x ∈ m) → l = m
  | [], [], _, _, _ => rfl
  | [], b :: m, _, _, h => by have := (h b).mpr (by simp); simp at this
  | a :: l, [], _, _, h => by have := (h a).mp (by simp); simp at this
  | a :: l, b :: m, hl, hm, h => by
    rw [List.pairwise_cons] at hl hm
    have hab : a = b := by
      rcases List.mem_cons.mp ((h a).mp (by simp)) with e | e
      · exact e
      · rcases List.mem_cons.mp ((h b).mpr (by simp)) with e' | e'
        · exact e'.symm
        · have h1 := O.asym (hm.1 a e)
          rw [hl.1 b e'] at h1
          cases h1
    subst hab
    have : l = m := Or.rise_eq O hl.2 hm.2 fun x => by
      constructor
      · intro hx
        rcases List.mem_cons.mp ((h x).mp (by simp [hx])) with e | e
        · subst e; have := hl.1 x hx; rw [O.irr] at this; cases this
        · exact e
      · intro hx
        rcases List.mem_cons.mp ((h x).mpr (by simp [hx])) with e | e
        · subst e; have := hm.1 x hx; rw [O.irr] at this; cases this
        · exact e
    rw [this]
/-- what sorting makes of a list of unlike things -/
theorem Or.sort_is {α : Type} {E : En α} (O : Or E) [DecidableEq α] {l m : List α} (hn : l.Nodup) (hm : m.Pairwise (fun a b => O.lt a b = true)) (h : ∀ x, x ∈ l ↔ x ∈ m) : l.mergeSort O.le = m := by
  have tot : ∀ a b : α, (O.le a b || O.le b a) = true := fun a b => by
    unfold Or.le
    cases h1 : O.lt b a with
    | false => rfl
    | true => rw [O.asym h1]; rfl
  have tr : ∀ a b c : α, O.le a b = true → O.le b c = true → O.le a c = true := fun a b c h1 h2 => by
    unfold Or.le at *
    by_cases hac : O.lt c a = true
    · exfalso
      have h1' : O.lt b a = false := by simpa using h1
      have h2' : O.lt c b = false := by simpa using h2
      by_cases hab : a = b
      · subst hab; rw [hac] at h2'; cases h2'
      · rcases O.tot a b hab with h3 | h3
        · rw [O.tr c a b hac h3] at h2'; cases h2'
        · rw [h3] at h1'; cases h1'
    · simpa using hac
  have s1 := List.pairwise_mergeSort (le := O.le) (fun a b c => tr a b c) (fun a b => tot a b) l
  have p1 := List.mergeSort_perm l O.le
  have n1 : (l.mergeSort O.le).Nodup := p1.nodup_iff.mpr hn
  refine O.rise_eq ?_ hm fun x => by rw [p1.mem_iff]; exact h x
  refine (s1.and n1).imp fun {a b} ⟨h1, h2⟩ => ?_
  have h3 : O.lt b a = false := by unfold Or.le at h1; simpa using h1
  rcases O.tot a b h2 with h | h
  · exact h
  · rw [h] at h3; cases h3
/-- upper bounds of a greatest -/
theorem Or.maxL_ge {α : Type} {E : En α} (O : Or E) : ∀ (l : List α) (a : α), (∀ x ∈ a :: l, O.lt (O.maxL a l) x = false)
  | [], a, x, hx => by
    rw [List.mem_singleton.mp hx]
    exact O.irr a
  | y :: l, a, x, hx => by
    have e : O.maxL a (y :: l) = O.maxL (if O.lt a y = true then y else a) l := rfl
    rw [e]
    have ih := Or.maxL_ge O l (if O.lt a y = true then y else a)
    have step : ∀ z, O.lt z x = false ∨ z = x → z ∈ (if O.lt a y = true then y else a) :: l → O.lt (O.maxL (if O.lt a y = true then y else a) l) z = false := fun z _ hz => ih z hz
    by_cases h : O.lt a y = true
    · rw [if_pos h] at ih ⊢
      rcases List.mem_cons.mp hx with rfl | hx
      · -- x = a, below y
        cases h2 : O.lt (O.maxL y l) x with
        | false => rfl
        | true =>
          have h3 := ih y (by simp)
          rw [O.tr _ _ _ h2 h] at h3
          cases h3
      · exact ih x hx
    · rw [if_neg h] at ih ⊢
      rcases List.mem_cons.mp hx with rfl | hx
      · exact ih x (by simp)
      · rcases List.mem_cons.mp hx with rfl | hx
        · cases h2 : O.lt (O.maxL a l) x with
          | false => rfl
          | true =>
            have h3 := ih a (by simp)
            by_cases hax : x = a
            · subst hax; rw [h2] at h3; cases h3
            · rcases O.tot x a hax with h4 | h4
              · rw [O.tr _ _ _ h2 h4] at h3; cases h3
              · exact absurd h4 h
        · exact ih x (by simp [hx])
end Pv
namespace Pv
open PySem PySem.Spec PyProof.Rows L2
/-- two things of one content have one text -/
theorem repr_same {x y : PV} {d : PyData} (hx : pd x = some d) (hy : pd y = some d) (hs : isSmall d = true ∧ PyData.strOk d.shown = true) :
    ∃ s, gRepr [x] = some (.str s) ∧ gRepr [y] = some (.str s) ∧ gEq [.str s, .str s] = some (.bl true) ∧ gNe [.str s, .str s] = some (.bl false) := by
  obtain ⟨hs, hk⟩ := hs
  have g1 : gRepr [x] = some (.str d.shown) := by unfold gRepr; dsimp only; rw [hx]; dsimp only; rw [if_pos hs]
  have g2 : gRepr [y] = some (.str d.shown) := by unfold gRepr; dsimp only; rw [hy]; dsimp only; rw [if_pos hs]
  have h1 : pd (.str d.shown) = some (.str d.shown) := rfl
  have s1 : SeqAt.shaped (.str d.shown) = true := by
    unfold SeqAt.shaped
    simp [PyData.canLay0, PyData.depth, hk]
  have pe : peq (.str d.shown) (.str d.shown) = some true := by
    unfold peq
    rw [h1]
    dsimp only
    rw [if_pos ⟨s1, s1⟩]
    simp [PyData.eqv]
  refine ⟨d.shown, g1, g2, ?_, ?_⟩
  · unfold gEq
    dsimp only
    rw [pe]
    rfl
  · unfold gNe
    dsimp only
    rw [pe]
    rfl
theorem kput_keys {κ α : Type} [DecidableEq κ] : ∀ (d : List (κ × α)) (k : κ) (v : α), dkeys (kput d k v) = if k ∈ dkeys d then dkeys d else dkeys d ++ [k]
  | [], k, v => rfl
  | e :: d, k, v => by
    have hk : dkeys (e :: d) = e.1 :: dkeys d := rfl
    rw [kput, hk]
    by_cases h : e.1 = k
    · rw [if_pos h, if_pos (by rw [h]; simp)]
      rfl
    · rw [if_neg h]
      show e.1 :: dkeys (kput d k v) = _
      rw [kput_keys d k v]
      have : (k ∈ e.1 :: dkeys d) ↔ k ∈ dkeys d := by simp [Ne.symm h]
      by_cases h2 : k ∈ dkeys d
      · rw [if_pos h2, if_pos (this.mpr h2)]
      · rw [if_neg h2, if_neg (fun z => h2 (this.mp z))]
        rfl
theorem kput_nodup {κ α : Type} [DecidableEq κ] {d : List (κ × α)} {k : κ} {v : α} (h : (dkeys d).Nodup) : (dkeys (kput d k v)).Nodup := by
  rw [kput_keys]
  split
  · exact h
  · rename_i h2
    rw [List.nodup_append]
    refine ⟨h, by simp, fun a ha b hb => ?_⟩
    rw [List.mem_singleton.mp hb]
    exact fun e => h2 (e ▸ ha)
end Pv
namespace Wk
open PySem PySem.Spec PyProof.Rows L2 Pv
theorem hfi_of {n : Nat} {vs fb : List Nat} (h : ((List.range n).all fun i => decide (i ∈ vs) || decide (i ∈ fb)) = true) : ∀ i, i < n → i ∉ vs → i ∈ fb := fun i hi hv => by
  have := List.all_eq_true.mp h i (List.mem_range.mpr hi)
  simpa [hv] using this
theorem hlt_of {n : Nat} {vs : List Nat} (h : (vs.all fun i => decide (i < n)) = true) : ∀ i ∈ vs, i < n := fun i hi => by
  simpa using List.all_eq_true.mp h i hi
def top (i : Nat) : Stmt := PySem.Challenge.pw_hillandwater_k16_whole_sight_by_just_the.main.body.getD i (.Pass ⟨0, 0, 0, 0⟩)
abbrev s_ulaw_hand : Stmt := top 41
noncomputable def b_ulaw_hand : D Fl := (dret (dlst (dcons (dlc (ditemsA (dslice (dname 0) none (some (dcon (.int 63))))) (.nm 1) [1] (dpure true) (dcall (dfn gAbs) (dcons (dcall (dfn gInt) (dcons (dname 1) dnil)) dnil))) (dcons (dcon (.int 0)) (dcons (dcon (.int 0)) (dcons (dop (fun a b => dfn gAdd [a, b]) (dcon (.int 18161)) (dop (fun a b => dfn gMul [a, b]) (dcon (.int 7)) (dcall (dfn gLen) (dcons (dslice (dname 0) none (some (dcon (.int 63)))) dnil)))) (dcons (dcon (.int 0)) dnil)))))))
noncomputable def f_ulaw_hand : FnD := mkfn 2 1 [0] b_ulaw_hand
abbrev s_is_integer : Stmt := top 1
noncomputable def b_is_integer : D Fl := (dret (dand (dcall (dfn gIsi) (dcons (dname 0) (dcons (dcon (.ty "int")) dnil))) (dnot (dcall (dfn gIsi) (dcons (dname 0) (dcons (dcon (.ty "bool")) dnil))))))
noncomputable def f_is_integer : FnD := mkfn 1 1 [0] b_is_integer
abbrev s_is_within : Stmt := top 2
noncomputable def b_is_within : D Fl := (dret (dand (dcallF f_is_integer (dcons (dname 0) dnil)) (dchain gLe gLe (dname 1) (dname 0) (dname 2))))
noncomputable def f_is_within : FnD := mkfn 3 3 [0, 1, 2] b_is_within
abbrev s_is_height : Stmt := top 13
noncomputable def b_is_height : D Fl := (dret (dcallF f_is_within (dcons (dname 0) (dcons (dcon (.int 0)) (dcons (dcon (.int 1000)) dnil)))))
noncomputable def f_is_height : FnD := mkfn 1 1 [0] b_is_height
abbrev s_is_row : Stmt := top 14
noncomputable def b_is_row : D Fl := (dret (dand (dcall (dfn gIsi) (dcons (dname 0) (dcons (dcon (.ty "tuple")) dnil))) (dand (dchain gLe gLe (dcon (.int 1)) (dcall (dfn gLen) (dcons (dname 0) dnil)) (dcon (.int 8))) (dcall (dfn gAll) (dcons (dlc (ditemsA (dname 0)) (.nm 1) [1] (dpure true) (dcallF f_is_height (dcons (dname 1) dnil))) dnil)))))
noncomputable def f_is_row : FnD := mkfn 2 1 [0] b_is_row
abbrev s_is_land : Stmt := top 15
noncomputable def b_is_land : D Fl := (dseq (dite (dtor (dtnot (dtst (dcall (dfn gIsi) (dcons (dname 0) (dcons (dcon (.ty "tuple")) dnil))))) (dtnot (dtst (dchain gLe gLe (dcon (.int 1)) (dcall (dfn gLen) (dcons (dname 0) dnil)) (dcon (.int 8)))))) (dret (dcon (.bl false))) dskip) (dret (dand (dcall (dfn gAll) (dcons (dlc (ditemsA (dname 0)) (.nm 1) [1] (dpure true) (dcallF f_is_row (dcons (dname 1) dnil))) dnil)) (dcall (dfn gAll) (dcons (dlc (ditemsA (dname 0)) (.nm 1) [1] (dpure true) (dop (fun a b => dfn gEq [a, b]) (dcall (dfn gLen) (dcons (dname 1) dnil)) (dcall (dfn gLen) (dcons (dop dixA (dname 0) (dcon (.int 0))) dnil)))) dnil)))))
noncomputable def f_is_land : FnD := mkfn 2 1 [0] b_is_land
abbrev s_check_land : Stmt := top 16
noncomputable def b_check_land : D Fl := (dite (dtnot (dtst (dcallF f_is_land (dcons (dname 0) dnil)))) dno dskip)
noncomputable def f_check_land : FnD := mkfn 1 1 [0] b_check_land
abbrev s_is_tuple_of : Stmt := top 3
noncomputable def b_is_tuple_of : D Fl := (dret (dand (dcall (dfn gIsi) (dcons (dname 0) (dcons (dcon (.ty "tuple")) dnil))) (dop (fun a b => dfn gEq [a, b]) (dcall (dfn gLen) (dcons (dname 0) dnil)) (dname 1))))
noncomputable def f_is_tuple_of : FnD := mkfn 2 2 [0, 1] b_is_tuple_of
abbrev s_is_spot_of : Stmt := top 17
noncomputable def b_is_spot_of : D Fl := (dseq (dite (dtor (dtnot (dtst (dcallF f_is_tuple_of (dcons (dname 1) (dcons (dcon (.int 2)) dnil))))) (dtnot (dtst (dcallF f_is_within (dcons (dop dixA (dname 1) (dcon (.int 0))) (dcons (dcon (.int 0)) (dcons (dop (fun a b => dfn gSub [a, b]) (dcall (dfn gLen) (dcons (dname 0) dnil)) (dcon (.int 1))) dnil))))))) (dret (dcon (.bl false))) dskip) (dret (dcallF f_is_within (dcons (dop dixA (dname 1) (dcon (.int 1))) (dcons (dcon (.int 0)) (dcons (dop (fun a b => dfn gSub [a, b]) (dcall (dfn gLen) (dcons (dop dixA (dname 0) (dcon (.int 0))) dnil)) (dcon (.int 1))) dnil))))))
noncomputable def f_is_spot_of : FnD := mkfn 2 2 [0, 1] b_is_spot_of
abbrev s_check_spot : Stmt := top 18
noncomputable def b_check_spot : D Fl := (dseq (dexpr (dcallF f_check_land (dcons (dname 0) dnil))) (dite (dtnot (dtst (dcallF f_is_spot_of (dcons (dname 0) (dcons (dname 1) dnil))))) dno dskip))
noncomputable def f_check_spot : FnD := mkfn 2 2 [0, 1] b_check_spot
abbrev s_check_two_spots : Stmt := top 19
noncomputable def b_check_two_spots : D Fl := (dseq (dexpr (dcallF f_check_spot (dcons (dname 0) (dcons (dname 1) dnil)))) (dexpr (dcallF f_check_spot (dcons (dname 0) (dcons (dname 2) dnil)))))
noncomputable def f_check_two_spots : FnD := mkfn 3 3 [0, 1, 2] b_check_two_spots
abbrev s_stepped : Stmt := top 22
noncomputable def b_stepped : D Fl := (dret (dtup (dcons (dop (fun a b => dfn gAdd [a, b]) (dop dixA (dname 0) (dcon (.int 0))) (dop (fun a b => dfn gMul [a, b]) (dname 2) (dop dixA (dname 1) (dcon (.int 0))))) (dcons (dop (fun a b => dfn gAdd [a, b]) (dop dixA (dname 0) (dcon (.int 1))) (dop (fun a b => dfn gMul [a, b]) (dname 2) (dop dixA (dname 1) (dcon (.int 1))))) dnil))))
noncomputable def f_stepped : FnD := mkfn 3 3 [0, 1, 2] b_stepped
abbrev s_sign_by : Stmt := top 26
noncomputable def b_sign_by : D Fl := (dret (dop (fun a b => dfn gSub [a, b]) (dcall (dfn gInt) (dcons (dop (fun a b => dfn gGt [a, b]) (dname 0) (dcon (.int 0))) dnil)) (dcall (dfn gInt) (dcons (dop (fun a b => dfn gLt [a, b]) (dname 0) (dcon (.int 0))) dnil))))
noncomputable def f_sign_by : FnD := mkfn 1 1 [0] b_sign_by
abbrev s_line_to : Stmt := top 27
noncomputable def b_line_to : D Fl := (dseq (dpars [2, 3] (dcons (dop (fun a b => dfn gSub [a, b]) (dop dixA (dname 1) (dcon (.int 0))) (dop dixA (dname 0) (dcon (.int 0)))) (dcons (dop (fun a b => dfn gSub [a, b]) (dop dixA (dname 1) (dcon (.int 1))) (dop dixA (dname 0) (dcon (.int 1)))) dnil))) (dseq (dite (dtand (dtst (dop (fun a b => dfn gNe [a, b]) (dname 2) (dcon (.int 0)))) (dtand (dtst (dop (fun a b => dfn gNe [a, b]) (dname 3) (dcon (.int 0)))) (dtst (dop (fun a b => dfn gNe [a, b]) (dcall (dfn gAbs) (dcons (dname 2) dnil)) (dcall (dfn gAbs) (dcons (dname 3) dnil)))))) (dret (dcon .non)) dskip) (dseq (dpars [4, 5] (dcons (dtup (dcons (dcallF f_sign_by (dcons (dname 2) dnil)) (dcons (dcallF f_sign_by (dcons (dname 3) dnil)) dnil))) (dcons (dcall (dfn gMax) (dcons (dcall (dfn gAbs) (dcons (dname 2) dnil)) (dcons (dcall (dfn gAbs) (dcons (dname 3) dnil)) dnil))) dnil))) (dret (dlc (drange2 (dcons (dcon (.int 1)) (dcons (dop (fun a b => dfn gAdd [a, b]) (dname 5) (dcon (.int 1))) dnil))) (.nm 6) [6] (dpure true) (dcallF f_stepped (dcons (dname 0) (dcons (dname 4) (dcons (dname 6) dnil)))))))))
noncomputable def f_line_to : FnD := mkfn 7 2 [0, 1] b_line_to
abbrev s_height_of : Stmt := top 20
noncomputable def b_height_of : D Fl := (dret (dop dixA (dop dixA (dname 0) (dop dixA (dname 1) (dcon (.int 0)))) (dop dixA (dname 1) (dcon (.int 1)))))
noncomputable def f_height_of : FnD := mkfn 2 2 [0, 1] b_height_of
abbrev s_eye_over : Stmt := top 36
noncomputable def b_eye_over : D Fl := (dseq (dset 4 (dcall (dfn gLen) (dcons (dname 2) dnil))) (dseq (dset 5 (dop (fun a b => dfn gSub [a, b]) (dop (fun a b => dfn gMul [a, b]) (dcallF f_height_of (dcons (dname 0) (dcons (dop dixA (dname 2) (dop (fun a b => dfn gSub [a, b]) (dname 3) (dcon (.int 1)))) dnil))) (dname 4)) (dop (fun a b => dfn gMul [a, b]) (dcallF f_height_of (dcons (dname 0) (dcons (dop dixA (dname 2) (dun (fun a => dfn gNeg [a]) (dcon (.int 1)))) dnil))) (dname 3)))) (dret (dop (fun a b => dfn gSub [a, b]) (dop (fun a b => dfn gAdd [a, b]) (dop (fun a b => dfn gDiv [a, b]) (dname 5) (dop (fun a b => dfn gSub [a, b]) (dname 4) (dname 3))) (dcon (.int 1))) (dcallF f_height_of (dcons (dname 0) (dcons (dname 1) dnil)))))))
noncomputable def f_eye_over : FnD := mkfn 6 4 [0, 1, 2, 3] b_eye_over
abbrev s_least_eye : Stmt := top 37
noncomputable def b_least_eye : D Fl := (dseq (dexpr (dcallF f_check_two_spots (dcons (dname 0) (dcons (dname 1) (dcons (dname 2) dnil))))) (dseq (dset 3 (dcallF f_line_to (dcons (dname 1) (dcons (dname 2) dnil)))) (dseq (dite (dtst (dop (fun a b => dfn gIs [a, b]) (dname 3) (dcon .non))) (dret (dcon .non)) dskip) (dret (dcall (dfn gMax) (dcons (dop (fun a b => dfn gAdd [a, b]) (dlst (dcons (dcon (.int 0)) dnil)) (dlc (drange2 (dcons (dcon (.int 1)) (dcons (dcall (dfn gLen) (dcons (dname 3) dnil)) dnil))) (.nm 4) [4] (dpure true) (dcallF f_eye_over (dcons (dname 0) (dcons (dname 1) (dcons (dname 3) (dcons (dname 4) dnil))))))) dnil))))))
noncomputable def f_least_eye : FnD := mkfn 5 3 [0, 1, 2] b_least_eye
abbrev s_check_eye : Stmt := top 25
noncomputable def b_check_eye : D Fl := (dite (dtnot (dtst (dcallF f_is_within (dcons (dname 0) (dcons (dcon (.int 0)) (dcons (dcon (.int 1000)) dnil)))))) dno dskip)
noncomputable def f_check_eye : FnD := mkfn 1 1 [0] b_check_eye
abbrev s_hiding_spots : Stmt := top 28
noncomputable def b_hiding_spots : D Fl := (dseq (dpars [4, 5] (dcons (dcall (dfn gLen) (dcons (dname 2) dnil)) (dcons (dop (fun a b => dfn gAdd [a, b]) (dcallF f_height_of (dcons (dname 0) (dcons (dname 1) dnil))) (dname 3)) dnil))) (dseq (dpars [6, 7] (dcons (dcallF f_height_of (dcons (dname 0) (dcons (dop dixA (dname 2) (dun (fun a => dfn gNeg [a]) (dcon (.int 1)))) dnil))) (dcons (dlst dnil) dnil))) (dseq (dfor (.nm 8) (drange2 (dcons (dcon (.int 1)) (dcons (dname 4) dnil))) (dseq (dset 9 (dop dixA (dname 2) (dop (fun a b => dfn gSub [a, b]) (dname 8) (dcon (.int 1))))) (dite (dtst (dop (fun a b => dfn gGe [a, b]) (dop (fun a b => dfn gMul [a, b]) (dcallF f_height_of (dcons (dname 0) (dcons (dname 9) dnil))) (dname 4)) (dop (fun a b => dfn gAdd [a, b]) (dop (fun a b => dfn gMul [a, b]) (dname 5) (dop (fun a b => dfn gSub [a, b]) (dname 4) (dname 8))) (dop (fun a b => dfn gMul [a, b]) (dname 6) (dname 8))))) (dexpr (dmeth gAppend (dname 7) (dcons (dname 9) dnil))) dskip))) (dret (dname 7)))))
noncomputable def f_hiding_spots : FnD := mkfn 10 4 [0, 1, 2, 3] b_hiding_spots
abbrev s_raw_sees : Stmt := top 29
noncomputable def b_raw_sees : D Fl := (dseq (dite (dtst (dop (fun a b => dfn gEq [a, b]) (dname 1) (dname 2))) (dret (dcon (.bl true))) dskip) (dseq (dset 4 (dcallF f_line_to (dcons (dname 1) (dcons (dname 2) dnil)))) (dret (dand (dop (fun a b => dfn gIsNot [a, b]) (dname 4) (dcon .non)) (dop (fun a b => dfn gEq [a, b]) (dcall (dfn gLen) (dcons (dcallF f_hiding_spots (dcons (dname 0) (dcons (dname 1) (dcons (dname 4) (dcons (dname 3) dnil))))) dnil)) (dcon (.int 0)))))))
noncomputable def f_raw_sees : FnD := mkfn 5 4 [0, 1, 2, 3] b_raw_sees
abbrev s_hidden_by : Stmt := top 35
noncomputable def b_hidden_by : D Fl := (dseq (dexpr (dcallF f_check_two_spots (dcons (dname 0) (dcons (dname 1) (dcons (dname 2) dnil))))) (dseq (dexpr (dcallF f_check_eye (dcons (dname 3) dnil))) (dseq (dite (dtst (dcallF f_raw_sees (dcons (dname 0) (dcons (dname 1) (dcons (dname 2) (dcons (dname 3) dnil)))))) (dret (dcon .non)) dskip) (dseq (dset 4 (dcallF f_line_to (dcons (dname 1) (dcons (dname 2) dnil)))) (dret (dif (dtst (dop (fun a b => dfn gIs [a, b]) (dname 4) (dcon .non))) (dtup dnil) (dcall (dfn gTuple) (dcons (dcall (dfn gSorted) (dcons (dcallF f_hiding_spots (dcons (dname 0) (dcons (dname 1) (dcons (dname 4) (dcons (dname 3) dnil))))) dnil)) dnil))))))))
noncomputable def f_hidden_by : FnD := mkfn 5 4 [0, 1, 2, 3] b_hidden_by
abbrev s_ulaw_draw : Stmt := top 42
noncomputable def b_ulaw_draw : D Fl := (dseq (dite (dtand (dtst (dop (fun a b => dfn gEq [a, b]) (dop dixA (dname 0) (dcon (.int 2))) (dcon (.int 0)))) (dtst (dop (fun a b => dfn gLt [a, b]) (dop dixA (dname 0) (dcon (.int 1))) (dcall (dfn gLen) (dcons (dop dixA (dname 0) (dcon (.int 0))) dnil))))) (dseq (dset 3 (dop dixA (dop dixA (dname 0) (dcon (.int 0))) (dop dixA (dname 0) (dcon (.int 1))))) (dseq (dasg (.ix (dname 0) (dcon (.int 1))) (dop (fun a b => dfn gAdd [a, b]) (dop dixA (dname 0) (dcon (.int 1))) (dcon (.int 1)))) (dseq (dasg (.ix (dname 0) (dcon (.int 3))) (dop (fun a b => dfn gMod [a, b]) (dcall (dfn gInt) (dcons (dop (fun a b => dfn gAdd [a, b]) (dop (fun a b => dfn gAdd [a, b]) (dop (fun a b => dfn gMul [a, b]) (dop dixA (dname 0) (dcon (.int 3))) (dcon (.int 69621))) (dop (fun a b => dfn gMul [a, b]) (dname 3) (dcon (.int 40692)))) (dcon (.int 41))) dnil)) (dcon (.int 2147483629)))) (dite (dtst (dop (fun a b => dfn gGe [a, b]) (dname 3) (dop (fun a b => dfn gPow [a, b]) (dcon (.int 10)) (dcon (.int 18))))) (dasg (.ix (dname 0) (dcon (.int 2))) (dname 3)) dskip)))) dskip) (dseq (dite (dtst (dop (fun a b => dfn gGt [a, b]) (dop dixA (dname 0) (dcon (.int 2))) (dcon (.int 0)))) (dseq (dset 4 (dop (fun a b => dfn gMod [a, b]) (dcall (dfn gInt) (dcons (dop dixA (dname 0) (dcon (.int 2))) dnil)) (dname 1))) (dseq (dasg (.ix (dname 0) (dcon (.int 2))) (dop (fun a b => dfn gDiv [a, b]) (dop dixA (dname 0) (dcon (.int 2))) (dname 1))) (dret (dname 4)))) dskip) (dseq (dasg (.ix (dname 0) (dcon (.int 4))) (dop (fun a b => dfn gAdd [a, b]) (dop dixA (dname 0) (dcon (.int 4))) (dcon (.int 1)))) (dseq (dset 2 (dop (fun a b => dfn gMod [a, b]) (dcall (dfn gInt) (dcons (dop (fun a b => dfn gMul [a, b]) (dcall (dfn gInt) (dcons (dop (fun a b => dfn gAdd [a, b]) (dop dixA (dname 0) (dcon (.int 3))) (dop (fun a b => dfn gMul [a, b]) (dcon (.int 7919)) (dop dixA (dname 0) (dcon (.int 4))))) dnil)) (dcon (.int 48271))) dnil)) (dcon (.int 2147483647)))) (dseq (dset 2 (dop (fun a b => dfn gMod [a, b]) (dcall (dfn gInt) (dcons (dop (fun a b => dfn gMul [a, b]) (dname 2) (dop (fun a b => dfn gAdd [a, b]) (dop (fun a b => dfn gDiv [a, b]) (dname 2) (dcon (.int 1009))) (dcon (.int 69621)))) dnil)) (dcon (.int 2147483647)))) (dseq (dset 2 (dop (fun a b => dfn gMod [a, b]) (dcall (dfn gInt) (dcons (dop (fun a b => dfn gMul [a, b]) (dname 2) (dop (fun a b => dfn gAdd [a, b]) (dop (fun a b => dfn gDiv [a, b]) (dname 2) (dcon (.int 2003))) (dcon (.int 40014)))) dnil)) (dcon (.int 2147483563)))) (dret (dop (fun a b => dfn gMod [a, b]) (dcall (dfn gInt) (dcons (dop (fun a b => dfn gDiv [a, b]) (dname 2) (dcon (.int 16))) dnil)) (dname 1)))))))))
noncomputable def f_ulaw_draw : FnD := mkfn 5 2 [0, 1] b_ulaw_draw
abbrev s_ulaw_any : Stmt := top 43
noncomputable def b_ulaw_any : D Fl := (dret (dop dixA (dname 1) (dcallF f_ulaw_draw (dcons (dname 0) (dcons (dcall (dfn gLen) (dcons (dname 1) dnil)) dnil)))))
noncomputable def f_ulaw_any : FnD := mkfn 2 2 [0, 1] b_ulaw_any
abbrev s_ulaw_land : Stmt := top 44
noncomputable def b_ulaw_land : D Fl := (dseq (dpars [2, 3] (dcons (dcallF f_ulaw_any (dcons (dname 0) (dcons (dlst (dcons (dname 1) (dcons (dop (fun a b => dfn gAdd [a, b]) (dcon (.int 1)) (dcallF f_ulaw_draw (dcons (dname 0) (dcons (dname 1) dnil)))) (dcons (dcon (.int 1)) dnil)))) dnil))) (dcons (dcallF f_ulaw_any (dcons (dname 0) (dcons (dlst (dcons (dname 1) (dcons (dop (fun a b => dfn gAdd [a, b]) (dcon (.int 1)) (dcallF f_ulaw_draw (dcons (dname 0) (dcons (dname 1) dnil)))) (dcons (dcon (.int 1)) dnil)))) dnil))) dnil))) (dseq (dpars [4, 5] (dcons (dcallF f_ulaw_draw (dcons (dname 0) (dcons (dcon (.int 6)) dnil))) (dcons (dcallF f_ulaw_any (dcons (dname 0) (dcons (dlst (dcons (dcon (.int 2)) (dcons (dcon (.int 4)) (dcons (dcon (.int 9)) (dcons (dcon (.int 30)) dnil))))) dnil))) dnil))) (dseq (dset 6 (dlst dnil)) (dseq (dfor (.nm 7) (drange1 (dcons (dname 2) dnil)) (dseq (dset 8 (dlst dnil)) (dseq (dfor (.nm 9) (drange1 (dcons (dname 3) dnil)) (dseq (dset 10 (dcallF f_ulaw_draw (dcons (dname 0) (dcons (dname 5) dnil)))) (dseq (dset 10 (dif (dtst (dop (fun a b => dfn gEq [a, b]) (dname 4) (dcon (.int 0)))) (dop (fun a b => dfn gAdd [a, b]) (dop (fun a b => dfn gMul [a, b]) (dcon (.int 3)) (dop (fun a b => dfn gAdd [a, b]) (dname 7) (dname 9))) (dcallF f_ulaw_draw (dcons (dname 0) (dcons (dcon (.int 2)) dnil)))) (dif (dtst (dop (fun a b => dfn gEq [a, b]) (dname 4) (dcon (.int 1)))) (dcallF f_ulaw_any (dcons (dname 0) (dcons (dlst (dcons (dcon (.int 0)) (dcons (dcon (.int 1000)) (dcons (dname 10) dnil)))) dnil))) (dname 10)))) (dexpr (dmeth gAppend (dname 8) (dcons (dif (dtand (dtst (dop (fun a b => dfn gEq [a, b]) (dname 4) (dcon (.int 2)))) (dtst (dop (fun a b => dfn gGt [a, b]) (dcallF f_ulaw_draw (dcons (dname 0) (dcons (dcon (.int 9)) dnil))) (dcon (.int 0))))) (dcon (.int 5)) (dname 10)) dnil)))))) (dexpr (dmeth gAppend (dname 6) (dcons (dcall (dfn gTuple) (dcons (dname 8) dnil)) dnil)))))) (dret (dcall (dfn gTuple) (dcons (dname 6) dnil)))))))
noncomputable def f_ulaw_land : FnD := mkfn 11 2 [0, 1] b_ulaw_land
abbrev s_ulaw_spots : Stmt := top 45
noncomputable def b_ulaw_spots : D Fl := (dseq (dset 1 (dlst dnil)) (dseq (dfor (.nm 2) (drange1 (dcons (dcall (dfn gLen) (dcons (dname 0) dnil)) dnil)) (dexpr (dmeth gExtend (dname 1) (dcons (dlc (drange1 (dcons (dcall (dfn gLen) (dcons (dop dixA (dname 0) (dcon (.int 0))) dnil)) dnil)) (.nm 3) [3] (dpure true) (dtup (dcons (dname 2) (dcons (dname 3) dnil)))) dnil)))) (dret (dname 1))))
noncomputable def f_ulaw_spots : FnD := mkfn 4 1 [0] b_ulaw_spots
abbrev s_all_spots : Stmt := top 21
noncomputable def b_all_spots : D Fl := (dseq (dset 1 (dlst dnil)) (dseq (dfor (.nm 2) (drange1 (dcons (dcall (dfn gLen) (dcons (dname 0) dnil)) dnil)) (dexpr (dmeth gExtend (dname 1) (dcons (dlc (drange1 (dcons (dcall (dfn gLen) (dcons (dop dixA (dname 0) (dcon (.int 0))) dnil)) dnil)) (.nm 3) [3] (dpure true) (dtup (dcons (dname 2) (dcons (dname 3) dnil)))) dnil)))) (dret (dname 1))))
noncomputable def f_all_spots : FnD := mkfn 4 1 [0] b_all_spots
abbrev s_raw_seen : Stmt := top 31
noncomputable def b_raw_seen : D Fl := (dret (dlc (ditemsA (dcallF f_all_spots (dcons (dname 0) dnil))) (.nm 3) [3] (dtst (dcallF f_raw_sees (dcons (dname 0) (dcons (dname 1) (dcons (dname 3) (dcons (dname 2) dnil)))))) (dname 3)))
noncomputable def f_raw_seen : FnD := mkfn 4 3 [0, 1, 2] b_raw_seen
abbrev s_best_seat : Stmt := top 34
noncomputable def b_best_seat : D Fl := (dseq (dexpr (dcallF f_check_land (dcons (dname 0) dnil))) (dseq (dexpr (dcallF f_check_eye (dcons (dname 1) dnil))) (dseq (dset 2 (dlc (ditemsA (dcallF f_all_spots (dcons (dname 0) dnil))) (.nm 4) [4] (dpure true) (dtup (dcons (dcall (dfn gLen) (dcons (dcallF f_raw_seen (dcons (dname 0) (dcons (dname 4) (dcons (dname 1) dnil)))) dnil)) (dcons (dname 4) dnil))))) (dseq (dset 3 (dcall (dfn gMax) (dcons (dlc (ditemsA (dname 2)) (.tp [(.nm 5), (.nm 4)]) [5, 4] (dpure true) (dname 5)) dnil))) (dret (dop dixA (dlc (ditemsA (dname 2)) (.tp [(.nm 5), (.nm 4)]) [5, 4] (dtst (dop (fun a b => dfn gEq [a, b]) (dname 5) (dname 3))) (dname 4)) (dcon (.int 0))))))))
noncomputable def f_best_seat : FnD := mkfn 6 2 [0, 1] b_best_seat
abbrev s_seen_from : Stmt := top 32
noncomputable def b_seen_from : D Fl := (dseq (dexpr (dcallF f_check_spot (dcons (dname 0) (dcons (dname 1) dnil)))) (dseq (dexpr (dcallF f_check_eye (dcons (dname 2) dnil))) (dret (dcall (dfn gTuple) (dcons (dcallF f_raw_seen (dcons (dname 0) (dcons (dname 1) (dcons (dname 2) dnil)))) dnil)))))
noncomputable def f_seen_from : FnD := mkfn 3 3 [0, 1, 2] b_seen_from
abbrev s_see_one : Stmt := top 33
noncomputable def b_see_one : D Fl := (dseq (dexpr (dcallF f_check_spot (dcons (dname 0) (dcons (dname 1) dnil)))) (dseq (dexpr (dcallF f_check_eye (dcons (dname 2) dnil))) (dret (dcall (dfn gTuple) (dcons (dlc (ditemsA (dcallF f_all_spots (dcons (dname 0) dnil))) (.nm 3) [3] (dtst (dcallF f_raw_sees (dcons (dname 0) (dcons (dname 3) (dcons (dname 1) (dcons (dname 2) dnil)))))) (dname 3)) dnil)))))
noncomputable def f_see_one : FnD := mkfn 4 3 [0, 1, 2] b_see_one
abbrev s_ulaw_line : Stmt := top 48
noncomputable def b_ulaw_line : D Fl := (dseq (dpars [3, 4] (dcons (dlst dnil) (dcons (dtup (dcons (dop (fun a b => dfn gAdd [a, b]) (dop dixA (dname 1) (dcon (.int 0))) (dop dixA (dname 2) (dcon (.int 0)))) (dcons (dop (fun a b => dfn gAdd [a, b]) (dop dixA (dname 1) (dcon (.int 1))) (dop dixA (dname 2) (dcon (.int 1)))) dnil))) dnil))) (dseq (dwhile (dtand (dtst (dchain gLe gLt (dcon (.int 0)) (dop dixA (dname 4) (dcon (.int 0))) (dcall (dfn gLen) (dcons (dname 0) dnil)))) (dtst (dchain gLe gLt (dcon (.int 0)) (dop dixA (dname 4) (dcon (.int 1))) (dcall (dfn gLen) (dcons (dop dixA (dname 0) (dcon (.int 0))) dnil))))) (dseq (dexpr (dmeth gAppend (dname 3) (dcons (dname 4) dnil))) (dset 4 (dtup (dcons (dop (fun a b => dfn gAdd [a, b]) (dop dixA (dname 4) (dcon (.int 0))) (dop dixA (dname 2) (dcon (.int 0)))) (dcons (dop (fun a b => dfn gAdd [a, b]) (dop dixA (dname 4) (dcon (.int 1))) (dop dixA (dname 2) (dcon (.int 1)))) dnil)))))) (dret (dname 3))))
noncomputable def f_ulaw_line : FnD := mkfn 5 3 [0, 1, 2] b_ulaw_line
abbrev s_ulaw_ways : Stmt := top 47
noncomputable def b_ulaw_ways : D Fl := (dret (ddisp (dcons (dcon (.str "e")) (dcons (dtup (dcons (dcon (.int 0)) (dcons (dcon (.int 1)) dnil))) (dcons (dcon (.str "n")) (dcons (dtup (dcons (dun (fun a => dfn gNeg [a]) (dcon (.int 1))) (dcons (dcon (.int 0)) dnil))) (dcons (dcon (.str "ne")) (dcons (dtup (dcons (dun (fun a => dfn gNeg [a]) (dcon (.int 1))) (dcons (dcon (.int 1)) dnil))) (dcons (dcon (.str "nw")) (dcons (dtup (dcons (dun (fun a => dfn gNeg [a]) (dcon (.int 1))) (dcons (dun (fun a => dfn gNeg [a]) (dcon (.int 1))) dnil))) (dcons (dcon (.str "s")) (dcons (dtup (dcons (dcon (.int 1)) (dcons (dcon (.int 0)) dnil))) (dcons (dcon (.str "se")) (dcons (dtup (dcons (dcon (.int 1)) (dcons (dcon (.int 1)) dnil))) (dcons (dcon (.str "sw")) (dcons (dtup (dcons (dcon (.int 1)) (dcons (dun (fun a => dfn gNeg [a]) (dcon (.int 1))) dnil))) (dcons (dcon (.str "w")) (dcons (dtup (dcons (dcon (.int 0)) (dcons (dun (fun a => dfn gNeg [a]) (dcon (.int 1))) dnil))) dnil))))))))))))))))))
noncomputable def f_ulaw_ways : FnD := mkfn 0 0 [] b_ulaw_ways
abbrev s_ulaw_lines : Stmt := top 50
noncomputable def b_ulaw_lines : D Fl := (dseq (dset 2 ddct0) (dseq (dfor (.nm 3) (dvals (dcallF f_ulaw_ways dnil)) (dseq (dset 4 (dcallF f_ulaw_line (dcons (dname 0) (dcons (dname 1) (dcons (dname 3) dnil))))) (dfor (.tp [(.nm 5), (.nm 6)]) (denum (dcons (dname 4) dnil)) (dasg (.ix (dname 2) (dname 6)) (dslice (dname 4) none (some (dop (fun a b => dfn gAdd [a, b]) (dname 5) (dcon (.int 1))))))))) (dret (dname 2))))
noncomputable def f_ulaw_lines : FnD := mkfn 7 2 [0, 1] b_ulaw_lines
abbrev s_ulaw_at : Stmt := top 46
noncomputable def b_ulaw_at : D Fl := (dret (dop dixA (dop dixA (dname 0) (dop dixA (dname 1) (dcon (.int 0)))) (dop dixA (dname 1) (dcon (.int 1)))))
noncomputable def f_ulaw_at : FnD := mkfn 2 2 [0, 1] b_ulaw_at
abbrev s_ulaw_least : Stmt := top 51
noncomputable def b_ulaw_least : D Fl := (dseq (dpars [3, 4] (dcons (dcon (.int 0)) (dcons (dcall (dfn gLen) (dcons (dname 2) dnil)) dnil))) (dseq (dfor (.tp [(.nm 5), (.nm 6)]) (denum (dcons (dslice (dname 2) none (some (dun (fun a => dfn gNeg [a]) (dcon (.int 1))))) dnil)) (dseq (dset 7 (dop (fun a b => dfn gSub [a, b]) (dop (fun a b => dfn gMul [a, b]) (dcallF f_ulaw_at (dcons (dname 0) (dcons (dname 6) dnil))) (dname 4)) (dop (fun a b => dfn gMul [a, b]) (dcallF f_ulaw_at (dcons (dname 0) (dcons (dop dixA (dname 2) (dun (fun a => dfn gNeg [a]) (dcon (.int 1)))) dnil))) (dop (fun a b => dfn gAdd [a, b]) (dname 5) (dcon (.int 1)))))) (dset 3 (dcall (dfn gMax) (dcons (dname 3) (dcons (dop (fun a b => dfn gSub [a, b]) (dop (fun a b => dfn gAdd [a, b]) (dop (fun a b => dfn gDiv [a, b]) (dname 7) (dop (fun a b => dfn gSub [a, b]) (dop (fun a b => dfn gSub [a, b]) (dname 4) (dname 5)) (dcon (.int 1)))) (dcon (.int 1))) (dcallF f_ulaw_at (dcons (dname 0) (dcons (dname 1) dnil)))) dnil)))))) (dret (dname 3))))
noncomputable def f_ulaw_least : FnD := mkfn 8 3 [0, 1, 2] b_ulaw_least
abbrev s_sees : Stmt := top 30
noncomputable def b_sees : D Fl := (dseq (dexpr (dcallF f_check_two_spots (dcons (dname 0) (dcons (dname 1) (dcons (dname 2) dnil))))) (dseq (dexpr (dcallF f_check_eye (dcons (dname 3) dnil))) (dret (dcallF f_raw_sees (dcons (dname 0) (dcons (dname 1) (dcons (dname 2) (dcons (dname 3) dnil))))))))
noncomputable def f_sees : FnD := mkfn 4 4 [0, 1, 2, 3] b_sees
abbrev s_ulaw_hides : Stmt := top 49
noncomputable def b_ulaw_hides : D Fl := (dseq (dpars [4, 5] (dcons (dcall (dfn gLen) (dcons (dname 2) dnil)) (dcons (dlst dnil) dnil))) (dseq (dfor (.tp [(.nm 6), (.nm 7)]) (denum (dcons (dslice (dname 2) none (some (dun (fun a => dfn gNeg [a]) (dcon (.int 1))))) dnil)) (dseq (dset 8 (dop (fun a b => dfn gAdd [a, b]) (dname 6) (dcon (.int 1)))) (dite (dtst (dop (fun a b => dfn gGe [a, b]) (dop (fun a b => dfn gMul [a, b]) (dcallF f_ulaw_at (dcons (dname 0) (dcons (dname 7) dnil))) (dname 4)) (dop (fun a b => dfn gAdd [a, b]) (dop (fun a b => dfn gMul [a, b]) (dop (fun a b => dfn gAdd [a, b]) (dcallF f_ulaw_at (dcons (dname 0) (dcons (dname 1) dnil))) (dname 3)) (dop (fun a b => dfn gSub [a, b]) (dname 4) (dname 8))) (dop (fun a b => dfn gMul [a, b]) (dcallF f_ulaw_at (dcons (dname 0) (dcons (dop dixA (dname 2) (dun (fun a => dfn gNeg [a]) (dcon (.int 1)))) dnil))) (dname 8))))) (dexpr (dmeth gAppend (dname 5) (dcons (dname 7) dnil))) dskip))) (dret (dname 5))))
noncomputable def f_ulaw_hides : FnD := mkfn 9 4 [0, 1, 2, 3] b_ulaw_hides
abbrev s_ulaw_is_pair_right : Stmt := top 53
noncomputable def b_ulaw_is_pair_right : D Fl := (dseq (dpars [3, 4] (dcons (dcallF f_ulaw_any (dcons (dname 0) (dcons (dname 2) dnil))) (dcons (dcallF f_ulaw_any (dcons (dname 0) (dcons (dname 2) dnil))) dnil))) (dseq (dset 5 (dcallF f_ulaw_lines (dcons (dname 1) (dcons (dname 3) dnil)))) (dseq (dite (dtor (dtst (dop (fun a b => dfn gEq [a, b]) (dname 3) (dname 4))) (dtst (dop (fun a b => dfn gNotInA [a, b]) (dname 4) (dname 5)))) (dseq (dset 8 (dif (dtst (dop (fun a b => dfn gEq [a, b]) (dname 3) (dname 4))) (dcon (.int 0)) (dcon .non))) (dret (dand (dop (fun a b => dfn gEq [a, b]) (dcallF f_least_eye (dcons (dname 1) (dcons (dname 3) (dcons (dname 4) dnil)))) (dname 8)) (dop (fun a b => dfn gEq [a, b]) (dcall (dfn gRepr) (dcons (dcallF f_sees (dcons (dname 1) (dcons (dname 3) (dcons (dname 4) (dcons (dcon (.int 5)) dnil))))) dnil)) (dcall (dfn gRepr) (dcons (dop (fun a b => dfn gEq [a, b]) (dname 3) (dname 4)) dnil)))))) dskip) (dseq (dset 6 (dcallF f_ulaw_least (dcons (dname 1) (dcons (dname 3) (dcons (dop dixA (dname 5) (dname 4)) dnil))))) (dseq (dite (dtst (dop (fun a b => dfn gNe [a, b]) (dcall (dfn gRepr) (dcons (dcallF f_least_eye (dcons (dname 1) (dcons (dname 3) (dcons (dname 4) dnil)))) dnil)) (dcall (dfn gRepr) (dcons (dname 6) dnil)))) (dret (dcon (.bl false))) dskip) (dseq (dfor (.nm 7) (ditemsA (dtup (dcons (dname 6) (dcons (dop (fun a b => dfn gSub [a, b]) (dname 6) (dcon (.int 1))) (dcons (dcallF f_ulaw_draw (dcons (dname 0) (dcons (dcon (.int 1001)) dnil))) dnil))))) (dite (dtst (dchain gLe gLe (dcon (.int 0)) (dname 7) (dcon (.int 1000)))) (dseq (dset 9 (dcall (dfn gTuple) (dcons (dcall (dfn gSorted) (dcons (dcallF f_ulaw_hides (dcons (dname 1) (dcons (dname 3) (dcons (dop dixA (dname 5) (dname 4)) (dcons (dname 7) dnil))))) dnil)) dnil))) (dite (dtst (dop (fun a b => dfn gNe [a, b]) (dcall (dfn gRepr) (dcons (dlst (dcons (dcallF f_sees (dcons (dname 1) (dcons (dname 3) (dcons (dname 4) (dcons (dname 7) dnil))))) (dcons (dcallF f_hidden_by (dcons (dname 1) (dcons (dname 3) (dcons (dname 4) (dcons (dname 7) dnil))))) dnil))) dnil)) (dcall (dfn gRepr) (dcons (dlst (dcons (dop (fun a b => dfn gEq [a, b]) (dname 9) (dtup dnil)) (dcons (dif (dtst (dop (fun a b => dfn gNe [a, b]) (dname 9) (dtup dnil))) (dname 9) (dcon .non)) dnil))) dnil)))) (dret (dcon (.bl false))) dskip)) dskip)) (dret (dcon (.bl true)))))))))
noncomputable def f_ulaw_is_pair_right : FnD := mkfn 10 3 [0, 1, 2] b_ulaw_is_pair_right
abbrev s_ulaw_seen : Stmt := top 52
noncomputable def b_ulaw_seen : D Fl := (dseq (dset 3 (dcallF f_ulaw_lines (dcons (dname 0) (dcons (dname 1) dnil)))) (dret (dcall (dfn gTuple) (dcons (dcall (dfn gSorted) (dcons (dop (fun a b => dfn gAdd [a, b]) (dlst (dcons (dname 1) dnil)) (dlc (ditemsA (dname 3)) (.nm 4) [4] (dtst (dop (fun a b => dfn gEq [a, b]) (dcallF f_ulaw_hides (dcons (dname 0) (dcons (dname 1) (dcons (dop dixA (dname 3) (dname 4)) (dcons (dname 2) dnil))))) (dlst dnil))) (dname 4))) dnil)) dnil))))
noncomputable def f_ulaw_seen : FnD := mkfn 5 3 [0, 1, 2] b_ulaw_seen
abbrev s_are_told_spots : Stmt := top 38
noncomputable def b_are_told_spots : D Fl := (dseq (dite (dtor (dtnot (dtst (dcall (dfn gIsi) (dcons (dname 1) (dcons (dcon (.ty "tuple")) dnil))))) (dtnot (dtst (dcall (dfn gAll) (dcons (dlc (ditemsA (dname 1)) (.nm 4) [4] (dpure true) (dcallF f_is_spot_of (dcons (dname 0) (dcons (dname 4) dnil)))) dnil))))) (dret (dcon (.bl false))) dskip) (dret (dcall (dfn gAll) (dcons (dlc (dzip (dcons (dname 1) (dcons (dslice (dname 1) (some (dcon (.int 1))) none) dnil))) (.tp [(.nm 2), (.nm 3)]) [2, 3] (dpure true) (dop (fun a b => dfn gLt [a, b]) (dname 2) (dname 3))) dnil))))
noncomputable def f_are_told_spots : FnD := mkfn 5 2 [0, 1] b_are_told_spots
abbrev s_never_seen : Stmt := top 39
noncomputable def b_never_seen : D Fl := (dseq (dexpr (dcallF f_check_land (dcons (dname 0) dnil))) (dseq (dexpr (dcallF f_check_eye (dcons (dname 2) dnil))) (dseq (dite (dtnot (dtst (dcallF f_are_told_spots (dcons (dname 0) (dcons (dname 1) dnil))))) dno dskip) (dseq (dset 3 (dlst dnil)) (dseq (dfor (.nm 4) (ditemsA (dcallF f_all_spots (dcons (dname 0) dnil))) (dite (dtnot (dtst (dcall (dfn gAny) (dcons (dlc (ditemsA (dname 1)) (.nm 5) [5] (dpure true) (dcallF f_raw_sees (dcons (dname 0) (dcons (dname 5) (dcons (dname 4) (dcons (dname 2) dnil)))))) dnil)))) (dexpr (dmeth gAppend (dname 3) (dcons (dname 4) dnil))) dskip)) (dret (dcall (dfn gTuple) (dcons (dname 3) dnil))))))))
noncomputable def f_never_seen : FnD := mkfn 6 3 [0, 1, 2] b_never_seen
abbrev s_ulaw_is_right : Stmt := top 54
noncomputable def b_ulaw_is_right : D Fl := (dseq (dset 1 (dcallF f_ulaw_land (dcons (dname 0) (dcons (dcon (.int 8)) dnil)))) (dseq (dpars [2, 3] (dcons (dcallF f_ulaw_spots (dcons (dname 1) dnil)) (dcons (dcallF f_ulaw_any (dcons (dname 0) (dcons (dlst (dcons (dcon (.int 0)) (dcons (dcon (.int 1)) (dcons (dcon (.int 1000)) (dcons (dcallF f_ulaw_draw (dcons (dname 0) (dcons (dcon (.int 30)) dnil))) dnil))))) dnil))) dnil))) (dseq (dset 4 (ddictA (dcons (dlc (ditemsA (dname 2)) (.nm 6) [6] (dpure true) (dtup (dcons (dname 6) (dcons (dcallF f_ulaw_seen (dcons (dname 1) (dcons (dname 6) (dcons (dname 3) dnil)))) dnil)))) dnil))) (dseq (dset 5 (dcall (dfn gMax) (dcons (dlc (ditemsA (dname 2)) (.nm 6) [6] (dpure true) (dcall (dfn gLen) (dcons (dop dixA (dname 4) (dname 6)) dnil))) dnil))) (dseq (dset 6 (dcallF f_ulaw_any (dcons (dname 0) (dcons (dname 2) dnil)))) (dseq (dset 7 (dlst (dcons (dcallF f_best_seat (dcons (dname 1) (dcons (dname 3) dnil))) (dcons (dcallF f_seen_from (dcons (dname 1) (dcons (dname 6) (dcons (dname 3) dnil)))) (dcons (dcallF f_see_one (dcons (dname 1) (dcons (dname 6) (dcons (dname 3) dnil)))) dnil))))) (dseq (dset 8 (dlst (dcons (dop dixA (dlc (ditemsA (dname 2)) (.nm 10) [10] (dtst (dop (fun a b => dfn gEq [a, b]) (dcall (dfn gLen) (dcons (dop dixA (dname 4) (dname 10)) dnil)) (dname 5))) (dname 10)) (dcon (.int 0))) (dcons (dop dixA (dname 4) (dname 6)) (dcons (dcall (dfn gTuple) (dcons (dlc (ditemsA (dname 2)) (.nm 10) [10] (dtst (dop (fun a b => dfn gInA [a, b]) (dname 6) (dop dixA (dname 4) (dname 10)))) (dname 10)) dnil)) dnil))))) (dseq (dite (dtst (dop (fun a b => dfn gNe [a, b]) (dcall (dfn gRepr) (dcons (dname 7) dnil)) (dcall (dfn gRepr) (dcons (dname 8) dnil)))) (dret (dcon (.bl false))) dskip) (dseq (dset 9 (dcall (dfn gTuple) (dcons (dlc (ditemsA (dname 2)) (.nm 10) [10] (dtst (dop (fun a b => dfn gEq [a, b]) (dcallF f_ulaw_draw (dcons (dname 0) (dcons (dcon (.int 5)) dnil))) (dcon (.int 0)))) (dname 10)) dnil))) (dseq (dite (dtand (dtst (dop (fun a b => dfn gNe [a, b]) (dname 9) (dtup dnil))) (dtst (dop (fun a b => dfn gNe [a, b]) (dcall (dfn gRepr) (dcons (dcallF f_never_seen (dcons (dname 1) (dcons (dname 9) (dcons (dname 3) dnil)))) dnil)) (dcall (dfn gRepr) (dcons (dcall (dfn gTuple) (dcons (dlc (ditemsA (dname 2)) (.nm 10) [10] (dtnot (dtst (dcall (dfn gAny) (dcons (dlc (ditemsA (dname 9)) (.nm 12) [12] (dpure true) (dop (fun a b => dfn gInA [a, b]) (dname 10) (dop dixA (dname 4) (dname 12)))) dnil)))) (dname 10)) dnil)) dnil))))) (dret (dcon (.bl false))) dskip) (dret (dcall (dfn gAll) (dcons (dlc (drange1 (dcons (dcon (.int 12)) dnil)) (.nm 11) [11] (dpure true) (dcallF f_ulaw_is_pair_right (dcons (dname 0) (dcons (dname 1) (dcons (dname 2) dnil))))) dnil)))))))))))))
noncomputable def f_ulaw_is_right : FnD := mkfn 13 1 [0] b_ulaw_is_right
abbrev s_law : Stmt := top 55
noncomputable def b_law : D Fl := (dseq (dset 1 (dcallF f_ulaw_hand (dcons (dname 0) dnil))) (dseq (dite (dtor (dtst (dop (fun a b => dfn gNe [a, b]) (dcallF f_least_eye (dcons (dtup (dcons (dtup (dcons (dcon (.int 0)) (dcons (dcon (.int 5)) (dcons (dcon (.int 0)) dnil)))) dnil)) (dcons (dtup (dcons (dcon (.int 0)) (dcons (dcon (.int 0)) dnil))) (dcons (dtup (dcons (dcon (.int 0)) (dcons (dcon (.int 2)) dnil))) dnil)))) (dcon (.int 11)))) (dtst (dop (fun a b => dfn gNe [a, b]) (dcallF f_hidden_by (dcons (dtup (dcons (dtup (dcons (dcon (.int 0)) (dcons (dcon (.int 5)) (dcons (dcon (.int 0)) dnil)))) dnil)) (dcons (dtup (dcons (dcon (.int 0)) (dcons (dcon (.int 0)) dnil))) (dcons (dtup (dcons (dcon (.int 0)) (dcons (dcon (.int 2)) dnil))) (dcons (dcon (.int 10)) dnil))))) (dtup (dcons (dtup (dcons (dcon (.int 0)) (dcons (dcon (.int 1)) dnil))) dnil))))) (dret (dcon (.bl false))) dskip) (dret (dcall (dfn gAll) (dcons (dlc (drange1 (dcons (dcon (.int 3)) dnil)) (.nm 2) [2] (dpure true) (dcallF f_ulaw_is_right (dcons (dname 1) dnil))) dnil)))))
noncomputable def f_law : FnD := mkfn 3 1 [0] b_law
structure Txt (K : PySem.W.Frag) (mg : Str → Option Value) : Prop where
  z_abs : mg "abs" = none
  z_all : mg "all" = none
  z_any : mg "any" = none
  z_bool : mg "bool" = none
  z_dict : mg "dict" = none
  z_enumerate : mg "enumerate" = none
  z_int : mg "int" = none
  z_isinstance : mg "isinstance" = none
  z_len : mg "len" = none
  z_max : mg "max" = none
  z_range : mg "range" = none
  z_repr : mg "repr" = none
  z_sorted : mg "sorted" = none
  z_tuple : mg "tuple" = none
  z_zip : mg "zip" = none
  c_MOST_EYE : GC K mg "MOST_EYE" (.int 1000)
  c_MOST_HEIGHT : GC K mg "MOST_HEIGHT" (.int 1000)
  c_MOST_SIDE : GC K mg "MOST_SIDE" (.int 8)
section
variable {P : Program} {w : World} {K : PySem.W.Frag} {mg : Str → Option Value} {base : Heap}
theorem sc_ulaw_hand : FnScope ["script", "cell"] ["script"] (defScope s_ulaw_hand) := ⟨rfl, rfl, rfl, by decide +kernel, rfl, by decide +kernel, by decide +kernel⟩
theorem c_ulaw_hand (T : Txt K mg) {f : Addr} {fd : FuncData} (Fn : L2.Fun K "_law_hand" "_law_hand" s_ulaw_hand f fd) (hm : mg "_law_hand" = some (.ref f)) (b : Binds K fd ["script"] []) : CalG P w K mg base 1 "_law_hand" 1 f_ulaw_hand := by
  refine calG (k := 0) (d := b_ulaw_hand) Fn hm b sc_ulaw_hand rfl rfl fun cdv A outs s H E vs hr0 hg => ?_
  have G := good_fn (P := P) (w := w) (K := K) (mg := mg) (base := base) (outs := outs) (H := H) (E := E) hr0 hg sc_ulaw_hand
  have hr : Room 0 (fnX P w K mg base ["script", "cell"] "_law_hand" s_ulaw_hand f cdv A outs s H E).A := hr0
  exact (bv_one (sv_ret (ev_lst (av_cons (ev_lc (own := [("cell", 1)]) (fi := [0]) G (iv_itemsA (ev_slice (dl := none) (dh := (some (dcon (.int 63)))) (ev_name (i := 0) rfl (vis_of rfl)) po_none (po_some ev_int))) (blkOk_by rfl) (hfi_of rfl) (fun _ _ _ _ _ _ => (gv_name (i := 1) G.blk rfl (loc_of rfl) (by decide))) (fun _ _ _ _ _ => ptsv_nil) (fun _ _ _ _ _ => (ev_callB rule_abs rfl T.z_abs rfl (av_cons (ev_callT rule_int rfl T.z_int rfl (av_cons (ev_name (i := 1) rfl (vis_of rfl)) av_nil)) av_nil)))) (av_cons ev_int (av_cons ev_int (av_cons (ev_op rule_add.op ev_int (ev_op rule_mul.op ev_int (ev_callB rule_len rfl T.z_len rfl (av_cons (ev_slice (dl := none) (dh := (some (dcon (.int 63)))) (ev_name (i := 0) rfl (vis_of rfl)) po_none (po_some ev_int)) av_nil)))) (av_cons ev_int av_nil))))))))
theorem sc_is_integer : FnScope ["thing"] ["thing"] (defScope s_is_integer) := ⟨rfl, rfl, rfl, by decide +kernel, rfl, by decide +kernel, by decide +kernel⟩
theorem c_is_integer (T : Txt K mg) {f : Addr} {fd : FuncData} (Fn : L2.Fun K "is_integer" "is_integer" s_is_integer f fd) (hm : mg "is_integer" = some (.ref f)) (b : Binds K fd ["thing"] []) : CalG P w K mg base 1 "is_integer" 1 f_is_integer := by
  refine calG (k := 0) (d := b_is_integer) Fn hm b sc_is_integer rfl rfl fun cdv A outs s H E vs hr0 hg => ?_
  have G := good_fn (P := P) (w := w) (K := K) (mg := mg) (base := base) (outs := outs) (H := H) (E := E) hr0 hg sc_is_integer
  have hr : Room 0 (fnX P w K mg base ["thing"] "is_integer" s_is_integer f cdv A outs s H E).A := hr0
  exact (bv_one (sv_ret (ev_and (ev_callB rule_isi rfl T.z_isinstance rfl (av_cons (ev_name (i := 0) rfl (vis_of rfl)) (av_cons (ev_bltn rfl T.z_int rfl) av_nil))) (ev_one (ev_not (ev_callB rule_isi rfl T.z_isinstance rfl (av_cons (ev_name (i := 0) rfl (vis_of rfl)) (av_cons (ev_bltn rfl T.z_bool rfl) av_nil))))))))
theorem sc_is_within : FnScope ["thing", "least", "most"] ["thing", "least", "most"] (defScope s_is_within) := ⟨rfl, rfl, rfl, by decide +kernel, rfl, by decide +kernel, by decide +kernel⟩
theorem c_is_within (T : Txt K mg) {f : Addr} {fd : FuncData} (Fn : L2.Fun K "is_within" "is_within" s_is_within f fd) (hm : mg "is_within" = some (.ref f)) (b : Binds K fd ["thing", "least", "most"] []) (c_is_integer : CalG P w K mg base 1 "is_integer" 1 f_is_integer) : CalG P w K mg base 2 "is_within" 3 f_is_within := by
  refine calG (k := 1) (d := b_is_within) Fn hm b sc_is_within rfl rfl fun cdv A outs s H E vs hr0 hg => ?_
  have G := good_fn (P := P) (w := w) (K := K) (mg := mg) (base := base) (outs := outs) (H := H) (E := E) hr0 hg sc_is_within
  have hr : Room 1 (fnX P w K mg base ["thing", "least", "most"] "is_within" s_is_within f cdv A outs s H E).A := hr0
  exact (bv_one (sv_ret (ev_and (ev_call c_is_integer hr (by decide) G rfl (av_cons (ev_name (i := 0) rfl (vis_of rfl)) av_nil)) (ev_one (ev_chain (rule_le G) (rule_le G) (ev_name (i := 1) rfl (vis_of rfl)) (ev_name (i := 0) rfl (vis_of rfl)) (ev_name (i := 2) rfl (vis_of rfl)))))))
theorem sc_is_height : FnScope ["thing"] ["thing"] (defScope s_is_height) := ⟨rfl, rfl, rfl, by decide +kernel, rfl, by decide +kernel, by decide +kernel⟩
theorem c_is_height (T : Txt K mg) {f : Addr} {fd : FuncData} (Fn : L2.Fun K "is_height" "is_height" s_is_height f fd) (hm : mg "is_height" = some (.ref f)) (b : Binds K fd ["thing"] []) (c_is_within : CalG P w K mg base 2 "is_within" 3 f_is_within) : CalG P w K mg base 3 "is_height" 1 f_is_height := by
  refine calG (k := 2) (d := b_is_height) Fn hm b sc_is_height rfl rfl fun cdv A outs s H E vs hr0 hg => ?_
  have G := good_fn (P := P) (w := w) (K := K) (mg := mg) (base := base) (outs := outs) (H := H) (E := E) hr0 hg sc_is_height
  have hr : Room 2 (fnX P w K mg base ["thing"] "is_height" s_is_height f cdv A outs s H E).A := hr0
  exact (bv_one (sv_ret (ev_call c_is_within hr (by decide) G rfl (av_cons (ev_name (i := 0) rfl (vis_of rfl)) (av_cons ev_int (av_cons (ev_gc T.c_MOST_HEIGHT rfl) av_nil))))))
theorem sc_is_row : FnScope ["thing", "one"] ["thing"] (defScope s_is_row) := ⟨rfl, rfl, rfl, by decide +kernel, rfl, by decide +kernel, by decide +kernel⟩
theorem c_is_row (T : Txt K mg) {f : Addr} {fd : FuncData} (Fn : L2.Fun K "is_row" "is_row" s_is_row f fd) (hm : mg "is_row" = some (.ref f)) (b : Binds K fd ["thing"] []) (c_is_height : CalG P w K mg base 3 "is_height" 1 f_is_height) : CalG P w K mg base 4 "is_row" 1 f_is_row := by
  refine calG (k := 3) (d := b_is_row) Fn hm b sc_is_row rfl rfl fun cdv A outs s H E vs hr0 hg => ?_
  have G := good_fn (P := P) (w := w) (K := K) (mg := mg) (base := base) (outs := outs) (H := H) (E := E) hr0 hg sc_is_row
  have hr : Room 3 (fnX P w K mg base ["thing", "one"] "is_row" s_is_row f cdv A outs s H E).A := hr0
  exact (bv_one (sv_ret (ev_and (ev_callB rule_isi rfl T.z_isinstance rfl (av_cons (ev_name (i := 0) rfl (vis_of rfl)) (av_cons (ev_bltn rfl T.z_tuple rfl) av_nil))) (ev_and (ev_chain (rule_le G) (rule_le G) ev_int (ev_callB rule_len rfl T.z_len rfl (av_cons (ev_name (i := 0) rfl (vis_of rfl)) av_nil)) (ev_gc T.c_MOST_SIDE rfl)) (ev_one (ev_callB (rule_all G) rfl T.z_all rfl (av_cons (ev_lc (own := [("one", 1)]) (fi := [0]) G (iv_itemsA (ev_name (i := 0) rfl (vis_of rfl))) (blkOk_by rfl) (hfi_of rfl) (fun _ _ _ _ _ _ => (gv_name (i := 1) G.blk rfl (loc_of rfl) (by decide))) (fun _ _ _ _ _ => ptsv_nil) (fun _ _ _ _ _ => (ev_call c_is_height hr (by decide) G.blk rfl (av_cons (ev_name (i := 1) rfl (vis_of rfl)) av_nil)))) av_nil)))))))
theorem sc_is_land : FnScope ["thing", "row"] ["thing"] (defScope s_is_land) := ⟨rfl, rfl, rfl, by decide +kernel, rfl, by decide +kernel, by decide +kernel⟩
theorem c_is_land (T : Txt K mg) {f : Addr} {fd : FuncData} (Fn : L2.Fun K "is_land" "is_land" s_is_land f fd) (hm : mg "is_land" = some (.ref f)) (b : Binds K fd ["thing"] []) (c_is_row : CalG P w K mg base 4 "is_row" 1 f_is_row) : CalG P w K mg base 5 "is_land" 1 f_is_land := by
  refine calG (k := 4) (d := b_is_land) Fn hm b sc_is_land rfl rfl fun cdv A outs s H E vs hr0 hg => ?_
  have G := good_fn (P := P) (w := w) (K := K) (mg := mg) (base := base) (outs := outs) (H := H) (E := E) hr0 hg sc_is_land
  have hr : Room 4 (fnX P w K mg base ["thing", "row"] "is_land" s_is_land f cdv A outs s H E).A := hr0
  exact (bv_cons (sv_if (tv_w (wv_or (tv_not (tv_val (ev_callB rule_isi rfl T.z_isinstance rfl (av_cons (ev_name (i := 0) rfl (vis_of rfl)) (av_cons (ev_bltn rfl T.z_tuple rfl) av_nil))))) (wv_or1 (tv_not (tv_chain (rule_le G) (rule_le G) ev_int (ev_callB rule_len rfl T.z_len rfl (av_cons (ev_name (i := 0) rfl (vis_of rfl)) av_nil)) (ev_gc T.c_MOST_SIDE rfl)))))) (bv_one (sv_ret ev_bl)) bv_nil) (bv_one (sv_ret (ev_and (ev_callB (rule_all G) rfl T.z_all rfl (av_cons (ev_lc (own := [("row", 1)]) (fi := [0]) G (iv_itemsA (ev_name (i := 0) rfl (vis_of rfl))) (blkOk_by rfl) (hfi_of rfl) (fun _ _ _ _ _ _ => (gv_name (i := 1) G.blk rfl (loc_of rfl) (by decide))) (fun _ _ _ _ _ => ptsv_nil) (fun _ _ _ _ _ => (ev_call c_is_row hr (by decide) G.blk rfl (av_cons (ev_name (i := 1) rfl (vis_of rfl)) av_nil)))) av_nil)) (ev_one (ev_callB (rule_all G) rfl T.z_all rfl (av_cons (ev_lc (own := [("row", 1)]) (fi := [0]) G (iv_itemsA (ev_name (i := 0) rfl (vis_of rfl))) (blkOk_by rfl) (hfi_of rfl) (fun _ _ _ _ _ _ => (gv_name (i := 1) G.blk rfl (loc_of rfl) (by decide))) (fun _ _ _ _ _ => ptsv_nil) (fun _ _ _ _ _ => (ev_cmp (rule_eq G.blk).op (by rfl) (ev_callB rule_len rfl T.z_len rfl (av_cons (ev_name (i := 1) rfl (vis_of rfl)) av_nil)) (ev_callB rule_len rfl T.z_len rfl (av_cons (ev_ixA G.blk (ev_name (i := 0) rfl (vis_of rfl)) ev_int) av_nil))))) av_nil)))))))
theorem sc_check_land : FnScope ["land"] ["land"] (defScope s_check_land) := ⟨rfl, rfl, rfl, by decide +kernel, rfl, by decide +kernel, by decide +kernel⟩
theorem c_check_land (T : Txt K mg) {f : Addr} {fd : FuncData} (Fn : L2.Fun K "check_land" "check_land" s_check_land f fd) (hm : mg "check_land" = some (.ref f)) (b : Binds K fd ["land"] []) (c_is_land : CalG P w K mg base 5 "is_land" 1 f_is_land) : CalG P w K mg base 6 "check_land" 1 f_check_land := by
  refine calG (k := 5) (d := b_check_land) Fn hm b sc_check_land rfl rfl fun cdv A outs s H E vs hr0 hg => ?_
  have G := good_fn (P := P) (w := w) (K := K) (mg := mg) (base := base) (outs := outs) (H := H) (E := E) hr0 hg sc_check_land
  have hr : Room 5 (fnX P w K mg base ["land"] "check_land" s_check_land f cdv A outs s H E).A := hr0
  exact (bv_one (sv_if (tv_not (tv_val (ev_call c_is_land hr (by decide) G rfl (av_cons (ev_name (i := 0) rfl (vis_of rfl)) av_nil)))) bv_never bv_nil))
theorem sc_is_tuple_of : FnScope ["thing", "size"] ["thing", "size"] (defScope s_is_tuple_of) := ⟨rfl, rfl, rfl, by decide +kernel, rfl, by decide +kernel, by decide +kernel⟩
theorem c_is_tuple_of (T : Txt K mg) {f : Addr} {fd : FuncData} (Fn : L2.Fun K "is_tuple_of" "is_tuple_of" s_is_tuple_of f fd) (hm : mg "is_tuple_of" = some (.ref f)) (b : Binds K fd ["thing", "size"] []) : CalG P w K mg base 1 "is_tuple_of" 2 f_is_tuple_of := by
  refine calG (k := 0) (d := b_is_tuple_of) Fn hm b sc_is_tuple_of rfl rfl fun cdv A outs s H E vs hr0 hg => ?_
  have G := good_fn (P := P) (w := w) (K := K) (mg := mg) (base := base) (outs := outs) (H := H) (E := E) hr0 hg sc_is_tuple_of
  have hr : Room 0 (fnX P w K mg base ["thing", "size"] "is_tuple_of" s_is_tuple_of f cdv A outs s H E).A := hr0
  exact (bv_one (sv_ret (ev_and (ev_callB rule_isi rfl T.z_isinstance rfl (av_cons (ev_name (i := 0) rfl (vis_of rfl)) (av_cons (ev_bltn rfl T.z_tuple rfl) av_nil))) (ev_one (ev_cmp (rule_eq G).op (by rfl) (ev_callB rule_len rfl T.z_len rfl (av_cons (ev_name (i := 0) rfl (vis_of rfl)) av_nil)) (ev_name (i := 1) rfl (vis_of rfl)))))))
theorem sc_is_spot_of : FnScope ["land", "thing"] ["land", "thing"] (defScope s_is_spot_of) := ⟨rfl, rfl, rfl, by decide +kernel, rfl, by decide +kernel, by decide +kernel⟩
theorem c_is_spot_of (T : Txt K mg) {f : Addr} {fd : FuncData} (Fn : L2.Fun K "is_spot_of" "is_spot_of" s_is_spot_of f fd) (hm : mg "is_spot_of" = some (.ref f)) (b : Binds K fd ["land", "thing"] []) (c_is_within : CalG P w K mg base 2 "is_within" 3 f_is_within) (c_is_tuple_of : CalG P w K mg base 1 "is_tuple_of" 2 f_is_tuple_of) : CalG P w K mg base 3 "is_spot_of" 2 f_is_spot_of := by
  refine calG (k := 2) (d := b_is_spot_of) Fn hm b sc_is_spot_of rfl rfl fun cdv A outs s H E vs hr0 hg => ?_
  have G := good_fn (P := P) (w := w) (K := K) (mg := mg) (base := base) (outs := outs) (H := H) (E := E) hr0 hg sc_is_spot_of
  have hr : Room 2 (fnX P w K mg base ["land", "thing"] "is_spot_of" s_is_spot_of f cdv A outs s H E).A := hr0
  exact (bv_cons (sv_if (tv_w (wv_or (tv_not (tv_val (ev_call c_is_tuple_of hr (by decide) G rfl (av_cons (ev_name (i := 1) rfl (vis_of rfl)) (av_cons ev_int av_nil))))) (wv_or1 (tv_not (tv_val (ev_call c_is_within hr (by decide) G rfl (av_cons (ev_ixA G (ev_name (i := 1) rfl (vis_of rfl)) ev_int) (av_cons ev_int (av_cons (ev_op rule_sub.op (ev_callB rule_len rfl T.z_len rfl (av_cons (ev_name (i := 0) rfl (vis_of rfl)) av_nil)) ev_int) av_nil))))))))) (bv_one (sv_ret ev_bl)) bv_nil) (bv_one (sv_ret (ev_call c_is_within hr (by decide) G rfl (av_cons (ev_ixA G (ev_name (i := 1) rfl (vis_of rfl)) ev_int) (av_cons ev_int (av_cons (ev_op rule_sub.op (ev_callB rule_len rfl T.z_len rfl (av_cons (ev_ixA G (ev_name (i := 0) rfl (vis_of rfl)) ev_int) av_nil)) ev_int) av_nil)))))))
theorem sc_check_spot : FnScope ["land", "spot"] ["land", "spot"] (defScope s_check_spot) := ⟨rfl, rfl, rfl, by decide +kernel, rfl, by decide +kernel, by decide +kernel⟩
theorem c_check_spot (T : Txt K mg) {f : Addr} {fd : FuncData} (Fn : L2.Fun K "check_spot" "check_spot" s_check_spot f fd) (hm : mg "check_spot" = some (.ref f)) (b : Binds K fd ["land", "spot"] []) (c_check_land : CalG P w K mg base 6 "check_land" 1 f_check_land) (c_is_spot_of : CalG P w K mg base 3 "is_spot_of" 2 f_is_spot_of) : CalG P w K mg base 7 "check_spot" 2 f_check_spot := by
  refine calG (k := 6) (d := b_check_spot) Fn hm b sc_check_spot rfl rfl fun cdv A outs s H E vs hr0 hg => ?_
  have G := good_fn (P := P) (w := w) (K := K) (mg := mg) (base := base) (outs := outs) (H := H) (E := E) hr0 hg sc_check_spot
  have hr : Room 6 (fnX P w K mg base ["land", "spot"] "check_spot" s_check_spot f cdv A outs s H E).A := hr0
  exact (bv_cons (sv_expr (ev_call c_check_land hr (by decide) G rfl (av_cons (ev_name (i := 0) rfl (vis_of rfl)) av_nil))) (bv_one (sv_if (tv_not (tv_val (ev_call c_is_spot_of hr (by decide) G rfl (av_cons (ev_name (i := 0) rfl (vis_of rfl)) (av_cons (ev_name (i := 1) rfl (vis_of rfl)) av_nil))))) bv_never bv_nil)))
theorem sc_check_two_spots : FnScope ["land", "one", "other"] ["land", "one", "other"] (defScope s_check_two_spots) := ⟨rfl, rfl, rfl, by decide +kernel, rfl, by decide +kernel, by decide +kernel⟩
theorem c_check_two_spots (T : Txt K mg) {f : Addr} {fd : FuncData} (Fn : L2.Fun K "check_two_spots" "check_two_spots" s_check_two_spots f fd) (hm : mg "check_two_spots" = some (.ref f)) (b : Binds K fd ["land", "one", "other"] []) (c_check_spot : CalG P w K mg base 7 "check_spot" 2 f_check_spot) : CalG P w K mg base 8 "check_two_spots" 3 f_check_two_spots := by
  refine calG (k := 7) (d := b_check_two_spots) Fn hm b sc_check_two_spots rfl rfl fun cdv A outs s H E vs hr0 hg => ?_
  have G := good_fn (P := P) (w := w) (K := K) (mg := mg) (base := base) (outs := outs) (H := H) (E := E) hr0 hg sc_check_two_spots
  have hr : Room 7 (fnX P w K mg base ["land", "one", "other"] "check_two_spots" s_check_two_spots f cdv A outs s H E).A := hr0
  exact (bv_cons (sv_expr (ev_call c_check_spot hr (by decide) G rfl (av_cons (ev_name (i := 0) rfl (vis_of rfl)) (av_cons (ev_name (i := 1) rfl (vis_of rfl)) av_nil)))) (bv_one (sv_expr (ev_call c_check_spot hr (by decide) G rfl (av_cons (ev_name (i := 0) rfl (vis_of rfl)) (av_cons (ev_name (i := 2) rfl (vis_of rfl)) av_nil))))))
theorem sc_stepped : FnScope ["spot", "step", "times"] ["spot", "step", "times"] (defScope s_stepped) := ⟨rfl, rfl, rfl, by decide +kernel, rfl, by decide +kernel, by decide +kernel⟩
theorem c_stepped (T : Txt K mg) {f : Addr} {fd : FuncData} (Fn : L2.Fun K "stepped" "stepped" s_stepped f fd) (hm : mg "stepped" = some (.ref f)) (b : Binds K fd ["spot", "step", "times"] []) : CalG P w K mg base 1 "stepped" 3 f_stepped := by
  refine calG (k := 0) (d := b_stepped) Fn hm b sc_stepped rfl rfl fun cdv A outs s H E vs hr0 hg => ?_
  have G := good_fn (P := P) (w := w) (K := K) (mg := mg) (base := base) (outs := outs) (H := H) (E := E) hr0 hg sc_stepped
  have hr : Room 0 (fnX P w K mg base ["spot", "step", "times"] "stepped" s_stepped f cdv A outs s H E).A := hr0
  exact (bv_one (sv_ret (ev_tup (av_cons (ev_op rule_add.op (ev_ixA G (ev_name (i := 0) rfl (vis_of rfl)) ev_int) (ev_op rule_mul.op (ev_name (i := 2) rfl (vis_of rfl)) (ev_ixA G (ev_name (i := 1) rfl (vis_of rfl)) ev_int))) (av_cons (ev_op rule_add.op (ev_ixA G (ev_name (i := 0) rfl (vis_of rfl)) ev_int) (ev_op rule_mul.op (ev_name (i := 2) rfl (vis_of rfl)) (ev_ixA G (ev_name (i := 1) rfl (vis_of rfl)) ev_int))) av_nil)))))
theorem sc_sign_by : FnScope ["number"] ["number"] (defScope s_sign_by) := ⟨rfl, rfl, rfl, by decide +kernel, rfl, by decide +kernel, by decide +kernel⟩
theorem c_sign_by (T : Txt K mg) {f : Addr} {fd : FuncData} (Fn : L2.Fun K "sign_by" "sign_by" s_sign_by f fd) (hm : mg "sign_by" = some (.ref f)) (b : Binds K fd ["number"] []) : CalG P w K mg base 1 "sign_by" 1 f_sign_by := by
  refine calG (k := 0) (d := b_sign_by) Fn hm b sc_sign_by rfl rfl fun cdv A outs s H E vs hr0 hg => ?_
  have G := good_fn (P := P) (w := w) (K := K) (mg := mg) (base := base) (outs := outs) (H := H) (E := E) hr0 hg sc_sign_by
  have hr : Room 0 (fnX P w K mg base ["number"] "sign_by" s_sign_by f cdv A outs s H E).A := hr0
  exact (bv_one (sv_ret (ev_op rule_sub.op (ev_callT rule_int rfl T.z_int rfl (av_cons (ev_cmp (rule_gt G).op (by rfl) (ev_name (i := 0) rfl (vis_of rfl)) ev_int) av_nil)) (ev_callT rule_int rfl T.z_int rfl (av_cons (ev_cmp (rule_lt G).op (by rfl) (ev_name (i := 0) rfl (vis_of rfl)) ev_int) av_nil)))))
theorem sc_line_to : FnScope ["one", "other", "down", "right", "step", "many", "times"] ["one", "other"] (defScope s_line_to) := ⟨rfl, rfl, rfl, by decide +kernel, rfl, by decide +kernel, by decide +kernel⟩
theorem c_line_to (T : Txt K mg) {f : Addr} {fd : FuncData} (Fn : L2.Fun K "line_to" "line_to" s_line_to f fd) (hm : mg "line_to" = some (.ref f)) (b : Binds K fd ["one", "other"] []) (c_stepped : CalG P w K mg base 1 "stepped" 3 f_stepped) (c_sign_by : CalG P w K mg base 1 "sign_by" 1 f_sign_by) : CalG P w K mg base 2 "line_to" 2 f_line_to := by
  refine calG (k := 1) (d := b_line_to) Fn hm b sc_line_to rfl rfl fun cdv A outs s H E vs hr0 hg => ?_
  have G := good_fn (P := P) (w := w) (K := K) (mg := mg) (base := base) (outs := outs) (H := H) (E := E) hr0 hg sc_line_to
  have hr : Room 1 (fnX P w K mg base ["one", "other", "down", "right", "step", "many", "times"] "line_to" s_line_to f cdv A outs s H E).A := hr0
  exact (bv_cons (sv_par (i := 2) (j := 3) G rfl rfl (by decide) (by decide) (by decide) rfl rfl (av_cons (ev_op rule_sub.op (ev_ixA G (ev_name (i := 1) rfl (vis_of rfl)) ev_int) (ev_ixA G (ev_name (i := 0) rfl (vis_of rfl)) ev_int)) (av_cons (ev_op rule_sub.op (ev_ixA G (ev_name (i := 1) rfl (vis_of rfl)) ev_int) (ev_ixA G (ev_name (i := 0) rfl (vis_of rfl)) ev_int)) av_nil)) rfl) (bv_cons (sv_if (tv_w (wv_and (tv_cmp (rule_ne G).op (by rfl) (ev_name (i := 2) rfl (vis_of rfl)) ev_int) (wv_and (tv_cmp (rule_ne G).op (by rfl) (ev_name (i := 3) rfl (vis_of rfl)) ev_int) (wv_and1 (tv_cmp (rule_ne G).op (by rfl) (ev_callB rule_abs rfl T.z_abs rfl (av_cons (ev_name (i := 2) rfl (vis_of rfl)) av_nil)) (ev_callB rule_abs rfl T.z_abs rfl (av_cons (ev_name (i := 3) rfl (vis_of rfl)) av_nil))))))) (bv_one (sv_ret ev_non)) bv_nil) (bv_cons (sv_parT (is := [4, 5]) G (pgs_names_cons (i := 4) G rfl (loc_of rfl) (pgs_names_cons (i := 5) G rfl (loc_of rfl) pgs_names_nil)) (av_cons (ev_tup (av_cons (ev_call c_sign_by hr (by decide) G rfl (av_cons (ev_name (i := 2) rfl (vis_of rfl)) av_nil)) (av_cons (ev_call c_sign_by hr (by decide) G rfl (av_cons (ev_name (i := 3) rfl (vis_of rfl)) av_nil)) av_nil))) (av_cons (ev_callB (rule_max G) rfl T.z_max rfl (av_cons (ev_callB rule_abs rfl T.z_abs rfl (av_cons (ev_name (i := 2) rfl (vis_of rfl)) av_nil)) (av_cons (ev_callB rule_abs rfl T.z_abs rfl (av_cons (ev_name (i := 3) rfl (vis_of rfl)) av_nil)) av_nil))) av_nil)) (hlt_of rfl) (by decide)) (bv_one (sv_ret (ev_lc (own := [("times", 6)]) (fi := [0, 1, 2, 3, 4, 5]) G (iv_range2 rfl T.z_range (av_cons ev_int (av_cons (ev_op rule_add.op (ev_name (i := 5) rfl (vis_of rfl)) ev_int) av_nil))) (blkOk_by rfl) (hfi_of rfl) (fun _ _ _ _ _ _ => (gv_name (i := 6) G.blk rfl (loc_of rfl) (by decide))) (fun _ _ _ _ _ => ptsv_nil) (fun _ _ _ _ _ => (ev_call c_stepped hr (by decide) G.blk rfl (av_cons (ev_name (i := 0) rfl (vis_of rfl)) (av_cons (ev_name (i := 4) rfl (vis_of rfl)) (av_cons (ev_name (i := 6) rfl (vis_of rfl)) av_nil)))))))))))
theorem sc_height_of : FnScope ["land", "spot"] ["land", "spot"] (defScope s_height_of) := ⟨rfl, rfl, rfl, by decide +kernel, rfl, by decide +kernel, by decide +kernel⟩
theorem c_height_of (T : Txt K mg) {f : Addr} {fd : FuncData} (Fn : L2.Fun K "height_of" "height_of" s_height_of f fd) (hm : mg "height_of" = some (.ref f)) (b : Binds K fd ["land", "spot"] []) : CalG P w K mg base 1 "height_of" 2 f_height_of := by
  refine calG (k := 0) (d := b_height_of) Fn hm b sc_height_of rfl rfl fun cdv A outs s H E vs hr0 hg => ?_
  have G := good_fn (P := P) (w := w) (K := K) (mg := mg) (base := base) (outs := outs) (H := H) (E := E) hr0 hg sc_height_of
  have hr : Room 0 (fnX P w K mg base ["land", "spot"] "height_of" s_height_of f cdv A outs s H E).A := hr0
  exact (bv_one (sv_ret (ev_ixA G (ev_ixA G (ev_name (i := 0) rfl (vis_of rfl)) (ev_ixA G (ev_name (i := 1) rfl (vis_of rfl)) ev_int)) (ev_ixA G (ev_name (i := 1) rfl (vis_of rfl)) ev_int))))
theorem sc_eye_over : FnScope ["land", "one", "line", "times", "many", "due"] ["land", "one", "line", "times"] (defScope s_eye_over) := ⟨rfl, rfl, rfl, by decide +kernel, rfl, by decide +kernel, by decide +kernel⟩
theorem c_eye_over (T : Txt K mg) {f : Addr} {fd : FuncData} (Fn : L2.Fun K "eye_over" "eye_over" s_eye_over f fd) (hm : mg "eye_over" = some (.ref f)) (b : Binds K fd ["land", "one", "line", "times"] []) (c_height_of : CalG P w K mg base 1 "height_of" 2 f_height_of) : CalG P w K mg base 2 "eye_over" 4 f_eye_over := by
  refine calG (k := 1) (d := b_eye_over) Fn hm b sc_eye_over rfl rfl fun cdv A outs s H E vs hr0 hg => ?_
  have G := good_fn (P := P) (w := w) (K := K) (mg := mg) (base := base) (outs := outs) (H := H) (E := E) hr0 hg sc_eye_over
  have hr : Room 1 (fnX P w K mg base ["land", "one", "line", "times", "many", "due"] "eye_over" s_eye_over f cdv A outs s H E).A := hr0
  exact (bv_cons (sv_set (i := 4) G rfl (loc_of rfl) (by decide) (ev_callB rule_len rfl T.z_len rfl (av_cons (ev_name (i := 2) rfl (vis_of rfl)) av_nil))) (bv_cons (sv_set (i := 5) G rfl (loc_of rfl) (by decide) (ev_op rule_sub.op (ev_op rule_mul.op (ev_call c_height_of hr (by decide) G rfl (av_cons (ev_name (i := 0) rfl (vis_of rfl)) (av_cons (ev_ixA G (ev_name (i := 2) rfl (vis_of rfl)) (ev_op rule_sub.op (ev_name (i := 3) rfl (vis_of rfl)) ev_int)) av_nil))) (ev_name (i := 4) rfl (vis_of rfl))) (ev_op rule_mul.op (ev_call c_height_of hr (by decide) G rfl (av_cons (ev_name (i := 0) rfl (vis_of rfl)) (av_cons (ev_ixA G (ev_name (i := 2) rfl (vis_of rfl)) (ev_un rule_neg.un ev_int)) av_nil))) (ev_name (i := 3) rfl (vis_of rfl))))) (bv_one (sv_ret (ev_op rule_sub.op (ev_op rule_add.op (ev_op rule_div.op (ev_name (i := 5) rfl (vis_of rfl)) (ev_op rule_sub.op (ev_name (i := 4) rfl (vis_of rfl)) (ev_name (i := 3) rfl (vis_of rfl)))) ev_int) (ev_call c_height_of hr (by decide) G rfl (av_cons (ev_name (i := 0) rfl (vis_of rfl)) (av_cons (ev_name (i := 1) rfl (vis_of rfl)) av_nil))))))))
theorem sc_least_eye : FnScope ["land", "one", "other", "line", "times"] ["land", "one", "other"] (defScope s_least_eye) := ⟨rfl, rfl, rfl, by decide +kernel, rfl, by decide +kernel, by decide +kernel⟩
theorem c_least_eye (T : Txt K mg) {f : Addr} {fd : FuncData} (Fn : L2.Fun K "least_eye" "least_eye" s_least_eye f fd) (hm : mg "least_eye" = some (.ref f)) (b : Binds K fd ["land", "one", "other"] []) (c_check_two_spots : CalG P w K mg base 8 "check_two_spots" 3 f_check_two_spots) (c_line_to : CalG P w K mg base 2 "line_to" 2 f_line_to) (c_eye_over : CalG P w K mg base 2 "eye_over" 4 f_eye_over) : CalG P w K mg base 9 "least_eye" 3 f_least_eye := by
  refine calG (k := 8) (d := b_least_eye) Fn hm b sc_least_eye rfl rfl fun cdv A outs s H E vs hr0 hg => ?_
  have G := good_fn (P := P) (w := w) (K := K) (mg := mg) (base := base) (outs := outs) (H := H) (E := E) hr0 hg sc_least_eye
  have hr : Room 8 (fnX P w K mg base ["land", "one", "other", "line", "times"] "least_eye" s_least_eye f cdv A outs s H E).A := hr0
  exact (bv_cons (sv_expr (ev_call c_check_two_spots hr (by decide) G rfl (av_cons (ev_name (i := 0) rfl (vis_of rfl)) (av_cons (ev_name (i := 1) rfl (vis_of rfl)) (av_cons (ev_name (i := 2) rfl (vis_of rfl)) av_nil))))) (bv_cons (sv_set (i := 3) G rfl (loc_of rfl) (by decide) (ev_call c_line_to hr (by decide) G rfl (av_cons (ev_name (i := 1) rfl (vis_of rfl)) (av_cons (ev_name (i := 2) rfl (vis_of rfl)) av_nil)))) (bv_cons (sv_if (tv_cmp rule_is.op (by rfl) (ev_name (i := 3) rfl (vis_of rfl)) ev_non) (bv_one (sv_ret ev_non)) bv_nil) (bv_one (sv_ret (ev_callB (rule_max G) rfl T.z_max rfl (av_cons (ev_op rule_add.op (ev_lst (av_cons ev_int av_nil)) (ev_lc (own := [("times", 4)]) (fi := [0, 1, 2, 3]) G (iv_range2 rfl T.z_range (av_cons ev_int (av_cons (ev_callB rule_len rfl T.z_len rfl (av_cons (ev_name (i := 3) rfl (vis_of rfl)) av_nil)) av_nil))) (blkOk_by rfl) (hfi_of rfl) (fun _ _ _ _ _ _ => (gv_name (i := 4) G.blk rfl (loc_of rfl) (by decide))) (fun _ _ _ _ _ => ptsv_nil) (fun _ _ _ _ _ => (ev_call c_eye_over hr (by decide) G.blk rfl (av_cons (ev_name (i := 0) rfl (vis_of rfl)) (av_cons (ev_name (i := 1) rfl (vis_of rfl)) (av_cons (ev_name (i := 3) rfl (vis_of rfl)) (av_cons (ev_name (i := 4) rfl (vis_of rfl)) av_nil)))))))) av_nil)))))))
theorem sc_check_eye : FnScope ["eye"] ["eye"] (defScope s_check_eye) := ⟨rfl, rfl, rfl, by decide +kernel, rfl, by decide +kernel, by decide +kernel⟩
theorem c_check_eye (T : Txt K mg) {f : Addr} {fd : FuncData} (Fn : L2.Fun K "check_eye" "check_eye" s_check_eye f fd) (hm : mg "check_eye" = some (.ref f)) (b : Binds K fd ["eye"] []) (c_is_within : CalG P w K mg base 2 "is_within" 3 f_is_within) : CalG P w K mg base 3 "check_eye" 1 f_check_eye := by
  refine calG (k := 2) (d := b_check_eye) Fn hm b sc_check_eye rfl rfl fun cdv A outs s H E vs hr0 hg => ?_
  have G := good_fn (P := P) (w := w) (K := K) (mg := mg) (base := base) (outs := outs) (H := H) (E := E) hr0 hg sc_check_eye
  have hr : Room 2 (fnX P w K mg base ["eye"] "check_eye" s_check_eye f cdv A outs s H E).A := hr0
  exact (bv_one (sv_if (tv_not (tv_val (ev_call c_is_within hr (by decide) G rfl (av_cons (ev_name (i := 0) rfl (vis_of rfl)) (av_cons ev_int (av_cons (ev_gc T.c_MOST_EYE rfl) av_nil)))))) bv_never bv_nil))
theorem sc_hiding_spots : FnScope ["land", "one", "line", "eye", "many", "own", "goal", "found", "times", "here"] ["land", "one", "line", "eye"] (defScope s_hiding_spots) := ⟨rfl, rfl, rfl, by decide +kernel, rfl, by decide +kernel, by decide +kernel⟩
theorem c_hiding_spots (T : Txt K mg) {f : Addr} {fd : FuncData} (Fn : L2.Fun K "hiding_spots" "hiding_spots" s_hiding_spots f fd) (hm : mg "hiding_spots" = some (.ref f)) (b : Binds K fd ["land", "one", "line", "eye"] []) (c_height_of : CalG P w K mg base 1 "height_of" 2 f_height_of) : CalG P w K mg base 2 "hiding_spots" 4 f_hiding_spots := by
  refine calG (k := 1) (d := b_hiding_spots) Fn hm b sc_hiding_spots rfl rfl fun cdv A outs s H E vs hr0 hg => ?_
  have G := good_fn (P := P) (w := w) (K := K) (mg := mg) (base := base) (outs := outs) (H := H) (E := E) hr0 hg sc_hiding_spots
  have hr : Room 1 (fnX P w K mg base ["land", "one", "line", "eye", "many", "own", "goal", "found", "times", "here"] "hiding_spots" s_hiding_spots f cdv A outs s H E).A := hr0
  exact (bv_cons (sv_par (i := 4) (j := 5) G rfl rfl (by decide) (by decide) (by decide) rfl rfl (av_cons (ev_callB rule_len rfl T.z_len rfl (av_cons (ev_name (i := 2) rfl (vis_of rfl)) av_nil)) (av_cons (ev_op rule_add.op (ev_call c_height_of hr (by decide) G rfl (av_cons (ev_name (i := 0) rfl (vis_of rfl)) (av_cons (ev_name (i := 1) rfl (vis_of rfl)) av_nil))) (ev_name (i := 3) rfl (vis_of rfl))) av_nil)) rfl) (bv_cons (sv_par (i := 6) (j := 7) G rfl rfl (by decide) (by decide) (by decide) rfl rfl (av_cons (ev_call c_height_of hr (by decide) G rfl (av_cons (ev_name (i := 0) rfl (vis_of rfl)) (av_cons (ev_ixA G (ev_name (i := 2) rfl (vis_of rfl)) (ev_un rule_neg.un ev_int)) av_nil))) (av_cons (ev_lst av_nil) av_nil)) rfl) (bv_cons (sv_for G PassesOwn.never (iv_range2 rfl T.z_range (av_cons ev_int (av_cons (ev_name (i := 4) rfl (vis_of rfl)) av_nil))) (gv_name (i := 8) G rfl (loc_of rfl) (by decide)) (bv_cons (sv_set (i := 9) G rfl (loc_of rfl) (by decide) (ev_ixA G (ev_name (i := 2) rfl (vis_of rfl)) (ev_op rule_sub.op (ev_name (i := 8) rfl (vis_of rfl)) ev_int))) (bv_one (sv_if (tv_cmp (rule_ge G).op (by rfl) (ev_op rule_mul.op (ev_call c_height_of hr (by decide) G rfl (av_cons (ev_name (i := 0) rfl (vis_of rfl)) (av_cons (ev_name (i := 9) rfl (vis_of rfl)) av_nil))) (ev_name (i := 4) rfl (vis_of rfl))) (ev_op rule_add.op (ev_op rule_mul.op (ev_name (i := 5) rfl (vis_of rfl)) (ev_op rule_sub.op (ev_name (i := 4) rfl (vis_of rfl)) (ev_name (i := 8) rfl (vis_of rfl)))) (ev_op rule_mul.op (ev_name (i := 6) rfl (vis_of rfl)) (ev_name (i := 8) rfl (vis_of rfl))))) (bv_one (sv_expr (ev_append (ev_name (i := 7) rfl (vis_of rfl)) (av_cons (ev_name (i := 9) rfl (vis_of rfl)) av_nil)))) bv_nil)))) (bv_one (sv_ret (ev_name (i := 7) rfl (vis_of rfl)))))))
theorem sc_raw_sees : FnScope ["land", "one", "other", "eye", "line"] ["land", "one", "other", "eye"] (defScope s_raw_sees) := ⟨rfl, rfl, rfl, by decide +kernel, rfl, by decide +kernel, by decide +kernel⟩
theorem c_raw_sees (T : Txt K mg) {f : Addr} {fd : FuncData} (Fn : L2.Fun K "raw_sees" "raw_sees" s_raw_sees f fd) (hm : mg "raw_sees" = some (.ref f)) (b : Binds K fd ["land", "one", "other", "eye"] []) (c_line_to : CalG P w K mg base 2 "line_to" 2 f_line_to) (c_hiding_spots : CalG P w K mg base 2 "hiding_spots" 4 f_hiding_spots) : CalG P w K mg base 3 "raw_sees" 4 f_raw_sees := by
  refine calG (k := 2) (d := b_raw_sees) Fn hm b sc_raw_sees rfl rfl fun cdv A outs s H E vs hr0 hg => ?_
  have G := good_fn (P := P) (w := w) (K := K) (mg := mg) (base := base) (outs := outs) (H := H) (E := E) hr0 hg sc_raw_sees
  have hr : Room 2 (fnX P w K mg base ["land", "one", "other", "eye", "line"] "raw_sees" s_raw_sees f cdv A outs s H E).A := hr0
  exact (bv_cons (sv_if (tv_cmp (rule_eq G).op (by rfl) (ev_name (i := 1) rfl (vis_of rfl)) (ev_name (i := 2) rfl (vis_of rfl))) (bv_one (sv_ret ev_bl)) bv_nil) (bv_cons (sv_set (i := 4) G rfl (loc_of rfl) (by decide) (ev_call c_line_to hr (by decide) G rfl (av_cons (ev_name (i := 1) rfl (vis_of rfl)) (av_cons (ev_name (i := 2) rfl (vis_of rfl)) av_nil)))) (bv_one (sv_ret (ev_and (ev_cmp rule_isNot.op (by rfl) (ev_name (i := 4) rfl (vis_of rfl)) ev_non) (ev_one (ev_cmp (rule_eq G).op (by rfl) (ev_callB rule_len rfl T.z_len rfl (av_cons (ev_call c_hiding_spots hr (by decide) G rfl (av_cons (ev_name (i := 0) rfl (vis_of rfl)) (av_cons (ev_name (i := 1) rfl (vis_of rfl)) (av_cons (ev_name (i := 4) rfl (vis_of rfl)) (av_cons (ev_name (i := 3) rfl (vis_of rfl)) av_nil))))) av_nil)) ev_int)))))))
theorem sc_hidden_by : FnScope ["land", "one", "other", "eye", "line"] ["land", "one", "other", "eye"] (defScope s_hidden_by) := ⟨rfl, rfl, rfl, by decide +kernel, rfl, by decide +kernel, by decide +kernel⟩
theorem c_hidden_by (T : Txt K mg) {f : Addr} {fd : FuncData} (Fn : L2.Fun K "hidden_by" "hidden_by" s_hidden_by f fd) (hm : mg "hidden_by" = some (.ref f)) (b : Binds K fd ["land", "one", "other", "eye"] []) (c_check_two_spots : CalG P w K mg base 8 "check_two_spots" 3 f_check_two_spots) (c_check_eye : CalG P w K mg base 3 "check_eye" 1 f_check_eye) (c_raw_sees : CalG P w K mg base 3 "raw_sees" 4 f_raw_sees) (c_line_to : CalG P w K mg base 2 "line_to" 2 f_line_to) (c_hiding_spots : CalG P w K mg base 2 "hiding_spots" 4 f_hiding_spots) : CalG P w K mg base 9 "hidden_by" 4 f_hidden_by := by
  refine calG (k := 8) (d := b_hidden_by) Fn hm b sc_hidden_by rfl rfl fun cdv A outs s H E vs hr0 hg => ?_
  have G := good_fn (P := P) (w := w) (K := K) (mg := mg) (base := base) (outs := outs) (H := H) (E := E) hr0 hg sc_hidden_by
  have hr : Room 8 (fnX P w K mg base ["land", "one", "other", "eye", "line"] "hidden_by" s_hidden_by f cdv A outs s H E).A := hr0
  exact (bv_cons (sv_expr (ev_call c_check_two_spots hr (by decide) G rfl (av_cons (ev_name (i := 0) rfl (vis_of rfl)) (av_cons (ev_name (i := 1) rfl (vis_of rfl)) (av_cons (ev_name (i := 2) rfl (vis_of rfl)) av_nil))))) (bv_cons (sv_expr (ev_call c_check_eye hr (by decide) G rfl (av_cons (ev_name (i := 3) rfl (vis_of rfl)) av_nil))) (bv_cons (sv_if (tv_val (ev_call c_raw_sees hr (by decide) G rfl (av_cons (ev_name (i := 0) rfl (vis_of rfl)) (av_cons (ev_name (i := 1) rfl (vis_of rfl)) (av_cons (ev_name (i := 2) rfl (vis_of rfl)) (av_cons (ev_name (i := 3) rfl (vis_of rfl)) av_nil)))))) (bv_one (sv_ret ev_non)) bv_nil) (bv_cons (sv_set (i := 4) G rfl (loc_of rfl) (by decide) (ev_call c_line_to hr (by decide) G rfl (av_cons (ev_name (i := 1) rfl (vis_of rfl)) (av_cons (ev_name (i := 2) rfl (vis_of rfl)) av_nil)))) (bv_one (sv_ret (ev_if (tv_cmp rule_is.op (by rfl) (ev_name (i := 4) rfl (vis_of rfl)) ev_non) (ev_tup av_nil) (ev_callT rule_tuple rfl T.z_tuple rfl (av_cons (ev_callB (rule_sorted G) rfl T.z_sorted rfl (av_cons (ev_call c_hiding_spots hr (by decide) G rfl (av_cons (ev_name (i := 0) rfl (vis_of rfl)) (av_cons (ev_name (i := 1) rfl (vis_of rfl)) (av_cons (ev_name (i := 4) rfl (vis_of rfl)) (av_cons (ev_name (i := 3) rfl (vis_of rfl)) av_nil))))) av_nil)) av_nil)))))))))
theorem sc_ulaw_draw : FnScope ["hand", "many", "number", "cell", "digit"] ["hand", "many"] (defScope s_ulaw_draw) := ⟨rfl, rfl, rfl, by decide +kernel, rfl, by decide +kernel, by decide +kernel⟩
theorem c_ulaw_draw (T : Txt K mg) {f : Addr} {fd : FuncData} (Fn : L2.Fun K "_law_draw" "_law_draw" s_ulaw_draw f fd) (hm : mg "_law_draw" = some (.ref f)) (b : Binds K fd ["hand", "many"] []) : CalG P w K mg base 1 "_law_draw" 2 f_ulaw_draw := by
  refine calG (k := 0) (d := b_ulaw_draw) Fn hm b sc_ulaw_draw rfl rfl fun cdv A outs s H E vs hr0 hg => ?_
  have G := good_fn (P := P) (w := w) (K := K) (mg := mg) (base := base) (outs := outs) (H := H) (E := E) hr0 hg sc_ulaw_draw
  have hr : Room 0 (fnX P w K mg base ["hand", "many", "number", "cell", "digit"] "_law_draw" s_ulaw_draw f cdv A outs s H E).A := hr0
  exact (bv_cons (sv_if (tv_w (wv_and (tv_cmp (rule_eq G).op (by rfl) (ev_ixA G (ev_name (i := 0) rfl (vis_of rfl)) ev_int) ev_int) (wv_and1 (tv_cmp (rule_lt G).op (by rfl) (ev_ixA G (ev_name (i := 0) rfl (vis_of rfl)) ev_int) (ev_callB rule_len rfl T.z_len rfl (av_cons (ev_ixA G (ev_name (i := 0) rfl (vis_of rfl)) ev_int) av_nil)))))) (bv_cons (sv_set (i := 3) G rfl (loc_of rfl) (by decide) (ev_ixA G (ev_ixA G (ev_name (i := 0) rfl (vis_of rfl)) ev_int) (ev_ixA G (ev_name (i := 0) rfl (vis_of rfl)) ev_int))) (bv_cons (sv_asg (gv_ix G (ev_name (i := 0) rfl (vis_of rfl)) ev_int) (ev_op rule_add.op (ev_ixA G (ev_name (i := 0) rfl (vis_of rfl)) ev_int) ev_int)) (bv_cons (sv_asg (gv_ix G (ev_name (i := 0) rfl (vis_of rfl)) ev_int) (ev_op rule_mod.op (ev_callT rule_int rfl T.z_int rfl (av_cons (ev_op rule_add.op (ev_op rule_add.op (ev_op rule_mul.op (ev_ixA G (ev_name (i := 0) rfl (vis_of rfl)) ev_int) ev_int) (ev_op rule_mul.op (ev_name (i := 3) rfl (vis_of rfl)) ev_int)) ev_int) av_nil)) ev_int)) (bv_one (sv_if (tv_cmp (rule_ge G).op (by rfl) (ev_name (i := 3) rfl (vis_of rfl)) (ev_op rule_pow.op ev_int ev_int)) (bv_one (sv_asg (gv_ix G (ev_name (i := 0) rfl (vis_of rfl)) ev_int) (ev_name (i := 3) rfl (vis_of rfl)))) bv_nil))))) bv_nil) (bv_cons (sv_if (tv_cmp (rule_gt G).op (by rfl) (ev_ixA G (ev_name (i := 0) rfl (vis_of rfl)) ev_int) ev_int) (bv_cons (sv_set (i := 4) G rfl (loc_of rfl) (by decide) (ev_op rule_mod.op (ev_callT rule_int rfl T.z_int rfl (av_cons (ev_ixA G (ev_name (i := 0) rfl (vis_of rfl)) ev_int) av_nil)) (ev_name (i := 1) rfl (vis_of rfl)))) (bv_cons (sv_asg (gv_ix G (ev_name (i := 0) rfl (vis_of rfl)) ev_int) (ev_op rule_div.op (ev_ixA G (ev_name (i := 0) rfl (vis_of rfl)) ev_int) (ev_name (i := 1) rfl (vis_of rfl)))) (bv_one (sv_ret (ev_name (i := 4) rfl (vis_of rfl)))))) bv_nil) (bv_cons (sv_asg (gv_ix G (ev_name (i := 0) rfl (vis_of rfl)) ev_int) (ev_op rule_add.op (ev_ixA G (ev_name (i := 0) rfl (vis_of rfl)) ev_int) ev_int)) (bv_cons (sv_set (i := 2) G rfl (loc_of rfl) (by decide) (ev_op rule_mod.op (ev_callT rule_int rfl T.z_int rfl (av_cons (ev_op rule_mul.op (ev_callT rule_int rfl T.z_int rfl (av_cons (ev_op rule_add.op (ev_ixA G (ev_name (i := 0) rfl (vis_of rfl)) ev_int) (ev_op rule_mul.op ev_int (ev_ixA G (ev_name (i := 0) rfl (vis_of rfl)) ev_int))) av_nil)) ev_int) av_nil)) ev_int)) (bv_cons (sv_set (i := 2) G rfl (loc_of rfl) (by decide) (ev_op rule_mod.op (ev_callT rule_int rfl T.z_int rfl (av_cons (ev_op rule_mul.op (ev_name (i := 2) rfl (vis_of rfl)) (ev_op rule_add.op (ev_op rule_div.op (ev_name (i := 2) rfl (vis_of rfl)) ev_int) ev_int)) av_nil)) ev_int)) (bv_cons (sv_set (i := 2) G rfl (loc_of rfl) (by decide) (ev_op rule_mod.op (ev_callT rule_int rfl T.z_int rfl (av_cons (ev_op rule_mul.op (ev_name (i := 2) rfl (vis_of rfl)) (ev_op rule_add.op (ev_op rule_div.op (ev_name (i := 2) rfl (vis_of rfl)) ev_int) ev_int)) av_nil)) ev_int)) (bv_one (sv_ret (ev_op rule_mod.op (ev_callT rule_int rfl T.z_int rfl (av_cons (ev_op rule_div.op (ev_name (i := 2) rfl (vis_of rfl)) ev_int) av_nil)) (ev_name (i := 1) rfl (vis_of rfl)))))))))))
theorem sc_ulaw_any : FnScope ["hand", "some"] ["hand", "some"] (defScope s_ulaw_any) := ⟨rfl, rfl, rfl, by decide +kernel, rfl, by decide +kernel, by decide +kernel⟩
theorem c_ulaw_any (T : Txt K mg) {f : Addr} {fd : FuncData} (Fn : L2.Fun K "_law_any" "_law_any" s_ulaw_any f fd) (hm : mg "_law_any" = some (.ref f)) (b : Binds K fd ["hand", "some"] []) (c_ulaw_draw : CalG P w K mg base 1 "_law_draw" 2 f_ulaw_draw) : CalG P w K mg base 2 "_law_any" 2 f_ulaw_any := by
  refine calG (k := 1) (d := b_ulaw_any) Fn hm b sc_ulaw_any rfl rfl fun cdv A outs s H E vs hr0 hg => ?_
  have G := good_fn (P := P) (w := w) (K := K) (mg := mg) (base := base) (outs := outs) (H := H) (E := E) hr0 hg sc_ulaw_any
  have hr : Room 1 (fnX P w K mg base ["hand", "some"] "_law_any" s_ulaw_any f cdv A outs s H E).A := hr0
  exact (bv_one (sv_ret (ev_ixA G (ev_name (i := 1) rfl (vis_of rfl)) (ev_call c_ulaw_draw hr (by decide) G rfl (av_cons (ev_name (i := 0) rfl (vis_of rfl)) (av_cons (ev_callB rule_len rfl T.z_len rfl (av_cons (ev_name (i := 1) rfl (vis_of rfl)) av_nil)) av_nil))))))
theorem sc_ulaw_land : FnScope ["hand", "most", "high", "wide", "kind", "deep", "rows", "row", "line", "column", "at"] ["hand", "most"] (defScope s_ulaw_land) := ⟨rfl, rfl, rfl, by decide +kernel, rfl, by decide +kernel, by decide +kernel⟩
theorem c_ulaw_land (T : Txt K mg) {f : Addr} {fd : FuncData} (Fn : L2.Fun K "_law_land" "_law_land" s_ulaw_land f fd) (hm : mg "_law_land" = some (.ref f)) (b : Binds K fd ["hand", "most"] []) (c_ulaw_any : CalG P w K mg base 2 "_law_any" 2 f_ulaw_any) (c_ulaw_draw : CalG P w K mg base 1 "_law_draw" 2 f_ulaw_draw) : CalG P w K mg base 3 "_law_land" 2 f_ulaw_land := by
  refine calG (k := 2) (d := b_ulaw_land) Fn hm b sc_ulaw_land rfl rfl fun cdv A outs s H E vs hr0 hg => ?_
  have G := good_fn (P := P) (w := w) (K := K) (mg := mg) (base := base) (outs := outs) (H := H) (E := E) hr0 hg sc_ulaw_land
  have hr : Room 2 (fnX P w K mg base ["hand", "most", "high", "wide", "kind", "deep", "rows", "row", "line", "column", "at"] "_law_land" s_ulaw_land f cdv A outs s H E).A := hr0
  exact (bv_cons (sv_par (i := 2) (j := 3) G rfl rfl (by decide) (by decide) (by decide) rfl rfl (av_cons (ev_call c_ulaw_any hr (by decide) G rfl (av_cons (ev_name (i := 0) rfl (vis_of rfl)) (av_cons (ev_lst (av_cons (ev_name (i := 1) rfl (vis_of rfl)) (av_cons (ev_op rule_add.op ev_int (ev_call c_ulaw_draw hr (by decide) G rfl (av_cons (ev_name (i := 0) rfl (vis_of rfl)) (av_cons (ev_name (i := 1) rfl (vis_of rfl)) av_nil)))) (av_cons ev_int av_nil)))) av_nil))) (av_cons (ev_call c_ulaw_any hr (by decide) G rfl (av_cons (ev_name (i := 0) rfl (vis_of rfl)) (av_cons (ev_lst (av_cons (ev_name (i := 1) rfl (vis_of rfl)) (av_cons (ev_op rule_add.op ev_int (ev_call c_ulaw_draw hr (by decide) G rfl (av_cons (ev_name (i := 0) rfl (vis_of rfl)) (av_cons (ev_name (i := 1) rfl (vis_of rfl)) av_nil)))) (av_cons ev_int av_nil)))) av_nil))) av_nil)) rfl) (bv_cons (sv_par (i := 4) (j := 5) G rfl rfl (by decide) (by decide) (by decide) rfl rfl (av_cons (ev_call c_ulaw_draw hr (by decide) G rfl (av_cons (ev_name (i := 0) rfl (vis_of rfl)) (av_cons ev_int av_nil))) (av_cons (ev_call c_ulaw_any hr (by decide) G rfl (av_cons (ev_name (i := 0) rfl (vis_of rfl)) (av_cons (ev_lst (av_cons ev_int (av_cons ev_int (av_cons ev_int (av_cons ev_int av_nil))))) av_nil))) av_nil)) rfl) (bv_cons (sv_set (i := 6) G rfl (loc_of rfl) (by decide) (ev_lst av_nil)) (bv_cons (sv_for G PassesOwn.never (iv_range1 rfl T.z_range (av_cons (ev_name (i := 2) rfl (vis_of rfl)) av_nil)) (gv_name (i := 7) G rfl (loc_of rfl) (by decide)) (bv_cons (sv_set (i := 8) G rfl (loc_of rfl) (by decide) (ev_lst av_nil)) (bv_cons (sv_for G PassesOwn.never (iv_range1 rfl T.z_range (av_cons (ev_name (i := 3) rfl (vis_of rfl)) av_nil)) (gv_name (i := 9) G rfl (loc_of rfl) (by decide)) (bv_cons (sv_set (i := 10) G rfl (loc_of rfl) (by decide) (ev_call c_ulaw_draw hr (by decide) G rfl (av_cons (ev_name (i := 0) rfl (vis_of rfl)) (av_cons (ev_name (i := 5) rfl (vis_of rfl)) av_nil)))) (bv_cons (sv_set (i := 10) G rfl (loc_of rfl) (by decide) (ev_if (tv_cmp (rule_eq G).op (by rfl) (ev_name (i := 4) rfl (vis_of rfl)) ev_int) (ev_op rule_add.op (ev_op rule_mul.op ev_int (ev_op rule_add.op (ev_name (i := 7) rfl (vis_of rfl)) (ev_name (i := 9) rfl (vis_of rfl)))) (ev_call c_ulaw_draw hr (by decide) G rfl (av_cons (ev_name (i := 0) rfl (vis_of rfl)) (av_cons ev_int av_nil)))) (ev_if (tv_cmp (rule_eq G).op (by rfl) (ev_name (i := 4) rfl (vis_of rfl)) ev_int) (ev_call c_ulaw_any hr (by decide) G rfl (av_cons (ev_name (i := 0) rfl (vis_of rfl)) (av_cons (ev_lst (av_cons ev_int (av_cons ev_int (av_cons (ev_name (i := 10) rfl (vis_of rfl)) av_nil)))) av_nil))) (ev_name (i := 10) rfl (vis_of rfl))))) (bv_one (sv_expr (ev_append (ev_name (i := 8) rfl (vis_of rfl)) (av_cons (ev_if (tv_w (wv_and (tv_cmp (rule_eq G).op (by rfl) (ev_name (i := 4) rfl (vis_of rfl)) ev_int) (wv_and1 (tv_cmp (rule_gt G).op (by rfl) (ev_call c_ulaw_draw hr (by decide) G rfl (av_cons (ev_name (i := 0) rfl (vis_of rfl)) (av_cons ev_int av_nil))) ev_int)))) ev_int (ev_name (i := 10) rfl (vis_of rfl))) av_nil))))))) (bv_one (sv_expr (ev_append (ev_name (i := 6) rfl (vis_of rfl)) (av_cons (ev_callT rule_tuple rfl T.z_tuple rfl (av_cons (ev_name (i := 8) rfl (vis_of rfl)) av_nil)) av_nil))))))) (bv_one (sv_ret (ev_callT rule_tuple rfl T.z_tuple rfl (av_cons (ev_name (i := 6) rfl (vis_of rfl)) av_nil))))))))
theorem sc_ulaw_spots : FnScope ["land", "found", "row", "column"] ["land"] (defScope s_ulaw_spots) := ⟨rfl, rfl, rfl, by decide +kernel, rfl, by decide +kernel, by decide +kernel⟩
theorem c_ulaw_spots (T : Txt K mg) {f : Addr} {fd : FuncData} (Fn : L2.Fun K "_law_spots" "_law_spots" s_ulaw_spots f fd) (hm : mg "_law_spots" = some (.ref f)) (b : Binds K fd ["land"] []) : CalG P w K mg base 1 "_law_spots" 1 f_ulaw_spots := by
  refine calG (k := 0) (d := b_ulaw_spots) Fn hm b sc_ulaw_spots rfl rfl fun cdv A outs s H E vs hr0 hg => ?_
  have G := good_fn (P := P) (w := w) (K := K) (mg := mg) (base := base) (outs := outs) (H := H) (E := E) hr0 hg sc_ulaw_spots
  have hr : Room 0 (fnX P w K mg base ["land", "found", "row", "column"] "_law_spots" s_ulaw_spots f cdv A outs s H E).A := hr0
  exact (bv_cons (sv_set (i := 1) G rfl (loc_of rfl) (by decide) (ev_lst av_nil)) (bv_cons (sv_for G PassesOwn.never (iv_range1 rfl T.z_range (av_cons (ev_callB rule_len rfl T.z_len rfl (av_cons (ev_name (i := 0) rfl (vis_of rfl)) av_nil)) av_nil)) (gv_name (i := 2) G rfl (loc_of rfl) (by decide)) (bv_one (sv_expr (ev_extend (ev_name (i := 1) rfl (vis_of rfl)) (av_cons (ev_lc (own := [("column", 3)]) (fi := [0, 1, 2]) G (iv_range1 rfl T.z_range (av_cons (ev_callB rule_len rfl T.z_len rfl (av_cons (ev_ixA G (ev_name (i := 0) rfl (vis_of rfl)) ev_int) av_nil)) av_nil)) (blkOk_by rfl) (hfi_of rfl) (fun _ _ _ _ _ _ => (gv_name (i := 3) G.blk rfl (loc_of rfl) (by decide))) (fun _ _ _ _ _ => ptsv_nil) (fun _ _ _ _ _ => (ev_tup (av_cons (ev_name (i := 2) rfl (vis_of rfl)) (av_cons (ev_name (i := 3) rfl (vis_of rfl)) av_nil))))) av_nil))))) (bv_one (sv_ret (ev_name (i := 1) rfl (vis_of rfl))))))
theorem sc_all_spots : FnScope ["land", "found", "row", "column"] ["land"] (defScope s_all_spots) := ⟨rfl, rfl, rfl, by decide +kernel, rfl, by decide +kernel, by decide +kernel⟩
theorem c_all_spots (T : Txt K mg) {f : Addr} {fd : FuncData} (Fn : L2.Fun K "all_spots" "all_spots" s_all_spots f fd) (hm : mg "all_spots" = some (.ref f)) (b : Binds K fd ["land"] []) : CalG P w K mg base 1 "all_spots" 1 f_all_spots := by
  refine calG (k := 0) (d := b_all_spots) Fn hm b sc_all_spots rfl rfl fun cdv A outs s H E vs hr0 hg => ?_
  have G := good_fn (P := P) (w := w) (K := K) (mg := mg) (base := base) (outs := outs) (H := H) (E := E) hr0 hg sc_all_spots
  have hr : Room 0 (fnX P w K mg base ["land", "found", "row", "column"] "all_spots" s_all_spots f cdv A outs s H E).A := hr0
  exact (bv_cons (sv_set (i := 1) G rfl (loc_of rfl) (by decide) (ev_lst av_nil)) (bv_cons (sv_for G PassesOwn.never (iv_range1 rfl T.z_range (av_cons (ev_callB rule_len rfl T.z_len rfl (av_cons (ev_name (i := 0) rfl (vis_of rfl)) av_nil)) av_nil)) (gv_name (i := 2) G rfl (loc_of rfl) (by decide)) (bv_one (sv_expr (ev_extend (ev_name (i := 1) rfl (vis_of rfl)) (av_cons (ev_lc (own := [("column", 3)]) (fi := [0, 1, 2]) G (iv_range1 rfl T.z_range (av_cons (ev_callB rule_len rfl T.z_len rfl (av_cons (ev_ixA G (ev_name (i := 0) rfl (vis_of rfl)) ev_int) av_nil)) av_nil)) (blkOk_by rfl) (hfi_of rfl) (fun _ _ _ _ _ _ => (gv_name (i := 3) G.blk rfl (loc_of rfl) (by decide))) (fun _ _ _ _ _ => ptsv_nil) (fun _ _ _ _ _ => (ev_tup (av_cons (ev_name (i := 2) rfl (vis_of rfl)) (av_cons (ev_name (i := 3) rfl (vis_of rfl)) av_nil))))) av_nil))))) (bv_one (sv_ret (ev_name (i := 1) rfl (vis_of rfl))))))
theorem sc_raw_seen : FnScope ["land", "spot", "eye", "other"] ["land", "spot", "eye"] (defScope s_raw_seen) := ⟨rfl, rfl, rfl, by decide +kernel, rfl, by decide +kernel, by decide +kernel⟩
theorem c_raw_seen (T : Txt K mg) {f : Addr} {fd : FuncData} (Fn : L2.Fun K "raw_seen" "raw_seen" s_raw_seen f fd) (hm : mg "raw_seen" = some (.ref f)) (b : Binds K fd ["land", "spot", "eye"] []) (c_all_spots : CalG P w K mg base 1 "all_spots" 1 f_all_spots) (c_raw_sees : CalG P w K mg base 3 "raw_sees" 4 f_raw_sees) : CalG P w K mg base 4 "raw_seen" 3 f_raw_seen := by
  refine calG (k := 3) (d := b_raw_seen) Fn hm b sc_raw_seen rfl rfl fun cdv A outs s H E vs hr0 hg => ?_
  have G := good_fn (P := P) (w := w) (K := K) (mg := mg) (base := base) (outs := outs) (H := H) (E := E) hr0 hg sc_raw_seen
  have hr : Room 3 (fnX P w K mg base ["land", "spot", "eye", "other"] "raw_seen" s_raw_seen f cdv A outs s H E).A := hr0
  exact (bv_one (sv_ret (ev_lc (own := [("other", 3)]) (fi := [0, 1, 2]) G (iv_itemsA (ev_call c_all_spots hr (by decide) G rfl (av_cons (ev_name (i := 0) rfl (vis_of rfl)) av_nil))) (blkOk_by rfl) (hfi_of rfl) (fun _ _ _ _ _ _ => (gv_name (i := 3) G.blk rfl (loc_of rfl) (by decide))) (fun _ _ _ _ _ => (ptsv_one (tv_val (ev_call c_raw_sees hr (by decide) G.blk rfl (av_cons (ev_name (i := 0) rfl (vis_of rfl)) (av_cons (ev_name (i := 1) rfl (vis_of rfl)) (av_cons (ev_name (i := 3) rfl (vis_of rfl)) (av_cons (ev_name (i := 2) rfl (vis_of rfl)) av_nil)))))))) (fun _ _ _ _ _ => (ev_name (i := 3) rfl (vis_of rfl))))))
theorem sc_best_seat : FnScope ["land", "eye", "counts", "most", "spot", "many"] ["land", "eye"] (defScope s_best_seat) := ⟨rfl, rfl, rfl, by decide +kernel, rfl, by decide +kernel, by decide +kernel⟩
theorem c_best_seat (T : Txt K mg) {f : Addr} {fd : FuncData} (Fn : L2.Fun K "best_seat" "best_seat" s_best_seat f fd) (hm : mg "best_seat" = some (.ref f)) (b : Binds K fd ["land", "eye"] []) (c_check_land : CalG P w K mg base 6 "check_land" 1 f_check_land) (c_check_eye : CalG P w K mg base 3 "check_eye" 1 f_check_eye) (c_all_spots : CalG P w K mg base 1 "all_spots" 1 f_all_spots) (c_raw_seen : CalG P w K mg base 4 "raw_seen" 3 f_raw_seen) : CalG P w K mg base 7 "best_seat" 2 f_best_seat := by
  refine calG (k := 6) (d := b_best_seat) Fn hm b sc_best_seat rfl rfl fun cdv A outs s H E vs hr0 hg => ?_
  have G := good_fn (P := P) (w := w) (K := K) (mg := mg) (base := base) (outs := outs) (H := H) (E := E) hr0 hg sc_best_seat
  have hr : Room 6 (fnX P w K mg base ["land", "eye", "counts", "most", "spot", "many"] "best_seat" s_best_seat f cdv A outs s H E).A := hr0
  exact (bv_cons (sv_expr (ev_call c_check_land hr (by decide) G rfl (av_cons (ev_name (i := 0) rfl (vis_of rfl)) av_nil))) (bv_cons (sv_expr (ev_call c_check_eye hr (by decide) G rfl (av_cons (ev_name (i := 1) rfl (vis_of rfl)) av_nil))) (bv_cons (sv_setLc (i := 2) (own := [("spot", 4)]) (fb := [0, 1, 2, 3, 5]) G rfl rfl (by decide) rfl (iv_itemsA (ev_call c_all_spots hr (by decide) G rfl (av_cons (ev_name (i := 0) rfl (vis_of rfl)) av_nil))) (blkOk_by rfl) (hfi_of rfl) (fun _ _ _ _ _ _ => (gv_name (i := 4) G.blk rfl (loc_of rfl) (by decide))) (fun _ _ _ _ _ => ptsv_nil) (fun _ _ _ _ _ => (ev_tup (av_cons (ev_callB rule_len rfl T.z_len rfl (av_cons (ev_call c_raw_seen hr (by decide) G.blk rfl (av_cons (ev_name (i := 0) rfl (vis_of rfl)) (av_cons (ev_name (i := 4) rfl (vis_of rfl)) (av_cons (ev_name (i := 1) rfl (vis_of rfl)) av_nil)))) av_nil)) (av_cons (ev_name (i := 4) rfl (vis_of rfl)) av_nil))))) (bv_cons (sv_set (i := 3) G rfl (loc_of rfl) (by decide) (ev_callB (rule_max G) rfl T.z_max rfl (av_cons (ev_lc (own := [("many", 5), ("spot", 4)]) (fi := [0, 1, 2, 3]) G (iv_itemsA (ev_name (i := 2) rfl (vis_of rfl))) (blkOk_by rfl) (hfi_of rfl) (fun _ _ _ _ _ _ => (gv_tup (n := 2) G.blk (gvs_cons (gv_name (i := 5) G.blk rfl (loc_of rfl) (by decide)) (gvs_cons (gv_name (i := 4) G.blk rfl (loc_of rfl) (by decide)) gvs_nil)))) (fun _ _ _ _ _ => ptsv_nil) (fun _ _ _ _ _ => (ev_name (i := 5) rfl (vis_of rfl)))) av_nil))) (bv_one (sv_ret (ev_ixA G (ev_lc (own := [("many", 5), ("spot", 4)]) (fi := [0, 1, 2, 3]) G (iv_itemsA (ev_name (i := 2) rfl (vis_of rfl))) (blkOk_by rfl) (hfi_of rfl) (fun _ _ _ _ _ _ => (gv_tup (n := 2) G.blk (gvs_cons (gv_name (i := 5) G.blk rfl (loc_of rfl) (by decide)) (gvs_cons (gv_name (i := 4) G.blk rfl (loc_of rfl) (by decide)) gvs_nil)))) (fun _ _ _ _ _ => (ptsv_one (tv_cmp (rule_eq G.blk).op (by rfl) (ev_name (i := 5) rfl (vis_of rfl)) (ev_name (i := 3) rfl (vis_of rfl))))) (fun _ _ _ _ _ => (ev_name (i := 4) rfl (vis_of rfl)))) ev_int)))))))
theorem sc_seen_from : FnScope ["land", "spot", "eye"] ["land", "spot", "eye"] (defScope s_seen_from) := ⟨rfl, rfl, rfl, by decide +kernel, rfl, by decide +kernel, by decide +kernel⟩
theorem c_seen_from (T : Txt K mg) {f : Addr} {fd : FuncData} (Fn : L2.Fun K "seen_from" "seen_from" s_seen_from f fd) (hm : mg "seen_from" = some (.ref f)) (b : Binds K fd ["land", "spot", "eye"] []) (c_check_spot : CalG P w K mg base 7 "check_spot" 2 f_check_spot) (c_check_eye : CalG P w K mg base 3 "check_eye" 1 f_check_eye) (c_raw_seen : CalG P w K mg base 4 "raw_seen" 3 f_raw_seen) : CalG P w K mg base 8 "seen_from" 3 f_seen_from := by
  refine calG (k := 7) (d := b_seen_from) Fn hm b sc_seen_from rfl rfl fun cdv A outs s H E vs hr0 hg => ?_
  have G := good_fn (P := P) (w := w) (K := K) (mg := mg) (base := base) (outs := outs) (H := H) (E := E) hr0 hg sc_seen_from
  have hr : Room 7 (fnX P w K mg base ["land", "spot", "eye"] "seen_from" s_seen_from f cdv A outs s H E).A := hr0
  exact (bv_cons (sv_expr (ev_call c_check_spot hr (by decide) G rfl (av_cons (ev_name (i := 0) rfl (vis_of rfl)) (av_cons (ev_name (i := 1) rfl (vis_of rfl)) av_nil)))) (bv_cons (sv_expr (ev_call c_check_eye hr (by decide) G rfl (av_cons (ev_name (i := 2) rfl (vis_of rfl)) av_nil))) (bv_one (sv_ret (ev_callT rule_tuple rfl T.z_tuple rfl (av_cons (ev_call c_raw_seen hr (by decide) G rfl (av_cons (ev_name (i := 0) rfl (vis_of rfl)) (av_cons (ev_name (i := 1) rfl (vis_of rfl)) (av_cons (ev_name (i := 2) rfl (vis_of rfl)) av_nil)))) av_nil))))))
theorem sc_see_one : FnScope ["land", "spot", "eye", "other"] ["land", "spot", "eye"] (defScope s_see_one) := ⟨rfl, rfl, rfl, by decide +kernel, rfl, by decide +kernel, by decide +kernel⟩
theorem c_see_one (T : Txt K mg) {f : Addr} {fd : FuncData} (Fn : L2.Fun K "see_one" "see_one" s_see_one f fd) (hm : mg "see_one" = some (.ref f)) (b : Binds K fd ["land", "spot", "eye"] []) (c_check_spot : CalG P w K mg base 7 "check_spot" 2 f_check_spot) (c_check_eye : CalG P w K mg base 3 "check_eye" 1 f_check_eye) (c_all_spots : CalG P w K mg base 1 "all_spots" 1 f_all_spots) (c_raw_sees : CalG P w K mg base 3 "raw_sees" 4 f_raw_sees) : CalG P w K mg base 8 "see_one" 3 f_see_one := by
  refine calG (k := 7) (d := b_see_one) Fn hm b sc_see_one rfl rfl fun cdv A outs s H E vs hr0 hg => ?_
  have G := good_fn (P := P) (w := w) (K := K) (mg := mg) (base := base) (outs := outs) (H := H) (E := E) hr0 hg sc_see_one
  have hr : Room 7 (fnX P w K mg base ["land", "spot", "eye", "other"] "see_one" s_see_one f cdv A outs s H E).A := hr0
  exact (bv_cons (sv_expr (ev_call c_check_spot hr (by decide) G rfl (av_cons (ev_name (i := 0) rfl (vis_of rfl)) (av_cons (ev_name (i := 1) rfl (vis_of rfl)) av_nil)))) (bv_cons (sv_expr (ev_call c_check_eye hr (by decide) G rfl (av_cons (ev_name (i := 2) rfl (vis_of rfl)) av_nil))) (bv_one (sv_ret (ev_callT rule_tuple rfl T.z_tuple rfl (av_cons (ev_lc (own := [("other", 3)]) (fi := [0, 1, 2]) G (iv_itemsA (ev_call c_all_spots hr (by decide) G rfl (av_cons (ev_name (i := 0) rfl (vis_of rfl)) av_nil))) (blkOk_by rfl) (hfi_of rfl) (fun _ _ _ _ _ _ => (gv_name (i := 3) G.blk rfl (loc_of rfl) (by decide))) (fun _ _ _ _ _ => (ptsv_one (tv_val (ev_call c_raw_sees hr (by decide) G.blk rfl (av_cons (ev_name (i := 0) rfl (vis_of rfl)) (av_cons (ev_name (i := 3) rfl (vis_of rfl)) (av_cons (ev_name (i := 1) rfl (vis_of rfl)) (av_cons (ev_name (i := 2) rfl (vis_of rfl)) av_nil)))))))) (fun _ _ _ _ _ => (ev_name (i := 3) rfl (vis_of rfl)))) av_nil))))))
theorem sc_ulaw_line : FnScope ["land", "spot", "way", "found", "here"] ["land", "spot", "way"] (defScope s_ulaw_line) := ⟨rfl, rfl, rfl, by decide +kernel, rfl, by decide +kernel, by decide +kernel⟩
theorem c_ulaw_line (T : Txt K mg) {f : Addr} {fd : FuncData} (Fn : L2.Fun K "_law_line" "_law_line" s_ulaw_line f fd) (hm : mg "_law_line" = some (.ref f)) (b : Binds K fd ["land", "spot", "way"] []) : CalG P w K mg base 1 "_law_line" 3 f_ulaw_line := by
  refine calG (k := 0) (d := b_ulaw_line) Fn hm b sc_ulaw_line rfl rfl fun cdv A outs s H E vs hr0 hg => ?_
  have G := good_fn (P := P) (w := w) (K := K) (mg := mg) (base := base) (outs := outs) (H := H) (E := E) hr0 hg sc_ulaw_line
  have hr : Room 0 (fnX P w K mg base ["land", "spot", "way", "found", "here"] "_law_line" s_ulaw_line f cdv A outs s H E).A := hr0
  exact (bv_cons (sv_par (i := 3) (j := 4) G rfl rfl (by decide) (by decide) (by decide) rfl rfl (av_cons (ev_lst av_nil) (av_cons (ev_tup (av_cons (ev_op rule_add.op (ev_ixA G (ev_name (i := 1) rfl (vis_of rfl)) ev_int) (ev_ixA G (ev_name (i := 2) rfl (vis_of rfl)) ev_int)) (av_cons (ev_op rule_add.op (ev_ixA G (ev_name (i := 1) rfl (vis_of rfl)) ev_int) (ev_ixA G (ev_name (i := 2) rfl (vis_of rfl)) ev_int)) av_nil))) av_nil)) rfl) (bv_cons (sv_while PassesOwn.never (tv_w (wv_and (tv_chain (rule_le G) (rule_lt G) ev_int (ev_ixA G (ev_name (i := 4) rfl (vis_of rfl)) ev_int) (ev_callB rule_len rfl T.z_len rfl (av_cons (ev_name (i := 0) rfl (vis_of rfl)) av_nil))) (wv_and1 (tv_chain (rule_le G) (rule_lt G) ev_int (ev_ixA G (ev_name (i := 4) rfl (vis_of rfl)) ev_int) (ev_callB rule_len rfl T.z_len rfl (av_cons (ev_ixA G (ev_name (i := 0) rfl (vis_of rfl)) ev_int) av_nil)))))) (bv_cons (sv_expr (ev_append (ev_name (i := 3) rfl (vis_of rfl)) (av_cons (ev_name (i := 4) rfl (vis_of rfl)) av_nil))) (bv_one (sv_set (i := 4) G rfl (loc_of rfl) (by decide) (ev_tup (av_cons (ev_op rule_add.op (ev_ixA G (ev_name (i := 4) rfl (vis_of rfl)) ev_int) (ev_ixA G (ev_name (i := 2) rfl (vis_of rfl)) ev_int)) (av_cons (ev_op rule_add.op (ev_ixA G (ev_name (i := 4) rfl (vis_of rfl)) ev_int) (ev_ixA G (ev_name (i := 2) rfl (vis_of rfl)) ev_int)) av_nil))))))) (bv_one (sv_ret (ev_name (i := 3) rfl (vis_of rfl))))))
theorem sc_ulaw_ways : FnScope [] [] (defScope s_ulaw_ways) := ⟨rfl, rfl, rfl, by decide +kernel, rfl, by decide +kernel, by decide +kernel⟩
theorem c_ulaw_ways (T : Txt K mg) {f : Addr} {fd : FuncData} (Fn : L2.Fun K "_law_ways" "_law_ways" s_ulaw_ways f fd) (hm : mg "_law_ways" = some (.ref f)) (b : Binds K fd [] []) : CalG P w K mg base 1 "_law_ways" 0 f_ulaw_ways := by
  refine calG (k := 0) (d := b_ulaw_ways) Fn hm b sc_ulaw_ways rfl rfl fun cdv A outs s H E vs hr0 hg => ?_
  have G := good_fn (P := P) (w := w) (K := K) (mg := mg) (base := base) (outs := outs) (H := H) (E := E) hr0 hg sc_ulaw_ways
  have hr : Room 0 (fnX P w K mg base [] "_law_ways" s_ulaw_ways f cdv A outs s H E).A := hr0
  exact (bv_one (sv_ret (ev_disp (ppv_cons ev_str (ev_tup (av_cons ev_int (av_cons ev_int av_nil))) (ppv_cons ev_str (ev_tup (av_cons (ev_un rule_neg.un ev_int) (av_cons ev_int av_nil))) (ppv_cons ev_str (ev_tup (av_cons (ev_un rule_neg.un ev_int) (av_cons ev_int av_nil))) (ppv_cons ev_str (ev_tup (av_cons (ev_un rule_neg.un ev_int) (av_cons (ev_un rule_neg.un ev_int) av_nil))) (ppv_cons ev_str (ev_tup (av_cons ev_int (av_cons ev_int av_nil))) (ppv_cons ev_str (ev_tup (av_cons ev_int (av_cons ev_int av_nil))) (ppv_cons ev_str (ev_tup (av_cons ev_int (av_cons (ev_un rule_neg.un ev_int) av_nil))) (ppv_cons ev_str (ev_tup (av_cons ev_int (av_cons (ev_un rule_neg.un ev_int) av_nil))) ppv_nil)))))))))))
theorem sc_ulaw_lines : FnScope ["land", "one", "found", "way", "line", "at", "spot"] ["land", "one"] (defScope s_ulaw_lines) := ⟨rfl, rfl, rfl, by decide +kernel, rfl, by decide +kernel, by decide +kernel⟩
theorem c_ulaw_lines (T : Txt K mg) {f : Addr} {fd : FuncData} (Fn : L2.Fun K "_law_lines" "_law_lines" s_ulaw_lines f fd) (hm : mg "_law_lines" = some (.ref f)) (b : Binds K fd ["land", "one"] []) (c_ulaw_line : CalG P w K mg base 1 "_law_line" 3 f_ulaw_line) (c_ulaw_ways : CalG P w K mg base 1 "_law_ways" 0 f_ulaw_ways) : CalG P w K mg base 2 "_law_lines" 2 f_ulaw_lines := by
  refine calG (k := 1) (d := b_ulaw_lines) Fn hm b sc_ulaw_lines rfl rfl fun cdv A outs s H E vs hr0 hg => ?_
  have G := good_fn (P := P) (w := w) (K := K) (mg := mg) (base := base) (outs := outs) (H := H) (E := E) hr0 hg sc_ulaw_lines
  have hr : Room 1 (fnX P w K mg base ["land", "one", "found", "way", "line", "at", "spot"] "_law_lines" s_ulaw_lines f cdv A outs s H E).A := hr0
  exact (bv_cons (sv_set (i := 2) G rfl (loc_of rfl) (by decide) ev_dct0) (bv_cons (sv_for G PassesOwn.never (iv_vals (ev_call0 c_ulaw_ways hr (by decide) G rfl)) (gv_name (i := 3) G rfl (loc_of rfl) (by decide)) (bv_cons (sv_set (i := 4) G rfl (loc_of rfl) (by decide) (ev_call c_ulaw_line hr (by decide) G rfl (av_cons (ev_name (i := 0) rfl (vis_of rfl)) (av_cons (ev_name (i := 1) rfl (vis_of rfl)) (av_cons (ev_name (i := 3) rfl (vis_of rfl)) av_nil))))) (bv_one (sv_for G PassesOwn.never (iv_enum rfl T.z_enumerate (av_cons (ev_name (i := 4) rfl (vis_of rfl)) av_nil)) (gv_tup (n := 2) G (gvs_cons (gv_name (i := 5) G rfl (loc_of rfl) (by decide)) (gvs_cons (gv_name (i := 6) G rfl (loc_of rfl) (by decide)) gvs_nil))) (bv_one (sv_asg (gv_ix G (ev_name (i := 2) rfl (vis_of rfl)) (ev_name (i := 6) rfl (vis_of rfl))) (ev_slice (dl := none) (dh := (some (dop (fun a b => dfn gAdd [a, b]) (dname 5) (dcon (.int 1))))) (ev_name (i := 4) rfl (vis_of rfl)) po_none (po_some (ev_op rule_add.op (ev_name (i := 5) rfl (vis_of rfl)) ev_int))))))))) (bv_one (sv_ret (ev_name (i := 2) rfl (vis_of rfl))))))
theorem sc_ulaw_at : FnScope ["land", "spot"] ["land", "spot"] (defScope s_ulaw_at) := ⟨rfl, rfl, rfl, by decide +kernel, rfl, by decide +kernel, by decide +kernel⟩
theorem c_ulaw_at (T : Txt K mg) {f : Addr} {fd : FuncData} (Fn : L2.Fun K "_law_at" "_law_at" s_ulaw_at f fd) (hm : mg "_law_at" = some (.ref f)) (b : Binds K fd ["land", "spot"] []) : CalG P w K mg base 1 "_law_at" 2 f_ulaw_at := by
  refine calG (k := 0) (d := b_ulaw_at) Fn hm b sc_ulaw_at rfl rfl fun cdv A outs s H E vs hr0 hg => ?_
  have G := good_fn (P := P) (w := w) (K := K) (mg := mg) (base := base) (outs := outs) (H := H) (E := E) hr0 hg sc_ulaw_at
  have hr : Room 0 (fnX P w K mg base ["land", "spot"] "_law_at" s_ulaw_at f cdv A outs s H E).A := hr0
  exact (bv_one (sv_ret (ev_ixA G (ev_ixA G (ev_name (i := 0) rfl (vis_of rfl)) (ev_ixA G (ev_name (i := 1) rfl (vis_of rfl)) ev_int)) (ev_ixA G (ev_name (i := 1) rfl (vis_of rfl)) ev_int))))
theorem sc_ulaw_least : FnScope ["land", "one", "line", "best", "many", "at", "spot", "over"] ["land", "one", "line"] (defScope s_ulaw_least) := ⟨rfl, rfl, rfl, by decide +kernel, rfl, by decide +kernel, by decide +kernel⟩
theorem c_ulaw_least (T : Txt K mg) {f : Addr} {fd : FuncData} (Fn : L2.Fun K "_law_least" "_law_least" s_ulaw_least f fd) (hm : mg "_law_least" = some (.ref f)) (b : Binds K fd ["land", "one", "line"] []) (c_ulaw_at : CalG P w K mg base 1 "_law_at" 2 f_ulaw_at) : CalG P w K mg base 2 "_law_least" 3 f_ulaw_least := by
  refine calG (k := 1) (d := b_ulaw_least) Fn hm b sc_ulaw_least rfl rfl fun cdv A outs s H E vs hr0 hg => ?_
  have G := good_fn (P := P) (w := w) (K := K) (mg := mg) (base := base) (outs := outs) (H := H) (E := E) hr0 hg sc_ulaw_least
  have hr : Room 1 (fnX P w K mg base ["land", "one", "line", "best", "many", "at", "spot", "over"] "_law_least" s_ulaw_least f cdv A outs s H E).A := hr0
  exact (bv_cons (sv_par (i := 3) (j := 4) G rfl rfl (by decide) (by decide) (by decide) rfl rfl (av_cons ev_int (av_cons (ev_callB rule_len rfl T.z_len rfl (av_cons (ev_name (i := 2) rfl (vis_of rfl)) av_nil)) av_nil)) rfl) (bv_cons (sv_for G PassesOwn.never (iv_enum rfl T.z_enumerate (av_cons (ev_slice (dl := none) (dh := (some (dun (fun a => dfn gNeg [a]) (dcon (.int 1))))) (ev_name (i := 2) rfl (vis_of rfl)) po_none (po_some (ev_un rule_neg.un ev_int))) av_nil)) (gv_tup (n := 2) G (gvs_cons (gv_name (i := 5) G rfl (loc_of rfl) (by decide)) (gvs_cons (gv_name (i := 6) G rfl (loc_of rfl) (by decide)) gvs_nil))) (bv_cons (sv_set (i := 7) G rfl (loc_of rfl) (by decide) (ev_op rule_sub.op (ev_op rule_mul.op (ev_call c_ulaw_at hr (by decide) G rfl (av_cons (ev_name (i := 0) rfl (vis_of rfl)) (av_cons (ev_name (i := 6) rfl (vis_of rfl)) av_nil))) (ev_name (i := 4) rfl (vis_of rfl))) (ev_op rule_mul.op (ev_call c_ulaw_at hr (by decide) G rfl (av_cons (ev_name (i := 0) rfl (vis_of rfl)) (av_cons (ev_ixA G (ev_name (i := 2) rfl (vis_of rfl)) (ev_un rule_neg.un ev_int)) av_nil))) (ev_op rule_add.op (ev_name (i := 5) rfl (vis_of rfl)) ev_int)))) (bv_one (sv_set (i := 3) G rfl (loc_of rfl) (by decide) (ev_callB (rule_max G) rfl T.z_max rfl (av_cons (ev_name (i := 3) rfl (vis_of rfl)) (av_cons (ev_op rule_sub.op (ev_op rule_add.op (ev_op rule_div.op (ev_name (i := 7) rfl (vis_of rfl)) (ev_op rule_sub.op (ev_op rule_sub.op (ev_name (i := 4) rfl (vis_of rfl)) (ev_name (i := 5) rfl (vis_of rfl))) ev_int)) ev_int) (ev_call c_ulaw_at hr (by decide) G rfl (av_cons (ev_name (i := 0) rfl (vis_of rfl)) (av_cons (ev_name (i := 1) rfl (vis_of rfl)) av_nil)))) av_nil))))))) (bv_one (sv_ret (ev_name (i := 3) rfl (vis_of rfl))))))
theorem sc_sees : FnScope ["land", "one", "other", "eye"] ["land", "one", "other", "eye"] (defScope s_sees) := ⟨rfl, rfl, rfl, by decide +kernel, rfl, by decide +kernel, by decide +kernel⟩
theorem c_sees (T : Txt K mg) {f : Addr} {fd : FuncData} (Fn : L2.Fun K "sees" "sees" s_sees f fd) (hm : mg "sees" = some (.ref f)) (b : Binds K fd ["land", "one", "other", "eye"] []) (c_check_two_spots : CalG P w K mg base 8 "check_two_spots" 3 f_check_two_spots) (c_check_eye : CalG P w K mg base 3 "check_eye" 1 f_check_eye) (c_raw_sees : CalG P w K mg base 3 "raw_sees" 4 f_raw_sees) : CalG P w K mg base 9 "sees" 4 f_sees := by
  refine calG (k := 8) (d := b_sees) Fn hm b sc_sees rfl rfl fun cdv A outs s H E vs hr0 hg => ?_
  have G := good_fn (P := P) (w := w) (K := K) (mg := mg) (base := base) (outs := outs) (H := H) (E := E) hr0 hg sc_sees
  have hr : Room 8 (fnX P w K mg base ["land", "one", "other", "eye"] "sees" s_sees f cdv A outs s H E).A := hr0
  exact (bv_cons (sv_expr (ev_call c_check_two_spots hr (by decide) G rfl (av_cons (ev_name (i := 0) rfl (vis_of rfl)) (av_cons (ev_name (i := 1) rfl (vis_of rfl)) (av_cons (ev_name (i := 2) rfl (vis_of rfl)) av_nil))))) (bv_cons (sv_expr (ev_call c_check_eye hr (by decide) G rfl (av_cons (ev_name (i := 3) rfl (vis_of rfl)) av_nil))) (bv_one (sv_ret (ev_call c_raw_sees hr (by decide) G rfl (av_cons (ev_name (i := 0) rfl (vis_of rfl)) (av_cons (ev_name (i := 1) rfl (vis_of rfl)) (av_cons (ev_name (i := 2) rfl (vis_of rfl)) (av_cons (ev_name (i := 3) rfl (vis_of rfl)) av_nil)))))))))
theorem sc_ulaw_hides : FnScope ["land", "one", "line", "eye", "many", "found", "at", "spot", "step"] ["land", "one", "line", "eye"] (defScope s_ulaw_hides) := ⟨rfl, rfl, rfl, by decide +kernel, rfl, by decide +kernel, by decide +kernel⟩
theorem c_ulaw_hides (T : Txt K mg) {f : Addr} {fd : FuncData} (Fn : L2.Fun K "_law_hides" "_law_hides" s_ulaw_hides f fd) (hm : mg "_law_hides" = some (.ref f)) (b : Binds K fd ["land", "one", "line", "eye"] []) (c_ulaw_at : CalG P w K mg base 1 "_law_at" 2 f_ulaw_at) : CalG P w K mg base 2 "_law_hides" 4 f_ulaw_hides := by
  refine calG (k := 1) (d := b_ulaw_hides) Fn hm b sc_ulaw_hides rfl rfl fun cdv A outs s H E vs hr0 hg => ?_
  have G := good_fn (P := P) (w := w) (K := K) (mg := mg) (base := base) (outs := outs) (H := H) (E := E) hr0 hg sc_ulaw_hides
  have hr : Room 1 (fnX P w K mg base ["land", "one", "line", "eye", "many", "found", "at", "spot", "step"] "_law_hides" s_ulaw_hides f cdv A outs s H E).A := hr0
  exact (bv_cons (sv_par (i := 4) (j := 5) G rfl rfl (by decide) (by decide) (by decide) rfl rfl (av_cons (ev_callB rule_len rfl T.z_len rfl (av_cons (ev_name (i := 2) rfl (vis_of rfl)) av_nil)) (av_cons (ev_lst av_nil) av_nil)) rfl) (bv_cons (sv_for G PassesOwn.never (iv_enum rfl T.z_enumerate (av_cons (ev_slice (dl := none) (dh := (some (dun (fun a => dfn gNeg [a]) (dcon (.int 1))))) (ev_name (i := 2) rfl (vis_of rfl)) po_none (po_some (ev_un rule_neg.un ev_int))) av_nil)) (gv_tup (n := 2) G (gvs_cons (gv_name (i := 6) G rfl (loc_of rfl) (by decide)) (gvs_cons (gv_name (i := 7) G rfl (loc_of rfl) (by decide)) gvs_nil))) (bv_cons (sv_set (i := 8) G rfl (loc_of rfl) (by decide) (ev_op rule_add.op (ev_name (i := 6) rfl (vis_of rfl)) ev_int)) (bv_one (sv_if (tv_cmp (rule_ge G).op (by rfl) (ev_op rule_mul.op (ev_call c_ulaw_at hr (by decide) G rfl (av_cons (ev_name (i := 0) rfl (vis_of rfl)) (av_cons (ev_name (i := 7) rfl (vis_of rfl)) av_nil))) (ev_name (i := 4) rfl (vis_of rfl))) (ev_op rule_add.op (ev_op rule_mul.op (ev_op rule_add.op (ev_call c_ulaw_at hr (by decide) G rfl (av_cons (ev_name (i := 0) rfl (vis_of rfl)) (av_cons (ev_name (i := 1) rfl (vis_of rfl)) av_nil))) (ev_name (i := 3) rfl (vis_of rfl))) (ev_op rule_sub.op (ev_name (i := 4) rfl (vis_of rfl)) (ev_name (i := 8) rfl (vis_of rfl)))) (ev_op rule_mul.op (ev_call c_ulaw_at hr (by decide) G rfl (av_cons (ev_name (i := 0) rfl (vis_of rfl)) (av_cons (ev_ixA G (ev_name (i := 2) rfl (vis_of rfl)) (ev_un rule_neg.un ev_int)) av_nil))) (ev_name (i := 8) rfl (vis_of rfl))))) (bv_one (sv_expr (ev_append (ev_name (i := 5) rfl (vis_of rfl)) (av_cons (ev_name (i := 7) rfl (vis_of rfl)) av_nil)))) bv_nil)))) (bv_one (sv_ret (ev_name (i := 5) rfl (vis_of rfl))))))
theorem sc_ulaw_is_pair_right : FnScope ["hand", "land", "every", "one", "other", "lines", "need", "eye", "due", "hides"] ["hand", "land", "every"] (defScope s_ulaw_is_pair_right) := ⟨rfl, rfl, rfl, by decide +kernel, rfl, by decide +kernel, by decide +kernel⟩
theorem c_ulaw_is_pair_right (T : Txt K mg) {f : Addr} {fd : FuncData} (Fn : L2.Fun K "_law_is_pair_right" "_law_is_pair_right" s_ulaw_is_pair_right f fd) (hm : mg "_law_is_pair_right" = some (.ref f)) (b : Binds K fd ["hand", "land", "every"] []) (c_ulaw_lines : CalG P w K mg base 2 "_law_lines" 2 f_ulaw_lines) (c_ulaw_least : CalG P w K mg base 2 "_law_least" 3 f_ulaw_least) (c_ulaw_any : CalG P w K mg base 2 "_law_any" 2 f_ulaw_any) (c_ulaw_draw : CalG P w K mg base 1 "_law_draw" 2 f_ulaw_draw) (c_least_eye : CalG P w K mg base 9 "least_eye" 3 f_least_eye) (c_sees : CalG P w K mg base 9 "sees" 4 f_sees) (c_ulaw_hides : CalG P w K mg base 2 "_law_hides" 4 f_ulaw_hides) (c_hidden_by : CalG P w K mg base 9 "hidden_by" 4 f_hidden_by) : CalG P w K mg base 10 "_law_is_pair_right" 3 f_ulaw_is_pair_right := by
  refine calG (k := 9) (d := b_ulaw_is_pair_right) Fn hm b sc_ulaw_is_pair_right rfl rfl fun cdv A outs s H E vs hr0 hg => ?_
  have G := good_fn (P := P) (w := w) (K := K) (mg := mg) (base := base) (outs := outs) (H := H) (E := E) hr0 hg sc_ulaw_is_pair_right
  have hr : Room 9 (fnX P w K mg base ["hand", "land", "every", "one", "other", "lines", "need", "eye", "due", "hides"] "_law_is_pair_right" s_ulaw_is_pair_right f cdv A outs s H E).A := hr0
  exact (bv_cons (sv_par (i := 3) (j := 4) G rfl rfl (by decide) (by decide) (by decide) rfl rfl (av_cons (ev_call c_ulaw_any hr (by decide) G rfl (av_cons (ev_name (i := 0) rfl (vis_of rfl)) (av_cons (ev_name (i := 2) rfl (vis_of rfl)) av_nil))) (av_cons (ev_call c_ulaw_any hr (by decide) G rfl (av_cons (ev_name (i := 0) rfl (vis_of rfl)) (av_cons (ev_name (i := 2) rfl (vis_of rfl)) av_nil))) av_nil)) rfl) (bv_cons (sv_set (i := 5) G rfl (loc_of rfl) (by decide) (ev_call c_ulaw_lines hr (by decide) G rfl (av_cons (ev_name (i := 1) rfl (vis_of rfl)) (av_cons (ev_name (i := 3) rfl (vis_of rfl)) av_nil)))) (bv_cons (sv_if (tv_w (wv_or (tv_cmp (rule_eq G).op (by rfl) (ev_name (i := 3) rfl (vis_of rfl)) (ev_name (i := 4) rfl (vis_of rfl))) (wv_or1 (tv_cmp (rule_notInA G).op (by rfl) (ev_name (i := 4) rfl (vis_of rfl)) (ev_name (i := 5) rfl (vis_of rfl)))))) (bv_cons (sv_set (i := 8) G rfl (loc_of rfl) (by decide) (ev_if (tv_cmp (rule_eq G).op (by rfl) (ev_name (i := 3) rfl (vis_of rfl)) (ev_name (i := 4) rfl (vis_of rfl))) ev_int ev_non)) (bv_one (sv_ret (ev_and (ev_cmp (rule_eq G).op (by rfl) (ev_call c_least_eye hr (by decide) G rfl (av_cons (ev_name (i := 1) rfl (vis_of rfl)) (av_cons (ev_name (i := 3) rfl (vis_of rfl)) (av_cons (ev_name (i := 4) rfl (vis_of rfl)) av_nil)))) (ev_name (i := 8) rfl (vis_of rfl))) (ev_one (ev_cmp (rule_eq G).op (by rfl) (ev_callB (rule_repr G) rfl T.z_repr rfl (av_cons (ev_call c_sees hr (by decide) G rfl (av_cons (ev_name (i := 1) rfl (vis_of rfl)) (av_cons (ev_name (i := 3) rfl (vis_of rfl)) (av_cons (ev_name (i := 4) rfl (vis_of rfl)) (av_cons ev_int av_nil))))) av_nil)) (ev_callB (rule_repr G) rfl T.z_repr rfl (av_cons (ev_cmp (rule_eq G).op (by rfl) (ev_name (i := 3) rfl (vis_of rfl)) (ev_name (i := 4) rfl (vis_of rfl))) av_nil)))))))) bv_nil) (bv_cons (sv_set (i := 6) G rfl (loc_of rfl) (by decide) (ev_call c_ulaw_least hr (by decide) G rfl (av_cons (ev_name (i := 1) rfl (vis_of rfl)) (av_cons (ev_name (i := 3) rfl (vis_of rfl)) (av_cons (ev_ixA G (ev_name (i := 5) rfl (vis_of rfl)) (ev_name (i := 4) rfl (vis_of rfl))) av_nil))))) (bv_cons (sv_if (tv_cmp (rule_ne G).op (by rfl) (ev_callB (rule_repr G) rfl T.z_repr rfl (av_cons (ev_call c_least_eye hr (by decide) G rfl (av_cons (ev_name (i := 1) rfl (vis_of rfl)) (av_cons (ev_name (i := 3) rfl (vis_of rfl)) (av_cons (ev_name (i := 4) rfl (vis_of rfl)) av_nil)))) av_nil)) (ev_callB (rule_repr G) rfl T.z_repr rfl (av_cons (ev_name (i := 6) rfl (vis_of rfl)) av_nil))) (bv_one (sv_ret ev_bl)) bv_nil) (bv_cons (sv_for G PassesOwn.never (iv_itemsA (ev_tup (av_cons (ev_name (i := 6) rfl (vis_of rfl)) (av_cons (ev_op rule_sub.op (ev_name (i := 6) rfl (vis_of rfl)) ev_int) (av_cons (ev_call c_ulaw_draw hr (by decide) G rfl (av_cons (ev_name (i := 0) rfl (vis_of rfl)) (av_cons ev_int av_nil))) av_nil))))) (gv_name (i := 7) G rfl (loc_of rfl) (by decide)) (bv_one (sv_if (tv_chain (rule_le G) (rule_le G) ev_int (ev_name (i := 7) rfl (vis_of rfl)) ev_int) (bv_cons (sv_set (i := 9) G rfl (loc_of rfl) (by decide) (ev_callT rule_tuple rfl T.z_tuple rfl (av_cons (ev_callB (rule_sorted G) rfl T.z_sorted rfl (av_cons (ev_call c_ulaw_hides hr (by decide) G rfl (av_cons (ev_name (i := 1) rfl (vis_of rfl)) (av_cons (ev_name (i := 3) rfl (vis_of rfl)) (av_cons (ev_ixA G (ev_name (i := 5) rfl (vis_of rfl)) (ev_name (i := 4) rfl (vis_of rfl))) (av_cons (ev_name (i := 7) rfl (vis_of rfl)) av_nil))))) av_nil)) av_nil))) (bv_one (sv_if (tv_cmp (rule_ne G).op (by rfl) (ev_callB (rule_repr G) rfl T.z_repr rfl (av_cons (ev_lst (av_cons (ev_call c_sees hr (by decide) G rfl (av_cons (ev_name (i := 1) rfl (vis_of rfl)) (av_cons (ev_name (i := 3) rfl (vis_of rfl)) (av_cons (ev_name (i := 4) rfl (vis_of rfl)) (av_cons (ev_name (i := 7) rfl (vis_of rfl)) av_nil))))) (av_cons (ev_call c_hidden_by hr (by decide) G rfl (av_cons (ev_name (i := 1) rfl (vis_of rfl)) (av_cons (ev_name (i := 3) rfl (vis_of rfl)) (av_cons (ev_name (i := 4) rfl (vis_of rfl)) (av_cons (ev_name (i := 7) rfl (vis_of rfl)) av_nil))))) av_nil))) av_nil)) (ev_callB (rule_repr G) rfl T.z_repr rfl (av_cons (ev_lst (av_cons (ev_cmp (rule_eq G).op (by rfl) (ev_name (i := 9) rfl (vis_of rfl)) (ev_tup av_nil)) (av_cons (ev_if (tv_cmp (rule_ne G).op (by rfl) (ev_name (i := 9) rfl (vis_of rfl)) (ev_tup av_nil)) (ev_name (i := 9) rfl (vis_of rfl)) ev_non) av_nil))) av_nil))) (bv_one (sv_ret ev_bl)) bv_nil))) bv_nil))) (bv_one (sv_ret ev_bl))))))))
theorem sc_ulaw_seen : FnScope ["land", "one", "eye", "lines", "spot"] ["land", "one", "eye"] (defScope s_ulaw_seen) := ⟨rfl, rfl, rfl, by decide +kernel, rfl, by decide +kernel, by decide +kernel⟩
theorem c_ulaw_seen (T : Txt K mg) {f : Addr} {fd : FuncData} (Fn : L2.Fun K "_law_seen" "_law_seen" s_ulaw_seen f fd) (hm : mg "_law_seen" = some (.ref f)) (b : Binds K fd ["land", "one", "eye"] []) (c_ulaw_lines : CalG P w K mg base 2 "_law_lines" 2 f_ulaw_lines) (c_ulaw_hides : CalG P w K mg base 2 "_law_hides" 4 f_ulaw_hides) : CalG P w K mg base 3 "_law_seen" 3 f_ulaw_seen := by
  refine calG (k := 2) (d := b_ulaw_seen) Fn hm b sc_ulaw_seen rfl rfl fun cdv A outs s H E vs hr0 hg => ?_
  have G := good_fn (P := P) (w := w) (K := K) (mg := mg) (base := base) (outs := outs) (H := H) (E := E) hr0 hg sc_ulaw_seen
  have hr : Room 2 (fnX P w K mg base ["land", "one", "eye", "lines", "spot"] "_law_seen" s_ulaw_seen f cdv A outs s H E).A := hr0
  exact (bv_cons (sv_set (i := 3) G rfl (loc_of rfl) (by decide) (ev_call c_ulaw_lines hr (by decide) G rfl (av_cons (ev_name (i := 0) rfl (vis_of rfl)) (av_cons (ev_name (i := 1) rfl (vis_of rfl)) av_nil)))) (bv_one (sv_ret (ev_callT rule_tuple rfl T.z_tuple rfl (av_cons (ev_callB (rule_sorted G) rfl T.z_sorted rfl (av_cons (ev_op rule_add.op (ev_lst (av_cons (ev_name (i := 1) rfl (vis_of rfl)) av_nil)) (ev_lc (own := [("spot", 4)]) (fi := [0, 1, 2, 3]) G (iv_itemsA (ev_name (i := 3) rfl (vis_of rfl))) (blkOk_by rfl) (hfi_of rfl) (fun _ _ _ _ _ _ => (gv_name (i := 4) G.blk rfl (loc_of rfl) (by decide))) (fun _ _ _ _ _ => (ptsv_one (tv_cmp (rule_eq G.blk).op (by rfl) (ev_call c_ulaw_hides hr (by decide) G.blk rfl (av_cons (ev_name (i := 0) rfl (vis_of rfl)) (av_cons (ev_name (i := 1) rfl (vis_of rfl)) (av_cons (ev_ixA G.blk (ev_name (i := 3) rfl (vis_of rfl)) (ev_name (i := 4) rfl (vis_of rfl))) (av_cons (ev_name (i := 2) rfl (vis_of rfl)) av_nil))))) (ev_lst av_nil)))) (fun _ _ _ _ _ => (ev_name (i := 4) rfl (vis_of rfl))))) av_nil)) av_nil)))))
theorem sc_are_told_spots : FnScope ["land", "thing", "one", "other", "spot"] ["land", "thing"] (defScope s_are_told_spots) := ⟨rfl, rfl, rfl, by decide +kernel, rfl, by decide +kernel, by decide +kernel⟩
theorem c_are_told_spots (T : Txt K mg) {f : Addr} {fd : FuncData} (Fn : L2.Fun K "are_told_spots" "are_told_spots" s_are_told_spots f fd) (hm : mg "are_told_spots" = some (.ref f)) (b : Binds K fd ["land", "thing"] []) (c_is_spot_of : CalG P w K mg base 3 "is_spot_of" 2 f_is_spot_of) : CalG P w K mg base 4 "are_told_spots" 2 f_are_told_spots := by
  refine calG (k := 3) (d := b_are_told_spots) Fn hm b sc_are_told_spots rfl rfl fun cdv A outs s H E vs hr0 hg => ?_
  have G := good_fn (P := P) (w := w) (K := K) (mg := mg) (base := base) (outs := outs) (H := H) (E := E) hr0 hg sc_are_told_spots
  have hr : Room 3 (fnX P w K mg base ["land", "thing", "one", "other", "spot"] "are_told_spots" s_are_told_spots f cdv A outs s H E).A := hr0
  exact (bv_cons (sv_if (tv_w (wv_or (tv_not (tv_val (ev_callB rule_isi rfl T.z_isinstance rfl (av_cons (ev_name (i := 1) rfl (vis_of rfl)) (av_cons (ev_bltn rfl T.z_tuple rfl) av_nil))))) (wv_or1 (tv_not (tv_val (ev_callB (rule_all G) rfl T.z_all rfl (av_cons (ev_lc (own := [("spot", 4)]) (fi := [0, 1, 2, 3]) G (iv_itemsA (ev_name (i := 1) rfl (vis_of rfl))) (blkOk_by rfl) (hfi_of rfl) (fun _ _ _ _ _ _ => (gv_name (i := 4) G.blk rfl (loc_of rfl) (by decide))) (fun _ _ _ _ _ => ptsv_nil) (fun _ _ _ _ _ => (ev_call c_is_spot_of hr (by decide) G.blk rfl (av_cons (ev_name (i := 0) rfl (vis_of rfl)) (av_cons (ev_name (i := 4) rfl (vis_of rfl)) av_nil))))) av_nil))))))) (bv_one (sv_ret ev_bl)) bv_nil) (bv_one (sv_ret (ev_callB (rule_all G) rfl T.z_all rfl (av_cons (ev_lc (own := [("one", 2), ("other", 3)]) (fi := [0, 1, 4]) G (iv_zip rfl T.z_zip (av_cons (ev_name (i := 1) rfl (vis_of rfl)) (av_cons (ev_slice (dl := (some (dcon (.int 1)))) (dh := none) (ev_name (i := 1) rfl (vis_of rfl)) (po_some ev_int) po_none) av_nil))) (blkOk_by rfl) (hfi_of rfl) (fun _ _ _ _ _ _ => (gv_tup (n := 2) G.blk (gvs_cons (gv_name (i := 2) G.blk rfl (loc_of rfl) (by decide)) (gvs_cons (gv_name (i := 3) G.blk rfl (loc_of rfl) (by decide)) gvs_nil)))) (fun _ _ _ _ _ => ptsv_nil) (fun _ _ _ _ _ => (ev_cmp (rule_lt G.blk).op (by rfl) (ev_name (i := 2) rfl (vis_of rfl)) (ev_name (i := 3) rfl (vis_of rfl))))) av_nil)))))
theorem sc_never_seen : FnScope ["land", "spots_told", "eye", "found", "spot", "one"] ["land", "spots_told", "eye"] (defScope s_never_seen) := ⟨rfl, rfl, rfl, by decide +kernel, rfl, by decide +kernel, by decide +kernel⟩
theorem c_never_seen (T : Txt K mg) {f : Addr} {fd : FuncData} (Fn : L2.Fun K "never_seen" "never_seen" s_never_seen f fd) (hm : mg "never_seen" = some (.ref f)) (b : Binds K fd ["land", "spots_told", "eye"] []) (c_check_land : CalG P w K mg base 6 "check_land" 1 f_check_land) (c_check_eye : CalG P w K mg base 3 "check_eye" 1 f_check_eye) (c_all_spots : CalG P w K mg base 1 "all_spots" 1 f_all_spots) (c_are_told_spots : CalG P w K mg base 4 "are_told_spots" 2 f_are_told_spots) (c_raw_sees : CalG P w K mg base 3 "raw_sees" 4 f_raw_sees) : CalG P w K mg base 7 "never_seen" 3 f_never_seen := by
  refine calG (k := 6) (d := b_never_seen) Fn hm b sc_never_seen rfl rfl fun cdv A outs s H E vs hr0 hg => ?_
  have G := good_fn (P := P) (w := w) (K := K) (mg := mg) (base := base) (outs := outs) (H := H) (E := E) hr0 hg sc_never_seen
  have hr : Room 6 (fnX P w K mg base ["land", "spots_told", "eye", "found", "spot", "one"] "never_seen" s_never_seen f cdv A outs s H E).A := hr0
  exact (bv_cons (sv_expr (ev_call c_check_land hr (by decide) G rfl (av_cons (ev_name (i := 0) rfl (vis_of rfl)) av_nil))) (bv_cons (sv_expr (ev_call c_check_eye hr (by decide) G rfl (av_cons (ev_name (i := 2) rfl (vis_of rfl)) av_nil))) (bv_cons (sv_if (tv_not (tv_val (ev_call c_are_told_spots hr (by decide) G rfl (av_cons (ev_name (i := 0) rfl (vis_of rfl)) (av_cons (ev_name (i := 1) rfl (vis_of rfl)) av_nil))))) bv_never bv_nil) (bv_cons (sv_set (i := 3) G rfl (loc_of rfl) (by decide) (ev_lst av_nil)) (bv_cons (sv_for G PassesOwn.never (iv_itemsA (ev_call c_all_spots hr (by decide) G rfl (av_cons (ev_name (i := 0) rfl (vis_of rfl)) av_nil))) (gv_name (i := 4) G rfl (loc_of rfl) (by decide)) (bv_one (sv_if (tv_not (tv_val (ev_callB (rule_any G) rfl T.z_any rfl (av_cons (ev_lc (own := [("one", 5)]) (fi := [0, 1, 2, 3, 4]) G (iv_itemsA (ev_name (i := 1) rfl (vis_of rfl))) (blkOk_by rfl) (hfi_of rfl) (fun _ _ _ _ _ _ => (gv_name (i := 5) G.blk rfl (loc_of rfl) (by decide))) (fun _ _ _ _ _ => ptsv_nil) (fun _ _ _ _ _ => (ev_call c_raw_sees hr (by decide) G.blk rfl (av_cons (ev_name (i := 0) rfl (vis_of rfl)) (av_cons (ev_name (i := 5) rfl (vis_of rfl)) (av_cons (ev_name (i := 4) rfl (vis_of rfl)) (av_cons (ev_name (i := 2) rfl (vis_of rfl)) av_nil))))))) av_nil)))) (bv_one (sv_expr (ev_append (ev_name (i := 3) rfl (vis_of rfl)) (av_cons (ev_name (i := 4) rfl (vis_of rfl)) av_nil)))) bv_nil))) (bv_one (sv_ret (ev_callT rule_tuple rfl T.z_tuple rfl (av_cons (ev_name (i := 3) rfl (vis_of rfl)) av_nil)))))))))
theorem sc_ulaw_is_right : FnScope ["hand", "land", "every", "eye", "views", "most", "spot", "told", "due", "lot", "one", "turn", "seat"] ["hand"] (defScope s_ulaw_is_right) := ⟨rfl, rfl, rfl, by decide +kernel, rfl, by decide +kernel, by decide +kernel⟩
theorem c_ulaw_is_right (T : Txt K mg) {f : Addr} {fd : FuncData} (Fn : L2.Fun K "_law_is_right" "_law_is_right" s_ulaw_is_right f fd) (hm : mg "_law_is_right" = some (.ref f)) (b : Binds K fd ["hand"] []) (c_ulaw_land : CalG P w K mg base 3 "_law_land" 2 f_ulaw_land) (c_ulaw_any : CalG P w K mg base 2 "_law_any" 2 f_ulaw_any) (c_ulaw_spots : CalG P w K mg base 1 "_law_spots" 1 f_ulaw_spots) (c_best_seat : CalG P w K mg base 7 "best_seat" 2 f_best_seat) (c_seen_from : CalG P w K mg base 8 "seen_from" 3 f_seen_from) (c_see_one : CalG P w K mg base 8 "see_one" 3 f_see_one) (c_ulaw_is_pair_right : CalG P w K mg base 10 "_law_is_pair_right" 3 f_ulaw_is_pair_right) (c_ulaw_draw : CalG P w K mg base 1 "_law_draw" 2 f_ulaw_draw) (c_ulaw_seen : CalG P w K mg base 3 "_law_seen" 3 f_ulaw_seen) (c_never_seen : CalG P w K mg base 7 "never_seen" 3 f_never_seen) : CalG P w K mg base 11 "_law_is_right" 1 f_ulaw_is_right := by
  refine calG (k := 10) (d := b_ulaw_is_right) Fn hm b sc_ulaw_is_right rfl rfl fun cdv A outs s H E vs hr0 hg => ?_
  have G := good_fn (P := P) (w := w) (K := K) (mg := mg) (base := base) (outs := outs) (H := H) (E := E) hr0 hg sc_ulaw_is_right
  have hr : Room 10 (fnX P w K mg base ["hand", "land", "every", "eye", "views", "most", "spot", "told", "due", "lot", "one", "turn", "seat"] "_law_is_right" s_ulaw_is_right f cdv A outs s H E).A := hr0
  exact (bv_cons (sv_set (i := 1) G rfl (loc_of rfl) (by decide) (ev_call c_ulaw_land hr (by decide) G rfl (av_cons (ev_name (i := 0) rfl (vis_of rfl)) (av_cons ev_int av_nil)))) (bv_cons (sv_parT (is := [2, 3]) G (pgs_names_cons (i := 2) G rfl (loc_of rfl) (pgs_names_cons (i := 3) G rfl (loc_of rfl) pgs_names_nil)) (av_cons (ev_call c_ulaw_spots hr (by decide) G rfl (av_cons (ev_name (i := 1) rfl (vis_of rfl)) av_nil)) (av_cons (ev_call c_ulaw_any hr (by decide) G rfl (av_cons (ev_name (i := 0) rfl (vis_of rfl)) (av_cons (ev_lst (av_cons ev_int (av_cons ev_int (av_cons ev_int (av_cons (ev_call c_ulaw_draw hr (by decide) G rfl (av_cons (ev_name (i := 0) rfl (vis_of rfl)) (av_cons ev_int av_nil))) av_nil))))) av_nil))) av_nil)) (hlt_of rfl) (by decide)) (bv_cons (sv_set (i := 4) G rfl (loc_of rfl) (by decide) (ev_dict G rfl T.z_dict (av_cons (ev_lc (own := [("spot", 6)]) (fi := [0, 1, 2, 3, 4, 5, 7, 8, 9, 10, 11, 12]) G (iv_itemsA (ev_name (i := 2) rfl (vis_of rfl))) (blkOk_by rfl) (hfi_of rfl) (fun _ _ _ _ _ _ => (gv_name (i := 6) G.blk rfl (loc_of rfl) (by decide))) (fun _ _ _ _ _ => ptsv_nil) (fun _ _ _ _ _ => (ev_tup (av_cons (ev_name (i := 6) rfl (vis_of rfl)) (av_cons (ev_call c_ulaw_seen hr (by decide) G.blk rfl (av_cons (ev_name (i := 1) rfl (vis_of rfl)) (av_cons (ev_name (i := 6) rfl (vis_of rfl)) (av_cons (ev_name (i := 3) rfl (vis_of rfl)) av_nil)))) av_nil))))) av_nil))) (bv_cons (sv_set (i := 5) G rfl (loc_of rfl) (by decide) (ev_callB (rule_max G) rfl T.z_max rfl (av_cons (ev_lc (own := [("spot", 6)]) (fi := [0, 1, 2, 3, 4, 5, 7, 8, 9, 10, 11, 12]) G (iv_itemsA (ev_name (i := 2) rfl (vis_of rfl))) (blkOk_by rfl) (hfi_of rfl) (fun _ _ _ _ _ _ => (gv_name (i := 6) G.blk rfl (loc_of rfl) (by decide))) (fun _ _ _ _ _ => ptsv_nil) (fun _ _ _ _ _ => (ev_callB rule_len rfl T.z_len rfl (av_cons (ev_ixA G.blk (ev_name (i := 4) rfl (vis_of rfl)) (ev_name (i := 6) rfl (vis_of rfl))) av_nil)))) av_nil))) (bv_cons (sv_set (i := 6) G rfl (loc_of rfl) (by decide) (ev_call c_ulaw_any hr (by decide) G rfl (av_cons (ev_name (i := 0) rfl (vis_of rfl)) (av_cons (ev_name (i := 2) rfl (vis_of rfl)) av_nil)))) (bv_cons (sv_set (i := 7) G rfl (loc_of rfl) (by decide) (ev_lst (av_cons (ev_call c_best_seat hr (by decide) G rfl (av_cons (ev_name (i := 1) rfl (vis_of rfl)) (av_cons (ev_name (i := 3) rfl (vis_of rfl)) av_nil))) (av_cons (ev_call c_seen_from hr (by decide) G rfl (av_cons (ev_name (i := 1) rfl (vis_of rfl)) (av_cons (ev_name (i := 6) rfl (vis_of rfl)) (av_cons (ev_name (i := 3) rfl (vis_of rfl)) av_nil)))) (av_cons (ev_call c_see_one hr (by decide) G rfl (av_cons (ev_name (i := 1) rfl (vis_of rfl)) (av_cons (ev_name (i := 6) rfl (vis_of rfl)) (av_cons (ev_name (i := 3) rfl (vis_of rfl)) av_nil)))) av_nil))))) (bv_cons (sv_set (i := 8) G rfl (loc_of rfl) (by decide) (ev_lst (av_cons (ev_ixA G (ev_lc (own := [("one", 10)]) (fi := [0, 1, 2, 3, 4, 5, 6, 7, 8, 9, 11, 12]) G (iv_itemsA (ev_name (i := 2) rfl (vis_of rfl))) (blkOk_by rfl) (hfi_of rfl) (fun _ _ _ _ _ _ => (gv_name (i := 10) G.blk rfl (loc_of rfl) (by decide))) (fun _ _ _ _ _ => (ptsv_one (tv_cmp (rule_eq G.blk).op (by rfl) (ev_callB rule_len rfl T.z_len rfl (av_cons (ev_ixA G.blk (ev_name (i := 4) rfl (vis_of rfl)) (ev_name (i := 10) rfl (vis_of rfl))) av_nil)) (ev_name (i := 5) rfl (vis_of rfl))))) (fun _ _ _ _ _ => (ev_name (i := 10) rfl (vis_of rfl)))) ev_int) (av_cons (ev_ixA G (ev_name (i := 4) rfl (vis_of rfl)) (ev_name (i := 6) rfl (vis_of rfl))) (av_cons (ev_callT rule_tuple rfl T.z_tuple rfl (av_cons (ev_lc (own := [("one", 10)]) (fi := [0, 1, 2, 3, 4, 5, 6, 7, 8, 9, 11, 12]) G (iv_itemsA (ev_name (i := 2) rfl (vis_of rfl))) (blkOk_by rfl) (hfi_of rfl) (fun _ _ _ _ _ _ => (gv_name (i := 10) G.blk rfl (loc_of rfl) (by decide))) (fun _ _ _ _ _ => (ptsv_one (tv_cmp (rule_inA G.blk).op (by rfl) (ev_name (i := 6) rfl (vis_of rfl)) (ev_ixA G.blk (ev_name (i := 4) rfl (vis_of rfl)) (ev_name (i := 10) rfl (vis_of rfl)))))) (fun _ _ _ _ _ => (ev_name (i := 10) rfl (vis_of rfl)))) av_nil)) av_nil))))) (bv_cons (sv_if (tv_cmp (rule_ne G).op (by rfl) (ev_callB (rule_repr G) rfl T.z_repr rfl (av_cons (ev_name (i := 7) rfl (vis_of rfl)) av_nil)) (ev_callB (rule_repr G) rfl T.z_repr rfl (av_cons (ev_name (i := 8) rfl (vis_of rfl)) av_nil))) (bv_one (sv_ret ev_bl)) bv_nil) (bv_cons (sv_set (i := 9) G rfl (loc_of rfl) (by decide) (ev_callT rule_tuple rfl T.z_tuple rfl (av_cons (ev_lc (own := [("one", 10)]) (fi := [0, 1, 2, 3, 4, 5, 6, 7, 8, 9, 11, 12]) G (iv_itemsA (ev_name (i := 2) rfl (vis_of rfl))) (blkOk_by rfl) (hfi_of rfl) (fun _ _ _ _ _ _ => (gv_name (i := 10) G.blk rfl (loc_of rfl) (by decide))) (fun _ _ _ _ _ => (ptsv_one (tv_cmp (rule_eq G.blk).op (by rfl) (ev_call c_ulaw_draw hr (by decide) G.blk rfl (av_cons (ev_name (i := 0) rfl (vis_of rfl)) (av_cons ev_int av_nil))) ev_int))) (fun _ _ _ _ _ => (ev_name (i := 10) rfl (vis_of rfl)))) av_nil))) (bv_cons (sv_if (tv_w (wv_and (tv_cmp (rule_ne G).op (by rfl) (ev_name (i := 9) rfl (vis_of rfl)) (ev_tup av_nil)) (wv_and1 (tv_cmp (rule_ne G).op (by rfl) (ev_callB (rule_repr G) rfl T.z_repr rfl (av_cons (ev_call c_never_seen hr (by decide) G rfl (av_cons (ev_name (i := 1) rfl (vis_of rfl)) (av_cons (ev_name (i := 9) rfl (vis_of rfl)) (av_cons (ev_name (i := 3) rfl (vis_of rfl)) av_nil)))) av_nil)) (ev_callB (rule_repr G) rfl T.z_repr rfl (av_cons (ev_callT rule_tuple rfl T.z_tuple rfl (av_cons (ev_lc (own := [("one", 10)]) (fi := [0, 1, 2, 3, 4, 5, 6, 7, 8, 9, 11, 12]) G (iv_itemsA (ev_name (i := 2) rfl (vis_of rfl))) (blkOk_by rfl) (hfi_of rfl) (fun _ _ _ _ _ _ => (gv_name (i := 10) G.blk rfl (loc_of rfl) (by decide))) (fun _ _ _ _ _ => (ptsv_one (tv_not (tv_val (ev_callB (rule_any G.blk) rfl T.z_any rfl (av_cons (ev_lc (own := [("seat", 12)]) (fi := [0, 1, 2, 3, 4, 5, 6, 7, 8, 9, 10, 11]) G.blk (iv_itemsA (ev_name (i := 9) rfl (vis_of rfl))) (blkOk_by rfl) (hfi_of rfl) (fun _ _ _ _ _ _ => (gv_name (i := 12) G.blk.blk rfl (loc_of rfl) (by decide))) (fun _ _ _ _ _ => ptsv_nil) (fun _ _ _ _ _ => (ev_cmp (rule_inA G.blk.blk).op (by rfl) (ev_name (i := 10) rfl (vis_of rfl)) (ev_ixA G.blk.blk (ev_name (i := 4) rfl (vis_of rfl)) (ev_name (i := 12) rfl (vis_of rfl)))))) av_nil)))))) (fun _ _ _ _ _ => (ev_name (i := 10) rfl (vis_of rfl)))) av_nil)) av_nil)))))) (bv_one (sv_ret ev_bl)) bv_nil) (bv_one (sv_ret (ev_callB (rule_all G) rfl T.z_all rfl (av_cons (ev_lc (own := [("turn", 11)]) (fi := [0, 1, 2, 3, 4, 5, 6, 7, 8, 9, 10, 12]) G (iv_range1 rfl T.z_range (av_cons ev_int av_nil)) (blkOk_by rfl) (hfi_of rfl) (fun _ _ _ _ _ _ => (gv_name (i := 11) G.blk rfl (loc_of rfl) (by decide))) (fun _ _ _ _ _ => ptsv_nil) (fun _ _ _ _ _ => (ev_call c_ulaw_is_pair_right hr (by decide) G.blk rfl (av_cons (ev_name (i := 0) rfl (vis_of rfl)) (av_cons (ev_name (i := 1) rfl (vis_of rfl)) (av_cons (ev_name (i := 2) rfl (vis_of rfl)) av_nil)))))) av_nil))))))))))))))
theorem sc_law : FnScope ["script", "hand", "turn"] ["script"] (defScope s_law) := ⟨rfl, rfl, rfl, by decide +kernel, rfl, by decide +kernel, by decide +kernel⟩
theorem g_law (T : Txt K mg) {f : Addr} {fd : FuncData} (Fn : L2.Fun K "law" "law" s_law f fd) (c_ulaw_hand : CalG P w K mg base 1 "_law_hand" 1 f_ulaw_hand) (c_least_eye : CalG P w K mg base 9 "least_eye" 3 f_least_eye) (c_hidden_by : CalG P w K mg base 9 "hidden_by" 4 f_hidden_by) (c_ulaw_is_right : CalG P w K mg base 11 "_law_is_right" 1 f_ulaw_is_right) : FnG P w K mg base C8.CX0 12 f fd ["script"] (spI P w K 1 f_law) := by
  refine fnG_of (k := 11) (d := b_law) Fn sc_law rfl rfl fun cdv A outs s H E vs hr0 hg => ?_
  have G := good_fn (P := P) (w := w) (K := K) (mg := mg) (base := base) (outs := outs) (H := H) (E := E) hr0 hg sc_law
  have hr : Room 11 (fnX P w K mg base ["script", "hand", "turn"] "law" s_law f cdv A outs s H E).A := hr0
  exact (bv_cons (sv_set (i := 1) G rfl (loc_of rfl) (by decide) (ev_call c_ulaw_hand hr (by decide) G rfl (av_cons (ev_name (i := 0) rfl (vis_of rfl)) av_nil))) (bv_cons (sv_if (tv_w (wv_or (tv_cmp (rule_ne G).op (by rfl) (ev_call c_least_eye hr (by decide) G rfl (av_cons (ev_tup (av_cons (ev_tup (av_cons ev_int (av_cons ev_int (av_cons ev_int av_nil)))) av_nil)) (av_cons (ev_tup (av_cons ev_int (av_cons ev_int av_nil))) (av_cons (ev_tup (av_cons ev_int (av_cons ev_int av_nil))) av_nil)))) ev_int) (wv_or1 (tv_cmp (rule_ne G).op (by rfl) (ev_call c_hidden_by hr (by decide) G rfl (av_cons (ev_tup (av_cons (ev_tup (av_cons ev_int (av_cons ev_int (av_cons ev_int av_nil)))) av_nil)) (av_cons (ev_tup (av_cons ev_int (av_cons ev_int av_nil))) (av_cons (ev_tup (av_cons ev_int (av_cons ev_int av_nil))) (av_cons ev_int av_nil))))) (ev_tup (av_cons (ev_tup (av_cons ev_int (av_cons ev_int av_nil))) av_nil)))))) (bv_one (sv_ret ev_bl)) bv_nil) (bv_one (sv_ret (ev_callB (rule_all G) rfl T.z_all rfl (av_cons (ev_lc (own := [("turn", 2)]) (fi := [0, 1]) G (iv_range1 rfl T.z_range (av_cons ev_int av_nil)) (blkOk_by rfl) (hfi_of rfl) (fun _ _ _ _ _ _ => (gv_name (i := 2) G.blk rfl (loc_of rfl) (by decide))) (fun _ _ _ _ _ => ptsv_nil) (fun _ _ _ _ _ => (ev_call c_ulaw_is_right hr (by decide) G.blk rfl (av_cons (ev_name (i := 1) rfl (vis_of rfl)) av_nil)))) av_nil))))))
end
/-- a def of the text behind the top -/
def DefAt (K : PySem.W.Frag) (x : Str) (st : Stmt) : Prop := ∃ (f : Addr) (fd : FuncData), PySem.W.nsIn K mainGlobals x = some (some (.ref f)) ∧ L2.Fun K x x st f fd
theorem defAt {K : PySem.W.Frag} {x : Str} {st : Stmt} {f : Addr} {oc : Value} {od an : Option Addr} {osl : Array (Option Value)} {kV doc pm cdv ct : Value} (a : PySem.W.nsIn K mainGlobals x = some (some (.ref f)))
    (l : K.lookup f = some ⟨oc, od, .func (PySem.W.fnOf x x (defArgs st) (defBody st) (defScope st) .none kV doc pm an cdv ct), osl⟩) (c : PySem.W.codeIn K cdv x = true) (k : PySem.W.keepIn K (.ref f) = true) : DefAt K x st := ⟨f, _, a, fun_mk l c k⟩
def GT (K : PySem.W.Frag) (pv : PV) (u : Value) : Prop := ∃ v, RelV v u ∧ ∀ P w F, RepF P w K F pv v
def GTs (K : PySem.W.Frag) (pvs : List PV) (us : List Value) : Prop := ∃ vs, Vals vs us ∧ ∀ P w F, RepFs P w K F pvs vs
theorem gt_int {K : PySem.W.Frag} {i : Int} {t : Tok} : GT K (.int i) (.int i t) := ⟨.int i, ⟨t, rfl⟩, fun _ _ _ => by rw [RepF]⟩
theorem gt_str {K : PySem.W.Frag} {x : Str} {t : Tok} : GT K (.str x) (.str x t) := ⟨.str x, ⟨t, rfl⟩, fun _ _ _ => by rw [RepF]⟩
theorem gts_nil {K : PySem.W.Frag} : GTs K [] [] := ⟨[], .nil, fun _ _ _ => by rw [RepFs]⟩
theorem gts_cons {K : PySem.W.Frag} {p : PV} {ps : List PV} {u : Value} {us : List Value} (h : GT K p u) (h2 : GTs K ps us) : GTs K (p :: ps) (u :: us) := by
  obtain ⟨v, r, k⟩ := h
  obtain ⟨vs, r2, k2⟩ := h2
  exact ⟨v :: vs, .cons r r2, fun P w F => by rw [RepFs]; exact ⟨v, vs, rfl, k P w F, k2 P w F⟩⟩
theorem gt_tup {K : PySem.W.Frag} {a : Addr} {od : Option Addr} {its : Array Value} {n : Nat} {sl : Array (Option Value)} {ps : List PV} (l : K.lookup a = some ⟨.type "tuple", od, .seq its n, sl⟩) (z : its.size ≤ 1000) (h : GTs K ps its.toList) : GT K (.tup ps) (.ref a) := by
  obtain ⟨vs, r, k⟩ := h
  have hz : (16777216 : Nat) = sizeLine := sl24
  exact ⟨.ref a, rfl, fun P w F => by rw [RepF]; exact ⟨a, vs, rfl, .inr ⟨_, its, n, l, rfl, rfl, by omega, r⟩, k P w F⟩⟩
theorem gc_of {K : PySem.W.Frag} {h : Heap} {mg : Str → Option Value} {x : Str} {u : Value} {pv : PV} (X : K.In h) (G : h.Ns mainGlobals mg) (a : PySem.W.nsIn K mainGlobals x = some (some u)) (g : GT K pv u) : GC K mg x pv := by
  obtain ⟨v, r, k⟩ := g
  exact ⟨u, v, PySem.W.mg_of X G a, r, k⟩
theorem all_mk {P : Program} {w : World} {K : PySem.W.Frag} {h : Heap} {mg : Str → Option Value} {fa : Addr} (X : K.In h) (G : h.Ns mainGlobals mg) (hfa : mg "law" = some (.ref fa)) (T : Txt K mg)
    (D_ulaw_hand : DefAt K "_law_hand" s_ulaw_hand) (D_is_integer : DefAt K "is_integer" s_is_integer) (D_is_within : DefAt K "is_within" s_is_within) (D_is_height : DefAt K "is_height" s_is_height) (D_is_row : DefAt K "is_row" s_is_row) (D_is_land : DefAt K "is_land" s_is_land) (D_check_land : DefAt K "check_land" s_check_land) (D_is_tuple_of : DefAt K "is_tuple_of" s_is_tuple_of) (D_is_spot_of : DefAt K "is_spot_of" s_is_spot_of) (D_check_spot : DefAt K "check_spot" s_check_spot) (D_check_two_spots : DefAt K "check_two_spots" s_check_two_spots) (D_stepped : DefAt K "stepped" s_stepped) (D_sign_by : DefAt K "sign_by" s_sign_by) (D_line_to : DefAt K "line_to" s_line_to) (D_height_of : DefAt K "height_of" s_height_of) (D_eye_over : DefAt K "eye_over" s_eye_over) (D_least_eye : DefAt K "least_eye" s_least_eye) (D_check_eye : DefAt K "check_eye" s_check_eye) (D_hiding_spots : DefAt K "hiding_spots" s_hiding_spots) (D_raw_sees : DefAt K "raw_sees" s_raw_sees) (D_hidden_by : DefAt K "hidden_by" s_hidden_by) (D_ulaw_draw : DefAt K "_law_draw" s_ulaw_draw) (D_ulaw_any : DefAt K "_law_any" s_ulaw_any) (D_ulaw_land : DefAt K "_law_land" s_ulaw_land) (D_ulaw_spots : DefAt K "_law_spots" s_ulaw_spots) (D_all_spots : DefAt K "all_spots" s_all_spots) (D_raw_seen : DefAt K "raw_seen" s_raw_seen) (D_best_seat : DefAt K "best_seat" s_best_seat) (D_seen_from : DefAt K "seen_from" s_seen_from) (D_see_one : DefAt K "see_one" s_see_one) (D_ulaw_line : DefAt K "_law_line" s_ulaw_line) (D_ulaw_ways : DefAt K "_law_ways" s_ulaw_ways) (D_ulaw_lines : DefAt K "_law_lines" s_ulaw_lines) (D_ulaw_at : DefAt K "_law_at" s_ulaw_at) (D_ulaw_least : DefAt K "_law_least" s_ulaw_least) (D_sees : DefAt K "sees" s_sees) (D_ulaw_hides : DefAt K "_law_hides" s_ulaw_hides) (D_ulaw_is_pair_right : DefAt K "_law_is_pair_right" s_ulaw_is_pair_right) (D_ulaw_seen : DefAt K "_law_seen" s_ulaw_seen) (D_are_told_spots : DefAt K "are_told_spots" s_are_told_spots) (D_never_seen : DefAt K "never_seen" s_never_seen) (D_ulaw_is_right : DefAt K "_law_is_right" s_ulaw_is_right) (D_law : DefAt K "law" s_law) :
    ∃ fd : FuncData, (∀ (s : Shared) (v : Value), BindsTo s fd ⟨[v], []⟩ [("script", v)]) ∧ ∀ base : Heap, K.In base → base.Ns mainGlobals mg → FnG P w K mg base C8.CX0 12 fa fd ["script"] (spI P w K 1 f_law) := by
  obtain ⟨a_ulaw_hand, d_ulaw_hand, m_ulaw_hand, F_ulaw_hand⟩ := D_ulaw_hand
  obtain ⟨a_is_integer, d_is_integer, m_is_integer, F_is_integer⟩ := D_is_integer
  obtain ⟨a_is_within, d_is_within, m_is_within, F_is_within⟩ := D_is_within
  obtain ⟨a_is_height, d_is_height, m_is_height, F_is_height⟩ := D_is_height
  obtain ⟨a_is_row, d_is_row, m_is_row, F_is_row⟩ := D_is_row
  obtain ⟨a_is_land, d_is_land, m_is_land, F_is_land⟩ := D_is_land
  obtain ⟨a_check_land, d_check_land, m_check_land, F_check_land⟩ := D_check_land
  obtain ⟨a_is_tuple_of, d_is_tuple_of, m_is_tuple_of, F_is_tuple_of⟩ := D_is_tuple_of
  obtain ⟨a_is_spot_of, d_is_spot_of, m_is_spot_of, F_is_spot_of⟩ := D_is_spot_of
  obtain ⟨a_check_spot, d_check_spot, m_check_spot, F_check_spot⟩ := D_check_spot
  obtain ⟨a_check_two_spots, d_check_two_spots, m_check_two_spots, F_check_two_spots⟩ := D_check_two_spots
  obtain ⟨a_stepped, d_stepped, m_stepped, F_stepped⟩ := D_stepped
  obtain ⟨a_sign_by, d_sign_by, m_sign_by, F_sign_by⟩ := D_sign_by
  obtain ⟨a_line_to, d_line_to, m_line_to, F_line_to⟩ := D_line_to
  obtain ⟨a_height_of, d_height_of, m_height_of, F_height_of⟩ := D_height_of
  obtain ⟨a_eye_over, d_eye_over, m_eye_over, F_eye_over⟩ := D_eye_over
  obtain ⟨a_least_eye, d_least_eye, m_least_eye, F_least_eye⟩ := D_least_eye
  obtain ⟨a_check_eye, d_check_eye, m_check_eye, F_check_eye⟩ := D_check_eye
  obtain ⟨a_hiding_spots, d_hiding_spots, m_hiding_spots, F_hiding_spots⟩ := D_hiding_spots
  obtain ⟨a_raw_sees, d_raw_sees, m_raw_sees, F_raw_sees⟩ := D_raw_sees
  obtain ⟨a_hidden_by, d_hidden_by, m_hidden_by, F_hidden_by⟩ := D_hidden_by
  obtain ⟨a_ulaw_draw, d_ulaw_draw, m_ulaw_draw, F_ulaw_draw⟩ := D_ulaw_draw
  obtain ⟨a_ulaw_any, d_ulaw_any, m_ulaw_any, F_ulaw_any⟩ := D_ulaw_any
  obtain ⟨a_ulaw_land, d_ulaw_land, m_ulaw_land, F_ulaw_land⟩ := D_ulaw_land
  obtain ⟨a_ulaw_spots, d_ulaw_spots, m_ulaw_spots, F_ulaw_spots⟩ := D_ulaw_spots
  obtain ⟨a_all_spots, d_all_spots, m_all_spots, F_all_spots⟩ := D_all_spots
  obtain ⟨a_raw_seen, d_raw_seen, m_raw_seen, F_raw_seen⟩ := D_raw_seen
  obtain ⟨a_best_seat, d_best_seat, m_best_seat, F_best_seat⟩ := D_best_seat
  obtain ⟨a_seen_from, d_seen_from, m_seen_from, F_seen_from⟩ := D_seen_from
  obtain ⟨a_see_one, d_see_one, m_see_one, F_see_one⟩ := D_see_one
  obtain ⟨a_ulaw_line, d_ulaw_line, m_ulaw_line, F_ulaw_line⟩ := D_ulaw_line
  obtain ⟨a_ulaw_ways, d_ulaw_ways, m_ulaw_ways, F_ulaw_ways⟩ := D_ulaw_ways
  obtain ⟨a_ulaw_lines, d_ulaw_lines, m_ulaw_lines, F_ulaw_lines⟩ := D_ulaw_lines
  obtain ⟨a_ulaw_at, d_ulaw_at, m_ulaw_at, F_ulaw_at⟩ := D_ulaw_at
  obtain ⟨a_ulaw_least, d_ulaw_least, m_ulaw_least, F_ulaw_least⟩ := D_ulaw_least
  obtain ⟨a_sees, d_sees, m_sees, F_sees⟩ := D_sees
  obtain ⟨a_ulaw_hides, d_ulaw_hides, m_ulaw_hides, F_ulaw_hides⟩ := D_ulaw_hides
  obtain ⟨a_ulaw_is_pair_right, d_ulaw_is_pair_right, m_ulaw_is_pair_right, F_ulaw_is_pair_right⟩ := D_ulaw_is_pair_right
  obtain ⟨a_ulaw_seen, d_ulaw_seen, m_ulaw_seen, F_ulaw_seen⟩ := D_ulaw_seen
  obtain ⟨a_are_told_spots, d_are_told_spots, m_are_told_spots, F_are_told_spots⟩ := D_are_told_spots
  obtain ⟨a_never_seen, d_never_seen, m_never_seen, F_never_seen⟩ := D_never_seen
  obtain ⟨a_ulaw_is_right, d_ulaw_is_right, m_ulaw_is_right, F_ulaw_is_right⟩ := D_ulaw_is_right
  obtain ⟨a_law, d_law, m_law, F_law⟩ := D_law
  obtain rfl : a_law = fa := by
    have e := (PySem.W.mg_of X G m_law).symm.trans hfa
    cases e
    rfl
  refine ⟨d_law, ?_, fun base _ _ => ?_⟩
  · obtain ⟨oc, od, kV, doc, pm, an, cdv, ct, osl, rfl, lk, hcd⟩ := F_law.ex
    exact fun s v => .of_eq rfl
  · have C_ulaw_hand := c_ulaw_hand (P := P) (w := w) (base := base) T F_ulaw_hand (PySem.W.mg_of X G m_ulaw_hand) (F_ulaw_hand.binds (ps := ["script"]) fun _ _ _ _ _ _ us hl => match us, hl with | [_], _ => rfl) 
    have C_is_integer := c_is_integer (P := P) (w := w) (base := base) T F_is_integer (PySem.W.mg_of X G m_is_integer) (F_is_integer.binds (ps := ["thing"]) fun _ _ _ _ _ _ us hl => match us, hl with | [_], _ => rfl) 
    have C_is_within := c_is_within (P := P) (w := w) (base := base) T F_is_within (PySem.W.mg_of X G m_is_within) (F_is_within.binds (ps := ["thing", "least", "most"]) fun _ _ _ _ _ _ us hl => match us, hl with | [_, _, _], _ => rfl) C_is_integer
    have C_is_height := c_is_height (P := P) (w := w) (base := base) T F_is_height (PySem.W.mg_of X G m_is_height) (F_is_height.binds (ps := ["thing"]) fun _ _ _ _ _ _ us hl => match us, hl with | [_], _ => rfl) C_is_within
    have C_is_row := c_is_row (P := P) (w := w) (base := base) T F_is_row (PySem.W.mg_of X G m_is_row) (F_is_row.binds (ps := ["thing"]) fun _ _ _ _ _ _ us hl => match us, hl with | [_], _ => rfl) C_is_height
    have C_is_land := c_is_land (P := P) (w := w) (base := base) T F_is_land (PySem.W.mg_of X G m_is_land) (F_is_land.binds (ps := ["thing"]) fun _ _ _ _ _ _ us hl => match us, hl with | [_], _ => rfl) C_is_row
    have C_check_land := c_check_land (P := P) (w := w) (base := base) T F_check_land (PySem.W.mg_of X G m_check_land) (F_check_land.binds (ps := ["land"]) fun _ _ _ _ _ _ us hl => match us, hl with | [_], _ => rfl) C_is_land
    have C_is_tuple_of := c_is_tuple_of (P := P) (w := w) (base := base) T F_is_tuple_of (PySem.W.mg_of X G m_is_tuple_of) (F_is_tuple_of.binds (ps := ["thing", "size"]) fun _ _ _ _ _ _ us hl => match us, hl with | [_, _], _ => rfl) 
    have C_is_spot_of := c_is_spot_of (P := P) (w := w) (base := base) T F_is_spot_of (PySem.W.mg_of X G m_is_spot_of) (F_is_spot_of.binds (ps := ["land", "thing"]) fun _ _ _ _ _ _ us hl => match us, hl with | [_, _], _ => rfl) C_is_within C_is_tuple_of
    have C_check_spot := c_check_spot (P := P) (w := w) (base := base) T F_check_spot (PySem.W.mg_of X G m_check_spot) (F_check_spot.binds (ps := ["land", "spot"]) fun _ _ _ _ _ _ us hl => match us, hl with | [_, _], _ => rfl) C_check_land C_is_spot_of
    have C_check_two_spots := c_check_two_spots (P := P) (w := w) (base := base) T F_check_two_spots (PySem.W.mg_of X G m_check_two_spots) (F_check_two_spots.binds (ps := ["land", "one", "other"]) fun _ _ _ _ _ _ us hl => match us, hl with | [_, _, _], _ => rfl) C_check_spot
    have C_stepped := c_stepped (P := P) (w := w) (base := base) T F_stepped (PySem.W.mg_of X G m_stepped) (F_stepped.binds (ps := ["spot", "step", "times"]) fun _ _ _ _ _ _ us hl => match us, hl with | [_, _, _], _ => rfl) 
    have C_sign_by := c_sign_by (P := P) (w := w) (base := base) T F_sign_by (PySem.W.mg_of X G m_sign_by) (F_sign_by.binds (ps := ["number"]) fun _ _ _ _ _ _ us hl => match us, hl with | [_], _ => rfl) 
    have C_line_to := c_line_to (P := P) (w := w) (base := base) T F_line_to (PySem.W.mg_of X G m_line_to) (F_line_to.binds (ps := ["one", "other"]) fun _ _ _ _ _ _ us hl => match us, hl with | [_, _], _ => rfl) C_stepped C_sign_by
    have C_height_of := c_height_of (P := P) (w := w) (base := base) T F_height_of (PySem.W.mg_of X G m_height_of) (F_height_of.binds (ps := ["land", "spot"]) fun _ _ _ _ _ _ us hl => match us, hl with | [_, _], _ => rfl) 
    have C_eye_over := c_eye_over (P := P) (w := w) (base := base) T F_eye_over (PySem.W.mg_of X G m_eye_over) (F_eye_over.binds (ps := ["land", "one", "line", "times"]) fun _ _ _ _ _ _ us hl => match us, hl with | [_, _, _, _], _ => rfl) C_height_of
    have C_least_eye := c_least_eye (P := P) (w := w) (base := base) T F_least_eye (PySem.W.mg_of X G m_least_eye) (F_least_eye.binds (ps := ["land", "one", "other"]) fun _ _ _ _ _ _ us hl => match us, hl with | [_, _, _], _ => rfl) C_check_two_spots C_line_to C_eye_over
    have C_check_eye := c_check_eye (P := P) (w := w) (base := base) T F_check_eye (PySem.W.mg_of X G m_check_eye) (F_check_eye.binds (ps := ["eye"]) fun _ _ _ _ _ _ us hl => match us, hl with | [_], _ => rfl) C_is_within
    have C_hiding_spots := c_hiding_spots (P := P) (w := w) (base := base) T F_hiding_spots (PySem.W.mg_of X G m_hiding_spots) (F_hiding_spots.binds (ps := ["land", "one", "line", "eye"]) fun _ _ _ _ _ _ us hl => match us, hl with | [_, _, _, _], _ => rfl) C_height_of
    have C_raw_sees := c_raw_sees (P := P) (w := w) (base := base) T F_raw_sees (PySem.W.mg_of X G m_raw_sees) (F_raw_sees.binds (ps := ["land", "one", "other", "eye"]) fun _ _ _ _ _ _ us hl => match us, hl with | [_, _, _, _], _ => rfl) C_line_to C_hiding_spots
    have C_hidden_by := c_hidden_by (P := P) (w := w) (base := base) T F_hidden_by (PySem.W.mg_of X G m_hidden_by) (F_hidden_by.binds (ps := ["land", "one", "other", "eye"]) fun _ _ _ _ _ _ us hl => match us, hl with | [_, _, _, _], _ => rfl) C_check_two_spots C_check_eye C_raw_sees C_line_to C_hiding_spots
    have C_ulaw_draw := c_ulaw_draw (P := P) (w := w) (base := base) T F_ulaw_draw (PySem.W.mg_of X G m_ulaw_draw) (F_ulaw_draw.binds (ps := ["hand", "many"]) fun _ _ _ _ _ _ us hl => match us, hl with | [_, _], _ => rfl) 
    have C_ulaw_any := c_ulaw_any (P := P) (w := w) (base := base) T F_ulaw_any (PySem.W.mg_of X G m_ulaw_any) (F_ulaw_any.binds (ps := ["hand", "some"]) fun _ _ _ _ _ _ us hl => match us, hl with | [_, _], _ => rfl) C_ulaw_draw
    have C_ulaw_land := c_ulaw_land (P := P) (w := w) (base := base) T F_ulaw_land (PySem.W.mg_of X G m_ulaw_land) (F_ulaw_land.binds (ps := ["hand", "most"]) fun _ _ _ _ _ _ us hl => match us, hl with | [_, _], _ => rfl) C_ulaw_any C_ulaw_draw
    have C_ulaw_spots := c_ulaw_spots (P := P) (w := w) (base := base) T F_ulaw_spots (PySem.W.mg_of X G m_ulaw_spots) (F_ulaw_spots.binds (ps := ["land"]) fun _ _ _ _ _ _ us hl => match us, hl with | [_], _ => rfl) 
    have C_all_spots := c_all_spots (P := P) (w := w) (base := base) T F_all_spots (PySem.W.mg_of X G m_all_spots) (F_all_spots.binds (ps := ["land"]) fun _ _ _ _ _ _ us hl => match us, hl with | [_], _ => rfl) 
    have C_raw_seen := c_raw_seen (P := P) (w := w) (base := base) T F_raw_seen (PySem.W.mg_of X G m_raw_seen) (F_raw_seen.binds (ps := ["land", "spot", "eye"]) fun _ _ _ _ _ _ us hl => match us, hl with | [_, _, _], _ => rfl) C_all_spots C_raw_sees
    have C_best_seat := c_best_seat (P := P) (w := w) (base := base) T F_best_seat (PySem.W.mg_of X G m_best_seat) (F_best_seat.binds (ps := ["land", "eye"]) fun _ _ _ _ _ _ us hl => match us, hl with | [_, _], _ => rfl) C_check_land C_check_eye C_all_spots C_raw_seen
    have C_seen_from := c_seen_from (P := P) (w := w) (base := base) T F_seen_from (PySem.W.mg_of X G m_seen_from) (F_seen_from.binds (ps := ["land", "spot", "eye"]) fun _ _ _ _ _ _ us hl => match us, hl with | [_, _, _], _ => rfl) C_check_spot C_check_eye C_raw_seen
    have C_see_one := c_see_one (P := P) (w := w) (base := base) T F_see_one (PySem.W.mg_of X G m_see_one) (F_see_one.binds (ps := ["land", "spot", "eye"]) fun _ _ _ _ _ _ us hl => match us, hl with | [_, _, _], _ => rfl) C_check_spot C_check_eye C_all_spots C_raw_sees
    have C_ulaw_line := c_ulaw_line (P := P) (w := w) (base := base) T F_ulaw_line (PySem.W.mg_of X G m_ulaw_line) (F_ulaw_line.binds (ps := ["land", "spot", "way"]) fun _ _ _ _ _ _ us hl => match us, hl with | [_, _, _], _ => rfl) 
    have C_ulaw_ways := c_ulaw_ways (P := P) (w := w) (base := base) T F_ulaw_ways (PySem.W.mg_of X G m_ulaw_ways) (F_ulaw_ways.binds (ps := []) fun _ _ _ _ _ _ us hl => match us, hl with | [], _ => rfl) 
    have C_ulaw_lines := c_ulaw_lines (P := P) (w := w) (base := base) T F_ulaw_lines (PySem.W.mg_of X G m_ulaw_lines) (F_ulaw_lines.binds (ps := ["land", "one"]) fun _ _ _ _ _ _ us hl => match us, hl with | [_, _], _ => rfl) C_ulaw_line C_ulaw_ways
    have C_ulaw_at := c_ulaw_at (P := P) (w := w) (base := base) T F_ulaw_at (PySem.W.mg_of X G m_ulaw_at) (F_ulaw_at.binds (ps := ["land", "spot"]) fun _ _ _ _ _ _ us hl => match us, hl with | [_, _], _ => rfl) 
    have C_ulaw_least := c_ulaw_least (P := P) (w := w) (base := base) T F_ulaw_least (PySem.W.mg_of X G m_ulaw_least) (F_ulaw_least.binds (ps := ["land", "one", "line"]) fun _ _ _ _ _ _ us hl => match us, hl with | [_, _, _], _ => rfl) C_ulaw_at
    have C_sees := c_sees (P := P) (w := w) (base := base) T F_sees (PySem.W.mg_of X G m_sees) (F_sees.binds (ps := ["land", "one", "other", "eye"]) fun _ _ _ _ _ _ us hl => match us, hl with | [_, _, _, _], _ => rfl) C_check_two_spots C_check_eye C_raw_sees
    have C_ulaw_hides := c_ulaw_hides (P := P) (w := w) (base := base) T F_ulaw_hides (PySem.W.mg_of X G m_ulaw_hides) (F_ulaw_hides.binds (ps := ["land", "one", "line", "eye"]) fun _ _ _ _ _ _ us hl => match us, hl with | [_, _, _, _], _ => rfl) C_ulaw_at
    have C_ulaw_is_pair_right := c_ulaw_is_pair_right (P := P) (w := w) (base := base) T F_ulaw_is_pair_right (PySem.W.mg_of X G m_ulaw_is_pair_right) (F_ulaw_is_pair_right.binds (ps := ["hand", "land", "every"]) fun _ _ _ _ _ _ us hl => match us, hl with | [_, _, _], _ => rfl) C_ulaw_lines C_ulaw_least C_ulaw_any C_ulaw_draw C_least_eye C_sees C_ulaw_hides C_hidden_by
    have C_ulaw_seen := c_ulaw_seen (P := P) (w := w) (base := base) T F_ulaw_seen (PySem.W.mg_of X G m_ulaw_seen) (F_ulaw_seen.binds (ps := ["land", "one", "eye"]) fun _ _ _ _ _ _ us hl => match us, hl with | [_, _, _], _ => rfl) C_ulaw_lines C_ulaw_hides
    have C_are_told_spots := c_are_told_spots (P := P) (w := w) (base := base) T F_are_told_spots (PySem.W.mg_of X G m_are_told_spots) (F_are_told_spots.binds (ps := ["land", "thing"]) fun _ _ _ _ _ _ us hl => match us, hl with | [_, _], _ => rfl) C_is_spot_of
    have C_never_seen := c_never_seen (P := P) (w := w) (base := base) T F_never_seen (PySem.W.mg_of X G m_never_seen) (F_never_seen.binds (ps := ["land", "spots_told", "eye"]) fun _ _ _ _ _ _ us hl => match us, hl with | [_, _, _], _ => rfl) C_check_land C_check_eye C_all_spots C_are_told_spots C_raw_sees
    have C_ulaw_is_right := c_ulaw_is_right (P := P) (w := w) (base := base) T F_ulaw_is_right (PySem.W.mg_of X G m_ulaw_is_right) (F_ulaw_is_right.binds (ps := ["hand"]) fun _ _ _ _ _ _ us hl => match us, hl with | [_], _ => rfl) C_ulaw_land C_ulaw_any C_ulaw_spots C_best_seat C_seen_from C_see_one C_ulaw_is_pair_right C_ulaw_draw C_ulaw_seen C_never_seen
    exact g_law T F_law C_ulaw_hand C_least_eye C_hidden_by C_ulaw_is_right
end Wk
namespace Wk
open PySem PySem.Spec PyProof.Rows L2 Pv
abbrev Land := List (List Int)
/-- lists of things as trees, shut -/
def pis (l : List Int) : List PV := l.map .int
def pvRow (r : List Int) : PV := .tup (pis r)
def rowsP (L : Land) : List PV := L.map pvRow
def pvLand (L : Land) : PV := .tup (rowsP L)
def pvS (s : Int × Int) : PV := .tup [.int s.1, .int s.2]
def sps (l : List (Int × Int)) : List PV := l.map pvS
def rowAt (L : Land) (i : Int) : List Int := L.getD i.toNat []
def cellAt (r : List Int) (i : Int) : Int := r.getD i.toNat 0
def ht (L : Land) (s : Int × Int) : Int := cellAt (rowAt L s.1) s.2
@[simp] theorem fzs_i {l : List Int} : PV.fzs (pis l) = true := fzs_ints
@[simp] theorem fz_row {r : List Int} : (pvRow r).fz = true := by simp [pvRow]
@[simp] theorem fzs_r {L : Land} : PV.fzs (rowsP L) = true := fzs_map fun _ => fz_row
@[simp] theorem fz_land {L : Land} : (pvLand L).fz = true := by simp [pvLand]
@[simp] theorem fz_S {s : Int × Int} : (pvS s).fz = true := by simp [pvS]
@[simp] theorem fzs_s {l : List (Int × Int)} : PV.fzs (sps l) = true := fzs_map fun _ => fz_S
@[simp] theorem frz_row {r : List Int} : (pvRow r).frz = pvRow r := PV.frz_of_fz _ fz_row
@[simp] theorem frz_land {L : Land} : (pvLand L).frz = pvLand L := PV.frz_of_fz _ fz_land
@[simp] theorem frz_S {s : Int × Int} : (pvS s).frz = pvS s := PV.frz_of_fz _ fz_S
@[simp] theorem frzs_i {l : List Int} : PV.frzs (pis l) = pis l := frzs_of fzs_i
@[simp] theorem frzs_r {l : Land} : PV.frzs (rowsP l) = rowsP l := frzs_of fzs_r
@[simp] theorem frzs_s {l : List (Int × Int)} : PV.frzs (sps l) = sps l := frzs_of fzs_s
@[simp] theorem len_i {l : List Int} : (pis l).length = l.length := by simp [pis]
@[simp] theorem len_r {l : Land} : (rowsP l).length = l.length := by simp [rowsP]
@[simp] theorem len_s {l : List (Int × Int)} : (sps l).length = l.length := by simp [sps]
@[simp] theorem pis_app {a b : List Int} : pis a ++ pis b = pis (a ++ b) := by simp [pis]
@[simp] theorem rows_app {a b : Land} : rowsP a ++ rowsP b = rowsP (a ++ b) := by simp [rowsP]
@[simp] theorem sps_app {a b : List (Int × Int)} : sps a ++ sps b = sps (a ++ b) := by simp [sps]
@[simp] theorem pis_snoc {a : List Int} {v : Int} : pis a ++ [PV.int v] = pis (a ++ [v]) := by simp [pis]
@[simp] theorem pis_mid {a b : List Int} {v : Int} : pis a ++ PV.int v :: pis b = pis (a ++ v :: b) := by simp [pis]
@[simp] theorem rows_snoc {a : Land} {v : List Int} : rowsP a ++ [pvRow v] = rowsP (a ++ [v]) := by simp [rowsP]
@[simp] theorem rows_mid {a b : Land} {v : List Int} : rowsP a ++ pvRow v :: rowsP b = rowsP (a ++ v :: b) := by simp [rowsP]
@[simp] theorem intsP_i {l : List Int} : intsP (pis l) = some l := intsP_map
@[simp] theorem ixA_S0 {a : Sl} {s : Int × Int} : ixA a (some (pvS s)) (some (.int 0)) = some (.val (.int s.1)) := rfl
@[simp] theorem ixA_S1 {a : Sl} {s : Int × Int} : ixA a (some (pvS s)) (some (.int 1)) = some (.val (.int s.2)) := rfl
def InL (L : Land) (s : Int × Int) : Prop := 0 ≤ s.1 ∧ s.1 < L.length ∧ 0 ≤ s.2 ∧ s.2 < (rowAt L s.1).length
theorem ixA_land {a : Sl} {L : Land} {i : Int} (h0 : 0 ≤ i) (h1 : i < L.length) : ixA a (some (pvLand L)) (some (.int i)) = some (.val (pvRow (rowAt L i))) := by
  unfold pvLand rowAt rowsP
  rw [ixA_tup]
  unfold ixV
  have e : atI (L.map pvRow) i = some (pvRow (L.getD i.toNat [])) := by
    rw [atI_nat h0 (by simpa using h1) (pvRow [])]
    simp [List.getD, List.getElem?_map]
  dsimp only
  rw [e]
  rfl
theorem ixA_row {a : Sl} {r : List Int} {i : Int} (h0 : 0 ≤ i) (h1 : i < r.length) : ixA a (some (pvRow r)) (some (.int i)) = some (.val (.int (cellAt r i))) := by
  unfold pvRow cellAt pis
  rw [ixA_tup]
  unfold ixV
  have e : atI (r.map PV.int) i = some (.int (r.getD i.toNat 0)) := by
    rw [atI_nat h0 (by simpa using h1) (.int 0)]
    simp [List.getD, List.getElem?_map]
  dsimp only
  rw [e]
  rfl
def rowS (w : Nat) (r : Nat) : List (Int × Int) := (List.range w).map fun (c : Nat) => ((r : Int), (c : Int))
def spotsTo (w : Nat) : Nat → List (Int × Int)
  | 0 => []
  | n + 1 => spotsTo w n ++ rowS w n
def wid (L : Land) : Nat := (rowAt L 0).length
def spots (L : Land) : List (Int × Int) := spotsTo (wid L) L.length
@[simp] theorem gLen_land {L : Land} : gLen [pvLand L] = some (.int L.length) := by simp [pvLand]
@[simp] theorem gLen_row {r : List Int} : gLen [pvRow r] = some (.int r.length) := by simp [pvRow]
theorem spotsTo_len {w : Nat} : ∀ n, (spotsTo w n).length = n * w
  | 0 => by simp [spotsTo]
  | n + 1 => by rw [spotsTo, List.length_append, spotsTo_len n, rowS, List.length_map, List.length_range, Nat.add_mul, Nat.one_mul]
theorem sp_all_spots {L : Land} (h1 : 0 < L.length) (h2 : L.length ≤ 100) (h3 : wid L ≤ 100) : f_all_spots [pvLand L] = some (.lst true (sps (spots L)), [pvLand L]) := by
  refine fn_val (wp_exit rfl ?_)
  unfold b_all_spots
  have hb : okB (L.length : Int) := okB_nat (by omega)
  have hw : okB ((rowAt L 0).length : Int) := okB_nat (by have : (rowAt L 0).length = wid L := rfl; omega)
  have h0 : (0 : Int) < L.length := by omega
  simp [hb, rangeP0]
  refine wp_forP (fun i e => ∃ x, e = [.val (pvLand L), .val (.lst true (sps (spotsTo (wid L) i))), x, .un]) (n := 0) ⟨.un, rfl⟩ (fun i p e hp ⟨x, he⟩ => ?_) (fun e ⟨x, he⟩ => ?_)
  · subst he
    obtain ⟨hi, rfl⟩ : i < L.length ∧ p = .int (i : Int) := by
      rw [List.getElem?_map] at hp
      cases e : (List.range L.length)[i]? with
      | none => rw [e] at hp; cases hp
      | some k =>
        rw [e] at hp
        obtain ⟨h1, h2⟩ := List.getElem?_eq_some_iff.mp e
        simp at h1 h2
        subst h2
        exact ⟨h1, (Option.some.inj hp).symm⟩
    have hw2 : wid L = (rowAt L 0).length := rfl
    simp [ixA_land, h1, hw, rangeP0]
    refine ⟨by omega, ?_⟩
    refine wp_lcT (f := fun (k : Nat) => PV.int (k : Int)) (fun _ => true) (fun k => pvS ((i : Int), (k : Int))) (fun k hk => ?_) ?_
    · simp [pvS]
    · have e5 : ((List.range (rowAt L 0).length).filter fun _ => true).map (fun (k : Nat) => pvS ((i : Int), (k : Int))) = sps (rowS (wid L) i) := by simp [sps, rowS, hw2]
      rw [e5]
      have h4 : (rowAt L 0).length ≤ 100 := h3
      have h5 : i * (rowAt L 0).length ≤ 100 * 100 := Nat.mul_le_mul (by omega) h4
      have e6 : (rowS (wid L) i).length = wid L := by simp [rowS]
      simp [spotsTo, spotsTo_len, e6]
      rw [hw2]
      omega
  · subst he
    simp [spots]
end Wk
namespace Wk
open PySem PySem.Spec PyProof.Rows L2 Pv
@[simp] theorem isi_int_int {i : Int} : gIsi [.int i, .ty "int"] = some (.bl true) := rfl
@[simp] theorem isi_int_bool {i : Int} : gIsi [.int i, .ty "bool"] = some (.bl false) := rfl
@[simp] theorem isi_tup_tuple {xs : List PV} : gIsi [.tup xs, .ty "tuple"] = some (.bl true) := rfl
@[simp] theorem isi_lst_tuple {o : Bool} {xs : List PV} : gIsi [.lst o xs, .ty "tuple"] = some (.bl false) := rfl
@[simp] theorem isi_non_tuple : gIsi [.non, .ty "tuple"] = some (.bl false) := rfl
theorem sp_is_integer {i : Int} : f_is_integer [.int i] = some (.bl true, [.int i]) := by
  refine fn_val (wp_exit rfl ?_)
  unfold b_is_integer
  simp
theorem sp_is_within {i a b : Int} : f_is_within [.int i, .int a, .int b] = some (.bl (decide (a ≤ i ∧ i ≤ b)), [.int i, .int a, .int b]) := by
  refine fn_val (wp_exit rfl ?_)
  unfold b_is_within
  simp [sp_is_integer]
  by_cases h : a ≤ i <;> simp [h]
theorem sp_is_height {i : Int} : f_is_height [.int i] = some (.bl (decide (0 ≤ i ∧ i ≤ 1000)), [.int i]) := by
  refine fn_val (wp_exit rfl ?_)
  unfold b_is_height
  simp [sp_is_within]
def rowOk (r : List Int) : Bool := decide (1 ≤ r.length ∧ r.length ≤ 8) && r.all fun i => decide (0 ≤ i ∧ i ≤ 1000)
theorem fn_ex {f : FnD} {args : List PV} {R : PV → List PV → Prop} (h : ∃ r as, f args = some (r, as) ∧ R r as) : gate (f args) fun z => R z.1 z.2 := by
  obtain ⟨r, as, h1, h2⟩ := h
  rw [h1]
  exact h2
theorem sp_is_row {r : List Int} (hr : r.length ≤ 1000) : f_is_row [pvRow r] = some (.bl (rowOk r), [pvRow r]) := by
  refine fn_val (wp_exit rfl ?_)
  unfold b_is_row
  simp [pvRow]
  by_cases h : 1 ≤ r.length
  · by_cases h8 : r.length ≤ 8
    · have e1 : (1 : Int) ≤ r.length := by omega
      have e2 : (r.length : Int) ≤ 8 := by omega
      simp [e1, e2]
      refine ⟨by omega, ?_⟩
      refine wp_lcT (fun _ => true) (fun i => .bl (decide (0 ≤ i ∧ i ≤ 1000))) (fun k hk => ?_) ?_
      · simp [sp_is_height]
      · simp [rowOk, h, h8, blsP_of]
    · have e1 : (1 : Int) ≤ r.length := by omega
      have e2 : ¬ (r.length : Int) ≤ 8 := by omega
      simp [e1, e2, rowOk, h8]
  · have e1 : ¬ (1 : Int) ≤ r.length := by omega
    simp [e1, rowOk, h]
def landOk (L : Land) : Bool := decide (1 ≤ L.length ∧ L.length ≤ 8) && (L.all rowOk && L.all fun r => decide (r.length = wid L))
theorem rowOk_len {r : List Int} (h : rowOk r = true) : r.length ≤ 8 := by
  simp [rowOk] at h
  exact h.1.2
theorem rowOk_pos {r : List Int} (h : rowOk r = true) : 1 ≤ r.length := by
  simp [rowOk] at h
  exact h.1.1
theorem sp_is_land {L : Land} (hr : ∀ r ∈ L, r.length ≤ 1000) (hl : L.length ≤ 1000) : f_is_land [pvLand L] = some (.bl (landOk L), [pvLand L]) := by
  refine fn_val (wp_exit rfl ?_)
  unfold b_is_land
  simp [pvLand]
  by_cases h : 1 ≤ L.length
  · by_cases h8 : L.length ≤ 8
    · have e1 : (1 : Int) ≤ L.length := by omega
      have e2 : (L.length : Int) ≤ 8 := by omega
      simp [e1, e2]
      refine ⟨by omega, ?_⟩
      refine wp_lcT (fun _ => true) (fun r => .bl (rowOk r)) (fun k hk => ?_) ?_
      · simp [sp_is_row (hr k hk)]
      · simp [blsP_of]
        by_cases ha : L.all rowOk = true
        · have ha' : ∀ x ∈ L, rowOk x = true := by simpa using ha
          rw [if_pos ha']
          refine ⟨by omega, ?_⟩
          refine wp_lcT (fun _ => true) (fun r => .bl (decide (r.length = wid L))) (fun k hk => ?_) ?_
          · have e3 := ixA_land (L := L) (a := .val (pvLand L)) (i := 0) (by omega) (by omega)
            unfold pvLand at e3
            simp [e3, wid]
            exact decide_eq_decide.mpr (by omega)
          · have ha2 : (L.all rowOk) = true := ha
            simp [blsP_of, landOk, h, h8]
            intro _
            exact ha'
        · have ha' : ¬ ∀ x ∈ L, rowOk x = true := by simpa using ha
          rw [if_neg ha']
          simp [landOk]
          intro _ _ h
          exact absurd h ha'
    · have e1 : (1 : Int) ≤ L.length := by omega
      have e2 : ¬ (L.length : Int) ≤ 8 := by omega
      simp [e1, e2, landOk, h8]
  · have e1 : ¬ (1 : Int) ≤ L.length := by omega
    simp [e1, landOk, h]
theorem landOk_len {L : Land} (h : landOk L = true) : 1 ≤ L.length ∧ L.length ≤ 8 := by
  simp [landOk] at h
  exact h.1
theorem landOk_row {L : Land} (h : landOk L = true) : ∀ r ∈ L, r.length = wid L ∧ rowOk r = true := by
  simp [landOk] at h
  exact fun r hr => ⟨h.2.2 r hr, h.2.1 r hr⟩
theorem rowAt_mem {L : Land} {i : Int} (h0 : 0 ≤ i) (h1 : i < L.length) : rowAt L i ∈ L := by
  unfold rowAt
  have : i.toNat < L.length := by omega
  simp [List.getD, List.getElem?_eq_getElem this]
theorem landOk_wid {L : Land} (h : landOk L = true) : 1 ≤ wid L ∧ wid L ≤ 8 := by
  have h1 := landOk_len h
  have h2 := landOk_row h (rowAt L 0) (rowAt_mem (by omega) (by omega))
  have h3 := rowOk_len h2.2
  have h4 := rowOk_pos h2.2
  exact ⟨h4, h3⟩
theorem sp_is_land' {L : Land} (h : landOk L = true) : f_is_land [pvLand L] = some (.bl true, [pvLand L]) := by
  rw [sp_is_land (fun r hr => by have := rowOk_len (landOk_row h r hr).2; omega) (by have := landOk_len h; omega), h]
theorem sp_check_land {L : Land} (h : landOk L = true) : f_check_land [pvLand L] = some (.non, [pvLand L]) := by
  refine fn_val (wp_exit rfl ?_)
  unfold b_check_land
  simp [sp_is_land' h]
theorem sp_height_of {L : Land} {s : Int × Int} (h : InL L s) : f_height_of [pvLand L, pvS s] = some (.int (ht L s), [pvLand L, pvS s]) := by
  obtain ⟨a1, a2, a3, a4⟩ := h
  refine fn_val (wp_exit rfl ?_)
  unfold b_height_of
  simp [ixA_land, ixA_row, ht, *]
/-- within the land's sides -/
def inB (L : Land) (s : Int × Int) : Bool := decide ((0 ≤ s.1 ∧ s.1 < L.length) ∧ (0 ≤ s.2 ∧ s.2 < wid L))
theorem ixA_land0 {a : Sl} {L : Land} (h : 1 ≤ L.length) : ixA a (some (pvLand L)) (some (.int 0)) = some (.val (pvRow (rowAt L 0))) := ixA_land (by omega) (by omega)
end Wk
namespace Wk
open PySem PySem.Spec PyProof.Rows L2 Pv
def iabs (x : Int) : Int := if x < 0 then -x else x
theorem ixV_pis {a : Sl} {o : Bool} {cs : List Int} {i : Int} (h0 : 0 ≤ i) (h1 : i < cs.length) : ixV a (some (.lst o (pis cs))) (some (.int i)) = some (.val (.int (cellAt cs i))) := by
  unfold cellAt pis ixV
  have e : (cs.map PV.int)[i.toNat]? = some (.int (cs.getD i.toNat 0)) := by
    have : i.toNat < cs.length := by omega
    rw [List.getElem?_map, List.getElem?_eq_getElem this]
    simp [List.getD, List.getElem?_eq_getElem this]
  dsimp only
  rw [ixN_nat h0 (by simpa using h1)]
  dsimp only
  rw [e]
  rfl
structure Hand where
  cs : List Int
  i : Int
  a : Int
  b : Int
  c : Int
def pvH (h : Hand) : PV := .lst true [.lst false (pis h.cs), .int h.i, .int h.a, .int h.b, .int h.c]
structure HandOk (h : Hand) : Prop where
  i0 : 0 ≤ h.i
  a0 : 0 ≤ h.a
  cs0 : ∀ x ∈ h.cs, 0 ≤ x
section
variable {h : Hand} {e : Sl} {v : Int}
@[simp] theorem fz_H : (pvH h).fz = false := by simp [pvH]
@[simp] theorem flat_H : flatP (pvH h) = true := by simp [pvH]
theorem ixA_H0 : ixA e (some (pvH h)) (some (.int 0)) = some (.val (.lst false (pis h.cs))) := by simp [ixV, pvH, ixN]
theorem ixA_H1 : ixA e (some (pvH h)) (some (.int 1)) = some (.val (.int h.i)) := by simp [ixV, pvH, ixN]
theorem ixA_H2 : ixA e (some (pvH h)) (some (.int 2)) = some (.val (.int h.a)) := by simp [ixV, pvH, ixN]
theorem ixA_H3 : ixA e (some (pvH h)) (some (.int 3)) = some (.val (.int h.b)) := by simp [ixV, pvH, ixN]
theorem ixA_H4 : ixA e (some (pvH h)) (some (.int 4)) = some (.val (.int h.c)) := by simp [ixV, pvH, ixN]
theorem st_H1 : storeO (pvH h) (.int 1) (.int v) = some (pvH { h with i := v }) := by simp [storeO, pvH, ixN]
theorem st_H2 : storeO (pvH h) (.int 2) (.int v) = some (pvH { h with a := v }) := by simp [storeO, pvH, ixN]
theorem st_H3 : storeO (pvH h) (.int 3) (.int v) = some (pvH { h with b := v }) := by simp [storeO, pvH, ixN]
theorem st_H4 : storeO (pvH h) (.int 4) (.int v) = some (pvH { h with c := v }) := by simp [storeO, pvH, ixN]
end
theorem mulOk_r {a k : Int} (h1 : -18446744073709551616 < k) (h2 : k < 18446744073709551616) : mulOk a k = true := by
  simp [mulOk, h1, h2]
theorem mulOk_l {a k : Int} (h1 : -18446744073709551616 < k) (h2 : k < 18446744073709551616) : mulOk k a = true := by
  simp [mulOk, h1, h2]
theorem mulOk_mod {x m y : Int} (h0 : 0 < m) (h1 : m < 18446744073709551616) : mulOk (x % m) y = true := by
  have h2 := Int.emod_nonneg x (show m ≠ 0 by omega)
  have h3 := Int.emod_lt_of_pos x h0
  exact mulOk_l (by omega) (by omega)
theorem log_ok {b : Int} (h0 : 0 < b) (h1 : b < 4611686018427387904) : b.natAbs.log2 < 9000 := by
  have : b.natAbs.log2 < 62 := by
    rw [Nat.log2_lt (by omega)]
    have : (2 : Nat) ^ 62 = 4611686018427387904 := by decide
    omega
  omega
theorem gPow_int {a b : Int} : gPow [.int a, .int b] = if 0 ≤ b ∧ b ≤ 1000000 ∧ a.natAbs < 2 ^ 64 then some (.int (a ^ b.toNat)) else none := rfl
theorem gPow_18 : gPow [.int 10, .int 18] = some (.int 1000000000000000000) := by
  rw [gPow_int, if_pos (by decide)]
  rfl
theorem gDiv_ok {a b : Int} (h0 : 0 < b) (h1 : b < 4611686018427387904) : gDiv [.int a, .int b] = some (.int (a / b)) := by
  rw [gDiv_int, if_pos ⟨h0, log_ok h0 h1⟩]
theorem cell_nn {cs : List Int} (h : ∀ x ∈ cs, 0 ≤ x) (i : Int) : 0 ≤ cellAt cs i := by
  unfold cellAt
  rw [List.getD]
  cases e : cs[i.toNat]? with
  | none => simp
  | some x => simpa using h x (List.mem_of_getElem? e)
theorem sp_draw {h : Hand} {m : Int} (ok : HandOk h) (hm : 0 < m) (hm2 : m < 1000000) : ∃ r as, f_ulaw_draw [pvH h, .int m] = some (r, as) ∧ ∃ k h', r = .int k ∧ as = [pvH h', .int m] ∧ 0 ≤ k ∧ k < m ∧ HandOk h' := by
  have fin : ∀ x : Int, 0 ≤ x % m ∧ x % m < m := fun x => ⟨Int.emod_nonneg x (by omega), Int.emod_lt_of_pos x hm⟩
  refine wp_exit rfl ?_
  unfold b_ulaw_draw
  have l1 : Nat.log2 1009 < 9000 := by decide
  have l2 : Nat.log2 2003 < 9000 := by decide
  have l3 : Nat.log2 16 < 9000 := by decide
  have m1 : ∀ x, mulOk 7919 x = true := fun x => mulOk_l (by decide) (by decide)
  have m2 : ∀ x y, mulOk (x % 2147483647) y = true := fun x y => mulOk_mod (by decide) (by decide)
  have hm3 : m < 4611686018427387904 := by omega
  simp [ixA_H2, ixA_H1, ixA_H0, gLen_lst]
  by_cases h2 : h.a = 0
  · by_cases hi : h.i < (h.cs.length : Int)
    · have hc := cell_nn ok.cs0 h.i
      by_cases hb : 1000000000000000000 ≤ cellAt h.cs h.i
      · have hp : 0 < cellAt h.cs h.i := by omega
        simp [h2, hi, ixA_H0, ixA_H1, ixA_H2, ixA_H3, ixA_H4, ixV_pis ok.i0 hi, st_H1, st_H2, st_H3, st_H4, mulOk_r, gPow_18, hb, gDiv_ok hm hm3, hp, hm]
        exact ⟨_, rfl, (fin _).1, (fin _).2, ⟨by have := ok.i0; show 0 ≤ h.i + 1; omega, Int.ediv_nonneg hc (by omega), ok.cs0⟩⟩
      · simp [h2, hi, ixA_H0, ixA_H1, ixA_H2, ixA_H3, ixA_H4, ixV_pis ok.i0 hi, st_H1, st_H2, st_H3, st_H4, mulOk_r, gPow_18, hb, l1, l2, l3, m1, m2, hm]
        exact ⟨_, rfl, (fin _).1, (fin _).2, ⟨by have := ok.i0; show 0 ≤ h.i + 1; omega, Int.le_refl 0, ok.cs0⟩⟩
    · simp [h2, hi, ixA_H0, ixA_H1, ixA_H2, ixA_H3, ixA_H4, st_H1, st_H2, st_H3, st_H4, mulOk_r, l1, l2, l3, m1, m2, hm]
      exact ⟨_, rfl, (fin _).1, (fin _).2, ⟨ok.i0, Int.le_refl 0, ok.cs0⟩⟩
  · have hp : 0 < h.a := by have := ok.a0; omega
    simp [h2, hp, ixA_H0, ixA_H1, ixA_H2, ixA_H3, ixA_H4, st_H1, st_H2, st_H3, st_H4, gDiv_ok hm hm3, hm]
    exact ⟨log_ok hm hm3, _, rfl, (fin _).1, (fin _).2, ⟨ok.i0, Int.ediv_nonneg ok.a0 (by omega), ok.cs0⟩⟩
/-- a drawn number -/
theorem draw {h : Hand} {m : Int} (ok : HandOk h) (hm : 0 < m) (hm2 : m < 1000000) : ∃ k h', f_ulaw_draw [pvH h, .int m] = some (.int k, [pvH h', .int m]) ∧ 0 ≤ k ∧ k < m ∧ HandOk h' := by
  obtain ⟨r, as, e, k, h', rfl, rfl, h1, h2, h3⟩ := sp_draw ok hm hm2
  exact ⟨k, h', e, h1, h2, h3⟩
/-- one of some -/
theorem any {h : Hand} {xs : List PV} {o : Bool} (ok : HandOk h) (hz : PV.fzs xs = true) (hn : 0 < xs.length) (hl : xs.length < 1000000) :
    ∃ x h', x ∈ xs ∧ f_ulaw_any [pvH h, .lst o xs] = some (x, [pvH h', .lst o xs]) ∧ HandOk h' := by
  obtain ⟨k, h', e, h1, h2, h3⟩ := draw (m := xs.length) ok (by omega) (by omega)
  have hk : k.toNat < xs.length := by omega
  obtain ⟨x, hg⟩ : ∃ x, xs[k.toNat]? = some x := ⟨_, List.getElem?_eq_getElem hk⟩
  have hf : x.fz = true := PV.fzs_mem hz (List.mem_of_getElem? hg)
  refine ⟨x, h', List.mem_of_getElem? hg, ?_, h3⟩
  refine fn_val (wp_exit rfl ?_)
  unfold b_ulaw_any
  have e2 : ∀ a : Sl, ixA a (some (PV.lst o xs)) (some (.int k)) = some (.val x) := fun a => by
    rw [ixA_lst]
    unfold ixV
    dsimp only
    rw [ixN_nat h1 h2]
    dsimp only
    rw [hg]
    dsimp only
    rw [if_pos hf]
  cases o with
  | true => simp [e, hz, e2]
  | false => simp [e, hz, e2]
theorem sp_hand {ns : List Int} (hn : ns.length ≤ 1000) : ∃ h as, f_ulaw_hand [.frl (ns.map .int)] = some (pvH h, as) ∧ HandOk h := by
  have key : ∃ r as, f_ulaw_hand [.frl (ns.map .int)] = some (r, as) ∧ ∃ h, r = pvH h ∧ HandOk h := by
    refine wp_exit rfl ?_
    unfold b_ulaw_hand
    have hc : cutO (some (.frl (ns.map PV.int))) none (some 63) = some (.lst true (pis (ns.take 63))) := by
      show some (PV.lst true (cutP (ns.map PV.int) none (some 63))) = _
      have : cutP (ns.map PV.int) none (some 63) = pis (ns.take 63) := by
        unfold cutP HT.sIx pis
        simp [List.map_take]
      rw [this]
    simp [hc]
    refine ⟨by omega, ?_⟩
    refine wp_lcT (fun _ => true) (fun x => .int (iabs x)) (fun q hq => ?_) ?_
    · simp [iabs]
    · have e : ((ns.take 63).filter fun _ => true).map (fun x => PV.int (iabs x)) = pis ((ns.take 63).map fun x => iabs x) := by
        simp [pis]
        rfl
      rw [e]
      generalize hg : (ns.take 63).map (fun x => iabs x) = cs
      simp [mulOk_l]
      refine ⟨⟨cs, 0, 0, _, 0⟩, rfl, ⟨Int.le_refl 0, Int.le_refl 0, fun x hx => ?_⟩⟩
      have hx : x ∈ cs := hx
      rw [← hg, List.mem_map] at hx
      obtain ⟨y, _, rfl⟩ := hx
      show 0 ≤ iabs y
      unfold iabs
      split <;> omega
  obtain ⟨r, as, h1, h, rfl, h2⟩ := key
  exact ⟨h, as, h1, h2⟩
end Wk
namespace Wk
open PySem PySem.Spec PyProof.Rows L2 Pv
def inR (m : Int) (L : Land) : Prop := ∀ r ∈ L, ∀ x ∈ r, 0 ≤ x ∧ x ≤ m
structure LandIs (L : Land) (w : Nat) : Prop where
  row : ∀ r ∈ L, r.length = w
  wd : w = wid L
  h1 : 1 ≤ L.length
  h2 : L.length ≤ 8
  w2 : w ≤ 8
noncomputable def cell1 : D Fl := (dset 10 (dcallF f_ulaw_draw (dcons (dname 0) (dcons (dname 5) dnil))))
noncomputable def cell2 : D Fl := (dset 10 (dif (dtst (dop (fun a b => dfn gEq [a, b]) (dname 4) (dcon (.int 0)))) (dop (fun a b => dfn gAdd [a, b]) (dop (fun a b => dfn gMul [a, b]) (dcon (.int 3)) (dop (fun a b => dfn gAdd [a, b]) (dname 7) (dname 9))) (dcallF f_ulaw_draw (dcons (dname 0) (dcons (dcon (.int 2)) dnil)))) (dif (dtst (dop (fun a b => dfn gEq [a, b]) (dname 4) (dcon (.int 1)))) (dcallF f_ulaw_any (dcons (dname 0) (dcons (dlst (dcons (dcon (.int 0)) (dcons (dcon (.int 1000)) (dcons (dname 10) dnil)))) dnil))) (dname 10))))
noncomputable def cell3 : D Fl := (dexpr (dmeth gAppend (dname 8) (dcons (dif (dtand (dtst (dop (fun a b => dfn gEq [a, b]) (dname 4) (dcon (.int 2)))) (dtst (dop (fun a b => dfn gGt [a, b]) (dcallF f_ulaw_draw (dcons (dname 0) (dcons (dcon (.int 9)) dnil))) (dcon (.int 0))))) (dcon (.int 5)) (dname 10)) dnil)))
noncomputable def colD : D Fl := dfor (.nm 9) (drange1 (dcons (dname 3) dnil)) (dseq cell1 (dseq cell2 cell3))
noncomputable def rowD : D Fl := dfor (.nm 7) (drange1 (dcons (dname 2) dnil)) (dseq (dset 8 (dlst dnil)) (dseq colD (dexpr (dmeth gAppend (dname 6) (dcons (dcall (dfn gTuple) (dcons (dname 8) dnil)) dnil)))))
noncomputable def ld1 : D Fl := (dpars [2, 3] (dcons (dcallF f_ulaw_any (dcons (dname 0) (dcons (dlst (dcons (dname 1) (dcons (dop (fun a b => dfn gAdd [a, b]) (dcon (.int 1)) (dcallF f_ulaw_draw (dcons (dname 0) (dcons (dname 1) dnil)))) (dcons (dcon (.int 1)) dnil)))) dnil))) (dcons (dcallF f_ulaw_any (dcons (dname 0) (dcons (dlst (dcons (dname 1) (dcons (dop (fun a b => dfn gAdd [a, b]) (dcon (.int 1)) (dcallF f_ulaw_draw (dcons (dname 0) (dcons (dname 1) dnil)))) (dcons (dcon (.int 1)) dnil)))) dnil))) dnil)))
noncomputable def ld2 : D Fl := (dpars [4, 5] (dcons (dcallF f_ulaw_draw (dcons (dname 0) (dcons (dcon (.int 6)) dnil))) (dcons (dcallF f_ulaw_any (dcons (dname 0) (dcons (dlst (dcons (dcon (.int 2)) (dcons (dcon (.int 4)) (dcons (dcon (.int 9)) (dcons (dcon (.int 30)) dnil))))) dnil))) dnil)))
theorem land_eq : b_ulaw_land = dseq ld1 (dseq ld2 (dseq (dset 6 (dlst dnil)) (dseq rowD (dret (dcall (dfn gTuple) (dcons (dname 6) dnil)))))) := rfl
def envK (h : Hand) (m hi wi kd dp : Int) (R : Land) (i l j x : Sl) : PEnv :=
  [.val (pvH h), .val (.int m), .val (.int hi), .val (.int wi), .val (.int kd), .val (.int dp), .val (.lst true (rowsP R)), i, l, j, x]
def envC (h : Hand) (m hi wi kd dp : Int) (R : Land) (i : Int) (l : List Int) (j x : Sl) : PEnv := envK h m hi wi kd dp R (.val (.int i)) (.val (.lst true (pis l))) j x
theorem cell1_ok {h : Hand} {m hi wi kd dp i : Int} {R : Land} {l : List Int} {j : Int} {x : Sl} (ok : HandOk h) (hd : 0 < dp) (hd2 : dp ≤ 30) :
    WP cell1 (envC h m hi wi kd dp R i l (.val (.int j)) x) fun f e => f = .nx ∧ ∃ h' v, HandOk h' ∧ 0 ≤ v ∧ v ≤ 1000 ∧ e = envC h' m hi wi kd dp R i l (.val (.int j)) (.val (.int v)) := by
  obtain ⟨k, h', e, a, b, ok'⟩ := draw (m := dp) ok hd (by omega)
  unfold cell1 envC envK
  simp [e]
  exact ⟨h', ok', k, a, by omega, rfl, rfl⟩
theorem cell2_ok {h : Hand} {m hi wi kd dp i : Int} {R : Land} {l : List Int} {j x : Int} (ok : HandOk h) (hi1 : 0 ≤ i) (hi2 : i ≤ 100) (hj1 : 0 ≤ j) (hj2 : j ≤ 100) (hx : 0 ≤ x) (hx2 : x ≤ 1000) :
    WP cell2 (envC h m hi wi kd dp R i l (.val (.int j)) (.val (.int x))) fun f e => f = .nx ∧ ∃ h' v, HandOk h' ∧ 0 ≤ v ∧ v ≤ 1000 ∧ e = envC h' m hi wi kd dp R i l (.val (.int j)) (.val (.int v)) := by
  unfold cell2 envC envK
  simp
  by_cases k0 : kd = 0
  · obtain ⟨k, h', e, a, b, ok'⟩ := draw (m := 2) ok (by omega) (by omega)
    simp [k0, e, mulOk_l]
    exact ⟨h', ok', _, by omega, by omega, rfl, rfl⟩
  · by_cases k1 : kd = 1
    · obtain ⟨y, h', hy, e, ok'⟩ := any (o := true) (xs := [.int 0, .int 1000, .int x]) ok (by simp) (by simp) (by simp)
      have hv : ∃ v, y = .int v ∧ 0 ≤ v ∧ v ≤ 1000 := by
        rcases List.mem_cons.mp hy with rfl | hy
        · exact ⟨0, rfl, by omega, by omega⟩
        · rcases List.mem_cons.mp hy with rfl | hy
          · exact ⟨1000, rfl, by omega, by omega⟩
          · exact ⟨x, List.mem_singleton.mp hy, hx, hx2⟩
      obtain ⟨v, rfl, v1, v2⟩ := hv
      simp [k1, e]
      exact ⟨h', ok', _, v1, v2, rfl, rfl⟩
    · simp [k0, k1]
      exact ⟨h, ok, _, hx, hx2, rfl, rfl⟩
theorem cell3_ok {h : Hand} {m hi wi kd dp i : Int} {R : Land} {l : List Int} {j x : Int} (ok : HandOk h) (hl : l.length ≤ 1000) (hx : 0 ≤ x) (hx2 : x ≤ 1000) :
    WP cell3 (envC h m hi wi kd dp R i l (.val (.int j)) (.val (.int x))) fun f e => f = .nx ∧ ∃ h' v, HandOk h' ∧ 0 ≤ v ∧ v ≤ 1000 ∧ e = envC h' m hi wi kd dp R i (l ++ [v]) (.val (.int j)) (.val (.int x)) := by
  unfold cell3 envC envK
  simp
  by_cases k2 : kd = 2
  · obtain ⟨k, h', e, a, b, ok'⟩ := draw (m := 9) ok (by omega) (by omega)
    simp [k2, e]
    by_cases c : 0 < k
    · simp [c]
      exact ⟨by omega, h', ok', 5, by omega, by omega, rfl, rfl⟩
    · simp [c]
      exact ⟨by omega, h', ok', x, by omega, by omega, rfl, rfl⟩
  · simp [k2]
    exact ⟨by omega, h, ok, x, by omega, by omega, rfl, rfl⟩
theorem col_ok {h : Hand} {m hi kd dp i : Int} {wi : Nat} {R : Land} {j x : Sl} (ok : HandOk h) (hd : 0 < dp) (hd2 : dp ≤ 30) (hi1 : 0 ≤ i) (hi2 : i ≤ 100) (hw : wi ≤ 100) (hx : Plain x) (hj : Plain j) :
    WP colD (envC h m hi wi kd dp R i [] j x) fun f e => f = .nx ∧ ∃ h' l j' x', Plain j' ∧ Plain x' ∧ HandOk h' ∧ l.length = wi ∧ (∀ v ∈ l, 0 ≤ v ∧ v ≤ 1000) ∧ e = envC h' m hi wi kd dp R i l j' x' := by
  have hb : WP (forP (setT (.nm 9)) (dseq cell1 (dseq cell2 cell3)) (rangeP 0 wi 1)) (envC h m hi wi kd dp R i [] j x) fun f e => f = .nx ∧ ∃ h' l j' x', Plain j' ∧ Plain x' ∧ HandOk h' ∧ l.length = wi ∧ (∀ v ∈ l, 0 ≤ v ∧ v ≤ 1000) ∧ e = envC h' m hi wi kd dp R i l j' x' := by
    refine wp_forP (fun n e => ∃ h' l j' x', Plain j' ∧ Plain x' ∧ HandOk h' ∧ l.length = n ∧ (∀ v ∈ l, 0 ≤ v ∧ v ≤ 1000) ∧ e = envC h' m hi wi kd dp R i l j' x') (n := 0) ⟨h, [], j, x, hj, hx, ok, rfl, by simp, rfl⟩ ?_ ?_
    · rintro n p e hp ⟨h', l, j', x', hj', hx', ok', hl, hv, rfl⟩
      obtain ⟨hn, rfl⟩ := rangeP_get hp
      have hs : setT (.nm 9) (PV.int (0 + (n : Int) * 1)) (envC h' m hi wi kd dp R i l j' x') = some (envC h' m hi wi kd dp R i l (.val (.int (0 + (n : Int) * 1))) x') := by
        unfold envC envK
        simp [hx'.r 9]
      rw [hs, gate_some, wp_seq]
      have hj0 : 0 ≤ 0 + (n : Int) * 1 := by omega
      have hj1 : 0 + (n : Int) * 1 ≤ 100 := by omega
      generalize (0 + (n : Int) * 1) = jj at *
      refine wp_mono (cell1_ok ok' hd hd2) ?_
      rintro f e ⟨rfl, h2, v, ok2, v1, v2, rfl⟩
      refine then_nx ?_
      rw [wp_seq]
      refine wp_mono (cell2_ok ok2 hi1 hi2 hj0 hj1 v1 v2) ?_
      rintro f e ⟨rfl, h3, v3, ok3, w1, w2, rfl⟩
      refine then_nx ?_
      refine wp_mono (cell3_ok ok3 (by omega) w1 w2) ?_
      rintro f e ⟨rfl, h4, v4, ok4, z1, z2, rfl⟩
      refine ⟨h4, l ++ [v4], _, _, plain_val, plain_val, ok4, by simp; omega, ?_, rfl⟩
      intro u hu
      rcases List.mem_append.mp hu with h | h
      · exact hv u h
      · rw [List.mem_singleton.mp h]; exact ⟨z1, z2⟩
    · rintro e ⟨h', l, j', x', hj', hx', ok', hl, hv, rfl⟩
      exact ⟨rfl, h', l, j', x', hj', hx', ok', by simpa [rangeP_len] using hl, hv, rfl⟩
  unfold colD envC envK
  simp
  refine ⟨okB_nat (by omega), ?_⟩
  unfold envC envK at hb
  simpa using hb
def Rows (wi : Nat) (R : Land) : Prop := (∀ r ∈ R, r.length = wi) ∧ inR 1000 R
theorem row_ok {h : Hand} {m kd dp : Int} {hi wi : Nat} {i l j x : Sl} (ok : HandOk h) (hd : 0 < dp) (hd2 : dp ≤ 30) (hh : hi ≤ 100) (hw : wi ≤ 100) (pi : Plain i) (pl : Plain l) (hx : Plain x) (hj : Plain j) :
    WP rowD (envK h m hi wi kd dp [] i l j x) fun f e => f = .nx ∧ ∃ h' R i' l' j' x', HandOk h' ∧ R.length = hi ∧ Rows wi R ∧ e = envK h' m hi wi kd dp R i' l' j' x' := by
  have hb : WP (forP (setT (.nm 7)) (dseq (dset 8 (dlst dnil)) (dseq colD (dexpr (dmeth gAppend (dname 6) (dcons (dcall (dfn gTuple) (dcons (dname 8) dnil)) dnil))))) (rangeP 0 hi 1)) (envK h m hi wi kd dp [] i l j x) fun f e => f = .nx ∧ ∃ h' R i' l' j' x', HandOk h' ∧ R.length = hi ∧ Rows wi R ∧ e = envK h' m hi wi kd dp R i' l' j' x' := by
    refine wp_forP (fun n e => ∃ h' R i' l' j' x', Plain i' ∧ Plain l' ∧ Plain j' ∧ Plain x' ∧ HandOk h' ∧ R.length = n ∧ Rows wi R ∧ e = envK h' m hi wi kd dp R i' l' j' x') (n := 0) ⟨h, [], i, l, j, x, pi, pl, hj, hx, ok, rfl, ⟨by simp, by simp [inR]⟩, rfl⟩ ?_ ?_
    · rintro n p e hp ⟨h', R, i', l', j', x', hi', hl', hj', hx', ok', hl, hv, rfl⟩
      obtain ⟨hn, rfl⟩ := rangeP_get hp
      have hj0 : 0 ≤ 0 + (n : Int) * 1 := by omega
      have hj1 : 0 + (n : Int) * 1 ≤ 100 := by omega
      generalize (0 + (n : Int) * 1) = ii at *
      have hs : setT (.nm 7) (PV.int ii) (envK h' m hi wi kd dp R i' l' j' x') = some (envK h' m hi wi kd dp R (.val (.int ii)) l' j' x') := by
        unfold envK
        simp [hx'.r 7, hj'.r 7, hl'.r 7]
      have h1 : WP (dset 8 (dlst dnil)) (envK h' m hi wi kd dp R (.val (.int ii)) l' j' x') fun f e => f = .nx ∧ e = envC h' m hi wi kd dp R ii [] j' x' := by
        unfold envC envK
        simp [hx'.r 8, hj'.r 8]
        rfl
      rw [hs, gate_some, wp_seq]
      refine wp_mono h1 ?_
      rintro f e ⟨rfl, rfl⟩
      refine then_nx ?_
      rw [wp_seq]
      refine wp_mono (col_ok ok' hd hd2 hj0 hj1 hw hx' hj') ?_
      rintro f e ⟨rfl, h2, l2, j2, x2, hj2, hx2, ok2, hl2, hv2, rfl⟩
      refine then_nx ?_
      unfold envC envK
      simp [hj2.k, hx2.k]
      refine ⟨by omega, h2, R ++ [l2], .val (.int ii), plain_val, .val (.lst true (pis l2)), plain_val, j2, hj2, x2, hx2, ok2, by simp; omega, ?_, ?_⟩
      · refine ⟨fun r hr => ?_, fun r hr => ?_⟩
        · rcases List.mem_append.mp hr with h | h
          · exact hv.1 r h
          · rw [List.mem_singleton.mp h]; exact hl2
        · rcases List.mem_append.mp hr with h | h
          · exact hv.2 r h
          · rw [List.mem_singleton.mp h]; exact hv2
      · have e : rowsP (R ++ [l2]) = rowsP R ++ [PV.tup (pis l2)] := by simp [rowsP, pvRow]
        rw [e]
        exact ⟨rfl, rfl, rfl, rfl, rfl, rfl⟩
    · rintro e ⟨h', R, i', l', j', x', hi', hl', hj', hx', ok', hl, hv, rfl⟩
      exact ⟨rfl, h', R, i', l', j', x', ok', by simpa [rangeP_len] using hl, hv, rfl⟩
  unfold rowD envK
  simp
  refine ⟨okB_nat (by omega), ?_⟩
  unfold envK at hb
  simpa using hb
end Wk
namespace Wk
open PySem PySem.Spec PyProof.Rows L2 Pv
theorem sp_lland {h : Hand} (ok : HandOk h) :
    ∃ h' L w, f_ulaw_land [pvH h, .int 8] = some (pvLand L, [pvH h', .int 8]) ∧ HandOk h' ∧ LandIs L w ∧ 1 ≤ w ∧ inR 1000 L := by
  have key : ∃ r as, f_ulaw_land [pvH h, .int 8] = some (r, as) ∧ ∃ h' L w, r = pvLand L ∧ as = [pvH h', .int 8] ∧ HandOk h' ∧ LandIs L w ∧ 1 ≤ w ∧ inR 1000 L := by
    refine wp_exit rfl ?_
    rw [land_eq]
    obtain ⟨k1, h1, e1, a1, b1, ok1⟩ := draw (m := 8) ok (by omega) (by omega)
    obtain ⟨x1, h2, hx1, e2, ok2⟩ := any (o := true) (xs := [.int 8, .int (1 + k1), .int 1]) ok1 (by simp) (by simp) (by simp)
    obtain ⟨k2, h3, e3, a2, b2, ok3⟩ := draw (m := 8) ok2 (by omega) (by omega)
    obtain ⟨x2, h4, hx2, e4, ok4⟩ := any (o := true) (xs := [.int 8, .int (1 + k2), .int 1]) ok3 (by simp) (by simp) (by simp)
    obtain ⟨kd, h5, e5, a5, b5, ok5⟩ := draw (m := 6) ok4 (by omega) (by omega)
    obtain ⟨x3, h6, hx3, e6, ok6⟩ := any (o := true) (xs := [.int 2, .int 4, .int 9, .int 30]) ok5 (by simp) (by simp) (by simp)
    have hhi : ∃ hi : Nat, x1 = .int hi ∧ 0 < hi ∧ hi ≤ 8 := by
      rcases List.mem_cons.mp hx1 with rfl | hx1
      · exact ⟨8, rfl, by omega, by omega⟩
      · rcases List.mem_cons.mp hx1 with rfl | hx1
        · exact ⟨(1 + k1).toNat, by rw [Int.toNat_of_nonneg (by omega)], by omega, by omega⟩
        · rw [List.mem_singleton.mp hx1]
          exact ⟨1, rfl, by omega, by omega⟩
    have hwi : ∃ wi : Nat, x2 = .int wi ∧ 0 < wi ∧ wi ≤ 8 := by
      rcases List.mem_cons.mp hx2 with rfl | hx2
      · exact ⟨8, rfl, by omega, by omega⟩
      · rcases List.mem_cons.mp hx2 with rfl | hx2
        · exact ⟨(1 + k2).toNat, by rw [Int.toNat_of_nonneg (by omega)], by omega, by omega⟩
        · rw [List.mem_singleton.mp hx2]
          exact ⟨1, rfl, by omega, by omega⟩
    have hdp : ∃ dp : Int, x3 = .int dp ∧ 0 < dp ∧ dp ≤ 30 := by
      simp at hx3
      rcases hx3 with rfl | rfl | rfl | rfl
      · exact ⟨_, rfl, by omega, by omega⟩
      · exact ⟨_, rfl, by omega, by omega⟩
      · exact ⟨_, rfl, by omega, by omega⟩
      · exact ⟨_, rfl, by omega, by omega⟩
    clear hx1 hx2 hx3
    obtain ⟨hi, rfl, g1, g2⟩ := hhi
    obtain ⟨wi, rfl, g3, g4⟩ := hwi
    obtain ⟨dp, rfl, g5, g6⟩ := hdp
    have s1 : WP ld1 [.val (pvH h), .val (.int 8), .un, .un, .un, .un, .un, .un, .un, .un, .un] fun f e => f = .nx ∧ e = [.val (pvH h4), .val (.int 8), .val (.int hi), .val (.int wi), .un, .un, .un, .un, .un, .un, .un] := by
      unfold ld1
      simp [e1, e2, e3, e4]
    have s2 : WP (dseq ld2 (dset 6 (dlst dnil))) [.val (pvH h4), .val (.int 8), .val (.int hi), .val (.int wi), .un, .un, .un, .un, .un, .un, .un] fun f e => f = .nx ∧ e = envK h6 8 hi wi kd dp [] .un .un .un .un := by
      unfold ld2 envK
      simp [e5, e6, rowsP]
    rw [wp_seq]
    refine wp_mono s1 ?_
    rintro f e ⟨rfl, rfl⟩
    refine then_nx ?_
    have s3 : ∀ {a b c : D Fl} {env Q}, WP (dseq (dseq a b) c) env Q → WP (dseq a (dseq b c)) env Q := fun {a b c env Q} hh => by
      rw [wp_seq, wp_seq] at hh
      rw [wp_seq]
      refine wp_mono hh ?_
      intro f e he
      cases f with
      | nx => simp only [thenF] at he ⊢; rw [wp_seq]; exact he
      | _ => exact he
    refine s3 ?_
    rw [wp_seq]
    refine wp_mono s2 ?_
    rintro f e ⟨rfl, rfl⟩
    refine then_nx ?_
    rw [wp_seq]
    refine wp_mono (row_ok ok6 g5 g6 (by omega) (by omega) plain_un plain_un plain_un plain_un) ?_
    rintro f e ⟨rfl, h7, R, i6, l6, j6, x6, ok7, hl6, hr6, rfl⟩
    refine then_nx ?_
    unfold envK
    simp
    refine ⟨h7, R, rfl, rfl, ok7, wi, ⟨hr6.1, ?_, by omega, by omega, g4⟩, g3, hr6.2⟩
    have hR : R ≠ [] := fun z => by rw [z] at hl6; simp at hl6; omega
    cases R with
    | nil => exact absurd rfl hR
    | cons r R => exact (hr6.1 r (by simp)).symm
  obtain ⟨r, as, h1, h', L, w, rfl, rfl, h2⟩ := key
  exact ⟨h', L, w, h1, h2⟩
end Wk
namespace Wk
open PySem PySem.Spec PyProof.Rows L2 Pv
abbrev Spt := Int × Int
abbrev SE : En Spt := En.int.pair En.int
abbrev SO : Or SE := Or.int.pair Or.int
theorem SE_f (s : Spt) : SE.f s = pvS s := rfl
theorem SE_m (l : List Spt) : l.map SE.f = sps l := rfl
theorem SE_d (s : Spt) : SE.d s = .tuple [.int s.1, .int s.2] := rfl
theorem SE_k : SE.k = 1 := rfl
def SK : Ky SE where
  pl := fun s => rfl
  kd := .inr fun s => rfl
theorem eq_S {a b : Spt} : gEq [pvS a, pvS b] = some (.bl (decide (a = b))) := SE.gEq (by decide) a b
theorem ne_S {a b : Spt} : gNe [pvS a, pvS b] = some (.bl (!decide (a = b))) := SE.gNe (by decide) a b
theorem lt_S {a b : Spt} : gLt [pvS a, pvS b] = some (.bl (SO.lt a b)) := SO.gLt (by decide) a b
theorem in_St {a : Spt} {l : List Spt} : gInA [pvS a, .tup (sps l)] = some (.bl (decide (a ∈ l))) := (SE.gInT (by decide) a l).trans (by congr)
theorem in_Sl {a : Spt} {o : Bool} {l : List Spt} : gInA [pvS a, .lst o (sps l)] = some (.bl (decide (a ∈ l))) := (SE.gInL (by decide) o a l).trans (by congr)
theorem eq_SL {o o' : Bool} {a b : List Spt} : gEq [.lst o (sps a), .lst o' (sps b)] = some (.bl (decide (a = b))) := SE.gEqL (by decide) o o' a b
theorem eq_ST {a b : List Spt} : gEq [.tup (sps a), .tup (sps b)] = some (.bl (decide (a = b))) := SE.tup.gEq (by decide) a b
theorem ne_ST {a b : List Spt} : gNe [.tup (sps a), .tup (sps b)] = some (.bl (!decide (a = b))) := SE.tup.gNe (by decide) a b
theorem sort_S {o : Bool} {l : List Spt} : gSorted [.lst o (sps l)] = some (.lst true (sps (l.mergeSort SO.le))) := SO.gSorted (by decide) (.inl fun a => rfl) o l
theorem sps_nil : sps [] = [] := rfl
/-- a land that may be drawn -/
structure LK (L : Land) (w : Nat) : Prop where
  is : LandIs L w
  w1 : 1 ≤ w
  r : inR 1000 L
section
variable {L : Land} {w : Nat}
theorem LandIs.rowAt (hL : LandIs L w) {i : Int} (h0 : 0 ≤ i) (h1 : i < L.length) : (Wk.rowAt L i).length = w := hL.row _ (rowAt_mem h0 h1)
theorem LK.inL (hL : LK L w) {s : Spt} : InL L s ↔ 0 ≤ s.1 ∧ s.1 < L.length ∧ 0 ≤ s.2 ∧ s.2 < w := by
  unfold InL
  constructor
  · rintro ⟨h1, h2, h3, h4⟩
    rw [hL.is.rowAt h1 h2] at h4
    exact ⟨h1, h2, h3, h4⟩
  · rintro ⟨h1, h2, h3, h4⟩
    refine ⟨h1, h2, h3, ?_⟩
    rw [hL.is.rowAt h1 h2]
    exact h4
theorem LK.row0 (hL : LK L w) : (Wk.rowAt L 0).length = w := hL.is.rowAt (by omega) (by have := hL.is.h1; omega)
theorem LK.ok (hL : LK L w) : landOk L = true := by
  have h1 := hL.is.h1
  have h2 := hL.is.h2
  have hw := hL.is.w2
  have hw1 := hL.w1
  have hr : ∀ r ∈ L, rowOk r = true := fun r hr => by
    have e := hL.is.row r hr
    have e2 := hL.r r hr
    simp [rowOk, e, hw, hw1]
    exact e2
  have he : ∀ r ∈ L, r.length = wid L := fun r hr => by rw [hL.is.row r hr]; exact hL.is.wd
  simp [landOk, h1, h2]
  exact ⟨hr, he⟩
theorem LK.ht (hL : LK L w) {s : Spt} (h : InL L s) : 0 ≤ ht L s ∧ ht L s ≤ 1000 := by
  obtain ⟨h1, h2, h3, h4⟩ := h
  have hm := hL.r _ (rowAt_mem h1 h2)
  unfold Wk.ht cellAt
  have : s.2.toNat < (Wk.rowAt L s.1).length := by omega
  rw [List.getD, List.getElem?_eq_getElem this]
  exact hm _ (List.getElem_mem this)
theorem sp_lspots (hL : LK L w) : f_ulaw_spots [pvLand L] = some (.lst true (sps (spots L)), [pvLand L]) := by
  have e : f_ulaw_spots = f_all_spots := rfl
  rw [e]
  have h1 := hL.is.h1
  have h2 := hL.is.h2
  have h3 := hL.is.w2
  have h4 := hL.is.wd
  exact sp_all_spots (by omega) (by omega) (by omega)
theorem sp_aspots (hL : LK L w) : f_all_spots [pvLand L] = some (.lst true (sps (spots L)), [pvLand L]) := sp_lspots hL
theorem sp_ulaw_at {s : Spt} (h : InL L s) : f_ulaw_at [pvLand L, pvS s] = some (.int (ht L s), [pvLand L, pvS s]) := by
  have e : f_ulaw_at = f_height_of := rfl
  rw [e]
  exact sp_height_of h
theorem mem_spotsTo {w : Nat} {s : Spt} : ∀ n, s ∈ spotsTo w n ↔ 0 ≤ s.1 ∧ s.1 < n ∧ 0 ≤ s.2 ∧ s.2 < w
  | 0 => by simp [spotsTo]; omega
  | n + 1 => by
    rw [spotsTo, List.mem_append, mem_spotsTo n]
    unfold rowS
    rw [List.mem_map]
    constructor
    · rintro (h | ⟨c, hc, rfl⟩)
      · omega
      · have := List.mem_range.mp hc
        simp
        omega
    · rintro ⟨h1, h2, h3, h4⟩
      by_cases h : s.1 < n
      · exact .inl ⟨h1, h, h3, h4⟩
      · refine .inr ⟨s.2.toNat, List.mem_range.mpr (by omega), ?_⟩
        refine Prod.ext ?_ ?_ <;> simp <;> omega
theorem LK.mem (hL : LK L w) {s : Spt} : s ∈ spots L ↔ InL L s := by
  unfold spots
  rw [mem_spotsTo, hL.inL, ← hL.is.wd]
theorem rise_row {w n : Nat} : (rowS w n).Pairwise fun a b => SO.lt a b = true := by
  unfold rowS
  rw [List.pairwise_map]
  refine List.pairwise_lt_range.imp fun {a b} h => ?_
  show (if ((n : Nat) : Int) = ((n : Nat) : Int) then decide ((a : Int) < (b : Int)) else _) = true
  rw [if_pos rfl]
  simp
  omega
theorem rise_to {w : Nat} : ∀ n, (spotsTo w n).Pairwise fun a b => SO.lt a b = true
  | 0 => List.Pairwise.nil
  | n + 1 => by
    rw [spotsTo, List.pairwise_append]
    refine ⟨rise_to n, rise_row, fun a ha b hb => ?_⟩
    have h1 := (mem_spotsTo n).mp ha
    unfold rowS at hb
    obtain ⟨c, hc, rfl⟩ := List.mem_map.mp hb
    show (if a.1 = ((n : Nat) : Int) then decide (a.2 < (c : Int)) else decide (a.1 < ((n : Nat) : Int))) = true
    rw [if_neg (by omega)]
    simp
    omega
theorem rise : (spots L).Pairwise fun a b => SO.lt a b = true := rise_to _
theorem nodup_spots : (spots L).Nodup := rise.imp fun {a b} h e => by
  subst e
  rw [SO.irr] at h
  cases h
theorem LK.spots_len (hL : LK L w) : (spots L).length ≤ 64 := by
  unfold spots
  rw [spotsTo_len]
  have h2 := hL.is.h2
  have h3 := hL.is.w2
  have h4 := hL.is.wd
  calc L.length * wid L ≤ 8 * 8 := Nat.mul_le_mul h2 (by omega)
    _ = 64 := rfl
theorem LK.spots_pos (hL : LK L w) : 0 < (spots L).length := by
  unfold spots
  rw [spotsTo_len]
  have h1 := hL.is.h1
  have h3 := hL.w1
  have h4 := hL.is.wd
  exact Nat.mul_pos (by omega) (by omega)
theorem sp_is_tuple_of {a b : Int} : f_is_tuple_of [pvS (a, b), .int 2] = some (.bl true, [pvS (a, b), .int 2]) := by
  refine fn_val (wp_exit rfl ?_)
  unfold b_is_tuple_of
  simp [pvS]
theorem sp_is_spot_of (hL : LK L w) {s : Spt} (h : InL L s) : f_is_spot_of [pvLand L, pvS s] = some (.bl true, [pvLand L, pvS s]) := by
  have h0 := hL.row0
  have h1 := hL.is.h1
  obtain ⟨a1, a2, a3, a4⟩ := hL.inL.mp h
  have e : f_is_tuple_of [pvS s, .int 2] = some (.bl true, [pvS s, .int 2]) := sp_is_tuple_of (a := s.1) (b := s.2)
  refine fn_val (wp_exit rfl ?_)
  unfold b_is_spot_of
  have b1 : s.1 ≤ (L.length : Int) - 1 := by omega
  have b2 : s.2 ≤ (w : Int) - 1 := by omega
  simp [e, sp_is_within, ixA_land0 h1, a1, a3, h0, b1, b2]
theorem sp_check_spot (hL : LK L w) {s : Spt} (h : InL L s) : f_check_spot [pvLand L, pvS s] = some (.non, [pvLand L, pvS s]) := by
  refine fn_val (wp_exit rfl ?_)
  unfold b_check_spot
  simp [sp_check_land hL.ok, sp_is_spot_of hL h]
theorem sp_check_two (hL : LK L w) {a b : Spt} (ha : InL L a) (hb : InL L b) : f_check_two_spots [pvLand L, pvS a, pvS b] = some (.non, [pvLand L, pvS a, pvS b]) := by
  refine fn_val (wp_exit rfl ?_)
  unfold b_check_two_spots
  simp [sp_check_spot hL ha, sp_check_spot hL hb]
theorem sp_check_eye {y : Int} (h0 : 0 ≤ y) (h1 : y ≤ 1000) : f_check_eye [.int y] = some (.non, [.int y]) := by
  refine fn_val (wp_exit rfl ?_)
  unfold b_check_eye
  simp [sp_is_within, h0, h1]
end
end Wk
namespace Wk
open PySem PySem.Spec PyProof.Rows L2 Pv
def at' (k : Nat) (s d : Spt) : Spt := (s.1 + (k : Int) * d.1, s.2 + (k : Int) * d.2)
def lin (s d : Spt) (n : Nat) : List Spt := (List.range n).map fun k => at' (k + 1) s d
def dirs : List Spt := [(0, 1), (-1, 0), (-1, 1), (-1, -1), (1, 0), (1, 1), (1, -1), (0, -1)]
def sg (x : Int) : Int := (if 0 < x then 1 else 0) - (if x < 0 then 1 else 0)
def lineTo (a b : Spt) : Option (List Spt) :=
  if b.1 - a.1 ≠ 0 ∧ b.2 - a.2 ≠ 0 ∧ iabs (b.1 - a.1) ≠ iabs (b.2 - a.2) then none
  else some (lin a (sg (b.1 - a.1), sg (b.2 - a.2)) (if iabs (b.2 - a.2) > iabs (b.1 - a.1) then iabs (b.2 - a.2) else iabs (b.1 - a.1)).toNat)
def tri (c : Int) : Prop := c = 1 ∨ c = -1 ∨ c = 0
theorem tri_sg (x : Int) : tri (sg x) := by unfold tri sg; split <;> split <;> omega
theorem mem_dirs {d : Spt} : d ∈ dirs ↔ tri d.1 ∧ tri d.2 ∧ ¬(d.1 = 0 ∧ d.2 = 0) := by
  obtain ⟨x, y⟩ := d
  unfold dirs tri
  simp
  omega
theorem sg_mul {c : Int} {k : Nat} (hc : tri c) (hk : 0 < k) : sg ((k : Int) * c) = c ∧ iabs ((k : Int) * c) = if c = 0 then 0 else (k : Int) := by
  rcases hc with rfl | rfl | rfl
  · unfold sg iabs; simp; omega
  · unfold sg iabs; simp; omega
  · unfold sg iabs; simp
theorem lineTo_at {a d : Spt} {k : Nat} (hd : d ∈ dirs) (hk : 0 < k) : lineTo a (at' k a d) = some (lin a d k) := by
  obtain ⟨t1, t2, t3⟩ := mem_dirs.mp hd
  obtain ⟨s1, i1⟩ := sg_mul t1 hk
  obtain ⟨s2, i2⟩ := sg_mul t2 hk
  have e1 : (at' k a d).1 - a.1 = (k : Int) * d.1 := by unfold at'; dsimp only; omega
  have e2 : (at' k a d).2 - a.2 = (k : Int) * d.2 := by unfold at'; dsimp only; omega
  unfold lineTo
  rw [e1, e2, s1, s2, i1, i2]
  have hk' : (0 : Int) < k := by omega
  by_cases c1 : d.1 = 0
  · have c2 : d.2 ≠ 0 := fun e => t3 ⟨c1, e⟩
    rw [if_neg (by rw [c1]; simp), if_pos c1, if_neg c2, if_pos hk']
    simp
  · by_cases c2 : d.2 = 0
    · rw [if_neg (by rw [c2]; simp), if_neg c1, if_pos c2, if_neg (by omega)]
      simp
    · rw [if_neg (by rw [if_neg c1, if_neg c2]; simp), if_neg c1, if_neg c2, if_neg (by omega)]
      simp
theorem at_ne {a d : Spt} {k : Nat} (hd : d ∈ dirs) (hk : 0 < k) : at' k a d ≠ a := by
  obtain ⟨t1, t2, t3⟩ := mem_dirs.mp hd
  intro e
  have e1 : a.1 + (k : Int) * d.1 = a.1 := congrArg Prod.fst e
  have e2 : a.2 + (k : Int) * d.2 = a.2 := congrArg Prod.snd e
  rcases t1 with h | h | h
  · rw [h] at e1; omega
  · rw [h] at e1; omega
  · rcases t2 with h2 | h2 | h2
    · rw [h2] at e2; omega
    · rw [h2] at e2; omega
    · exact t3 ⟨h, h2⟩
theorem sg_abs (x : Int) : iabs x * sg x = x ∧ 0 ≤ iabs x ∧ (iabs x = 0 → x = 0) ∧ (sg x = 0 ↔ x = 0) := by
  unfold iabs sg
  by_cases h1 : x < 0
  · have : ¬ 0 < x := by omega
    simp [h1, this]
    omega
  · by_cases h2 : 0 < x
    · simp [h1, h2]
      omega
    · have : x = 0 := by omega
      subst this
      simp
theorem lineTo_some {a b : Spt} {l : List Spt} (h : lineTo a b = some l) (hn : a ≠ b) : ∃ d k, d ∈ dirs ∧ 0 < k ∧ b = at' k a d ∧ l = lin a d k := by
  unfold lineTo at h
  split at h
  · cases h
  · rename_i hc
    obtain ⟨m1, p1, z1, g1⟩ := sg_abs (b.1 - a.1)
    obtain ⟨m2, p2, z2, g2⟩ := sg_abs (b.2 - a.2)
    have hne : ¬(b.1 - a.1 = 0 ∧ b.2 - a.2 = 0) := fun ⟨e1, e2⟩ => hn (Prod.ext (by omega) (by omega))
    have h := (Option.some.inj h).symm
    generalize hM : (if iabs (b.2 - a.2) > iabs (b.1 - a.1) then iabs (b.2 - a.2) else iabs (b.1 - a.1)) = M at h
    have q1 : b.1 - a.1 ≠ 0 → M = iabs (b.1 - a.1) := fun c1 => by
      rw [← hM]
      by_cases c2 : b.2 - a.2 = 0
      · rw [if_neg]
        have : iabs (b.2 - a.2) = 0 := by rw [c2]; rfl
        omega
      · have : iabs (b.1 - a.1) = iabs (b.2 - a.2) := by
          by_cases e : iabs (b.1 - a.1) = iabs (b.2 - a.2)
          · exact e
          · exact absurd ⟨c1, c2, e⟩ hc
        rw [if_neg (by omega)]
    have q2 : b.2 - a.2 ≠ 0 → M = iabs (b.2 - a.2) := fun c2 => by
      rw [← hM]
      by_cases c1 : b.1 - a.1 = 0
      · have : iabs (b.1 - a.1) = 0 := by rw [c1]; rfl
        split <;> omega
      · have : iabs (b.1 - a.1) = iabs (b.2 - a.2) := by
          by_cases e : iabs (b.1 - a.1) = iabs (b.2 - a.2)
          · exact e
          · exact absurd ⟨c1, c2, e⟩ hc
        split <;> omega
    have hM0 : 0 < M := by
      by_cases c1 : b.1 - a.1 = 0
      · have c2 : b.2 - a.2 ≠ 0 := fun e => hne ⟨c1, e⟩
        have := q2 c2
        omega
      · have := q1 c1
        omega
    have hT : ((M.toNat : Nat) : Int) = M := Int.toNat_of_nonneg (by omega)
    refine ⟨(sg (b.1 - a.1), sg (b.2 - a.2)), M.toNat, mem_dirs.mpr ⟨tri_sg _, tri_sg _, ?_⟩, by omega, ?_, h⟩
    · rintro ⟨e1, e2⟩
      exact hne ⟨g1.mp e1, g2.mp e2⟩
    · unfold at'
      rw [hT]
      refine Prod.ext ?_ ?_
      · show b.1 = a.1 + M * sg (b.1 - a.1)
        by_cases c1 : b.1 - a.1 = 0
        · rw [g1.mpr c1]; omega
        · rw [q1 c1, m1]; omega
      · show b.2 = a.2 + M * sg (b.2 - a.2)
        by_cases c2 : b.2 - a.2 = 0
        · rw [g2.mpr c2]; omega
        · rw [q2 c2, m2]; omega
theorem tri_mid {x H c : Int} {k m : Nat} (hc : tri c) (h0 : 0 ≤ x) (h1 : x < H) (h2 : 0 ≤ x + (m : Int) * c) (h3 : x + (m : Int) * c < H) (hk : k ≤ m) : 0 ≤ x + (k : Int) * c ∧ x + (k : Int) * c < H := by
  rcases hc with rfl | rfl | rfl <;> omega
theorem first {p : Nat → Bool} : ∀ m, p m = false → ∃ n, n ≤ m ∧ (∀ k, k < n → p k = true) ∧ p n = false := by
  intro m
  induction m generalizing p with
  | zero => exact fun h => ⟨0, Nat.le_refl _, fun k hk => absurd hk (by omega), h⟩
  | succ m ih =>
    intro h
    cases e : p 0 with
    | false => exact ⟨0, by omega, fun k hk => absurd hk (by omega), e⟩
    | true =>
      obtain ⟨n, h1, h2, h3⟩ := ih (p := fun k => p (k + 1)) h
      refine ⟨n + 1, by omega, fun k hk => ?_, h3⟩
      cases k with
      | zero => exact e
      | succ k => exact h2 k (by omega)
section
variable {L : Land} {w : Nat}
theorem LK.inB (hL : LK L w) {s : Spt} : inB L s = true ↔ InL L s := by
  unfold Wk.inB
  rw [hL.inL, ← hL.is.wd]
  simp
  omega
theorem LK.mid (hL : LK L w) {a d : Spt} {k m : Nat} (hd : d ∈ dirs) (ha : InL L a) (hm : InL L (at' m a d)) (hk : k ≤ m) : InL L (at' k a d) := by
  obtain ⟨t1, t2, t3⟩ := mem_dirs.mp hd
  rw [hL.inL] at ha hm ⊢
  obtain ⟨a1, a2, a3, a4⟩ := ha
  obtain ⟨m1, m2, m3, m4⟩ := hm
  obtain ⟨r1, r2⟩ := tri_mid t1 a1 a2 m1 m2 hk
  obtain ⟨r3, r4⟩ := tri_mid t2 a3 a4 m3 m4 hk
  exact ⟨r1, r2, r3, r4⟩
def RayIs (L : Land) (a d : Spt) (n : Nat) : Prop := n ≤ 8 ∧ (∀ k, k < n → Wk.inB L (at' (k + 1) a d) = true) ∧ Wk.inB L (at' (n + 1) a d) = false
theorem LK.ray (hL : LK L w) {a d : Spt} (hd : d ∈ dirs) (ha : InL L a) : ∃ n, RayIs L a d n := by
  have h9 : Wk.inB L (at' (8 + 1) a d) = false := by
    cases e : Wk.inB L (at' (8 + 1) a d) with
    | false => rfl
    | true =>
      exfalso
      have h := hL.inL.mp (hL.inB.mp e)
      have ha := hL.inL.mp ha
      have h2 := hL.is.h2
      have hw := hL.is.w2
      obtain ⟨t1, t2, t3⟩ := mem_dirs.mp hd
      have x1 : 0 ≤ a.1 + ((8 + 1 : Nat) : Int) * d.1 := h.1
      have x2 : a.1 + ((8 + 1 : Nat) : Int) * d.1 < L.length := h.2.1
      have x3 : 0 ≤ a.2 + ((8 + 1 : Nat) : Int) * d.2 := h.2.2.1
      have x4 : a.2 + ((8 + 1 : Nat) : Int) * d.2 < w := h.2.2.2
      rcases t1 with c | c | c
      · rw [c] at x1 x2; omega
      · rw [c] at x1 x2; omega
      · rcases t2 with c2 | c2 | c2
        · rw [c2] at x3 x4; omega
        · rw [c2] at x3 x4; omega
        · exact t3 ⟨c, c2⟩
  exact first (p := fun k => Wk.inB L (at' (k + 1) a d)) 8 h9
open Classical in
noncomputable def rayN (L : Land) (a d : Spt) : Nat := if h : ∃ n, RayIs L a d n then Classical.choose h else 0
theorem LK.rayN (hL : LK L w) {a d : Spt} (hd : d ∈ dirs) (ha : InL L a) : RayIs L a d (Wk.rayN L a d) := by
  unfold Wk.rayN
  rw [dif_pos (hL.ray hd ha)]
  exact Classical.choose_spec (hL.ray hd ha)
end
end Wk
namespace Wk
open PySem PySem.Spec PyProof.Rows L2 Pv
abbrev LD := List (Spt × List Spt)
def addTo (a d : Spt) (D : LD) : Nat → LD
  | 0 => D
  | n + 1 => kput (addTo a d D n) (at' (n + 1) a d) (lin a d (n + 1))
noncomputable def addAll (L : Land) (a : Spt) (ds : List Spt) (D : LD) : LD := ds.foldl (fun D d => addTo a d D (rayN L a d)) D
noncomputable def linesOf (L : Land) (a : Spt) : LD := addAll L a dirs []
structure DI (L : Land) (a : Spt) (D : LD) : Prop where
  nd : (dkeys D).Nodup
  val : ∀ b l, kget D b = some l → a ≠ b ∧ InL L b ∧ lineTo a b = some l
section
variable {L : Land} {w : Nat}
theorem DI.put {a d : Spt} {D : LD} {n : Nat} (hL : LK L w) (h : DI L a D) (ha : InL L a) (hd : d ∈ dirs) (hn : n < rayN L a d) : DI L a (kput D (at' (n + 1) a d) (lin a d (n + 1))) := by
  refine ⟨kput_nodup h.nd, fun b l hb => ?_⟩
  rw [kget_put] at hb
  split at hb
  · rename_i e
    subst e
    rw [← Option.some.inj hb]
    exact ⟨(at_ne hd (by omega)).symm, hL.inB.mp ((hL.rayN hd ha).2.1 n hn), lineTo_at hd (by omega)⟩
  · exact h.val b l hb
theorem put_some {D : LD} {k b : Spt} {v : List Spt} (h : (kget D b).isSome = true) : (kget (kput D k v) b).isSome = true := by
  rw [kget_put]
  split
  · rfl
  · exact h
theorem addTo_di {a d : Spt} {D : LD} (hL : LK L w) (h : DI L a D) (ha : InL L a) (hd : d ∈ dirs) : ∀ n, n ≤ rayN L a d → DI L a (addTo a d D n)
  | 0, _ => h
  | n + 1, hn => (addTo_di hL h ha hd n (by omega)).put hL ha hd (by omega)
theorem addTo_keep {a d b : Spt} {D : LD} (h : (kget D b).isSome = true) : ∀ n, (kget (addTo a d D n) b).isSome = true
  | 0 => h
  | n + 1 => put_some (addTo_keep h n)
theorem addTo_has {a d : Spt} {D : LD} : ∀ (n : Nat) k, k < n → (kget (addTo a d D n) (at' (k + 1) a d)).isSome = true
  | 0, k, h => absurd h (by omega)
  | n + 1, k, h => by
    by_cases e : k = n
    · subst e
      show (kget (kput _ _ _) _).isSome = true
      rw [kget_put, if_pos rfl]
      rfl
    · exact put_some (addTo_has n k (by omega))
theorem addTo_len {a d : Spt} {D : LD} : ∀ n, (addTo a d D n).length ≤ D.length + n
  | 0 => Nat.le_refl _
  | n + 1 => by
    have h1 := addTo_len (a := a) (d := d) (D := D) n
    have h2 := kput_len (addTo a d D n) (at' (n + 1) a d) (lin a d (n + 1))
    show (kput _ _ _).length ≤ _
    omega
theorem addAll_di {a : Spt} (hL : LK L w) (ha : InL L a) : ∀ (ds : List Spt) (D : LD), (∀ d ∈ ds, d ∈ dirs) → DI L a D → DI L a (addAll L a ds D)
  | [], D, _, h => h
  | d :: ds, D, hd, h => addAll_di hL ha ds _ (fun x hx => hd x (by simp [hx])) (addTo_di hL h ha (hd d (by simp)) _ (Nat.le_refl _))
theorem addAll_keep {a b : Spt} : ∀ (ds : List Spt) (D : LD), (kget D b).isSome = true → (kget (addAll L a ds D) b).isSome = true
  | [], D, h => h
  | d :: ds, D, h => addAll_keep ds _ (addTo_keep h _)
theorem addAll_has {a d : Spt} {k : Nat} : ∀ (ds : List Spt) (D : LD), d ∈ ds → k < rayN L a d → (kget (addAll L a ds D) (at' (k + 1) a d)).isSome = true
  | [], D, h, _ => by simp at h
  | e :: ds, D, h, hk => by
    rcases List.mem_cons.mp h with rfl | h
    · exact addAll_keep ds _ (addTo_has _ k hk)
    · exact addAll_has ds _ h hk
theorem addAll_len {a : Spt} (hL : LK L w) (ha : InL L a) : ∀ (ds : List Spt) (D : LD), (∀ d ∈ ds, d ∈ dirs) → (addAll L a ds D).length ≤ D.length + 8 * ds.length
  | [], D, _ => Nat.le_refl _
  | d :: ds, D, hd => by
    have h1 := addAll_len hL ha ds (addTo a d D (rayN L a d)) (fun x hx => hd x (by simp [hx]))
    have h2 := addTo_len (a := a) (d := d) (D := D) (rayN L a d)
    have h3 := (hL.rayN (hd d (by simp)) ha).1
    show (addAll L a ds (addTo a d D (rayN L a d))).length ≤ _
    rw [List.length_cons]
    omega
theorem lines_di {a : Spt} (hL : LK L w) (ha : InL L a) : DI L a (linesOf L a) := addAll_di hL ha dirs [] (fun d h => h) ⟨by simp [dkeys], fun b l h => by cases h⟩
/-- what the dict of lines tells of a spot -/
theorem lines_get {a b : Spt} (hL : LK L w) (ha : InL L a) (hb : InL L b) : kget (linesOf L a) b = if a = b then none else lineTo a b := by
  have di := lines_di hL ha
  cases e : kget (linesOf L a) b with
  | some l =>
    obtain ⟨h1, h2, h3⟩ := di.val b l e
    rw [if_neg h1, h3]
  | none =>
    by_cases hab : a = b
    · rw [if_pos hab]
    · rw [if_neg hab]
      cases e2 : lineTo a b with
      | none => rfl
      | some l =>
        exfalso
        obtain ⟨d, k, hd, hk, rfl, rfl⟩ := lineTo_some e2 hab
        have hr := hL.rayN hd ha
        have hlt : k ≤ rayN L a d := by
          apply Nat.le_of_not_lt
          intro h
          have h1 := hL.mid hd ha hb (k := rayN L a d + 1) (by omega)
          rw [← hL.inB, hr.2.2] at h1
          cases h1
        have h2 := addAll_has (L := L) (a := a) (d := d) (k := k - 1) dirs [] hd (by omega)
        rw [show k - 1 + 1 = k by omega] at h2
        unfold linesOf at e
        rw [e] at h2
        cases h2
theorem lines_key {a b : Spt} (hL : LK L w) (ha : InL L a) : b ∈ dkeys (linesOf L a) ↔ InL L b ∧ a ≠ b ∧ (lineTo a b).isSome = true := by
  have h : (kget (linesOf L a) b).isSome = true ↔ b ∈ dkeys (linesOf L a) := by rw [kget_mem]; simp only [decide_eq_true_eq]
  constructor
  · intro hm
    obtain ⟨l, e⟩ := Option.isSome_iff_exists.mp (h.mpr hm)
    obtain ⟨h1, h2, h3⟩ := (lines_di hL ha).val b l e
    exact ⟨h2, h1, by rw [h3]; rfl⟩
  · rintro ⟨h1, h2, h3⟩
    rw [lines_get hL ha h1, if_neg h2] at h
    exact h.mp h3
theorem lin_len {a d : Spt} {n : Nat} : (lin a d n).length = n := by simp [lin]
theorem lin_mem {a d x : Spt} {n : Nat} (hL : LK L w) (hd : d ∈ dirs) (ha : InL L a) (hn : InL L (at' n a d)) (hx : x ∈ lin a d n) : InL L x := by
  unfold lin at hx
  obtain ⟨k, hk, rfl⟩ := List.mem_map.mp hx
  have := List.mem_range.mp hk
  exact hL.mid hd ha hn (by omega)
/-- a line between two spots of the land lies in it -/
theorem lineTo_in {a b : Spt} {l : List Spt} (hL : LK L w) (ha : InL L a) (hb : InL L b) (hn : a ≠ b) (h : lineTo a b = some l) : (∀ x ∈ l, InL L x) ∧ 0 < l.length ∧ l.length ≤ 8 := by
  obtain ⟨d, k, hd, hk, rfl, rfl⟩ := lineTo_some h hn
  refine ⟨fun x hx => lin_mem hL hd ha hb hx, by rw [lin_len]; exact hk, ?_⟩
  rw [lin_len]
  have hr := hL.rayN hd ha
  apply Nat.le_of_not_lt
  intro h8
  have h0 := hr.1
  have h1 := hL.mid hd ha hb (k := rayN L a d + 1) (by omega)
  rw [← hL.inB, hr.2.2] at h1
  cases h1
theorem lineTo_self {a : Spt} : lineTo a a = some [] := by
  unfold lineTo
  simp [iabs, lin]
end
end Wk
namespace Wk
open PySem PySem.Spec PyProof.Rows L2 Pv
theorem sp_stepped {s d : Spt} {k : Int} (hd : mulOk k d.1 = true ∧ mulOk k d.2 = true) : f_stepped [pvS s, pvS d, .int k] = some (pvS (s.1 + k * d.1, s.2 + k * d.2), [pvS s, pvS d, .int k]) := by
  refine fn_val (wp_exit rfl ?_)
  unfold b_stepped
  simp [hd.1, hd.2]
  rfl
theorem sp_sign_by {x : Int} : f_sign_by [.int x] = some (.int (sg x), [.int x]) := by
  refine fn_val (wp_exit rfl ?_)
  unfold b_sign_by
  simp [sg]
theorem sg_ok {k x : Int} : mulOk k (sg x) = true := by
  have : -2 < sg x ∧ sg x < 2 := by unfold sg; split <;> split <;> omega
  exact mulOk_r (by omega) (by omega)
def pvO : Option (List Spt) → PV
  | none => .non
  | some l => .lst true (sps l)
noncomputable def lnt1 : D Fl := (dpars [2, 3] (dcons (dop (fun a b => dfn gSub [a, b]) (dop dixA (dname 1) (dcon (.int 0))) (dop dixA (dname 0) (dcon (.int 0)))) (dcons (dop (fun a b => dfn gSub [a, b]) (dop dixA (dname 1) (dcon (.int 1))) (dop dixA (dname 0) (dcon (.int 1)))) dnil)))
noncomputable def lnt2 : D Fl := (dite (dtand (dtst (dop (fun a b => dfn gNe [a, b]) (dname 2) (dcon (.int 0)))) (dtand (dtst (dop (fun a b => dfn gNe [a, b]) (dname 3) (dcon (.int 0)))) (dtst (dop (fun a b => dfn gNe [a, b]) (dcall (dfn gAbs) (dcons (dname 2) dnil)) (dcall (dfn gAbs) (dcons (dname 3) dnil)))))) (dret (dcon .non)) dskip)
noncomputable def lnt3 : D Fl := (dpars [4, 5] (dcons (dtup (dcons (dcallF f_sign_by (dcons (dname 2) dnil)) (dcons (dcallF f_sign_by (dcons (dname 3) dnil)) dnil))) (dcons (dcall (dfn gMax) (dcons (dcall (dfn gAbs) (dcons (dname 2) dnil)) (dcons (dcall (dfn gAbs) (dcons (dname 3) dnil)) dnil))) dnil)))
noncomputable def lnt4 : D Fl := (dret (dlc (drange2 (dcons (dcon (.int 1)) (dcons (dop (fun a b => dfn gAdd [a, b]) (dname 5) (dcon (.int 1))) dnil))) (.nm 6) [6] (dpure true) (dcallF f_stepped (dcons (dname 0) (dcons (dname 4) (dcons (dname 6) dnil))))))
theorem lnt_eq : b_line_to = dseq lnt1 (dseq lnt2 (dseq lnt3 lnt4)) := rfl
theorem iabs_is {x : Int} : (if x < 0 then -x else x) = iabs x := rfl
def mx (a b : Int) : Int := if a < b then b else a
theorem lnt1_ok {a b : Spt} : WP lnt1 [.val (pvS a), .val (pvS b), .un, .un, .un, .un, .un] fun f e => f = .nx ∧ e = [.val (pvS a), .val (pvS b), .val (.int (b.1 - a.1)), .val (.int (b.2 - a.2)), .un, .un, .un] := by
  unfold lnt1
  simp -implicitDefEqProofs
theorem lnt3_ok {a b : Spt} {x y : Int} : WP lnt3 [.val (pvS a), .val (pvS b), .val (.int x), .val (.int y), .un, .un, .un] fun f e => f = .nx ∧ e = [.val (pvS a), .val (pvS b), .val (.int x), .val (.int y), .val (pvS (sg x, sg y)), .val (.int (mx (iabs x) (iabs y))), .un] := by
  unfold lnt3
  simp -implicitDefEqProofs [sp_sign_by, iabs_is, mx]
  rfl
theorem lnt4_ok {a b d : Spt} {x y : Int} {n : Int} (hd : ∀ k, mulOk k d.1 = true ∧ mulOk k d.2 = true) (h0 : 0 ≤ n) (hn : n ≤ 1000) : WP lnt4 [.val (pvS a), .val (pvS b), .val (.int x), .val (.int y), .val (pvS d), .val (.int n), .un] fun f e => f = .rt (.val (.lst true (sps (lin a d n.toNat)))) ∧ ∃ x y z u, e = [.val (pvS a), .val (pvS b), x, y, z, u, .un] := by
  unfold lnt4
  have o1 : okB 1 := by unfold okB; omega
  have o2 : okB (n + 1) := by unfold okB; omega
  simp -implicitDefEqProofs [o1, o2]
  refine ⟨by rw [rangeP_len]; omega, ?_⟩
  have er : rangeP 1 n.toNat 1 = (List.range n.toNat).map fun (k : Nat) => PV.int (1 + (k : Int) * 1) := rfl
  rw [er]
  refine wp_lcT (fun _ => true) (fun (k : Nat) => pvS (at' (k + 1) a d)) (fun k hk => ?_) ?_
  · simp -implicitDefEqProofs [sp_stepped (hd _)]
    unfold at'
    rw [show (((k + 1 : Nat) : Int)) = 1 + (k : Int) by omega]
  · simp -implicitDefEqProofs
    simp [lin, sps]
theorem sp_line_to {a b : Spt} (h : iabs (b.1 - a.1) ≤ 1000 ∧ iabs (b.2 - a.2) ≤ 1000) : f_line_to [pvS a, pvS b] = some (pvO (lineTo a b), [pvS a, pvS b]) := by
  obtain ⟨h1, h2⟩ := h
  refine fn_val (wp_exit rfl ?_)
  rw [lnt_eq, wp_seq]
  refine wp_mono lnt1_ok ?_
  rintro f e ⟨rfl, rfl⟩
  refine then_nx ?_
  rw [wp_seq]
  unfold lineTo
  by_cases hc : b.1 - a.1 ≠ 0 ∧ b.2 - a.2 ≠ 0 ∧ iabs (b.1 - a.1) ≠ iabs (b.2 - a.2)
  · rw [if_pos hc]
    obtain ⟨c1, c2, c3⟩ := hc
    unfold lnt2
    simp -implicitDefEqProofs [c1, c2, iabs_is, c3, pvO]
  · rw [if_neg hc]
    have h2 : WP lnt2 [.val (pvS a), .val (pvS b), .val (.int (b.1 - a.1)), .val (.int (b.2 - a.2)), .un, .un, .un] fun f e => f = .nx ∧ e = [.val (pvS a), .val (pvS b), .val (.int (b.1 - a.1)), .val (.int (b.2 - a.2)), .un, .un, .un] := by
      unfold lnt2
      by_cases c1 : b.1 - a.1 = 0
      · simp -implicitDefEqProofs [c1]
      · by_cases c2 : b.2 - a.2 = 0
        · simp -implicitDefEqProofs [c1, c2]
        · have c3 : iabs (b.1 - a.1) = iabs (b.2 - a.2) := by
            by_cases e : iabs (b.1 - a.1) = iabs (b.2 - a.2)
            · exact e
            · exact absurd ⟨c1, c2, e⟩ hc
          simp -implicitDefEqProofs [c1, c2, iabs_is, c3]
    refine wp_mono h2 ?_
    rintro f e ⟨rfl, rfl⟩
    refine then_nx ?_
    rw [wp_seq]
    refine wp_mono lnt3_ok ?_
    rintro f e ⟨rfl, rfl⟩
    refine then_nx ?_
    have q1 := (sg_abs (b.1 - a.1)).2.1
    have q2 := (sg_abs (b.2 - a.2)).2.1
    refine wp_mono (lnt4_ok (fun k => ⟨sg_ok, sg_ok⟩) (by unfold mx; split <;> omega) (by unfold mx; split <;> omega)) ?_
    rintro f e ⟨rfl, x, y, z, u, rfl⟩
    simp -implicitDefEqProofs [pvO, mx]
end Wk
namespace Wk
open PySem PySem.Spec PyProof.Rows L2 Pv
theorem gate_mono {α : Type} {o : Option α} {k k' : α → Prop} (h : gate o k) (hk : ∀ e, k e → k' e) : gate o k' := by
  cases o with
  | none => exact h
  | some e => exact hk e h
@[simp] theorem sps_snoc {l : List Spt} {v : Spt} : sps l ++ [pvS v] = sps (l ++ [v]) := by simp [sps]
def elt (l : List Spt) (k : Nat) : Spt := l.getD k (0, 0)
theorem elt_mem {l : List Spt} {k : Nat} (h : k < l.length) : elt l k ∈ l := by
  unfold elt
  rw [List.getD, List.getElem?_eq_getElem h]
  exact List.getElem_mem h
theorem elt_get {l : List Spt} {k : Nat} (h : k < l.length) : l[k]? = some (elt l k) := by
  unfold elt
  rw [List.getD, List.getElem?_eq_getElem h]
  rfl
theorem sps_get {l : List Spt} {k : Nat} (h : k < l.length) : (sps l)[k]? = some (pvS (elt l k)) := by
  unfold sps
  rw [List.getElem?_map, elt_get h]
  rfl
theorem ixV_sps {a : Sl} {o : Bool} {l : List Spt} {i : Int} (h0 : 0 ≤ i) (h1 : i < l.length) : ixV a (some (.lst o (sps l))) (some (.int i)) = some (.val (pvS (elt l i.toNat))) := by
  unfold ixV
  dsimp only
  rw [ixN_nat h0 (by simpa using h1)]
  dsimp only
  rw [sps_get (by omega)]
  simp
theorem ixV_spl {a : Sl} {o : Bool} {l : List Spt} (h1 : 0 < l.length) : ixV a (some (.lst o (sps l))) (some (.int (-1))) = some (.val (pvS (elt l (l.length - 1)))) := by
  unfold ixV
  have e1 : ixN (sps l).length (-1) = some (l.length - 1) := by
    unfold ixN
    rw [if_neg (by omega), if_pos (by simp; omega)]
    simp
    omega
  dsimp only
  rw [e1]
  dsimp only
  rw [sps_get (by omega)]
  simp
def lastOf (l : List Spt) : Spt := elt l (l.length - 1)
def cnd (L : Land) (a : Spt) (l : List Spt) (y : Int) (k : Nat) : Bool := decide (ht L (elt l k) * l.length ≥ (ht L a + y) * ((l.length : Int) - ((k : Int) + 1)) + ht L (lastOf l) * ((k : Int) + 1))
def hidTo (L : Land) (a : Spt) (l : List Spt) (y : Int) (n : Nat) : List Spt := ((List.range n).filter (cnd L a l y)).map (elt l)
def hid (L : Land) (a : Spt) (l : List Spt) (y : Int) : List Spt := hidTo L a l y (l.length - 1)
theorem hidTo_len {L : Land} {a : Spt} {l : List Spt} {y : Int} {n : Nat} : (hidTo L a l y n).length ≤ n := by
  unfold hidTo
  rw [List.length_map]
  exact Nat.le_trans (List.length_filter_le _ _) (by simp)
theorem hidTo_succ {L : Land} {a : Spt} {l : List Spt} {y : Int} {n : Nat} : hidTo L a l y (n + 1) = if cnd L a l y n = true then hidTo L a l y n ++ [elt l n] else hidTo L a l y n := by
  unfold hidTo
  rw [List.range_succ, List.filter_append, List.map_append]
  by_cases h : cnd L a l y n = true
  · rw [if_pos h]; simp [h]
  · rw [if_neg h]; simp [h]
theorem mulN {x : Int} {n : Nat} (h : n ≤ 1000) : mulOk x (n : Int) = true := mulOk_r (by omega) (by omega)
/-- a line of the land: what the walks need to know -/
structure Ln (L : Land) (l : List Spt) : Prop where
  m : ∀ x ∈ l, InL L x
  p : 0 < l.length
  q : l.length ≤ 8
theorem Ln.elt {L : Land} {l : List Spt} (h : Ln L l) {k : Nat} (hk : k < l.length) : InL L (elt l k) := h.m _ (elt_mem hk)
noncomputable def hsp1 : D Fl := (dpars [4, 5] (dcons (dcall (dfn gLen) (dcons (dname 2) dnil)) (dcons (dop (fun a b => dfn gAdd [a, b]) (dcallF f_height_of (dcons (dname 0) (dcons (dname 1) dnil))) (dname 3)) dnil)))
noncomputable def hsp2 : D Fl := (dpars [6, 7] (dcons (dcallF f_height_of (dcons (dname 0) (dcons (dop dixA (dname 2) (dun (fun a => dfn gNeg [a]) (dcon (.int 1)))) dnil))) (dcons (dlst dnil) dnil)))
noncomputable def hsp3 : D Fl := (dfor (.nm 8) (drange2 (dcons (dcon (.int 1)) (dcons (dname 4) dnil))) (dseq (dset 9 (dop dixA (dname 2) (dop (fun a b => dfn gSub [a, b]) (dname 8) (dcon (.int 1))))) (dite (dtst (dop (fun a b => dfn gGe [a, b]) (dop (fun a b => dfn gMul [a, b]) (dcallF f_height_of (dcons (dname 0) (dcons (dname 9) dnil))) (dname 4)) (dop (fun a b => dfn gAdd [a, b]) (dop (fun a b => dfn gMul [a, b]) (dname 5) (dop (fun a b => dfn gSub [a, b]) (dname 4) (dname 8))) (dop (fun a b => dfn gMul [a, b]) (dname 6) (dname 8))))) (dexpr (dmeth gAppend (dname 7) (dcons (dname 9) dnil))) dskip)))
noncomputable def hsp4 : D Fl := (dret (dname 7))
theorem hsp_eq : b_hiding_spots = dseq hsp1 (dseq hsp2 (dseq hsp3 hsp4)) := rfl
def envH (L : Land) (a : Spt) (o : Bool) (l : List Spt) (y : Int) (n : Nat) (x z : Sl) : PEnv := [.val (pvLand L), .val (pvS a), .val (.lst o (sps l)), .val (.int y), .val (.int l.length), .val (.int (ht L a + y)), .val (.int (ht L (lastOf l))), .val (.lst true (sps (hidTo L a l y n))), x, z]
noncomputable def hspB : D Fl := (dseq (dset 9 (dop dixA (dname 2) (dop (fun a b => dfn gSub [a, b]) (dname 8) (dcon (.int 1))))) (dite (dtst (dop (fun a b => dfn gGe [a, b]) (dop (fun a b => dfn gMul [a, b]) (dcallF f_height_of (dcons (dname 0) (dcons (dname 9) dnil))) (dname 4)) (dop (fun a b => dfn gAdd [a, b]) (dop (fun a b => dfn gMul [a, b]) (dname 5) (dop (fun a b => dfn gSub [a, b]) (dname 4) (dname 8))) (dop (fun a b => dfn gMul [a, b]) (dname 6) (dname 8))))) (dexpr (dmeth gAppend (dname 7) (dcons (dname 9) dnil))) dskip))
theorem hsp_body {L : Land} {a : Spt} {l : List Spt} {w : Nat} {y t : Int} {o : Bool} {x z : Sl} {n : Nat} (hL : LK L w) (hl : Ln L l) (hy : 0 ≤ y ∧ y ≤ 1000) (ha : InL L a) (hx : Plain x) (hz : Plain z) (hn : n < l.length - 1) (et : t = (n : Int) + 1) :
    gate (setT (.nm 8) (.int t) (envH L a o l y n x z)) fun e => WP hspB e fun f e => f = .nx ∧ ∃ x z, Plain x ∧ Plain z ∧ e = envH L a o l y (n + 1) x z := by
  have hq := hl.q
  have i1 : ∀ b : Sl, ixV b (some (.lst o (sps l))) (some (.int (t - 1))) = some (.val (pvS (elt l n))) := fun b => by
    rw [ixV_sps (by omega) (by omega)]
    have : (t - 1).toNat = n := by omega
    rw [this]
  have h1 := sp_height_of (hl.elt (k := n) (by omega))
  have m1 : mulOk (ht L (elt l n)) (l.length : Int) = true := mulN (by omega)
  have m2 : mulOk (ht L a + y) ((l.length : Int) - t) = true := mulOk_r (by omega) (by omega)
  have m3 : mulOk (ht L (lastOf l)) t = true := mulOk_r (by omega) (by omega)
  have hlen : (hidTo L a l y n).length ≤ n := hidTo_len
  have hc : cnd L a l y n = decide (ht L (elt l n) * l.length ≥ (ht L a + y) * ((l.length : Int) - t) + ht L (lastOf l) * t) := by
    unfold cnd
    rw [← et]
  unfold hspB envH
  rw [hidTo_succ, hc]
  generalize hidTo L a l y n = H at *
  by_cases c : (ht L a + y) * ((l.length : Int) - t) + ht L (lastOf l) * t ≤ ht L (elt l n) * l.length
  · cases o <;> simp -implicitDefEqProofs [hx.r 8, hz.r 8, i1, h1, m1, m2, m3, c] <;> exact ⟨by omega, plain_val, plain_val⟩
  · cases o <;> simp -implicitDefEqProofs [hx.r 8, hz.r 8, i1, h1, m1, m2, m3, c] <;> exact ⟨plain_val, plain_val⟩
theorem sp_hiding {L : Land} {a : Spt} {l : List Spt} {w : Nat} {y : Int} {o : Bool} (hL : LK L w) (hl : Ln L l) (hy : 0 ≤ y ∧ y ≤ 1000) (ha : InL L a) : f_hiding_spots [pvLand L, pvS a, .lst o (sps l), .int y] = some (.lst true (sps (hid L a l y)), [pvLand L, pvS a, .lst o (sps l), .int y]) := by
  have hq := hl.q
  have hp := hl.p
  refine fn_val (wp_exit rfl ?_)
  rw [hsp_eq]
  have i1 : ∀ b : Sl, ixV b (some (.lst o (sps l))) (some (.int (-1))) = some (.val (pvS (lastOf l))) := fun b => ixV_spl hp
  have h1 := sp_height_of (hl.elt (k := l.length - 1) (by omega))
  have s1 : WP (dseq hsp1 hsp2) [.val (pvLand L), .val (pvS a), .val (.lst o (sps l)), .val (.int y), .un, .un, .un, .un, .un, .un] fun f e => f = .nx ∧ e = envH L a o l y 0 .un .un := by
    unfold hsp1 hsp2 envH
    have e0 : hidTo L a l y 0 = [] := rfl
    have h2 : f_height_of [pvLand L, pvS (lastOf l)] = some (.int (ht L (lastOf l)), [pvLand L, pvS (lastOf l)]) := h1
    rw [e0]
    cases o <;> simp -implicitDefEqProofs [i1, h2, sp_height_of ha, sps_nil]
  have s3 : ∀ {a b c : D Fl} {env Q}, WP (dseq (dseq a b) c) env Q → WP (dseq a (dseq b c)) env Q := fun {a b c env Q} hh => by
    rw [wp_seq, wp_seq] at hh
    rw [wp_seq]
    refine wp_mono hh ?_
    intro f e he
    cases f with
    | nx => simp only [thenF] at he ⊢; rw [wp_seq]; exact he
    | _ => exact he
  refine s3 ?_
  rw [wp_seq]
  refine wp_mono s1 ?_
  rintro f e ⟨rfl, rfl⟩
  refine then_nx ?_
  rw [wp_seq]
  have s4 : WP hsp3 (envH L a o l y 0 .un .un) fun f e => f = .nx ∧ ∃ x z, Plain x ∧ Plain z ∧ e = envH L a o l y (l.length - 1) x z := by
    have hb : WP (forP (setT (.nm 8)) hspB (rangeP 1 (l.length - 1) 1)) (envH L a o l y 0 .un .un) fun f e => f = .nx ∧ ∃ x z, Plain x ∧ Plain z ∧ e = envH L a o l y (l.length - 1) x z := by
      refine wp_forP (fun n e => ∃ x z, Plain x ∧ Plain z ∧ e = envH L a o l y n x z) (n := 0) ⟨_, _, plain_un, plain_un, rfl⟩ ?_ ?_
      · rintro n p e hp ⟨x, z, hx, hz, rfl⟩
        obtain ⟨hn, rfl⟩ := rangeP_get hp
        rw [Nat.zero_add]
        refine gate_mono (hsp_body hL hl hy ha hx hz hn (by omega)) fun e h => ?_
        refine wp_mono h ?_
        rintro f e ⟨rfl, x, z, hx, hz, rfl⟩
        exact ⟨x, z, hx, hz, rfl⟩
      · rintro e ⟨x, z, hx, hz, rfl⟩
        rw [rangeP_len, Nat.zero_add]
        exact ⟨rfl, x, z, hx, hz, rfl⟩
    have o1 : okB 1 := by unfold okB; omega
    have e2 : ((l.length : Int) - 1).toNat = l.length - 1 := by omega
    unfold hsp3
    unfold hspB at hb
    unfold envH at hb ⊢
    simp -implicitDefEqProofs [o1, okB_nat (show l.length ≤ 1000000 by omega), e2] at hb ⊢
    exact hb
  refine wp_mono s4 ?_
  rintro f e ⟨rfl, x, z, hx, hz, rfl⟩
  refine then_nx ?_
  unfold hsp4 envH
  simp -implicitDefEqProofs [hx.r, hz.r]
  rfl
end Wk
namespace Wk
open PySem PySem.Spec PyProof.Rows L2 Pv
noncomputable def lhs1 : D Fl := (dpars [4, 5] (dcons (dcall (dfn gLen) (dcons (dname 2) dnil)) (dcons (dlst dnil) dnil)))
noncomputable def lhs2 : D Fl := (dfor (.tp [(.nm 6), (.nm 7)]) (denum (dcons (dslice (dname 2) none (some (dun (fun a => dfn gNeg [a]) (dcon (.int 1))))) dnil)) (dseq (dset 8 (dop (fun a b => dfn gAdd [a, b]) (dname 6) (dcon (.int 1)))) (dite (dtst (dop (fun a b => dfn gGe [a, b]) (dop (fun a b => dfn gMul [a, b]) (dcallF f_ulaw_at (dcons (dname 0) (dcons (dname 7) dnil))) (dname 4)) (dop (fun a b => dfn gAdd [a, b]) (dop (fun a b => dfn gMul [a, b]) (dop (fun a b => dfn gAdd [a, b]) (dcallF f_ulaw_at (dcons (dname 0) (dcons (dname 1) dnil))) (dname 3)) (dop (fun a b => dfn gSub [a, b]) (dname 4) (dname 8))) (dop (fun a b => dfn gMul [a, b]) (dcallF f_ulaw_at (dcons (dname 0) (dcons (dop dixA (dname 2) (dun (fun a => dfn gNeg [a]) (dcon (.int 1)))) dnil))) (dname 8))))) (dexpr (dmeth gAppend (dname 5) (dcons (dname 7) dnil))) dskip)))
noncomputable def lhs3 : D Fl := (dret (dname 5))
theorem lhs_eq : b_ulaw_hides = dseq lhs1 (dseq lhs2 lhs3) := rfl
noncomputable def lls1 : D Fl := (dpars [3, 4] (dcons (dcon (.int 0)) (dcons (dcall (dfn gLen) (dcons (dname 2) dnil)) dnil)))
noncomputable def lls2 : D Fl := (dfor (.tp [(.nm 5), (.nm 6)]) (denum (dcons (dslice (dname 2) none (some (dun (fun a => dfn gNeg [a]) (dcon (.int 1))))) dnil)) (dseq (dset 7 (dop (fun a b => dfn gSub [a, b]) (dop (fun a b => dfn gMul [a, b]) (dcallF f_ulaw_at (dcons (dname 0) (dcons (dname 6) dnil))) (dname 4)) (dop (fun a b => dfn gMul [a, b]) (dcallF f_ulaw_at (dcons (dname 0) (dcons (dop dixA (dname 2) (dun (fun a => dfn gNeg [a]) (dcon (.int 1)))) dnil))) (dop (fun a b => dfn gAdd [a, b]) (dname 5) (dcon (.int 1)))))) (dset 3 (dcall (dfn gMax) (dcons (dname 3) (dcons (dop (fun a b => dfn gSub [a, b]) (dop (fun a b => dfn gAdd [a, b]) (dop (fun a b => dfn gDiv [a, b]) (dname 7) (dop (fun a b => dfn gSub [a, b]) (dop (fun a b => dfn gSub [a, b]) (dname 4) (dname 5)) (dcon (.int 1)))) (dcon (.int 1))) (dcallF f_ulaw_at (dcons (dname 0) (dcons (dname 1) dnil)))) dnil))))))
noncomputable def lls3 : D Fl := (dret (dname 3))
theorem lls_eq : b_ulaw_least = dseq lls1 (dseq lls2 lls3) := rfl
noncomputable def lhsB : D Fl := (dseq (dset 8 (dop (fun a b => dfn gAdd [a, b]) (dname 6) (dcon (.int 1)))) (dite (dtst (dop (fun a b => dfn gGe [a, b]) (dop (fun a b => dfn gMul [a, b]) (dcallF f_ulaw_at (dcons (dname 0) (dcons (dname 7) dnil))) (dname 4)) (dop (fun a b => dfn gAdd [a, b]) (dop (fun a b => dfn gMul [a, b]) (dop (fun a b => dfn gAdd [a, b]) (dcallF f_ulaw_at (dcons (dname 0) (dcons (dname 1) dnil))) (dname 3)) (dop (fun a b => dfn gSub [a, b]) (dname 4) (dname 8))) (dop (fun a b => dfn gMul [a, b]) (dcallF f_ulaw_at (dcons (dname 0) (dcons (dop dixA (dname 2) (dun (fun a => dfn gNeg [a]) (dcon (.int 1)))) dnil))) (dname 8))))) (dexpr (dmeth gAppend (dname 5) (dcons (dname 7) dnil))) dskip))
noncomputable def llsB : D Fl := (dseq (dset 7 (dop (fun a b => dfn gSub [a, b]) (dop (fun a b => dfn gMul [a, b]) (dcallF f_ulaw_at (dcons (dname 0) (dcons (dname 6) dnil))) (dname 4)) (dop (fun a b => dfn gMul [a, b]) (dcallF f_ulaw_at (dcons (dname 0) (dcons (dop dixA (dname 2) (dun (fun a => dfn gNeg [a]) (dcon (.int 1)))) dnil))) (dop (fun a b => dfn gAdd [a, b]) (dname 5) (dcon (.int 1)))))) (dset 3 (dcall (dfn gMax) (dcons (dname 3) (dcons (dop (fun a b => dfn gSub [a, b]) (dop (fun a b => dfn gAdd [a, b]) (dop (fun a b => dfn gDiv [a, b]) (dname 7) (dop (fun a b => dfn gSub [a, b]) (dop (fun a b => dfn gSub [a, b]) (dname 4) (dname 5)) (dcon (.int 1)))) (dcon (.int 1))) (dcallF f_ulaw_at (dcons (dname 0) (dcons (dname 1) dnil)))) dnil)))))
theorem cut_init {l : List Spt} : cutP (sps l) none (some (-1)) = sps l.dropLast := by
  unfold sps
  rw [cutP_map, cutG_init]
theorem enum_get {l : List Spt} {i : Nat} {p : PV} (h : ((sps l.dropLast).zipIdx.map fun p => PV.tup [.int (p.2 : Nat), p.1])[i]? = some p) : i < l.length - 1 ∧ p = .tup [.int (i : Nat), pvS (elt l i)] := by
  rw [List.getElem?_map, List.getElem?_zipIdx] at h
  unfold sps at h
  rw [List.getElem?_map, List.dropLast_eq_take, List.getElem?_take] at h
  by_cases hi : i < l.length - 1
  · rw [if_pos hi, elt_get (by omega)] at h
    refine ⟨hi, ?_⟩
    have := Option.some.inj h
    rw [← this]
    simp
  · rw [if_neg hi] at h
    cases h
theorem enum_len {l : List Spt} : ((sps l.dropLast).zipIdx.map fun p => PV.tup [.int (p.2 : Nat), p.1]).length = l.length - 1 := by simp
def envG (L : Land) (a : Spt) (o : Bool) (l : List Spt) (y : Int) (n : Nat) (x z u : Sl) : PEnv := [.val (pvLand L), .val (pvS a), .val (.lst o (sps l)), .val (.int y), .val (.int l.length), .val (.lst true (sps (hidTo L a l y n))), x, z, u]
section
variable {L : Land} {a : Spt} {l : List Spt} {w : Nat} {o : Bool} {x z u : Sl} {n : Nat}
theorem lhs_body {y : Int} (hL : LK L w) (hl : Ln L l) (hy : 0 ≤ y ∧ y ≤ 1000) (ha : InL L a) (hx : Plain x) (hz : Plain z) (hu : Plain u) (hn : n < l.length - 1) :
    gate (setT (.tp [.nm 6, .nm 7]) (.tup [.int (n : Nat), pvS (elt l n)]) (envG L a o l y n x z u)) fun e => WP lhsB e fun f e => f = .nx ∧ ∃ x z u, Plain x ∧ Plain z ∧ Plain u ∧ e = envG L a o l y (n + 1) x z u := by
  have hq := hl.q
  have i1 : ∀ b : Sl, ixV b (some (.lst o (sps l))) (some (.int (-1))) = some (.val (pvS (lastOf l))) := fun b => ixV_spl hl.p
  have h1 := sp_ulaw_at (hl.elt (k := n) (by omega))
  have h2 : f_ulaw_at [pvLand L, pvS (lastOf l)] = some (.int (ht L (lastOf l)), [pvLand L, pvS (lastOf l)]) := sp_ulaw_at (hl.elt (k := l.length - 1) (by omega))
  have m1 : mulOk (ht L (elt l n)) (l.length : Int) = true := mulN (by omega)
  have m2 : mulOk (ht L a + y) ((l.length : Int) - ((n : Int) + 1)) = true := mulOk_r (by omega) (by omega)
  have m3 : mulOk (ht L (lastOf l)) ((n : Int) + 1) = true := mulOk_r (by omega) (by omega)
  have hlen : (hidTo L a l y n).length ≤ n := hidTo_len
  have hc : cnd L a l y n = decide (ht L (elt l n) * l.length ≥ (ht L a + y) * ((l.length : Int) - ((n : Int) + 1)) + ht L (lastOf l) * ((n : Int) + 1)) := rfl
  unfold lhsB envG
  rw [hidTo_succ, hc]
  generalize hidTo L a l y n = H at *
  by_cases c : (ht L a + y) * ((l.length : Int) - ((n : Int) + 1)) + ht L (lastOf l) * ((n : Int) + 1) ≤ ht L (elt l n) * l.length
  · cases o <;> simp -implicitDefEqProofs [hx.r, hz.r, hu.r, i1, h1, h2, sp_ulaw_at ha, m1, m2, m3, c] <;> exact ⟨by omega, _, plain_val, _, plain_val, _, plain_val, rfl, rfl, rfl⟩
  · cases o <;> simp -implicitDefEqProofs [hx.r, hz.r, hu.r, i1, h1, h2, sp_ulaw_at ha, m1, m2, m3, c] <;> exact ⟨_, plain_val, _, plain_val, _, plain_val, rfl, rfl, rfl⟩
theorem sp_lhides {y : Int} (hL : LK L w) (hl : Ln L l) (hy : 0 ≤ y ∧ y ≤ 1000) (ha : InL L a) : f_ulaw_hides [pvLand L, pvS a, .lst o (sps l), .int y] = some (.lst true (sps (hid L a l y)), [pvLand L, pvS a, .lst o (sps l), .int y]) := by
  have hq := hl.q
  have hp := hl.p
  refine fn_val (wp_exit rfl ?_)
  rw [lhs_eq, wp_seq]
  have s1 : WP lhs1 [.val (pvLand L), .val (pvS a), .val (.lst o (sps l)), .val (.int y), .un, .un, .un, .un, .un] fun f e => f = .nx ∧ e = envG L a o l y 0 .un .un .un := by
    have e0 : hidTo L a l y 0 = [] := rfl
    unfold lhs1 envG
    rw [e0]
    cases o <;> simp -implicitDefEqProofs [sps_nil]
  refine wp_mono s1 ?_
  rintro f e ⟨rfl, rfl⟩
  refine then_nx ?_
  rw [wp_seq]
  have s4 : WP lhs2 (envG L a o l y 0 .un .un .un) fun f e => f = .nx ∧ ∃ x z u, Plain x ∧ Plain z ∧ Plain u ∧ e = envG L a o l y (l.length - 1) x z u := by
    have hb : WP (forP (setT (.tp [.nm 6, .nm 7])) lhsB ((sps l.dropLast).zipIdx.map fun p => PV.tup [.int (p.2 : Nat), p.1])) (envG L a o l y 0 .un .un .un) fun f e => f = .nx ∧ ∃ x z u, Plain x ∧ Plain z ∧ Plain u ∧ e = envG L a o l y (l.length - 1) x z u := by
      refine wp_forP (fun n e => ∃ x z u, Plain x ∧ Plain z ∧ Plain u ∧ e = envG L a o l y n x z u) (n := 0) ⟨_, _, _, plain_un, plain_un, plain_un, rfl⟩ ?_ ?_
      · rintro n p e hp ⟨x, z, u, hx, hz, hu, rfl⟩
        obtain ⟨hn, rfl⟩ := enum_get hp
        rw [Nat.zero_add]
        refine gate_mono (lhs_body hL hl hy ha hx hz hu hn) fun e h => ?_
        refine wp_mono h ?_
        rintro f e ⟨rfl, x, z, u, hx, hz, hu, rfl⟩
        exact ⟨x, z, u, hx, hz, hu, rfl⟩
      · rintro e ⟨x, z, u, hx, hz, hu, rfl⟩
        rw [enum_len, Nat.zero_add]
        exact ⟨rfl, x, z, u, hx, hz, hu, rfl⟩
    unfold lhs2
    unfold lhsB at hb
    unfold envG at hb ⊢
    cases o <;> simp -implicitDefEqProofs [cut_init] at hb ⊢ <;> exact hb
  refine wp_mono s4 ?_
  rintro f e ⟨rfl, x, z, u, hx, hz, hu, rfl⟩
  refine then_nx ?_
  unfold lhs3 envG
  simp -implicitDefEqProofs [hx.r, hz.r, hu.r]
  rfl
end
end Wk
namespace Wk
open PySem PySem.Spec PyProof.Rows L2 Pv
def overK (L : Land) (a : Spt) (l : List Spt) (k : Nat) : Int := (ht L (elt l k) * l.length - ht L (lastOf l) * ((k : Int) + 1)) / ((l.length : Int) - ((k : Int) + 1)) + 1 - ht L a
def lstTo (L : Land) (a : Spt) (l : List Spt) (n : Nat) : Int := ((List.range n).map (overK L a l)).foldl mx 0
def lst (L : Land) (a : Spt) (l : List Spt) : Int := lstTo L a l (l.length - 1)
theorem lstTo_succ {L : Land} {a : Spt} {l : List Spt} {n : Nat} : lstTo L a l (n + 1) = mx (lstTo L a l n) (overK L a l n) := by
  unfold lstTo
  rw [List.range_succ, List.map_append, List.foldl_append]
  rfl
def seesB (L : Land) (y : Int) (a b : Spt) : Bool := decide (a = b) || match lineTo a b with
  | none => false
  | some l => decide ((hid L a l y).length = 0)
section
variable {L : Land} {a b : Spt} {l : List Spt} {w : Nat} {o : Bool} {x z u : Sl} {n : Nat}
theorem LK.far (hL : LK L w) (ha : InL L a) (hb : InL L b) : iabs (b.1 - a.1) ≤ 1000 ∧ iabs (b.2 - a.2) ≤ 1000 := by
  have h1 := hL.inL.mp ha
  have h2 := hL.inL.mp hb
  have h3 := hL.is.h2
  have h4 := hL.is.w2
  unfold iabs
  constructor
  · split <;> omega
  · split <;> omega
theorem LK.line (hL : LK L w) (ha : InL L a) (hb : InL L b) : f_line_to [pvS a, pvS b] = some (pvO (lineTo a b), [pvS a, pvS b]) := sp_line_to (hL.far ha hb)
theorem LK.ln (hL : LK L w) (ha : InL L a) (hb : InL L b) (hn : a ≠ b) (h : lineTo a b = some l) : Ln L l := by
  obtain ⟨h1, h2, h3⟩ := lineTo_in hL ha hb hn h
  exact ⟨h1, h2, h3⟩
theorem sp_raw_sees {y : Int} (hL : LK L w) (ha : InL L a) (hb : InL L b) (hy : 0 ≤ y ∧ y ≤ 1000) : f_raw_sees [pvLand L, pvS a, pvS b, .int y] = some (.bl (seesB L y a b), [pvLand L, pvS a, pvS b, .int y]) := by
  refine fn_val (wp_exit rfl ?_)
  unfold b_raw_sees seesB
  by_cases e : a = b
  · subst e
    simp -implicitDefEqProofs [eq_S]
  · cases hl : lineTo a b with
    | none => simp -implicitDefEqProofs [eq_S, e, hL.line ha hb, hl, pvO]
    | some l => simp -implicitDefEqProofs [eq_S, e, hL.line ha hb, hl, pvO, sp_hiding hL (hL.ln ha hb e hl) hy ha]
theorem sp_sees {y : Int} (hL : LK L w) (ha : InL L a) (hb : InL L b) (hy : 0 ≤ y ∧ y ≤ 1000) : f_sees [pvLand L, pvS a, pvS b, .int y] = some (.bl (seesB L y a b), [pvLand L, pvS a, pvS b, .int y]) := by
  refine fn_val (wp_exit rfl ?_)
  unfold b_sees
  simp -implicitDefEqProofs [sp_check_two hL ha hb, sp_check_eye hy.1 hy.2, sp_raw_sees hL ha hb hy]
def hidB (L : Land) (y : Int) (a b : Spt) : PV := if seesB L y a b = true then .non else match lineTo a b with
  | none => .tup []
  | some l => .tup (sps ((hid L a l y).mergeSort SO.le))
theorem sp_hidden_by {y : Int} (hL : LK L w) (ha : InL L a) (hb : InL L b) (hy : 0 ≤ y ∧ y ≤ 1000) : f_hidden_by [pvLand L, pvS a, pvS b, .int y] = some (hidB L y a b, [pvLand L, pvS a, pvS b, .int y]) := by
  refine fn_val (wp_exit rfl ?_)
  unfold b_hidden_by hidB
  by_cases e : seesB L y a b = true
  · simp -implicitDefEqProofs [sp_check_two hL ha hb, sp_check_eye hy.1 hy.2, sp_raw_sees hL ha hb hy, e]
  · have e' : seesB L y a b = false := by simpa using e
    have hn : a ≠ b := fun h => by unfold seesB at e'; simp [h] at e'
    cases hl : lineTo a b with
    | none => simp -implicitDefEqProofs [sp_check_two hL ha hb, sp_check_eye hy.1 hy.2, sp_raw_sees hL ha hb hy, e', hL.line ha hb, hl, pvO]
    | some l => simp -implicitDefEqProofs [sp_check_two hL ha hb, sp_check_eye hy.1 hy.2, sp_raw_sees hL ha hb hy, e', hL.line ha hb, hl, pvO, sp_hiding hL (hL.ln ha hb hn hl) hy ha, sort_S]
theorem div_ok' {x y : Int} (h0 : 0 < y) (h1 : y ≤ 1000) : gDiv [.int x, .int y] = some (.int (x / y)) := gDiv_ok h0 (by omega)
theorem sp_eye_over {t : Int} (hL : LK L w) (ha : InL L a) (hl : Ln L l) (hn : n < l.length - 1) (et : t = (n : Int) + 1) : f_eye_over [pvLand L, pvS a, .lst o (sps l), .int t] = some (.int (overK L a l n), [pvLand L, pvS a, .lst o (sps l), .int t]) := by
  have hq := hl.q
  have i1 : ∀ b : Sl, ixV b (some (.lst o (sps l))) (some (.int (t - 1))) = some (.val (pvS (elt l n))) := fun b => by
    rw [ixV_sps (by omega) (by omega)]
    have : (t - 1).toNat = n := by omega
    rw [this]
  have i2 : ∀ b : Sl, ixV b (some (.lst o (sps l))) (some (.int (-1))) = some (.val (pvS (lastOf l))) := fun b => ixV_spl hl.p
  have h1 := sp_height_of (hl.elt (k := n) (by omega))
  have h2 : f_height_of [pvLand L, pvS (lastOf l)] = some (.int (ht L (lastOf l)), [pvLand L, pvS (lastOf l)]) := sp_height_of (hl.elt (k := l.length - 1) (by omega))
  have m1 : mulOk (ht L (elt l n)) (l.length : Int) = true := mulN (by omega)
  have m3 : mulOk (ht L (lastOf l)) t = true := mulOk_r (by omega) (by omega)
  have dv : ∀ x, gDiv [.int x, .int ((l.length : Int) - t)] = some (.int (x / ((l.length : Int) - t))) := fun x => div_ok' (by omega) (by omega)
  refine fn_val (wp_exit rfl ?_)
  unfold b_eye_over overK
  rw [← et]
  cases o <;> simp -implicitDefEqProofs [i1, i2, h1, h2, sp_height_of ha, m1, m3, dv]
end
end Wk
namespace Wk
open PySem PySem.Spec PyProof.Rows L2 Pv
noncomputable def lln1 : D Fl := (dpars [3, 4] (dcons (dlst dnil) (dcons (dtup (dcons (dop (fun a b => dfn gAdd [a, b]) (dop dixA (dname 1) (dcon (.int 0))) (dop dixA (dname 2) (dcon (.int 0)))) (dcons (dop (fun a b => dfn gAdd [a, b]) (dop dixA (dname 1) (dcon (.int 1))) (dop dixA (dname 2) (dcon (.int 1)))) dnil))) dnil)))
noncomputable def lln2 : D Fl := (dwhile (dtand (dtst (dchain gLe gLt (dcon (.int 0)) (dop dixA (dname 4) (dcon (.int 0))) (dcall (dfn gLen) (dcons (dname 0) dnil)))) (dtst (dchain gLe gLt (dcon (.int 0)) (dop dixA (dname 4) (dcon (.int 1))) (dcall (dfn gLen) (dcons (dop dixA (dname 0) (dcon (.int 0))) dnil))))) (dseq (dexpr (dmeth gAppend (dname 3) (dcons (dname 4) dnil))) (dset 4 (dtup (dcons (dop (fun a b => dfn gAdd [a, b]) (dop dixA (dname 4) (dcon (.int 0))) (dop dixA (dname 2) (dcon (.int 0)))) (dcons (dop (fun a b => dfn gAdd [a, b]) (dop dixA (dname 4) (dcon (.int 1))) (dop dixA (dname 2) (dcon (.int 1)))) dnil))))))
noncomputable def lln3 : D Fl := (dret (dname 3))
theorem lln_eq : b_ulaw_line = dseq lln1 (dseq lln2 lln3) := rfl
noncomputable def llnC : D Bool := (dtand (dtst (dchain gLe gLt (dcon (.int 0)) (dop dixA (dname 4) (dcon (.int 0))) (dcall (dfn gLen) (dcons (dname 0) dnil)))) (dtst (dchain gLe gLt (dcon (.int 0)) (dop dixA (dname 4) (dcon (.int 1))) (dcall (dfn gLen) (dcons (dop dixA (dname 0) (dcon (.int 0))) dnil)))))
noncomputable def llnB : D Fl := (dseq (dexpr (dmeth gAppend (dname 3) (dcons (dname 4) dnil))) (dset 4 (dtup (dcons (dop (fun a b => dfn gAdd [a, b]) (dop dixA (dname 4) (dcon (.int 0))) (dop dixA (dname 2) (dcon (.int 0)))) (dcons (dop (fun a b => dfn gAdd [a, b]) (dop dixA (dname 4) (dcon (.int 1))) (dop dixA (dname 2) (dcon (.int 1)))) dnil)))))
theorem maxI {o : Bool} {l : List Int} : gMax [.lst o (.int 0 :: pis l)] = some (.int (l.foldl mx 0)) := by
  have h : gMax [.lst o (.int 0 :: pis l)] = some (.int (Or.int.maxL 0 l)) := Or.int.gMax (by decide) o 0 l
  rw [h]
  have e : ∀ (l : List Int) (a : Int), Or.int.maxL a l = l.foldl mx a := by
    intro l
    induction l with
    | nil => intro a; rfl
    | cons y l ih =>
      intro a
      show Or.int.maxL (if decide (a < y) = true then y else a) l = _
      rw [ih]
      simp [mx]
  rw [e]
section
variable {L : Land} {a b : Spt} {l : List Spt} {w : Nat} {o : Bool} {x z u : Sl} {n : Nat}
def pvI : Option Int → PV
  | none => .non
  | some i => .int i
theorem sp_least_eye (hL : LK L w) (ha : InL L a) (hb : InL L b) : f_least_eye [pvLand L, pvS a, pvS b] = some (pvI ((lineTo a b).map (lst L a)), [pvLand L, pvS a, pvS b]) := by
  refine fn_val (wp_exit rfl ?_)
  unfold b_least_eye
  cases hl : lineTo a b with
  | none => simp -implicitDefEqProofs [sp_check_two hL ha hb, hL.line ha hb, hl, pvO, pvI]
  | some l =>
    have hlen : l.length ≤ 8 := by
      by_cases e : a = b
      · subst e
        rw [lineTo_self] at hl
        rw [← Option.some.inj hl]
        simp
      · exact (hL.ln ha hb e hl).q
    have hln : ∀ n, n < l.length - 1 → Ln L l := fun n hn => by
      refine hL.ln ha hb (fun e => ?_) hl
      subst e
      rw [lineTo_self] at hl
      rw [← Option.some.inj hl] at hn
      simp at hn
    have o1 : okB 1 := by unfold okB; omega
    have e2 : ((l.length : Int) - 1).toNat = l.length - 1 := by omega
    simp -implicitDefEqProofs [sp_check_two hL ha hb, hL.line ha hb, hl, pvO, o1, okB_nat (show l.length ≤ 1000000 by omega), e2]
    refine ⟨by rw [rangeP_len]; omega, ?_⟩
    have er : rangeP 1 (l.length - 1) 1 = (List.range (l.length - 1)).map fun (k : Nat) => PV.int (1 + (k : Int) * 1) := rfl
    rw [er]
    refine wp_lcT (fun _ => true) (fun (k : Nat) => .int (overK L a l k)) (fun k hk => ?_) ?_
    · have hk := List.mem_range.mp hk
      simp -implicitDefEqProofs [sp_eye_over (o := true) hL ha (hln k hk) hk (show (1 : Int) + k = (k : Int) + 1 by omega)]
    · have e3 : ((List.range (l.length - 1)).filter fun _ => true).map (fun (k : Nat) => PV.int (overK L a l k)) = pis ((List.range (l.length - 1)).map (overK L a l)) := by
        simp [pis]
      rw [e3]
      simp -implicitDefEqProofs [maxI, pvI, lst, lstTo]
      omega
theorem at_zero {s d : Spt} : at' 0 s d = s := by unfold at'; simp
theorem lin_succ {s d : Spt} {n : Nat} : lin s d (n + 1) = lin s d n ++ [at' (n + 1) s d] := by
  unfold lin
  rw [List.range_succ, List.map_append]
  rfl
theorem at_succ {s d : Spt} {n : Nat} : ((at' n s d).1 + d.1, (at' n s d).2 + d.2) = at' (n + 1) s d := by
  unfold at'
  dsimp only
  refine Prod.ext ?_ ?_
  · dsimp only
    rw [show ((n + 1 : Nat) : Int) = (n : Int) + 1 by omega, Int.add_mul]
    omega
  · dsimp only
    rw [show ((n + 1 : Nat) : Int) = (n : Int) + 1 by omega, Int.add_mul]
    omega
def envN (L : Land) (s d : Spt) (k : Nat) : PEnv := [.val (pvLand L), .val (pvS s), .val (pvS d), .val (.lst true (sps (lin s d k))), .val (pvS (at' (k + 1) s d))]
theorem lln_c (hL : LK L w) {s d : Spt} {k : Nat} : WP llnC (envN L s d k) fun c e => c = inB L (at' (k + 1) s d) ∧ e = envN L s d k := by
  have h0 := hL.row0
  have h1 := hL.is.h1
  have hw := hL.is.wd
  unfold llnC envN inB
  generalize at' (k + 1) s d = p
  rw [← hw]
  by_cases c1 : 0 ≤ p.1
  · by_cases c2 : p.1 < (L.length : Int)
    · by_cases c3 : 0 ≤ p.2
      · simp -implicitDefEqProofs [c1, c2, c3, ixA_land0 h1, h0]
      · simp -implicitDefEqProofs [c1, c2, c3, ixA_land0 h1, h0]
    · simp -implicitDefEqProofs [c1, c2, ixA_land0 h1, h0]
  · simp -implicitDefEqProofs [c1, ixA_land0 h1, h0]
theorem lln_b {s d : Spt} {k : Nat} (hk : k ≤ 100) : WP llnB (envN L s d k) fun f e => f = .nx ∧ e = envN L s d (k + 1) := by
  unfold llnB envN
  rw [lin_succ, ← at_succ (n := k + 1)]
  generalize at' (k + 1) s d = p
  have hlen : (lin s d k).length = k := lin_len
  simp -implicitDefEqProofs [hlen]
  exact ⟨by omega, rfl⟩
theorem sp_lline (hL : LK L w) {s d : Spt} (hd : d ∈ dirs) (hs : InL L s) : f_ulaw_line [pvLand L, pvS s, pvS d] = some (.lst true (sps (lin s d (rayN L s d))), [pvLand L, pvS s, pvS d]) := by
  obtain ⟨r1, r2, r3⟩ := hL.rayN hd hs
  refine fn_val (wp_exit rfl ?_)
  rw [lln_eq, wp_seq]
  have s1 : WP lln1 [.val (pvLand L), .val (pvS s), .val (pvS d), .un, .un] fun f e => f = .nx ∧ e = envN L s d 0 := by
    unfold lln1 envN
    rw [← at_succ, at_zero]
    simp -implicitDefEqProofs [lin, sps_nil]
    rfl
  refine wp_mono s1 ?_
  rintro f e ⟨rfl, rfl⟩
  refine then_nx ?_
  rw [wp_seq]
  have s2 : WP lln2 (envN L s d 0) fun f e => f = .nx ∧ e = envN L s d (rayN L s d) := by
    show WP (dwhile llnC llnB) _ _
    refine wp_while (fun m e => m ≤ rayN L s d ∧ e = envN L s d (rayN L s d - m)) ?_ ?_ (rayN L s d) _ ⟨Nat.le_refl _, by rw [Nat.sub_self]⟩
    · rintro m e ⟨hm, rfl⟩
      refine wp_mono (lln_c hL) ?_
      rintro c e ⟨rfl, rfl⟩
      refine ⟨r2 _ (by omega), ?_⟩
      refine wp_mono (lln_b (by omega)) ?_
      rintro f e ⟨rfl, rfl⟩
      refine ⟨rfl, by omega, ?_⟩
      rw [show rayN L s d - (m + 1) + 1 = rayN L s d - m by omega]
    · rintro e ⟨_, rfl⟩
      refine wp_mono (lln_c hL) ?_
      rintro c e ⟨rfl, rfl⟩
      exact ⟨r3, rfl, rfl⟩
  refine wp_mono s2 ?_
  rintro f e ⟨rfl, rfl⟩
  refine then_nx ?_
  unfold lln3 envN
  simp -implicitDefEqProofs
end
end Wk
namespace Wk
open PySem PySem.Spec PyProof.Rows L2 Pv
noncomputable def lns1 : D Fl := (dset 2 ddct0)
noncomputable def lns2 : D Fl := (dfor (.nm 3) (dvals (dcallF f_ulaw_ways dnil)) (dseq (dset 4 (dcallF f_ulaw_line (dcons (dname 0) (dcons (dname 1) (dcons (dname 3) dnil))))) (dfor (.tp [(.nm 5), (.nm 6)]) (denum (dcons (dname 4) dnil)) (dasg (.ix (dname 2) (dname 6)) (dslice (dname 4) none (some (dop (fun a b => dfn gAdd [a, b]) (dname 5) (dcon (.int 1)))))))))
noncomputable def lns3 : D Fl := (dret (dname 2))
theorem lns_eq : b_ulaw_lines = dseq lns1 (dseq lns2 lns3) := rfl
noncomputable def lnsL : D Fl := (dset 4 (dcallF f_ulaw_line (dcons (dname 0) (dcons (dname 1) (dcons (dname 3) dnil)))))
noncomputable def lnsF : D Fl := (dfor (.tp [(.nm 5), (.nm 6)]) (denum (dcons (dname 4) dnil)) (dasg (.ix (dname 2) (dname 6)) (dslice (dname 4) none (some (dop (fun a b => dfn gAdd [a, b]) (dname 5) (dcon (.int 1)))))))
noncomputable def lnsB : D Fl := (dasg (.ix (dname 2) (dname 6)) (dslice (dname 4) none (some (dop (fun a b => dfn gAdd [a, b]) (dname 5) (dcon (.int 1))))))
theorem lns2_is : lns2 = dfor (.nm 3) (dvals (dcallF f_ulaw_ways dnil)) (dseq lnsL lnsF) := rfl
theorem lnsF_is : lnsF = dfor (.tp [(.nm 5), (.nm 6)]) (denum (dcons (dname 4) dnil)) lnsB := rfl
theorem sp_ways : f_ulaw_ways [] = some (.dct true [.str (Str.ofString "e"), .str (Str.ofString "n"), .str (Str.ofString "ne"), .str (Str.ofString "nw"), .str (Str.ofString "s"), .str (Str.ofString "se"), .str (Str.ofString "sw"), .str (Str.ofString "w")] (sps dirs), []) := by
  refine fn_val (wp_exit rfl ?_)
  unfold b_ulaw_ways
  have e : dispO [PV.str (Str.ofString "e"), PV.tup [PV.int 0, PV.int 1], PV.str (Str.ofString "n"),
        PV.tup [PV.int (-1), PV.int 0], PV.str (Str.ofString "ne"), PV.tup [PV.int (-1), PV.int 1],
        PV.str (Str.ofString "nw"), PV.tup [PV.int (-1), PV.int (-1)], PV.str (Str.ofString "s"),
        PV.tup [PV.int 1, PV.int 0], PV.str (Str.ofString "se"), PV.tup [PV.int 1, PV.int 1],
        PV.str (Str.ofString "sw"), PV.tup [PV.int 1, PV.int (-1)], PV.str (Str.ofString "w"),
        PV.tup [PV.int 0, PV.int (-1)]] = some (.dct true [.str (Str.ofString "e"), .str (Str.ofString "n"), .str (Str.ofString "ne"), .str (Str.ofString "nw"), .str (Str.ofString "s"), .str (Str.ofString "se"), .str (Str.ofString "sw"), .str (Str.ofString "w")] (sps dirs)) := by
    rfl
  simp -implicitDefEqProofs [e]
abbrev SL : En (List Spt) := SE.flst
def pvLs (o : Bool) (D : LD) : PV := pvD SE SL o D
section
variable {L : Land} {a b s d : Spt} {l : List Spt} {w : Nat} {o : Bool} {x z u : Sl} {n : Nat} {D : LD}
@[simp] theorem fz_Ls : (pvLs o D).fz = !o := pvD_fz
@[simp] theorem frz_Ls : (pvLs o D).frz = pvLs false D := pvD_frz
@[simp] theorem flat_Ls : flatP (pvLs o D) = true := pvD_flat
theorem st_Ls (h : D.length ≤ 1000000) : storeO (pvLs true D) (pvS s) (.lst false (sps l)) = some (pvLs true (kput D s l)) := pvD_store SK D s l h
theorem ix_Ls {y : Sl} : ixA y (some (pvLs o D)) (some (pvS s)) = (kget D s).map fun v => .val (.lst false (sps v)) := pvD_ix SK y o D s
theorem notin_Ls : gNotInA [pvS s, pvLs o D] = some (.bl (!(kget D s).isSome)) := pvD_notIn SK o D s
theorem items_Ls : itemsB (pvLs o D) = some (sps (dkeys D)) := rfl
def envD (L : Land) (a : Spt) (D : LD) (x : Sl) (o : Bool) (l : List Spt) (z u : Sl) : PEnv := [.val (pvLand L), .val (pvS a), .val (pvLs true D), x, .val (.lst o (sps l)), z, u]
theorem lns_body (hx : Plain x) (hz : Plain z) (hu : Plain u) (hD : D.length ≤ 1000) (hn : n < l.length) :
    gate (setT (.tp [.nm 5, .nm 6]) (.tup [.int (n : Nat), pvS (elt l n)]) (envD L a D x o l z u)) fun e => WP lnsB e fun f e => f = .nx ∧ ∃ z u, Plain z ∧ Plain u ∧ e = envD L a (kput D (elt l n) (l.take (n + 1))) x o l z u := by
  have hc : cutP (sps l) none (some ((n : Int) + 1)) = sps (l.take (n + 1)) := by
    unfold sps
    rw [cutP_map, cutG_to (by omega) (by omega)]
    rfl
  unfold lnsB envD
  cases o <;> simp -implicitDefEqProofs [hx.r, hz.r, hu.r, hc, st_Ls (show D.length ≤ 1000000 by omega)] <;> exact ⟨_, plain_val, _, plain_val, hx.k _ _, rfl, rfl⟩
end
end Wk
namespace Wk
open PySem PySem.Spec PyProof.Rows L2 Pv
theorem elt_lin {a d : Spt} {N n : Nat} (h : n < N) : elt (lin a d N) n = at' (n + 1) a d := by
  unfold elt lin
  rw [List.getD, List.getElem?_map, List.getElem?_range h]
  rfl
theorem take_lin {a d : Spt} {N n : Nat} (h : n ≤ N) : (lin a d N).take n = lin a d n := by
  unfold lin
  rw [← List.map_take, List.take_range, Nat.min_eq_left h]
theorem enumF_get {l : List Spt} {i : Nat} {p : PV} (h : ((sps l).zipIdx.map fun p => PV.tup [.int (p.2 : Nat), p.1])[i]? = some p) : i < l.length ∧ p = .tup [.int (i : Nat), pvS (elt l i)] := by
  rw [List.getElem?_map, List.getElem?_zipIdx] at h
  unfold sps at h
  rw [List.getElem?_map] at h
  by_cases hi : i < l.length
  · rw [elt_get hi] at h
    refine ⟨hi, ?_⟩
    have := Option.some.inj h
    rw [← this]
    simp
  · rw [List.getElem?_eq_none (by omega)] at h
    cases h
theorem enumF_len {l : List Spt} : ((sps l).zipIdx.map fun p => PV.tup [.int (p.2 : Nat), p.1]).length = l.length := by simp
section
variable {L : Land} {a b s d : Spt} {l : List Spt} {w : Nat} {o : Bool} {x z u : Sl} {n : Nat} {D : LD}
theorem lnsF_ok {N : Nat} (hN : N ≤ 8) (hx : Plain x) (hz : Plain z) (hu : Plain u) (hD : D.length ≤ 100) :
    WP lnsF (envD L a D x true (lin a d N) z u) fun f e => f = .nx ∧ ∃ z u, Plain z ∧ Plain u ∧ e = envD L a (addTo a d D N) x false (lin a d N) z u := by
  have hb : WP (forP (setT (.tp [.nm 5, .nm 6])) lnsB ((sps (lin a d N)).zipIdx.map fun p => PV.tup [.int (p.2 : Nat), p.1])) (envD L a D x false (lin a d N) z u) fun f e => f = .nx ∧ ∃ z u, Plain z ∧ Plain u ∧ e = envD L a (addTo a d D N) x false (lin a d N) z u := by
    refine wp_forP (fun n e => ∃ z u, Plain z ∧ Plain u ∧ e = envD L a (addTo a d D n) x false (lin a d N) z u) (n := 0) ⟨_, _, hz, hu, rfl⟩ ?_ ?_
    · rintro n p e hp ⟨z, u, hz, hu, rfl⟩
      obtain ⟨hn, rfl⟩ := enumF_get hp
      rw [Nat.zero_add]
      have hn' : n < N := by rw [lin_len] at hn; exact hn
      have hl := addTo_len (a := a) (d := d) (D := D) n
      refine gate_mono (lns_body hx hz hu (show (addTo a d D n).length ≤ 1000 by omega) hn) fun e h => ?_
      refine wp_mono h ?_
      rintro f e ⟨rfl, z, u, hz, hu, rfl⟩
      refine ⟨z, u, hz, hu, ?_⟩
      rw [elt_lin hn', take_lin (by omega)]
      rfl
    · rintro e ⟨z, u, hz, hu, rfl⟩
      rw [enumF_len, Nat.zero_add, lin_len]
      exact ⟨rfl, z, u, hz, hu, rfl⟩
  rw [lnsF_is]
  unfold envD at hb ⊢
  simp -implicitDefEqProofs at hb ⊢
  exact hb
theorem sp_llines (hL : LK L w) (ha : InL L a) : f_ulaw_lines [pvLand L, pvS a] = some (pvLs true (linesOf L a), [pvLand L, pvS a]) := by
  refine fn_val (wp_exit rfl ?_)
  rw [lns_eq, wp_seq]
  have s1 : WP lns1 [.val (pvLand L), .val (pvS a), .un, .un, .un, .un, .un] fun f e => f = .nx ∧ e = [.val (pvLand L), .val (pvS a), .val (pvLs true []), .un, .un, .un, .un] := by
    unfold lns1
    simp -implicitDefEqProofs
    rfl
  refine wp_mono s1 ?_
  rintro f e ⟨rfl, rfl⟩
  refine then_nx ?_
  rw [wp_seq]
  have hb : WP (forP (setT (.nm 3)) (dseq lnsL lnsF) (sps dirs)) [.val (pvLand L), .val (pvS a), .val (pvLs true []), .un, .un, .un, .un] fun f e => f = .nx ∧ ∃ x y z u, Plain x ∧ Plain y ∧ Plain z ∧ Plain u ∧ e = [.val (pvLand L), .val (pvS a), .val (pvLs true (linesOf L a)), x, y, z, u] := by
    refine wp_forP (fun n e => ∃ x y z u, Plain x ∧ Plain y ∧ Plain z ∧ Plain u ∧ e = [.val (pvLand L), .val (pvS a), .val (pvLs true (addAll L a (dirs.take n) [])), x, y, z, u]) (n := 0) ⟨_, _, _, _, plain_un, plain_un, plain_un, plain_un, rfl⟩ ?_ ?_
    · rintro n p e hp ⟨x, y, z, u, hx, hy, hz, hu, rfl⟩
      obtain ⟨d, hg, rfl⟩ := map_get hp
      have hd : d ∈ dirs := List.mem_of_getElem? hg
      rw [Nat.zero_add, take_snoc hg]
      have hlen := addAll_len hL ha (dirs.take n) [] fun d h => List.mem_of_mem_take h
      have hl8 : (dirs.take n).length ≤ 8 := by rw [List.length_take]; exact Nat.min_le_right _ _
      have hl64 : (addAll L a (dirs.take n) []).length ≤ 64 := by simp only [List.length_nil] at hlen; omega
      have e1 : setT (.nm 3) (pvS d) [.val (pvLand L), .val (pvS a), .val (pvLs true (addAll L a (dirs.take n) [])), x, y, z, u] = some [.val (pvLand L), .val (pvS a), .val (pvLs true (addAll L a (dirs.take n) [])), .val (pvS d), y, z, u] := by
        simp [hx.r, hy.r, hz.r, hu.r]
      rw [e1, gate_some, wp_seq]
      have e2 : WP lnsL [.val (pvLand L), .val (pvS a), .val (pvLs true (addAll L a (dirs.take n) [])), .val (pvS d), y, z, u] fun f e => f = .nx ∧ e = envD L a (addAll L a (dirs.take n) []) (.val (pvS d)) true (lin a d (rayN L a d)) z u := by
        unfold lnsL envD
        simp -implicitDefEqProofs [sp_lline hL hd ha, hx.r, hy.r, hz.r, hu.r]
      refine wp_mono e2 ?_
      rintro f e ⟨rfl, rfl⟩
      refine then_nx ?_
      refine wp_mono (lnsF_ok (hL.rayN hd ha).1 plain_val hz hu (by omega)) ?_
      rintro f e ⟨rfl, z, u, hz, hu, rfl⟩
      refine ⟨.val (pvS d), .val (.lst false (sps (lin a d (rayN L a d)))), z, u, plain_val, plain_val, hz, hu, ?_⟩
      unfold envD addAll
      rw [List.foldl_append]
      rfl
    · rintro e ⟨x, y, z, u, hx, hy, hz, hu, rfl⟩
      refine ⟨rfl, x, y, z, u, hx, hy, hz, hu, ?_⟩
      rfl
  have s2 : WP lns2 [.val (pvLand L), .val (pvS a), .val (pvLs true []), .un, .un, .un, .un] fun f e => f = .nx ∧ ∃ x y z u, Plain x ∧ Plain y ∧ Plain z ∧ Plain u ∧ e = [.val (pvLand L), .val (pvS a), .val (pvLs true (linesOf L a)), x, y, z, u] := by
    rw [lns2_is]
    simp -implicitDefEqProofs [sp_ways] at hb ⊢
    exact hb
  refine wp_mono s2 ?_
  rintro f e ⟨rfl, x, y, z, u, hx, hy, hz, hu, rfl⟩
  refine then_nx ?_
  unfold lns3
  simp -implicitDefEqProofs [hx.r, hy.r, hz.r, hu.r]
end
end Wk
namespace Wk
open PySem PySem.Spec PyProof.Rows L2 Pv
theorem eq_nilL {o o' : Bool} {l : List Spt} : gEq [.lst o (sps l), .lst o' []] = some (.bl (decide (l = []))) := eq_SL (b := [])
theorem ne_nilT {l : List Spt} : gNe [.tup (sps l), .tup []] = some (.bl (!decide (l = []))) := ne_ST (b := [])
theorem eq_nilT {l : List Spt} : gEq [.tup (sps l), .tup []] = some (.bl (decide (l = []))) := eq_ST (b := [])
theorem tup_S {o : Bool} {l : List Spt} : gTuple [.lst o (sps l)] = some (.tup (sps l)) := by rw [gTuple_lst, if_pos fzs_s]
@[simp] theorem sps_cons {s : Spt} {l : List Spt} : pvS s :: sps l = sps (s :: l) := rfl
theorem filt_S {l : List Spt} {c : Spt → Bool} : (l.filter c).map pvS = sps (l.filter c) := rfl
def seenOf (L : Land) (y : Int) (a : Spt) : List Spt := (spots L).filter (seesB L y a)
section
variable {L : Land} {a b s d : Spt} {l : List Spt} {w : Nat} {o : Bool} {x z u : Sl} {n : Nat} {y : Int}
theorem seesB_self : seesB L y a a = true := by simp [seesB]
theorem seesB_line (hn : a ≠ b) (h : lineTo a b = some l) : seesB L y a b = decide (hid L a l y = []) := by
  unfold seesB
  rw [h]
  simp [hn]
theorem seesB_none (hn : a ≠ b) (h : lineTo a b = none) : seesB L y a b = false := by
  unfold seesB
  rw [h]
  simp [hn]
theorem mem_seen (hL : LK L w) (hb : InL L b) : b ∈ seenOf L y a ↔ seesB L y a b = true := by
  unfold seenOf
  rw [List.mem_filter, hL.mem]
  simp [hb]
theorem sp_raw_seen (hL : LK L w) (ha : InL L a) (hy : 0 ≤ y ∧ y ≤ 1000) : f_raw_seen [pvLand L, pvS a, .int y] = some (.lst true (sps (seenOf L y a)), [pvLand L, pvS a, .int y]) := by
  refine fn_val (wp_exit rfl ?_)
  unfold b_raw_seen
  have hlen := hL.spots_len
  simp -implicitDefEqProofs [sp_aspots hL]
  refine ⟨by omega, ?_⟩
  have e : sps (spots L) = (spots L).map pvS := rfl
  rw [e]
  refine wp_lcT (seesB L y a) pvS (fun k hk => ?_) ?_
  · have hk := hL.mem.mp hk
    by_cases c : seesB L y a k = true
    · simp -implicitDefEqProofs [sp_raw_sees hL ha hk hy, c]
    · have c : seesB L y a k = false := by simpa using c
      simp -implicitDefEqProofs [sp_raw_sees hL ha hk hy, c]
  · rw [filt_S]
    simp -implicitDefEqProofs
    rfl
theorem sp_seen_from (hL : LK L w) (ha : InL L a) (hy : 0 ≤ y ∧ y ≤ 1000) : f_seen_from [pvLand L, pvS a, .int y] = some (.tup (sps (seenOf L y a)), [pvLand L, pvS a, .int y]) := by
  refine fn_val (wp_exit rfl ?_)
  unfold b_seen_from
  simp -implicitDefEqProofs [sp_check_spot hL ha, sp_check_eye hy.1 hy.2, sp_raw_seen hL ha hy, tup_S]
def seeOne (L : Land) (y : Int) (b : Spt) : List Spt := (spots L).filter fun a => seesB L y a b
theorem sp_see_one (hL : LK L w) (hb : InL L b) (hy : 0 ≤ y ∧ y ≤ 1000) : f_see_one [pvLand L, pvS b, .int y] = some (.tup (sps (seeOne L y b)), [pvLand L, pvS b, .int y]) := by
  refine fn_val (wp_exit rfl ?_)
  unfold b_see_one
  have hlen := hL.spots_len
  simp -implicitDefEqProofs [sp_check_spot hL hb, sp_check_eye hy.1 hy.2, sp_aspots hL]
  refine ⟨by omega, ?_⟩
  have e : sps (spots L) = (spots L).map pvS := rfl
  rw [e]
  refine wp_lcT (fun a => seesB L y a b) pvS (fun k hk => ?_) ?_
  · have hk := hL.mem.mp hk
    by_cases c : seesB L y k b = true
    · simp -implicitDefEqProofs [sp_raw_sees hL hk hb hy, c]
    · have c : seesB L y k b = false := by simpa using c
      simp -implicitDefEqProofs [sp_raw_sees hL hk hb hy, c]
  · rw [filt_S]
    simp -implicitDefEqProofs [tup_S]
    rfl
noncomputable def keyOk (L : Land) (y : Int) (a k : Spt) : Bool := decide (hid L a ((kget (linesOf L a) k).getD []) y = [])
theorem seen_is (hL : LK L w) (ha : InL L a) : (a :: (dkeys (linesOf L a)).filter (keyOk L y a)).mergeSort SO.le = seenOf L y a := by
  have hk : ∀ x, x ∈ dkeys (linesOf L a) ↔ InL L x ∧ a ≠ x ∧ (lineTo a x).isSome = true := fun x => lines_key hL ha
  refine SO.sort_is ?_ (rise.sublist List.filter_sublist) ?_
  · rw [List.nodup_cons]
    refine ⟨fun h => ?_, (lines_di hL ha).nd.sublist List.filter_sublist⟩
    exact ((hk a).mp (List.mem_filter.mp h).1).2.1 rfl
  · intro x
    unfold seenOf
    rw [List.mem_cons, List.mem_filter, List.mem_filter, hL.mem, hk]
    constructor
    · rintro (rfl | ⟨⟨h1, h2, h3⟩, h4⟩)
      · exact ⟨ha, seesB_self⟩
      · obtain ⟨l, e⟩ := Option.isSome_iff_exists.mp h3
        refine ⟨h1, ?_⟩
        unfold keyOk at h4
        rw [lines_get hL ha h1, if_neg h2, e] at h4
        rw [seesB_line h2 e]
        exact h4
    · rintro ⟨h1, h2⟩
      by_cases e : a = x
      · exact .inl e.symm
      · right
        cases hl : lineTo a x with
        | none => rw [seesB_none e hl] at h2; cases h2
        | some l =>
          rw [seesB_line e hl] at h2
          refine ⟨⟨h1, e, rfl⟩, ?_⟩
          unfold keyOk
          rw [lines_get hL ha h1, if_neg e, hl]
          exact h2
theorem lines_ln (hL : LK L w) (ha : InL L a) (h : kget (linesOf L a) b = some l) : Ln L l := by
  obtain ⟨h1, h2, h3⟩ := (lines_di hL ha).val b l h
  exact hL.ln ha h2 h1 h3
theorem lines_len (hL : LK L w) (ha : InL L a) : (dkeys (linesOf L a)).length ≤ 64 := by
  have h := addAll_len hL ha dirs [] (fun d h => h)
  have e : (dkeys (linesOf L a)).length = (addAll L a dirs []).length := by unfold dkeys linesOf; rw [List.length_map]
  rw [e]
  have e2 : dirs.length = 8 := rfl
  simp only [List.length_nil, e2] at h
  exact h
theorem sp_lseen (hL : LK L w) (ha : InL L a) (hy : 0 ≤ y ∧ y ≤ 1000) : f_ulaw_seen [pvLand L, pvS a, .int y] = some (.tup (sps (seenOf L y a)), [pvLand L, pvS a, .int y]) := by
  refine fn_val (wp_exit rfl ?_)
  unfold b_ulaw_seen
  have hlen := lines_len hL ha
  simp -implicitDefEqProofs [sp_llines hL ha, items_Ls]
  refine ⟨by omega, ?_⟩
  have e : sps (dkeys (linesOf L a)) = (dkeys (linesOf L a)).map pvS := rfl
  rw [e]
  refine wp_lcT (keyOk L y a) pvS (fun k hk => ?_) ?_
  · have hs : (kget (linesOf L a) k).isSome = true := by rw [kget_mem]; simp only [decide_eq_true_eq]; exact hk
    obtain ⟨l, hg⟩ := Option.isSome_iff_exists.mp hs
    have hc : keyOk L y a k = decide (hid L a l y = []) := by unfold keyOk; rw [hg]; rfl
    rw [hc]
    by_cases c : hid L a l y = []
    · simp -implicitDefEqProofs [ix_Ls, hg, sp_lhides (o := false) hL (lines_ln hL ha hg) hy ha, eq_nilL, c]
    · simp -implicitDefEqProofs [ix_Ls, hg, sp_lhides (o := false) hL (lines_ln hL ha hg) hy ha, eq_nilL, c]
  · rw [filt_S]
    have hs := seen_is (y := y) hL ha
    have hfl : ((dkeys (linesOf L a)).filter (keyOk L y a)).length ≤ 64 := Nat.le_trans (List.length_filter_le _ _) hlen
    generalize (dkeys (linesOf L a)).filter (keyOk L y a) = m at hs hfl ⊢
    simp -implicitDefEqProofs [sort_S, tup_S, hs]
    omega
end
end Wk
namespace Wk
open PySem PySem.Spec PyProof.Rows L2 Pv
noncomputable def bst1 : D Fl := (dexpr (dcallF f_check_land (dcons (dname 0) dnil)))
noncomputable def bst2 : D Fl := (dexpr (dcallF f_check_eye (dcons (dname 1) dnil)))
noncomputable def bst3 : D Fl := (dset 2 (dlc (ditemsA (dcallF f_all_spots (dcons (dname 0) dnil))) (.nm 4) [4] (dpure true) (dtup (dcons (dcall (dfn gLen) (dcons (dcallF f_raw_seen (dcons (dname 0) (dcons (dname 4) (dcons (dname 1) dnil)))) dnil)) (dcons (dname 4) dnil)))))
noncomputable def bst4 : D Fl := (dset 3 (dcall (dfn gMax) (dcons (dlc (ditemsA (dname 2)) (.tp [(.nm 5), (.nm 4)]) [5, 4] (dpure true) (dname 5)) dnil)))
noncomputable def bst5 : D Fl := (dret (dop dixA (dlc (ditemsA (dname 2)) (.tp [(.nm 5), (.nm 4)]) [5, 4] (dtst (dop (fun a b => dfn gEq [a, b]) (dname 5) (dname 3))) (dname 4)) (dcon (.int 0))))
theorem bst_eq : b_best_seat = dseq bst1 (dseq bst2 (dseq bst3 (dseq bst4 bst5))) := rfl
def mxL : List Int → Int
  | [] => 0
  | x :: r => r.foldl mx x
theorem mxL_max {o : Bool} {l : List Int} (h : l ≠ []) : gMax [.lst o (pis l)] = some (.int (mxL l)) := by
  cases l with
  | nil => exact absurd rfl h
  | cons a l =>
    have h : gMax [.lst o (pis (a :: l))] = some (.int (Or.int.maxL a l)) := Or.int.gMax (by decide) o a l
    rw [h]
    have e : ∀ (l : List Int) (a : Int), Or.int.maxL a l = l.foldl mx a := by
      intro l
      induction l with
      | nil => intro a; rfl
      | cons y l ih =>
        intro a
        show Or.int.maxL (if decide (a < y) = true then y else a) l = _
        rw [ih]
        simp [mx]
    rw [e]
    rfl
theorem mxL_mem {l : List Int} (h : l ≠ []) : mxL l ∈ l := by
  cases l with
  | nil => exact absurd rfl h
  | cons a l =>
    have h := Or.max_mem Or.int a l
    have e : ∀ (l : List Int) (a : Int), Or.int.maxL a l = l.foldl mx a := by
      intro l
      induction l with
      | nil => intro a; rfl
      | cons y l ih =>
        intro a
        show Or.int.maxL (if decide (a < y) = true then y else a) l = _
        rw [ih]
        simp [mx]
    rw [e] at h
    exact h
def cntS (L : Land) (y : Int) (s : Spt) : Int := ((seenOf L y s).length : Nat)
def mostS (L : Land) (y : Int) : Int := mxL ((spots L).map (cntS L y))
def bests (L : Land) (y : Int) : List Spt := (spots L).filter fun s => decide (cntS L y s = mostS L y)
def bestS (L : Land) (y : Int) : Spt := elt (bests L y) 0
def pvC (p : Int × Spt) : PV := .tup [.int p.1, pvS p.2]
def cts (l : List (Int × Spt)) : List PV := l.map pvC
@[simp] theorem fz_C {p : Int × Spt} : (pvC p).fz = true := by simp [pvC]
@[simp] theorem fzs_C {l : List (Int × Spt)} : PV.fzs (cts l) = true := fzs_map fun _ => fz_C
@[simp] theorem frzs_C {l : List (Int × Spt)} : PV.frzs (cts l) = cts l := frzs_of fzs_C
@[simp] theorem len_C {l : List (Int × Spt)} : (cts l).length = l.length := by simp [cts]
section
variable {L : Land} {a b s d : Spt} {l : List Spt} {w : Nat} {o : Bool} {x z u : Sl} {n : Nat} {y : Int}
theorem bests_pos (hL : LK L w) : 0 < (bests L y).length := by
  have hp := hL.spots_pos
  have hne : (spots L).map (cntS L y) ≠ [] := fun e => by
    have := congrArg List.length e
    simp at this
    rw [this] at hp
    simp at hp
  obtain ⟨s, hs, e⟩ := List.mem_map.mp (mxL_mem hne)
  refine List.length_pos_iff_exists_mem.mpr ⟨s, ?_⟩
  unfold bests
  rw [List.mem_filter]
  exact ⟨hs, by simp; exact e⟩
theorem best_mem (hL : LK L w) : bestS L y ∈ bests L y := elt_mem (bests_pos hL)
theorem sp_best_seat (hL : LK L w) (hy : 0 ≤ y ∧ y ≤ 1000) : f_best_seat [pvLand L, .int y] = some (pvS (bestS L y), [pvLand L, .int y]) := by
  refine fn_val (wp_exit rfl ?_)
  rw [bst_eq]
  have hlen := hL.spots_len
  have hpos := hL.spots_pos
  have s1 : WP (dseq bst1 (dseq bst2 bst3)) [.val (pvLand L), .val (.int y), .un, .un, .un, .un] fun f e => f = .nx ∧ e = [.val (pvLand L), .val (.int y), .val (.lst true (cts ((spots L).map fun s => (cntS L y s, s)))), .un, .un, .un] := by
    unfold bst1 bst2 bst3
    simp -implicitDefEqProofs [sp_check_land hL.ok, sp_check_eye hy.1 hy.2, sp_aspots hL]
    refine ⟨by omega, ?_⟩
    have e : sps (spots L) = (spots L).map pvS := rfl
    rw [e]
    refine wp_lcT (fun _ => true) (fun s => pvC (cntS L y s, s)) (fun k hk => ?_) ?_
    · have hk := hL.mem.mp hk
      simp -implicitDefEqProofs [sp_raw_seen hL hk hy]
      rfl
    · have e2 : ((spots L).filter fun _ => true).map (fun s => pvC (cntS L y s, s)) = cts ((spots L).map fun s => (cntS L y s, s)) := by
        simp [cts]
      rw [e2]
      simp -implicitDefEqProofs
  have s3 : ∀ {a b c d : D Fl} {env Q}, WP (dseq (dseq a (dseq b c)) d) env Q → WP (dseq a (dseq b (dseq c d))) env Q := fun {a b c d env Q} hh => by
    rw [wp_seq, wp_seq] at hh
    rw [wp_seq]
    refine wp_mono hh ?_
    intro f e he
    cases f with
    | nx =>
      simp only [thenF] at he ⊢
      rw [wp_seq] at he ⊢
      refine wp_mono he ?_
      intro f e he
      cases f with
      | nx => simp only [thenF] at he ⊢; rw [wp_seq]; exact he
      | _ => exact he
    | _ => exact he
  refine s3 ?_
  rw [wp_seq]
  refine wp_mono s1 ?_
  rintro f e ⟨rfl, rfl⟩
  refine then_nx ?_
  rw [wp_seq]
  generalize hC : (spots L).map (fun s => (cntS L y s, s)) = C
  have hCl : C.length = (spots L).length := by rw [← hC, List.length_map]
  have s4 : WP bst4 [.val (pvLand L), .val (.int y), .val (.lst true (cts C)), .un, .un, .un] fun f e => f = .nx ∧ e = [.val (pvLand L), .val (.int y), .val (.lst false (cts C)), .val (.int (mostS L y)), .un, .un] := by
    unfold bst4
    simp -implicitDefEqProofs
    refine ⟨by omega, ?_⟩
    have e : cts C = C.map pvC := rfl
    rw [e]
    refine wp_lcT (fun _ => true) (fun p => .int p.1) (fun k hk => ?_) ?_
    · unfold pvC
      simp -implicitDefEqProofs
    · have e2 : (C.filter fun _ => true).map (fun p => PV.int p.1) = pis (C.map (·.1)) := by
        simp [pis]
      have e3 : C.map (·.1) = (spots L).map (cntS L y) := by rw [← hC, List.map_map]; rfl
      have hne : (spots L).map (cntS L y) ≠ [] := fun e => by
        have := congrArg List.length e
        simp at this
        rw [this] at hpos
        simp at hpos
      rw [e2, e3]
      simp -implicitDefEqProofs [mxL_max hne, mostS]
  refine wp_mono s4 ?_
  rintro f e ⟨rfl, rfl⟩
  refine then_nx ?_
  unfold bst5
  simp -implicitDefEqProofs
  refine ⟨by omega, ?_⟩
  have e : cts C = C.map pvC := rfl
  rw [e]
  refine wp_lcT (fun p => decide (p.1 = mostS L y)) (fun p => pvS p.2) (fun k hk => ?_) ?_
  · unfold pvC
    by_cases c : k.1 = mostS L y
    · simp -implicitDefEqProofs [c]
    · simp -implicitDefEqProofs [c]
  · have e2 : (C.filter fun p => decide (p.1 = mostS L y)).map (fun p => pvS p.2) = sps (bests L y) := by
      rw [← hC]
      unfold bests sps
      rw [List.filter_map, List.map_map]
      rfl
    rw [e2]
    have i1 : ∀ b : Sl, ixV b (some (.lst true (sps (bests L y)))) (some (.int 0)) = some (.val (pvS (bestS L y))) := fun b => by
      have := ixV_sps (a := b) (o := true) (l := bests L y) (i := 0) (by omega) (by have := bests_pos (y := y) hL; omega)
      exact this
    simp -implicitDefEqProofs [i1]
end
end Wk
namespace Wk
open PySem PySem.Spec PyProof.Rows L2 Pv
noncomputable def nvs1 : D Fl := (dexpr (dcallF f_check_land (dcons (dname 0) dnil)))
noncomputable def nvs2 : D Fl := (dexpr (dcallF f_check_eye (dcons (dname 2) dnil)))
noncomputable def nvs3 : D Fl := (dite (dtnot (dtst (dcallF f_are_told_spots (dcons (dname 0) (dcons (dname 1) dnil))))) dno dskip)
noncomputable def nvs4 : D Fl := (dset 3 (dlst dnil))
noncomputable def nvs5 : D Fl := (dfor (.nm 4) (ditemsA (dcallF f_all_spots (dcons (dname 0) dnil))) (dite (dtnot (dtst (dcall (dfn gAny) (dcons (dlc (ditemsA (dname 1)) (.nm 5) [5] (dpure true) (dcallF f_raw_sees (dcons (dname 0) (dcons (dname 5) (dcons (dname 4) (dcons (dname 2) dnil)))))) dnil)))) (dexpr (dmeth gAppend (dname 3) (dcons (dname 4) dnil))) dskip))
noncomputable def nvs6 : D Fl := (dret (dcall (dfn gTuple) (dcons (dname 3) dnil)))
theorem nvs_eq : b_never_seen = dseq nvs1 (dseq nvs2 (dseq nvs3 (dseq nvs4 (dseq nvs5 nvs6)))) := rfl
noncomputable def nvsB : D Fl := (dite (dtnot (dtst (dcall (dfn gAny) (dcons (dlc (ditemsA (dname 1)) (.nm 5) [5] (dpure true) (dcallF f_raw_sees (dcons (dname 0) (dcons (dname 5) (dcons (dname 4) (dcons (dname 2) dnil)))))) dnil)))) (dexpr (dmeth gAppend (dname 3) (dcons (dname 4) dnil))) dskip)
theorem told_pairs {l : List Spt} (h : l.Pairwise fun a b => SO.lt a b = true) : ∀ p ∈ l.zip l.tail, SO.lt p.1 p.2 = true := by
  induction l with
  | nil => simp
  | cons a l ih =>
    rw [List.pairwise_cons] at h
    cases l with
    | nil => simp
    | cons b l =>
      intro p hp
      rw [show (a :: b :: l).tail = b :: l from rfl, List.zip_cons_cons, List.mem_cons] at hp
      rcases hp with rfl | hp
      · exact h.1 b (by simp)
      · exact ih h.2 p hp
def neverS (L : Land) (y : Int) (lot : List Spt) : List Spt := (spots L).filter fun s => !(lot.any fun one => seesB L y one s)
section
variable {L : Land} {a b s d : Spt} {l lot : List Spt} {w : Nat} {o : Bool} {x z u : Sl} {n : Nat} {y : Int}
theorem sp_told (hL : LK L w) (hn : lot ≠ []) (hm : ∀ s ∈ lot, InL L s) (hr : lot.Pairwise fun a b => SO.lt a b = true) (hl : lot.length ≤ 64) : f_are_told_spots [pvLand L, .tup (sps lot)] = some (.bl true, [pvLand L, .tup (sps lot)]) := by
  have hc : cutP (sps lot) (some 1) none = sps lot.tail := by
    unfold sps
    have := List.length_pos_iff.mpr hn
    rw [cutP_map, cutG_from (by omega) (by omega)]
    show (lot.drop 1).map pvS = _
    rw [List.drop_one]
  have hz : ((sps lot).zip (sps lot.tail)).map (fun p => PV.tup [p.1, p.2]) = (lot.zip lot.tail).map fun p => PV.tup [pvS p.1, pvS p.2] := by
    unfold sps
    rw [List.zip_map, List.map_map]
    rfl
  refine fn_val (wp_exit rfl ?_)
  unfold b_are_told_spots
  simp -implicitDefEqProofs
  refine ⟨by omega, ?_⟩
  rw [show lcP (setT (.nm 4)) [4] (dpure true) (dcallF f_is_spot_of (dcons (dname 0) (dcons (dname 4) dnil))) (sps lot) [] = lcP (setT (.nm 4)) [4] (dpure true) (dcallF f_is_spot_of (dcons (dname 0) (dcons (dname 4) dnil))) (lot.map pvS) [] from rfl]
  refine wp_lcT (fun _ => true) (fun p => .bl true) (fun k hk => ?_) ?_
  · simp -implicitDefEqProofs [sp_is_spot_of hL (hm k hk)]
  · have e2 : blsP ((lot.filter fun _ => true).map (fun p => PV.bl true)) = some (lot.map fun _ => true) := by
      rw [List.filter_eq_self.mpr (fun _ _ => rfl)]
      exact blsP_of (f := fun _ => true)
    generalize (lot.filter fun _ => true).map (fun p => PV.bl true) = M at e2
    have e4 : (lot.map fun _ => true).all id = true := by simp
    simp -implicitDefEqProofs [e2, e4, hc, hz]
    refine ⟨by omega, ?_⟩
    refine wp_lcT (fun _ => true) (fun p => .bl true) (fun k hk => ?_) ?_
    · simp -implicitDefEqProofs [lt_S, told_pairs hr k hk]
    · have e5 : blsP (((lot.zip lot.tail).filter fun _ => true).map (fun p => PV.bl true)) = some ((lot.zip lot.tail).map fun _ => true) := by
        rw [List.filter_eq_self.mpr (fun _ _ => rfl)]
        exact blsP_of (f := fun _ => true)
      generalize ((lot.zip lot.tail).filter fun _ => true).map (fun p => PV.bl true) = M at e5
      have e6 : ((lot.zip lot.tail).map fun _ => true).all id = true := by simp
      simp -implicitDefEqProofs [e5, e6]
theorem sp_never (hL : LK L w) (hy : 0 ≤ y ∧ y ≤ 1000) (hn : lot ≠ []) (hm : ∀ s ∈ lot, InL L s) (hr : lot.Pairwise fun a b => SO.lt a b = true) (hl : lot.length ≤ 64) : f_never_seen [pvLand L, .tup (sps lot), .int y] = some (.tup (sps (neverS L y lot)), [pvLand L, .tup (sps lot), .int y]) := by
  have hlen := hL.spots_len
  have hb : WP (forP (setT (.nm 4)) nvsB (sps (spots L))) [.val (pvLand L), .val (.tup (sps lot)), .val (.int y), .val (.lst true []), .un, .un] fun f e => f = .nx ∧ ∃ x, Plain x ∧ e = [.val (pvLand L), .val (.tup (sps lot)), .val (.int y), .val (.lst true (sps (neverS L y lot))), x, .un] := by
    refine wp_forP (fun n e => n ≤ (spots L).length ∧ ∃ x, Plain x ∧ e = [.val (pvLand L), .val (.tup (sps lot)), .val (.int y), .val (.lst true (sps (((spots L).take n).filter fun s => !(lot.any fun one => seesB L y one s)))), x, .un]) (n := 0) ⟨by omega, _, plain_un, rfl⟩ ?_ ?_
    · rintro n p e hp ⟨hn', x, hx, rfl⟩
      obtain ⟨s, hg, rfl⟩ := map_get hp
      have hs : InL L s := hL.mem.mp (List.mem_of_getElem? hg)
      have hlt : n < (spots L).length := (List.getElem?_eq_some_iff.mp hg).1
      rw [Nat.zero_add, take_snoc hg, List.filter_append]
      have hfl : (((spots L).take n).filter fun s => !(lot.any fun one => seesB L y one s)).length ≤ 64 := Nat.le_trans (List.length_filter_le _ _) (by rw [List.length_take]; omega)
      generalize ((spots L).take n).filter (fun s => !(lot.any fun one => seesB L y one s)) = F at hfl ⊢
      unfold nvsB
      simp -implicitDefEqProofs [hx.r]
      refine ⟨by omega, ?_⟩
      rw [show ∀ tt te, lcP (setT (.nm 5)) [5] tt te (sps lot) [] = lcP (setT (.nm 5)) [5] tt te (lot.map pvS) [] from fun _ _ => rfl]
      refine wp_lcT (fun _ => true) (fun one => .bl (seesB L y one s)) (fun k hk => ?_) ?_
      · simp -implicitDefEqProofs [sp_raw_sees hL (hm k hk) hs hy]
      · have e2 : blsP ((lot.filter fun _ => true).map (fun one => PV.bl (seesB L y one s))) = some (lot.map fun one => seesB L y one s) := by
          rw [List.filter_eq_self.mpr (fun _ _ => rfl)]
          exact blsP_of
        generalize (lot.filter fun _ => true).map (fun one => PV.bl (seesB L y one s)) = M at e2
        have e3 : (lot.map fun one => seesB L y one s).any id = lot.any fun one => seesB L y one s := by rw [List.any_map]; rfl
        cases c : lot.any fun one => seesB L y one s with
        | true =>
          rw [c] at e3
          have hf : ([s] : List Spt).filter (fun s => !(lot.any fun one => seesB L y one s)) = [] := by simp [c]
          rw [hf]
          simp -implicitDefEqProofs [e2, e3]
          exact ⟨by omega, plain_val⟩
        | false =>
          rw [c] at e3
          have hf : ([s] : List Spt).filter (fun s => !(lot.any fun one => seesB L y one s)) = [s] := by simp [c]
          rw [hf]
          simp -implicitDefEqProofs [e2, e3]
          exact ⟨by omega, by omega, plain_val⟩
    · rintro e ⟨_, x, hx, rfl⟩
      refine ⟨rfl, x, hx, ?_⟩
      have : (sps (spots L)).length = (spots L).length := by simp
      rw [this, Nat.zero_add, List.take_length]
      rfl
  refine fn_val (wp_exit rfl ?_)
  rw [nvs_eq]
  unfold nvs1 nvs2 nvs3 nvs4 nvs5 nvs6
  unfold nvsB at hb
  simp -implicitDefEqProofs [sp_check_land hL.ok, sp_check_eye hy.1 hy.2, sp_told hL hn hm hr hl, sp_aspots hL]
  refine wp_mono hb ?_
  rintro f e ⟨rfl, x, hx, rfl⟩
  refine then_nx ?_
  simp -implicitDefEqProofs [tup_S, hx.r]
end
end Wk
namespace Wk
open PySem PySem.Spec PyProof.Rows L2 Pv
def envE (L : Land) (a : Spt) (o : Bool) (l : List Spt) (n : Nat) (x z u : Sl) : PEnv := [.val (pvLand L), .val (pvS a), .val (.lst o (sps l)), .val (.int (lstTo L a l n)), .val (.int l.length), x, z, u]
section
variable {L : Land} {a : Spt} {l : List Spt} {w : Nat} {o : Bool} {x z u : Sl} {n : Nat}
theorem lls_body (hL : LK L w) (hl : Ln L l) (ha : InL L a) (hx : Plain x) (hz : Plain z) (hu : Plain u) (hn : n < l.length - 1) :
    gate (setT (.tp [.nm 5, .nm 6]) (.tup [.int (n : Nat), pvS (elt l n)]) (envE L a o l n x z u)) fun e => WP llsB e fun f e => f = .nx ∧ ∃ x z u, Plain x ∧ Plain z ∧ Plain u ∧ e = envE L a o l (n + 1) x z u := by
  have hq := hl.q
  have i1 : ∀ b : Sl, ixV b (some (.lst o (sps l))) (some (.int (-1))) = some (.val (pvS (lastOf l))) := fun b => ixV_spl hl.p
  have h1 := sp_ulaw_at (hl.elt (k := n) (by omega))
  have h2 : f_ulaw_at [pvLand L, pvS (lastOf l)] = some (.int (ht L (lastOf l)), [pvLand L, pvS (lastOf l)]) := sp_ulaw_at (hl.elt (k := l.length - 1) (by omega))
  have m1 : mulOk (ht L (elt l n)) (l.length : Int) = true := mulN (by omega)
  have m3 : mulOk (ht L (lastOf l)) ((n : Int) + 1) = true := mulOk_r (by omega) (by omega)
  have dv : ∀ x, gDiv [.int x, .int ((l.length : Int) - n - 1)] = some (.int (x / ((l.length : Int) - n - 1))) := fun x => div_ok' (by omega) (by omega)
  have ho : overK L a l n = (ht L (elt l n) * l.length - ht L (lastOf l) * ((n : Int) + 1)) / ((l.length : Int) - n - 1) + 1 - ht L a := by
    unfold overK
    rw [show (l.length : Int) - ((n : Int) + 1) = (l.length : Int) - n - 1 by omega]
  unfold llsB envE
  rw [lstTo_succ, ho]
  cases o <;> simp -implicitDefEqProofs [hx.r, hz.r, hu.r, i1, h1, h2, sp_ulaw_at ha, m1, m3, dv, mx] <;> exact ⟨_, plain_val, _, plain_val, _, plain_val, rfl, rfl, rfl⟩
theorem sp_lleast (hL : LK L w) (hl : Ln L l) (ha : InL L a) : f_ulaw_least [pvLand L, pvS a, .lst o (sps l)] = some (.int (lst L a l), [pvLand L, pvS a, .lst o (sps l)]) := by
  have hq := hl.q
  have hp := hl.p
  refine fn_val (wp_exit rfl ?_)
  rw [lls_eq, wp_seq]
  have s1 : WP lls1 [.val (pvLand L), .val (pvS a), .val (.lst o (sps l)), .un, .un, .un, .un, .un] fun f e => f = .nx ∧ e = envE L a o l 0 .un .un .un := by
    have e0 : lstTo L a l 0 = 0 := rfl
    unfold lls1 envE
    rw [e0]
    cases o <;> simp -implicitDefEqProofs
  refine wp_mono s1 ?_
  rintro f e ⟨rfl, rfl⟩
  refine then_nx ?_
  rw [wp_seq]
  have s4 : WP lls2 (envE L a o l 0 .un .un .un) fun f e => f = .nx ∧ ∃ x z u, Plain x ∧ Plain z ∧ Plain u ∧ e = envE L a o l (l.length - 1) x z u := by
    have hb : WP (forP (setT (.tp [.nm 5, .nm 6])) llsB ((sps l.dropLast).zipIdx.map fun p => PV.tup [.int (p.2 : Nat), p.1])) (envE L a o l 0 .un .un .un) fun f e => f = .nx ∧ ∃ x z u, Plain x ∧ Plain z ∧ Plain u ∧ e = envE L a o l (l.length - 1) x z u := by
      refine wp_forP (fun n e => ∃ x z u, Plain x ∧ Plain z ∧ Plain u ∧ e = envE L a o l n x z u) (n := 0) ⟨_, _, _, plain_un, plain_un, plain_un, rfl⟩ ?_ ?_
      · rintro n p e hp ⟨x, z, u, hx, hz, hu, rfl⟩
        obtain ⟨hn, rfl⟩ := enum_get hp
        rw [Nat.zero_add]
        refine gate_mono (lls_body hL hl ha hx hz hu hn) fun e h => ?_
        refine wp_mono h ?_
        rintro f e ⟨rfl, x, z, u, hx, hz, hu, rfl⟩
        exact ⟨x, z, u, hx, hz, hu, rfl⟩
      · rintro e ⟨x, z, u, hx, hz, hu, rfl⟩
        rw [enum_len, Nat.zero_add]
        exact ⟨rfl, x, z, u, hx, hz, hu, rfl⟩
    unfold lls2
    unfold llsB at hb
    unfold envE at hb ⊢
    cases o <;> simp -implicitDefEqProofs [cut_init] at hb ⊢ <;> exact hb
  refine wp_mono s4 ?_
  rintro f e ⟨rfl, x, z, u, hx, hz, hu, rfl⟩
  refine then_nx ?_
  unfold lls3 envE
  cases o <;> simp -implicitDefEqProofs [hx.r, hz.r, hu.r] <;> rfl
end
end Wk
namespace Wk
open PySem PySem.Spec PyProof.Rows L2 Pv
noncomputable def prr1 : D Fl := (dpars [3, 4] (dcons (dcallF f_ulaw_any (dcons (dname 0) (dcons (dname 2) dnil))) (dcons (dcallF f_ulaw_any (dcons (dname 0) (dcons (dname 2) dnil))) dnil)))
noncomputable def prr2 : D Fl := (dset 5 (dcallF f_ulaw_lines (dcons (dname 1) (dcons (dname 3) dnil))))
noncomputable def prr3 : D Fl := (dite (dtor (dtst (dop (fun a b => dfn gEq [a, b]) (dname 3) (dname 4))) (dtst (dop (fun a b => dfn gNotInA [a, b]) (dname 4) (dname 5)))) (dseq (dset 8 (dif (dtst (dop (fun a b => dfn gEq [a, b]) (dname 3) (dname 4))) (dcon (.int 0)) (dcon .non))) (dret (dand (dop (fun a b => dfn gEq [a, b]) (dcallF f_least_eye (dcons (dname 1) (dcons (dname 3) (dcons (dname 4) dnil)))) (dname 8)) (dop (fun a b => dfn gEq [a, b]) (dcall (dfn gRepr) (dcons (dcallF f_sees (dcons (dname 1) (dcons (dname 3) (dcons (dname 4) (dcons (dcon (.int 5)) dnil))))) dnil)) (dcall (dfn gRepr) (dcons (dop (fun a b => dfn gEq [a, b]) (dname 3) (dname 4)) dnil)))))) dskip)
noncomputable def prr4 : D Fl := (dset 6 (dcallF f_ulaw_least (dcons (dname 1) (dcons (dname 3) (dcons (dop dixA (dname 5) (dname 4)) dnil)))))
noncomputable def prr5 : D Fl := (dite (dtst (dop (fun a b => dfn gNe [a, b]) (dcall (dfn gRepr) (dcons (dcallF f_least_eye (dcons (dname 1) (dcons (dname 3) (dcons (dname 4) dnil)))) dnil)) (dcall (dfn gRepr) (dcons (dname 6) dnil)))) (dret (dcon (.bl false))) dskip)
noncomputable def prr6 : D Fl := (dfor (.nm 7) (ditemsA (dtup (dcons (dname 6) (dcons (dop (fun a b => dfn gSub [a, b]) (dname 6) (dcon (.int 1))) (dcons (dcallF f_ulaw_draw (dcons (dname 0) (dcons (dcon (.int 1001)) dnil))) dnil))))) (dite (dtst (dchain gLe gLe (dcon (.int 0)) (dname 7) (dcon (.int 1000)))) (dseq (dset 9 (dcall (dfn gTuple) (dcons (dcall (dfn gSorted) (dcons (dcallF f_ulaw_hides (dcons (dname 1) (dcons (dname 3) (dcons (dop dixA (dname 5) (dname 4)) (dcons (dname 7) dnil))))) dnil)) dnil))) (dite (dtst (dop (fun a b => dfn gNe [a, b]) (dcall (dfn gRepr) (dcons (dlst (dcons (dcallF f_sees (dcons (dname 1) (dcons (dname 3) (dcons (dname 4) (dcons (dname 7) dnil))))) (dcons (dcallF f_hidden_by (dcons (dname 1) (dcons (dname 3) (dcons (dname 4) (dcons (dname 7) dnil))))) dnil))) dnil)) (dcall (dfn gRepr) (dcons (dlst (dcons (dop (fun a b => dfn gEq [a, b]) (dname 9) (dtup dnil)) (dcons (dif (dtst (dop (fun a b => dfn gNe [a, b]) (dname 9) (dtup dnil))) (dname 9) (dcon .non)) dnil))) dnil)))) (dret (dcon (.bl false))) dskip)) dskip))
noncomputable def prr7 : D Fl := (dret (dcon (.bl true)))
theorem prr_eq : b_ulaw_is_pair_right = dseq prr1 (dseq prr2 (dseq prr3 (dseq prr4 (dseq prr5 (dseq prr6 prr7))))) := rfl
noncomputable def prB : D Fl := (dite (dtst (dchain gLe gLe (dcon (.int 0)) (dname 7) (dcon (.int 1000)))) (dseq (dset 9 (dcall (dfn gTuple) (dcons (dcall (dfn gSorted) (dcons (dcallF f_ulaw_hides (dcons (dname 1) (dcons (dname 3) (dcons (dop dixA (dname 5) (dname 4)) (dcons (dname 7) dnil))))) dnil)) dnil))) (dite (dtst (dop (fun a b => dfn gNe [a, b]) (dcall (dfn gRepr) (dcons (dlst (dcons (dcallF f_sees (dcons (dname 1) (dcons (dname 3) (dcons (dname 4) (dcons (dname 7) dnil))))) (dcons (dcallF f_hidden_by (dcons (dname 1) (dcons (dname 3) (dcons (dname 4) (dcons (dname 7) dnil))))) dnil))) dnil)) (dcall (dfn gRepr) (dcons (dlst (dcons (dop (fun a b => dfn gEq [a, b]) (dname 9) (dtup dnil)) (dcons (dif (dtst (dop (fun a b => dfn gNe [a, b]) (dname 9) (dtup dnil))) (dname 9) (dcon .non)) dnil))) dnil)))) (dret (dcon (.bl false))) dskip)) dskip)
theorem pds_cons {x : PV} {xs : List PV} {d : PyData} {ds : List PyData} (h : pd x = some d) (h2 : pds xs = some ds) : pds (x :: xs) = some (d :: ds) := by rw [pds, h, h2]
theorem pd_lst {o : Bool} {xs : List PV} {ds : List PyData} (h : pds xs = some ds) : pd (.lst o xs) = some (.list ds) := by rw [pd, h]
theorem pd_tup {xs : List PV} {ds : List PyData} (h : pds xs = some ds) : pd (.tup xs) = some (.tuple ds) := by rw [pd, h]
theorem div_bd {x b M : Int} (h0 : 1 ≤ b) (h1 : b ≤ 8) (hx : -M ≤ x) (hx2 : x ≤ M) (hM : 0 ≤ M) : -M ≤ x / b ∧ x / b ≤ M := by
  rcases (by omega : b = 1 ∨ b = 2 ∨ b = 3 ∨ b = 4 ∨ b = 5 ∨ b = 6 ∨ b = 7 ∨ b = 8) with rfl | rfl | rfl | rfl | rfl | rfl | rfl | rfl <;> omega
section
variable {L : Land} {a b s : Spt} {l : List Spt} {w : Nat} {o : Bool} {x z u : Sl} {n : Nat} {y : Int} {h : Hand}
theorem mul_bd {x : Int} {n : Nat} (h0 : 0 ≤ x) (h1 : x ≤ 1000) (hn : n ≤ 8) : 0 ≤ x * (n : Int) ∧ x * (n : Int) ≤ 8000 := by
  rcases (by omega : n = 0 ∨ n = 1 ∨ n = 2 ∨ n = 3 ∨ n = 4 ∨ n = 5 ∨ n = 6 ∨ n = 7 ∨ n = 8) with rfl | rfl | rfl | rfl | rfl | rfl | rfl | rfl | rfl <;> simp <;> omega
theorem over_bd (hL : LK L w) (ha : InL L a) (hl : Ln L l) (hn : n < l.length - 1) : -20000 ≤ overK L a l n ∧ overK L a l n ≤ 20000 := by
  have hq := hl.q
  have h1 := hL.ht (hl.elt (k := n) (by omega))
  have h2 := hL.ht (hl.elt (k := l.length - 1) (by omega))
  have h3 := hL.ht ha
  have m1 := mul_bd h1.1 h1.2 hq
  have m2 := mul_bd (n := n + 1) h2.1 h2.2 (by omega)
  have e : ((n + 1 : Nat) : Int) = (n : Int) + 1 := by omega
  rw [e] at m2
  have hlast : lastOf l = elt l (l.length - 1) := rfl
  rw [← hlast] at m2
  have d := div_bd (x := ht L (elt l n) * l.length - ht L (lastOf l) * ((n : Int) + 1)) (b := (l.length : Int) - ((n : Int) + 1)) (M := 8000) (by omega) (by omega) (by omega) (by omega) (by omega)
  unfold overK
  omega
theorem lst_bd (hL : LK L w) (ha : InL L a) (hl : Ln L l) : ∀ n, n ≤ l.length - 1 → 0 ≤ lstTo L a l n ∧ lstTo L a l n ≤ 20000
  | 0, _ => by show 0 ≤ (0 : Int) ∧ (0 : Int) ≤ 20000; omega
  | n + 1, hn => by
    have ih := lst_bd hL ha hl n (by omega)
    have hb := over_bd hL ha hl (n := n) (by omega)
    rw [lstTo_succ]
    unfold mx
    split <;> omega
theorem tidy_S (hL : LK L w) (h : InL L s) : Tidy (SE.d s) 33 1 := by
  have h1 := hL.inL.mp h
  have h2 := hL.is.h2
  have h3 := hL.is.w2
  exact Tidy.tuple (TidyAll.cons (Tidy.int (by omega) (by omega)) (TidyAll.cons (Tidy.int (by omega) (by omega)) .nil))
theorem tidy_Ss {m : Nat} (hL : LK L w) (h : ∀ s ∈ l, InL L s) (hl : l.length ≤ m) : Tidy (SE.tup.d l) (m * 35 + 3) 2 := Tidy.tuple (TidyAll.mapN (fun s hs => tidy_S hL (h s hs)) hl)
theorem bl_same (b : Bool) : ∃ s, gRepr [.bl b] = some (.str s) ∧ gEq [.str s, .str s] = some (.bl true) := by
  obtain ⟨s, h1, _, h2, _⟩ := repr_same (x := .bl b) (y := .bl b) (d := .bool b) rfl rfl (Tidy.bool.small (by omega) (by omega))
  exact ⟨s, h1, h2⟩
def envP (L : Land) (h : Hand) (o : Bool) (a b : Spt) (x y z u v : Sl) : PEnv := [.val (pvH h), .val (pvLand L), .val (.lst o (sps (spots L))), .val (pvS a), .val (pvS b), x, y, z, u, v]
theorem prr1_ok (hL : LK L w) (ok : HandOk h) : WP prr1 [.val (pvH h), .val (pvLand L), .val (.lst o (sps (spots L))), .un, .un, .un, .un, .un, .un, .un] fun f e => f = .nx ∧ ∃ h' a b, HandOk h' ∧ InL L a ∧ InL L b ∧ e = envP L h' o a b .un .un .un .un .un := by
  have hp1 := hL.spots_pos
  have hp2 := hL.spots_len
  obtain ⟨p, h1, hp, e1, ok1⟩ := any (o := o) (xs := sps (spots L)) ok fzs_s (by simpa using hp1) (by simp; omega)
  obtain ⟨q, h2, hq, e2, ok2⟩ := any (o := o) (xs := sps (spots L)) ok1 fzs_s (by simpa using hp1) (by simp; omega)
  obtain ⟨a, ha, rfl⟩ := List.mem_map.mp hp
  obtain ⟨b, hb, rfl⟩ := List.mem_map.mp hq
  unfold prr1 envP
  cases o <;> simp -implicitDefEqProofs [e1, e2] <;> exact ⟨h2, ok2, a.1, a.2, hL.mem.mp ha, b.1, b.2, hL.mem.mp hb, rfl, rfl, rfl⟩
theorem prr2_ok (hL : LK L w) (ha : InL L a) : WP prr2 (envP L h o a b .un .un .un .un .un) fun f e => f = .nx ∧ e = envP L h o a b (.val (pvLs true (linesOf L a))) .un .un .un .un := by
  unfold prr2 envP
  simp -implicitDefEqProofs [sp_llines hL ha]
theorem prr3_a (hL : LK L w) (ha : InL L a) : WP prr3 (envP L h o a a (.val (pvLs true (linesOf L a))) .un .un .un .un) fun f e => f = .rt (.val (.bl true)) ∧ ∃ x y z u v, e = envP L h o a a x y z u v := by
  obtain ⟨s, g1, g2⟩ := bl_same true
  have e0 : lst L a [] = 0 := rfl
  unfold prr3 envP
  simp -implicitDefEqProofs [eq_S, sp_least_eye hL ha ha, lineTo_self, pvI, e0, sp_sees hL ha ha (show 0 ≤ (5 : Int) ∧ (5 : Int) ≤ 1000 by omega), seesB_self, g1, g2]
theorem gEq_non : gEq [.non, .non] = some (.bl true) := by
  unfold gEq peq
  rfl
theorem prr3_b (hL : LK L w) (ha : InL L a) (hb : InL L b) (hn : a ≠ b) (hl : lineTo a b = none) : WP prr3 (envP L h o a b (.val (pvLs true (linesOf L a))) .un .un .un .un) fun f e => f = .rt (.val (.bl true)) ∧ ∃ x y z u v, e = envP L h o a b x y z u v := by
  obtain ⟨s, g1, g2⟩ := bl_same false
  have hk : kget (linesOf L a) b = none := by rw [lines_get hL ha hb, if_neg hn, hl]
  unfold prr3 envP
  simp -implicitDefEqProofs [eq_S, hn, notin_Ls, hk, sp_least_eye hL ha hb, hl, pvI, gEq_non, sp_sees hL ha hb (show 0 ≤ (5 : Int) ∧ (5 : Int) ≤ 1000 by omega), seesB_none hn hl, g1, g2]
theorem prr3_c (hL : LK L w) (ha : InL L a) (hb : InL L b) (hn : a ≠ b) (hl : lineTo a b = some l) : WP prr3 (envP L h o a b (.val (pvLs true (linesOf L a))) .un .un .un .un) fun f e => f = .nx ∧ e = envP L h o a b (.val (pvLs true (linesOf L a))) .un .un .un .un := by
  have hk : kget (linesOf L a) b = some l := by rw [lines_get hL ha hb, if_neg hn, hl]
  unfold prr3 envP
  simp -implicitDefEqProofs [eq_S, hn, notin_Ls, hk]
theorem prr4_ok (hL : LK L w) (ha : InL L a) (hb : InL L b) (hn : a ≠ b) (hl : lineTo a b = some l) : WP prr4 (envP L h o a b (.val (pvLs true (linesOf L a))) .un .un .un .un) fun f e => f = .nx ∧ e = envP L h o a b (.val (pvLs true (linesOf L a))) (.val (.int (lst L a l))) .un .un .un := by
  have hk : kget (linesOf L a) b = some l := by rw [lines_get hL ha hb, if_neg hn, hl]
  unfold prr4 envP
  simp -implicitDefEqProofs [ix_Ls, hk, sp_lleast (o := false) hL (hL.ln ha hb hn hl) ha]
theorem prr5_ok (hL : LK L w) (ha : InL L a) (hb : InL L b) (hn : a ≠ b) (hl : lineTo a b = some l) : WP prr5 (envP L h o a b (.val (pvLs true (linesOf L a))) (.val (.int (lst L a l))) .un .un .un) fun f e => f = .nx ∧ e = envP L h o a b (.val (pvLs true (linesOf L a))) (.val (.int (lst L a l))) .un .un .un := by
  have hb' := lst_bd hL ha (hL.ln ha hb hn hl) (l.length - 1) (Nat.le_refl _)
  have hb2 : 0 ≤ lst L a l ∧ lst L a l ≤ 20000 := hb'
  obtain ⟨s, g1, _, _, g2⟩ := repr_same (x := .int (lst L a l)) (y := .int (lst L a l)) (d := .int (lst L a l)) rfl rfl ((Tidy.int (by omega) (by omega)).small (by omega) (by omega))
  unfold prr5 envP
  simp -implicitDefEqProofs [sp_least_eye hL ha hb, hl, pvI, g1, g2]
theorem prB_ok {k : Int} (hL : LK L w) (ha : InL L a) (hb : InL L b) (hn : a ≠ b) (hl : lineTo a b = some l) (hz : Plain z) (hx : Plain x) (hu : Plain u) : gate (setT (.nm 7) (.int k) (envP L h o a b (.val (pvLs true (linesOf L a))) z x .un u)) fun e => WP prB e fun f e => f = .nx ∧ ∃ x u, Plain x ∧ Plain u ∧ e = envP L h o a b (.val (pvLs true (linesOf L a))) z x .un u := by
  have hk : kget (linesOf L a) b = some l := by rw [lines_get hL ha hb, if_neg hn, hl]
  have ln := hL.ln ha hb hn hl
  unfold prB envP
  by_cases c0 : 0 ≤ k
  · by_cases c1 : k ≤ 1000
    · have hy : 0 ≤ k ∧ k ≤ 1000 := ⟨c0, c1⟩
      by_cases c : hid L a l k = []
      · have hs : seesB L k a b = true := by rw [seesB_line hn hl]; simp [c]
        have hB : hidB L k a b = .non := by unfold hidB; rw [hs]; rfl
        have hm : (hid L a l k).mergeSort SO.le = [] := by rw [c]; simp
        obtain ⟨s, g1, g1', _, g2⟩ := repr_same (x := .lst true [.bl true, .non]) (y := .lst true [.bl true, .non]) (d := .list [.bool true, .none]) rfl rfl ((Tidy.list (TidyAll.cons (Tidy.bool (b := true)) (TidyAll.cons Tidy.none .nil))).small (by omega) (by omega))
        simp -implicitDefEqProofs [hz.r, hx.r, hu.r, c0, c1, ix_Ls, hk, sp_lhides (o := false) hL ln hy ha, sort_S, hm, tup_S, sp_sees hL ha hb hy, hs, sp_hidden_by hL ha hb hy, hB, eq_nilT, ne_nilT, g1, g2]
        exact ⟨plain_val, plain_val⟩
      · have hs : seesB L k a b = false := by rw [seesB_line hn hl]; simp [c]
        have hB : hidB L k a b = .tup (sps ((hid L a l k).mergeSort SO.le)) := by unfold hidB; rw [hs, hl]; rfl
        have hperm := List.mergeSort_perm (hid L a l k) SO.le
        have hm : (hid L a l k).mergeSort SO.le ≠ [] := fun e => by
          rw [e] at hperm
          exact c hperm.symm.eq_nil
        have hlen : (hid L a l k).length ≤ 8 := by
          have := hidTo_len (L := L) (a := a) (l := l) (y := k) (n := l.length - 1)
          have := ln.q
          unfold hid
          omega
        have hmem : ∀ s ∈ (hid L a l k).mergeSort SO.le, InL L s := fun s hs => by
          have h1 := hperm.mem_iff.mp hs
          unfold hid hidTo at h1
          obtain ⟨j, hj, rfl⟩ := List.mem_map.mp h1
          have := List.mem_range.mp (List.mem_filter.mp hj).1
          exact ln.elt (by omega)
        have hml : ((hid L a l k).mergeSort SO.le).length ≤ 8 := by rw [hperm.length_eq]; exact hlen
        generalize hM : (hid L a l k).mergeSort SO.le = M at *
        have hd : pd (.lst true [.bl false, .tup (sps M)]) = some (.list [.bool false, SE.tup.d M]) := by
          have e := SE.tup.pd M
          have e : pd (.tup (sps M)) = some (SE.tup.d M) := e
          exact pd_lst (pds_cons rfl (pds_cons e rfl))
        obtain ⟨s, g1, g1', _, g2⟩ := repr_same hd hd ((Tidy.list (TidyAll.cons ((Tidy.bool (b := false)).le (Nat.le_refl _) (Nat.zero_le 2)) (TidyAll.cons (tidy_Ss hL hmem hml) .nil))).small (by omega) (by omega))
        simp -implicitDefEqProofs [hz.r, hx.r, hu.r, c0, c1, ix_Ls, hk, sp_lhides (o := false) hL ln hy ha, sort_S, hM, tup_S, sp_sees hL ha hb hy, hs, sp_hidden_by hL ha hb hy, hB, eq_nilT, ne_nilT, hm, g1, g2]
        exact ⟨plain_val, plain_val⟩
    · simp -implicitDefEqProofs [hz.r, hx.r, hu.r, c0, c1]
      exact ⟨plain_val, hu⟩
  · simp -implicitDefEqProofs [hz.r, hx.r, hu.r, c0]
    exact ⟨plain_val, hu⟩
theorem sp_pair (hL : LK L w) (ok : HandOk h) : ∃ h', f_ulaw_is_pair_right [pvH h, pvLand L, .lst o (sps (spots L))] = some (.bl true, [pvH h', pvLand L, .lst o (sps (spots L))]) ∧ HandOk h' := by
  have key : ∃ r as, f_ulaw_is_pair_right [pvH h, pvLand L, .lst o (sps (spots L))] = some (r, as) ∧ ∃ h', r = .bl true ∧ as = [pvH h', pvLand L, .lst o (sps (spots L))] ∧ HandOk h' := by
    refine wp_exit rfl ?_
    have fin : ∀ {h : Hand} {a b : Spt} {x y z u v : Sl}, HandOk h → cont (envP L h o a b x y z u v) (.val (.bl true)) = some (.bl true) ∧ True := fun _ => ⟨rfl, trivial⟩
    rw [prr_eq, wp_seq]
    refine wp_mono (prr1_ok hL ok) ?_
    rintro f e ⟨rfl, h1, a, b, ok1, ha, hb, rfl⟩
    refine then_nx ?_
    rw [wp_seq]
    refine wp_mono (prr2_ok hL ha) ?_
    rintro f e ⟨rfl, rfl⟩
    refine then_nx ?_
    rw [wp_seq]
    by_cases hn : a = b
    · subst hn
      refine wp_mono (prr3_a hL ha) ?_
      rintro f e ⟨rfl, x, y, z, u, v, rfl⟩
      refine then_rt ?_
      unfold envP
      simp -implicitDefEqProofs
      exact ⟨h1, rfl, ok1⟩
    · cases hl : lineTo a b with
      | none =>
        refine wp_mono (prr3_b hL ha hb hn hl) ?_
        rintro f e ⟨rfl, x, y, z, u, v, rfl⟩
        refine then_rt ?_
        unfold envP
        simp -implicitDefEqProofs
        exact ⟨h1, rfl, ok1⟩
      | some l =>
        refine wp_mono (prr3_c hL ha hb hn hl) ?_
        rintro f e ⟨rfl, rfl⟩
        refine then_nx ?_
        rw [wp_seq]
        refine wp_mono (prr4_ok hL ha hb hn hl) ?_
        rintro f e ⟨rfl, rfl⟩
        refine then_nx ?_
        rw [wp_seq]
        refine wp_mono (prr5_ok hL ha hb hn hl) ?_
        rintro f e ⟨rfl, rfl⟩
        refine then_nx ?_
        rw [wp_seq]
        obtain ⟨k, h2, e2, k0, k1, ok2⟩ := draw (m := 1001) ok1 (by omega) (by omega)
        have s6 : WP prr6 (envP L h1 o a b (.val (pvLs true (linesOf L a))) (.val (.int (lst L a l))) .un .un .un) fun f e => f = .nx ∧ ∃ x u, Plain x ∧ Plain u ∧ e = envP L h2 o a b (.val (pvLs true (linesOf L a))) (.val (.int (lst L a l))) x .un u := by
          have hb : WP (forP (setT (.nm 7)) prB [.int (lst L a l), .int (lst L a l - 1), .int k]) (envP L h2 o a b (.val (pvLs true (linesOf L a))) (.val (.int (lst L a l))) .un .un .un) fun f e => f = .nx ∧ ∃ x u, Plain x ∧ Plain u ∧ e = envP L h2 o a b (.val (pvLs true (linesOf L a))) (.val (.int (lst L a l))) x .un u := by
            refine wp_forP (fun n e => ∃ x u, Plain x ∧ Plain u ∧ e = envP L h2 o a b (.val (pvLs true (linesOf L a))) (.val (.int (lst L a l))) x .un u) (n := 0) ⟨_, _, plain_un, plain_un, rfl⟩ ?_ ?_
            · rintro n p e hp ⟨x, u, hx, hu, rfl⟩
              have hi : ∃ i, p = .int i := by
                rcases n with _ | _ | _ | n
                · exact ⟨_, (Option.some.inj hp).symm⟩
                · exact ⟨_, (Option.some.inj hp).symm⟩
                · exact ⟨_, (Option.some.inj hp).symm⟩
                · simp at hp
              obtain ⟨i, rfl⟩ := hi
              refine gate_mono (prB_ok hL ha hb hn hl plain_val hx hu) fun e h => ?_
              refine wp_mono h ?_
              rintro f e ⟨rfl, x, u, hx, hu, rfl⟩
              exact ⟨x, u, hx, hu, rfl⟩
            · rintro e ⟨x, u, hx, hu, rfl⟩
              exact ⟨rfl, x, u, hx, hu, rfl⟩
          unfold prr6
          unfold prB at hb
          unfold envP at hb ⊢
          simp -implicitDefEqProofs only [wp_for] at hb ⊢
          simp -implicitDefEqProofs [e2, -wp_forP_cons]
          refine wp_mono hb ?_
          rintro f e ⟨h1, x, u, h2, h3, h4⟩
          exact ⟨h1, x, h2, u, h3, h4⟩
        refine wp_mono s6 ?_
        rintro f e ⟨rfl, x, u, hx, hu, rfl⟩
        refine then_nx ?_
        unfold prr7 envP
        simp -implicitDefEqProofs
        exact ⟨h2, rfl, ok2⟩
  obtain ⟨r, as, h1, h', rfl, rfl, h2⟩ := key
  exact ⟨h', h1, h2⟩
end
end Wk
namespace Wk
open PySem PySem.Spec PyProof.Rows L2 Pv
noncomputable def isr1 : D Fl := (dset 1 (dcallF f_ulaw_land (dcons (dname 0) (dcons (dcon (.int 8)) dnil))))
noncomputable def isr2 : D Fl := (dpars [2, 3] (dcons (dcallF f_ulaw_spots (dcons (dname 1) dnil)) (dcons (dcallF f_ulaw_any (dcons (dname 0) (dcons (dlst (dcons (dcon (.int 0)) (dcons (dcon (.int 1)) (dcons (dcon (.int 1000)) (dcons (dcallF f_ulaw_draw (dcons (dname 0) (dcons (dcon (.int 30)) dnil))) dnil))))) dnil))) dnil)))
noncomputable def isr3 : D Fl := (dset 4 (ddictA (dcons (dlc (ditemsA (dname 2)) (.nm 6) [6] (dpure true) (dtup (dcons (dname 6) (dcons (dcallF f_ulaw_seen (dcons (dname 1) (dcons (dname 6) (dcons (dname 3) dnil)))) dnil)))) dnil)))
noncomputable def isr4 : D Fl := (dset 5 (dcall (dfn gMax) (dcons (dlc (ditemsA (dname 2)) (.nm 6) [6] (dpure true) (dcall (dfn gLen) (dcons (dop dixA (dname 4) (dname 6)) dnil))) dnil)))
noncomputable def isr5 : D Fl := (dset 6 (dcallF f_ulaw_any (dcons (dname 0) (dcons (dname 2) dnil))))
noncomputable def isr6 : D Fl := (dset 7 (dlst (dcons (dcallF f_best_seat (dcons (dname 1) (dcons (dname 3) dnil))) (dcons (dcallF f_seen_from (dcons (dname 1) (dcons (dname 6) (dcons (dname 3) dnil)))) (dcons (dcallF f_see_one (dcons (dname 1) (dcons (dname 6) (dcons (dname 3) dnil)))) dnil)))))
noncomputable def isr7 : D Fl := (dset 8 (dlst (dcons (dop dixA (dlc (ditemsA (dname 2)) (.nm 10) [10] (dtst (dop (fun a b => dfn gEq [a, b]) (dcall (dfn gLen) (dcons (dop dixA (dname 4) (dname 10)) dnil)) (dname 5))) (dname 10)) (dcon (.int 0))) (dcons (dop dixA (dname 4) (dname 6)) (dcons (dcall (dfn gTuple) (dcons (dlc (ditemsA (dname 2)) (.nm 10) [10] (dtst (dop (fun a b => dfn gInA [a, b]) (dname 6) (dop dixA (dname 4) (dname 10)))) (dname 10)) dnil)) dnil)))))
noncomputable def isr8 : D Fl := (dite (dtst (dop (fun a b => dfn gNe [a, b]) (dcall (dfn gRepr) (dcons (dname 7) dnil)) (dcall (dfn gRepr) (dcons (dname 8) dnil)))) (dret (dcon (.bl false))) dskip)
noncomputable def isr9 : D Fl := (dset 9 (dcall (dfn gTuple) (dcons (dlc (ditemsA (dname 2)) (.nm 10) [10] (dtst (dop (fun a b => dfn gEq [a, b]) (dcallF f_ulaw_draw (dcons (dname 0) (dcons (dcon (.int 5)) dnil))) (dcon (.int 0)))) (dname 10)) dnil)))
noncomputable def isr10 : D Fl := (dite (dtand (dtst (dop (fun a b => dfn gNe [a, b]) (dname 9) (dtup dnil))) (dtst (dop (fun a b => dfn gNe [a, b]) (dcall (dfn gRepr) (dcons (dcallF f_never_seen (dcons (dname 1) (dcons (dname 9) (dcons (dname 3) dnil)))) dnil)) (dcall (dfn gRepr) (dcons (dcall (dfn gTuple) (dcons (dlc (ditemsA (dname 2)) (.nm 10) [10] (dtnot (dtst (dcall (dfn gAny) (dcons (dlc (ditemsA (dname 9)) (.nm 12) [12] (dpure true) (dop (fun a b => dfn gInA [a, b]) (dname 10) (dop dixA (dname 4) (dname 12)))) dnil)))) (dname 10)) dnil)) dnil))))) (dret (dcon (.bl false))) dskip)
noncomputable def isr11 : D Fl := (dret (dcall (dfn gAll) (dcons (dlc (drange1 (dcons (dcon (.int 12)) dnil)) (.nm 11) [11] (dpure true) (dcallF f_ulaw_is_pair_right (dcons (dname 0) (dcons (dname 1) (dcons (dname 2) dnil))))) dnil)))
theorem isr_eq : b_ulaw_is_right = dseq isr1 (dseq isr2 (dseq isr3 (dseq isr4 (dseq isr5 (dseq isr6 (dseq isr7 (dseq isr8 (dseq isr9 (dseq isr10 isr11))))))))) := rfl
abbrev ST : En (List Spt) := SE.tup
def pvV (o : Bool) (D : LD) : PV := pvD SE ST o D
def viewsOf (L : Land) (y : Int) : LD := (spots L).map fun s => (s, seenOf L y s)
section
variable {L : Land} {a b s : Spt} {l lot : List Spt} {w : Nat} {o : Bool} {x z u : Sl} {n : Nat} {y : Int} {h : Hand} {D : LD}
@[simp] theorem fz_V : (pvV o D).fz = !o := pvD_fz
@[simp] theorem frz_V : (pvV o D).frz = pvV false D := pvD_frz
@[simp] theorem flat_V : flatP (pvV o D) = true := pvD_flat
theorem ix_V {q : Sl} : ixA q (some (pvV o D)) (some (pvS s)) = (kget D s).map fun v => .val (.tup (sps v)) := pvD_ix SK q o D s
theorem get_views (hL : LK L w) (hs : InL L s) : kget (viewsOf L y) s = some (seenOf L y s) := by
  unfold viewsOf
  rw [kget_map, if_pos (hL.mem.mpr hs)]
theorem dict_views (hL : LK L w) : dictO (.lst true ((spots L).map fun s => PV.tup [pvS s, .tup (sps (seenOf L y s))])) = some (pvV true (viewsOf L y)) := by
  have h := pvD_dict SK (A := ST) true (viewsOf L y) (by unfold viewsOf; rw [List.length_map]; have := hL.spots_len; omega)
  have e : (viewsOf L y).map (fun e => PV.tup [SE.f e.1, ST.f e.2]) = (spots L).map fun s => PV.tup [pvS s, .tup (sps (seenOf L y s))] := by
    unfold viewsOf
    rw [List.map_map]
    rfl
  rw [e, dmerge_nodup] at h
  · exact h
  · have e2 : dkeys ([] : LD) ++ dkeys (viewsOf L y) = spots L := by
      unfold dkeys viewsOf
      simp [Function.comp_def]
    rw [e2]
    exact nodup_spots
def envR (h : Hand) (L : Land) (o : Bool) (y : Int) (v m s t d lo : Sl) : PEnv := [.val (pvH h), .val (pvLand L), .val (.lst o (sps (spots L))), .val (.int y), v, m, s, t, d, lo, .un, .un, .un]
theorem isr1_ok (ok : HandOk h) : WP isr1 [.val (pvH h), .un, .un, .un, .un, .un, .un, .un, .un, .un, .un, .un, .un] fun f e => f = .nx ∧ ∃ h' L w, LK L w ∧ HandOk h' ∧ e = [.val (pvH h'), .val (pvLand L), .un, .un, .un, .un, .un, .un, .un, .un, .un, .un, .un] := by
  obtain ⟨h', L, w, e, ok', h1, h2, h3⟩ := sp_lland ok
  unfold isr1
  simp -implicitDefEqProofs [e]
  exact ⟨h', L, ⟨w, h1, h2, h3⟩, ok', rfl, rfl⟩
theorem isr2_ok (hL : LK L w) (ok : HandOk h) : WP isr2 [.val (pvH h), .val (pvLand L), .un, .un, .un, .un, .un, .un, .un, .un, .un, .un, .un] fun f e => f = .nx ∧ ∃ h' y, (0 ≤ y ∧ y ≤ 1000) ∧ HandOk h' ∧ e = envR h' L true y .un .un .un .un .un .un := by
  obtain ⟨k, h1, e1, k0, k1, ok1⟩ := draw (m := 30) ok (by omega) (by omega)
  obtain ⟨p, h2, hp, e2, ok2⟩ := any (o := true) (xs := [.int 0, .int 1, .int 1000, .int k]) ok1 (by simp) (by simp) (by simp)
  have hv : ∃ y, p = .int y ∧ 0 ≤ y ∧ y ≤ 1000 := by
    simp at hp
    rcases hp with rfl | rfl | rfl | rfl
    · exact ⟨_, rfl, by omega, by omega⟩
    · exact ⟨_, rfl, by omega, by omega⟩
    · exact ⟨_, rfl, by omega, by omega⟩
    · exact ⟨_, rfl, by omega, by omega⟩
  obtain ⟨y, rfl, y0, y1⟩ := hv
  unfold isr2 envR
  simp -implicitDefEqProofs [sp_lspots hL, e1, e2]
  exact ⟨h2, y, ⟨y0, y1⟩, ok2, rfl, rfl⟩
theorem isr3_ok (hL : LK L w) (hy : 0 ≤ y ∧ y ≤ 1000) : WP isr3 (envR h L true y .un .un .un .un .un .un) fun f e => f = .nx ∧ e = envR h L false y (.val (pvV true (viewsOf L y))) .un .un .un .un .un := by
  have hlen := hL.spots_len
  unfold isr3 envR
  simp -implicitDefEqProofs
  refine ⟨by omega, ?_⟩
  rw [show sps (spots L) = (spots L).map pvS from rfl]
  refine wp_lcT (fun _ => true) (fun s => PV.tup [pvS s, .tup (sps (seenOf L y s))]) (fun k hk => ?_) ?_
  · have hk := hL.mem.mp hk
    simp -implicitDefEqProofs [sp_lseen hL hk hy]
  · rw [List.filter_eq_self.mpr (fun _ _ => rfl)]
    simp -implicitDefEqProofs [dict_views hL]
theorem isr4_ok (hL : LK L w) : WP isr4 (envR h L false y (.val (pvV true (viewsOf L y))) .un .un .un .un .un) fun f e => f = .nx ∧ e = envR h L false y (.val (pvV true (viewsOf L y))) (.val (.int (mostS L y))) .un .un .un .un := by
  have hlen := hL.spots_len
  have hpos := hL.spots_pos
  unfold isr4 envR
  simp -implicitDefEqProofs
  refine ⟨by omega, ?_⟩
  rw [show ∀ tt te, lcP (setT (.nm 6)) [6] tt te (sps (spots L)) [] = lcP (setT (.nm 6)) [6] tt te ((spots L).map pvS) [] from fun _ _ => rfl]
  refine wp_lcT (fun _ => true) (fun s => .int (cntS L y s)) (fun k hk => ?_) ?_
  · have hk := hL.mem.mp hk
    simp -implicitDefEqProofs [ix_V, get_views hL hk, cntS]
  · rw [List.filter_eq_self.mpr (fun _ _ => rfl)]
    have e2 : (spots L).map (fun s => PV.int (cntS L y s)) = pis ((spots L).map (cntS L y)) := by simp [pis]
    have hne : (spots L).map (cntS L y) ≠ [] := fun e => by
      have := congrArg List.length e
      simp at this
      rw [this] at hpos
      simp at hpos
    rw [e2]
    simp -implicitDefEqProofs [mxL_max hne, mostS]
theorem isr5_ok (hL : LK L w) (ok : HandOk h) {v m : PV} : WP isr5 (envR h L false y (.val v) (.val m) .un .un .un .un) fun f e => f = .nx ∧ ∃ h' s, InL L s ∧ HandOk h' ∧ e = envR h' L false y (.val v) (.val m) (.val (pvS s)) .un .un .un := by
  have hp1 := hL.spots_pos
  have hp2 := hL.spots_len
  obtain ⟨p, h1, hp, e1, ok1⟩ := any (o := false) (xs := sps (spots L)) ok fzs_s (by simpa using hp1) (by simp; omega)
  obtain ⟨a, ha, rfl⟩ := List.mem_map.mp hp
  unfold isr5 envR
  simp -implicitDefEqProofs [e1]
  exact ⟨h1, a.1, a.2, hL.mem.mp ha, ok1, rfl, rfl⟩
def toldR (L : Land) (y : Int) (s : Spt) : List PV := [pvS (bestS L y), .tup (sps (seenOf L y s)), .tup (sps (seeOne L y s))]
theorem fz_toldR : PV.fzs (toldR L y s) = true := by simp [toldR]
theorem isr6_ok (hL : LK L w) (hs : InL L s) (hy : 0 ≤ y ∧ y ≤ 1000) {v m : PV} : WP isr6 (envR h L false y (.val v) (.val m) (.val (pvS s)) .un .un .un) fun f e => f = .nx ∧ e = envR h L false y (.val v) (.val m) (.val (pvS s)) (.val (.lst true (toldR L y s))) .un .un := by
  unfold isr6 envR toldR
  simp -implicitDefEqProofs [sp_best_seat hL hy, sp_seen_from hL hs hy, sp_see_one hL hs hy]
theorem isr7_ok (hL : LK L w) (hs : InL L s) : WP isr7 (envR h L false y (.val (pvV true (viewsOf L y))) (.val (.int (mostS L y))) (.val (pvS s)) (.val (.lst true (toldR L y s))) .un .un) fun f e => f = .nx ∧ e = envR h L false y (.val (pvV true (viewsOf L y))) (.val (.int (mostS L y))) (.val (pvS s)) (.val (.lst true (toldR L y s))) (.val (.lst true (toldR L y s))) .un := by
  have hlen := hL.spots_len
  have ht : toldR L y s = [pvS (bestS L y), .tup (sps (seenOf L y s)), .tup (sps (seeOne L y s))] := rfl
  generalize toldR L y s = T at ht
  unfold isr7 envR
  simp -implicitDefEqProofs
  refine ⟨by omega, ?_⟩
  rw [show ∀ tt te, lcP (setT (.nm 10)) [10] tt te (sps (spots L)) [] = lcP (setT (.nm 10)) [10] tt te ((spots L).map pvS) [] from fun _ _ => rfl]
  refine wp_lcT (fun s => decide (cntS L y s = mostS L y)) pvS (fun k hk => ?_) ?_
  · have hk := hL.mem.mp hk
    have hc : (((seenOf L y k).length : Nat) : Int) = cntS L y k := rfl
    by_cases c : cntS L y k = mostS L y
    · simp -implicitDefEqProofs [ix_V, get_views hL hk, hc, c]
    · simp -implicitDefEqProofs [ix_V, get_views hL hk, hc, c]
  · rw [filt_S]
    have i1 : ∀ b : Sl, ixV b (some (.lst true (sps (bests L y)))) (some (.int 0)) = some (.val (pvS (bestS L y))) := fun b =>
      ixV_sps (a := b) (o := true) (l := bests L y) (i := 0) (by omega) (by have := bests_pos (y := y) hL; omega)
    rw [show (spots L).filter (fun s => decide (cntS L y s = mostS L y)) = bests L y from rfl]
    simp -implicitDefEqProofs [i1, ix_V, get_views hL hs]
    refine ⟨by omega, ?_⟩
    rw [show ∀ tt te, lcP (setT (.nm 10)) [10] tt te (sps (spots L)) [] = lcP (setT (.nm 10)) [10] tt te ((spots L).map pvS) [] from fun _ _ => rfl]
    refine wp_lcT (fun k => seesB L y k s) pvS (fun k hk => ?_) ?_
    · have hk := hL.mem.mp hk
      have hm : s ∈ seenOf L y k ↔ seesB L y k s = true := mem_seen hL hs
      by_cases c : seesB L y k s = true
      · simp -implicitDefEqProofs [ix_V, get_views hL hk, in_St, hm, c]
      · simp -implicitDefEqProofs [ix_V, get_views hL hk, in_St, hm, c]
    · rw [filt_S]
      rw [show (spots L).filter (fun k => seesB L y k s) = seeOne L y s from rfl]
      simp -implicitDefEqProofs [ht]
theorem isr8_ok (hL : LK L w) (hs : InL L s) {v m : PV} : WP isr8 (envR h L false y (.val v) (.val m) (.val (pvS s)) (.val (.lst true (toldR L y s))) (.val (.lst true (toldR L y s))) .un) fun f e => f = .nx ∧ e = envR h L false y (.val v) (.val m) (.val (pvS s)) (.val (.lst true (toldR L y s))) (.val (.lst true (toldR L y s))) .un := by
  have hlen := hL.spots_len
  have hd : pd (.lst true (toldR L y s)) = some (.list [SE.d (bestS L y), ST.d (seenOf L y s), ST.d (seeOne L y s)]) :=
    pd_lst (pds_cons (SE.pd _) (pds_cons (ST.pd _) (pds_cons (ST.pd _) rfl)))
  have hb : InL L (bestS L y) := by
    have := best_mem (y := y) hL
    unfold bests at this
    exact hL.mem.mp (List.mem_filter.mp this).1
  have t1 := (tidy_S hL hb).le (Nat.le_refl _) (show 1 ≤ 2 by omega)
  have t2 : Tidy (ST.d (seenOf L y s)) (64 * 35 + 3) 2 := tidy_Ss hL (fun x hx => hL.mem.mp (List.mem_filter.mp hx).1) (Nat.le_trans (List.length_filter_le _ _) hlen)
  have t3 : Tidy (ST.d (seeOne L y s)) (64 * 35 + 3) 2 := tidy_Ss hL (fun x hx => hL.mem.mp (List.mem_filter.mp hx).1) (Nat.le_trans (List.length_filter_le _ _) hlen)
  obtain ⟨q, g1, _, _, g2⟩ := repr_same hd hd ((Tidy.list (TidyAll.cons t1 (TidyAll.cons t2 (TidyAll.cons t3 .nil)))).small (by omega) (by omega))
  have hz := fz_toldR (L := L) (y := y) (s := s)
  generalize toldR L y s = T at *
  unfold isr8 envR
  simp -implicitDefEqProofs [g1, g2, hz]
end
end Wk
namespace Wk
open PySem PySem.Spec PyProof.Rows L2 Pv
section
variable {L : Land} {a b s : Spt} {l lot : List Spt} {w : Nat} {o : Bool} {x z u : Sl} {n : Nat} {y : Int} {h : Hand} {D : LD}
theorem isr9_ok (hL : LK L w) (ok : HandOk h) {v m g t d : PV} : WP isr9 (envR h L false y (.val v) (.val m) (.val g) (.val t) (.val d) .un) fun f e => f = .nx ∧ ∃ h' lot, HandOk h' ∧ lot.Sublist (spots L) ∧ e = envR h' L false y (.val v) (.val m) (.val g) (.val t) (.val d) (.val (.tup (sps lot))) := by
  have hlen := hL.spots_len
  unfold isr9 envR
  simp -implicitDefEqProofs
  refine ⟨by omega, ?_⟩
  refine wp_lcI (fun n c e => ∃ h' F, HandOk h' ∧ F.Sublist ((spots L).take n) ∧ c = sps F ∧ e = envR h' L false y (.val v) (.val m) (.val g) (.val t) (.val d) .un) (n := 0) ⟨h, [], ok, List.nil_sublist _, rfl, rfl⟩ ?_ ?_
  · rintro i p c e hp ⟨h1, F, ok1, hF, rfl, rfl⟩
    obtain ⟨s, hg, rfl⟩ := map_get hp
    obtain ⟨k, h2, e2, k0, k1, ok2⟩ := draw (m := 5) ok1 (by omega) (by omega)
    rw [Nat.zero_add] at hF ⊢
    unfold envR
    by_cases c : k = 0
    · simp -implicitDefEqProofs [e2, c, unalV_val]
      refine ⟨h2, ok2, F ++ [s], ?_, rfl, rfl⟩
      rw [take_snoc hg]
      exact hF.append (List.Sublist.refl _)
    · simp -implicitDefEqProofs [e2, c]
      refine ⟨h2, ok2, F, ?_, rfl, rfl⟩
      rw [take_snoc hg]
      exact hF.trans (List.sublist_append_left _ _)
  · rintro c e ⟨h1, F, ok1, hF, rfl, rfl⟩
    have hF : F.Sublist (spots L) := hF.trans (List.take_sublist _ _)
    unfold envR
    simp -implicitDefEqProofs [tup_S]
    exact ⟨h1, ok1, F, hF, rfl, rfl⟩
theorem isr10_ok (hL : LK L w) (hy : 0 ≤ y ∧ y ≤ 1000) (hl : lot.Sublist (spots L)) {m g t d : PV} : WP isr10 (envR h L false y (.val (pvV true (viewsOf L y))) (.val m) (.val g) (.val t) (.val d) (.val (.tup (sps lot)))) fun f e => f = .nx ∧ e = envR h L false y (.val (pvV true (viewsOf L y))) (.val m) (.val g) (.val t) (.val d) (.val (.tup (sps lot))) := by
  have hlen := hL.spots_len
  unfold isr10 envR
  by_cases hn : lot = []
  · simp -implicitDefEqProofs [ne_nilT, hn]
  · have hm : ∀ s ∈ lot, InL L s := fun s hs => hL.mem.mp (hl.subset hs)
    have hll : lot.length ≤ 64 := Nat.le_trans hl.length_le hlen
    have hd : pd (.tup (sps (neverS L y lot))) = some (ST.d (neverS L y lot)) := ST.pd _
    have t2 : Tidy (ST.d (neverS L y lot)) (64 * 35 + 3) 2 := tidy_Ss hL (fun x hx => hL.mem.mp (List.mem_filter.mp hx).1) (Nat.le_trans (List.length_filter_le _ _) hlen)
    obtain ⟨q, g1, _, _, g2⟩ := repr_same hd hd (t2.small (by omega) (by omega))
    simp -implicitDefEqProofs [ne_nilT, hn, sp_never hL hy hn hm (rise.sublist hl) hll, g1]
    refine ⟨by omega, ?_⟩
    rw [show ∀ tt te, lcP (setT (.nm 10)) [10] tt te (sps (spots L)) [] = lcP (setT (.nm 10)) [10] tt te ((spots L).map pvS) [] from fun _ _ => rfl]
    refine wp_lcT (fun s => !(lot.any fun one => seesB L y one s)) pvS (fun k hk => ?_) ?_
    · have hk := hL.mem.mp hk
      simp -implicitDefEqProofs
      refine ⟨by omega, ?_⟩
      rw [show ∀ tt te, lcP (setT (.nm 12)) [12] tt te (sps lot) [] = lcP (setT (.nm 12)) [12] tt te (lot.map pvS) [] from fun _ _ => rfl]
      refine wp_lcT (fun _ => true) (fun one => .bl (seesB L y one k)) (fun j hj => ?_) ?_
      · have hm2 : k ∈ seenOf L y j ↔ seesB L y j k = true := mem_seen hL hk
        simp -implicitDefEqProofs [ix_V, get_views hL (hm j hj), in_St, hm2]
      · have e2 : blsP ((lot.filter fun _ => true).map (fun one => PV.bl (seesB L y one k))) = some (lot.map fun one => seesB L y one k) := by
          rw [List.filter_eq_self.mpr (fun _ _ => rfl)]
          exact blsP_of
        generalize (lot.filter fun _ => true).map (fun one => PV.bl (seesB L y one k)) = M at e2
        have e3 : (lot.map fun one => seesB L y one k).any id = lot.any fun one => seesB L y one k := by rw [List.any_map]; rfl
        cases c : lot.any fun one => seesB L y one k with
        | true =>
          rw [c] at e3
          simp -implicitDefEqProofs [e2, e3]
        | false =>
          rw [c] at e3
          simp -implicitDefEqProofs [e2, e3]
    · rw [filt_S]
      rw [show (spots L).filter (fun s => !(lot.any fun one => seesB L y one s)) = neverS L y lot from rfl]
      simp -implicitDefEqProofs [tup_S, g1, g2]
theorem isr11_ok (hL : LK L w) (ok : HandOk h) {v m g t d r : PV} : WP isr11 (envR h L false y (.val v) (.val m) (.val g) (.val t) (.val d) (.val r)) fun f e => f = .rt (.val (.bl true)) ∧ ∃ h' , HandOk h' ∧ e = envR h' L false y (.val v) (.val m) (.val g) (.val t) (.val d) (.val r) := by
  have hb : WP (lcP (setT (.nm 11)) [11] (dpure true) (dcallF f_ulaw_is_pair_right (dcons (dname 0) (dcons (dname 1) (dcons (dname 2) dnil)))) (rangeP 0 12 1) []) (envR h L false y (.val v) (.val m) (.val g) (.val t) (.val d) (.val r)) fun a e => a = List.replicate 12 (.bl true) ∧ ∃ h', HandOk h' ∧ e = envR h' L false y (.val v) (.val m) (.val g) (.val t) (.val d) (.val r) := by
    refine wp_lcI (fun n a e => a = List.replicate n (.bl true) ∧ ∃ h', HandOk h' ∧ e = envR h' L false y (.val v) (.val m) (.val g) (.val t) (.val d) (.val r)) (n := 0) ⟨rfl, h, ok, rfl⟩ ?_ ?_
    · rintro n p a e hp ⟨rfl, h', ok', rfl⟩
      obtain ⟨hn, rfl⟩ := rangeP_get hp
      obtain ⟨h3, e3, ok3⟩ := sp_pair (o := false) hL ok'
      rw [Nat.zero_add, List.replicate_succ']
      unfold envR
      simp -implicitDefEqProofs [e3, unalV_val]
      exact ⟨h3, ok3, rfl⟩
    · rintro a e ⟨rfl, h', ok', rfl⟩
      rw [rangeP_len]
      exact ⟨rfl, h', ok', rfl⟩
  unfold isr11
  unfold envR at hb ⊢
  have o12 : okB 12 := by decide
  simp -implicitDefEqProofs [o12]
  refine ⟨by rw [rangeP_len]; decide, ?_⟩
  refine wp_mono hb ?_
  rintro a e ⟨rfl, h', ok', rfl⟩
  have eb : blsP (List.replicate 12 (PV.bl true)) = some (List.replicate 12 true) := rfl
  simp -implicitDefEqProofs [eb]
  exact ⟨rfl, h', ok', rfl⟩
theorem sp_right (ok : HandOk h) : ∃ h', f_ulaw_is_right [pvH h] = some (.bl true, [pvH h']) ∧ HandOk h' := by
  have key : ∃ r as, f_ulaw_is_right [pvH h] = some (r, as) ∧ ∃ h', r = .bl true ∧ as = [pvH h'] ∧ HandOk h' := by
    refine wp_exit rfl ?_
    rw [isr_eq, wp_seq]
    refine wp_mono (isr1_ok ok) ?_
    rintro f e ⟨rfl, h1, L, w, hL, ok1, rfl⟩
    refine then_nx ?_
    rw [wp_seq]
    refine wp_mono (isr2_ok hL ok1) ?_
    rintro f e ⟨rfl, h2, y, hy, ok2, rfl⟩
    refine then_nx ?_
    rw [wp_seq]
    refine wp_mono (isr3_ok hL hy) ?_
    rintro f e ⟨rfl, rfl⟩
    refine then_nx ?_
    rw [wp_seq]
    refine wp_mono (isr4_ok hL) ?_
    rintro f e ⟨rfl, rfl⟩
    refine then_nx ?_
    rw [wp_seq]
    refine wp_mono (isr5_ok hL ok2) ?_
    rintro f e ⟨rfl, h3, s, hs, ok3, rfl⟩
    refine then_nx ?_
    rw [wp_seq]
    refine wp_mono (isr6_ok hL hs hy) ?_
    rintro f e ⟨rfl, rfl⟩
    refine then_nx ?_
    rw [wp_seq]
    refine wp_mono (isr7_ok hL hs) ?_
    rintro f e ⟨rfl, rfl⟩
    refine then_nx ?_
    rw [wp_seq]
    refine wp_mono (isr8_ok hL hs) ?_
    rintro f e ⟨rfl, rfl⟩
    refine then_nx ?_
    rw [wp_seq]
    refine wp_mono (isr9_ok hL ok3) ?_
    rintro f e ⟨rfl, h4, lot, ok4, hl, rfl⟩
    refine then_nx ?_
    rw [wp_seq]
    refine wp_mono (isr10_ok hL hy hl) ?_
    rintro f e ⟨rfl, rfl⟩
    refine then_nx ?_
    refine wp_mono (isr11_ok hL ok4) ?_
    rintro f e ⟨rfl, h5, ok5, rfl⟩
    unfold envR
    simp -implicitDefEqProofs
    exact ⟨h5, rfl, ok5⟩
  obtain ⟨r, as, h1, h', rfl, rfl, h2⟩ := key
  exact ⟨h', h1, h2⟩
end
end Wk
namespace Wk
open PySem PySem.Spec PyProof.Rows L2 Pv
noncomputable def lww1 : D Fl := (dset 1 (dcallF f_ulaw_hand (dcons (dname 0) dnil)))
noncomputable def lww2 : D Fl := (dite (dtor (dtst (dop (fun a b => dfn gNe [a, b]) (dcallF f_least_eye (dcons (dtup (dcons (dtup (dcons (dcon (.int 0)) (dcons (dcon (.int 5)) (dcons (dcon (.int 0)) dnil)))) dnil)) (dcons (dtup (dcons (dcon (.int 0)) (dcons (dcon (.int 0)) dnil))) (dcons (dtup (dcons (dcon (.int 0)) (dcons (dcon (.int 2)) dnil))) dnil)))) (dcon (.int 11)))) (dtst (dop (fun a b => dfn gNe [a, b]) (dcallF f_hidden_by (dcons (dtup (dcons (dtup (dcons (dcon (.int 0)) (dcons (dcon (.int 5)) (dcons (dcon (.int 0)) dnil)))) dnil)) (dcons (dtup (dcons (dcon (.int 0)) (dcons (dcon (.int 0)) dnil))) (dcons (dtup (dcons (dcon (.int 0)) (dcons (dcon (.int 2)) dnil))) (dcons (dcon (.int 10)) dnil))))) (dtup (dcons (dtup (dcons (dcon (.int 0)) (dcons (dcon (.int 1)) dnil))) dnil))))) (dret (dcon (.bl false))) dskip)
noncomputable def lww3 : D Fl := (dret (dcall (dfn gAll) (dcons (dlc (drange1 (dcons (dcon (.int 3)) dnil)) (.nm 2) [2] (dpure true) (dcallF f_ulaw_is_right (dcons (dname 1) dnil))) dnil)))
theorem lww_eq : b_law = dseq lww1 (dseq lww2 lww3) := rfl
def lk0 : Land := [[0, 5, 0]]
theorem lk0_ok : LK lk0 3 := by
  refine ⟨⟨?_, rfl, ?_, ?_, ?_⟩, ?_, ?_⟩
  · intro r hr
    rw [List.mem_singleton.mp hr]
    rfl
  · decide
  · decide
  · decide
  · decide
  · intro r hr
    rw [List.mem_singleton.mp hr]
    decide
theorem lww2_ok {v h : PV} : WP lww2 [.val v, .val h, .un] fun f e => f = .nx ∧ e = [.val v, .val h, .un] := by
  have ha : InL lk0 (0, 0) := lk0_ok.inL.mpr (by decide)
  have hb : InL lk0 (0, 2) := lk0_ok.inL.mpr (by decide)
  have hl : lineTo (0, 0) (0, 2) = some [(0, 1), (0, 2)] := by decide
  have hst : lst lk0 (0, 0) [(0, 1), (0, 2)] = 11 := by decide
  have e1 : f_least_eye [.tup [.tup [.int 0, .int 5, .int 0]], .tup [.int 0, .int 0], .tup [.int 0, .int 2]] = some (.int 11, [.tup [.tup [.int 0, .int 5, .int 0]], .tup [.int 0, .int 0], .tup [.int 0, .int 2]]) := by
    have h := sp_least_eye lk0_ok ha hb
    rw [hl] at h
    simp only [Option.map_some, hst] at h
    exact h
  have hh : hid lk0 (0, 0) [(0, 1), (0, 2)] 10 = [(0, 1)] := by decide
  have hsB : seesB lk0 10 (0, 0) (0, 2) = false := by
    rw [seesB_line (by decide) hl, hh]
    rfl
  have hB : hidB lk0 10 (0, 0) (0, 2) = .tup (sps [(0, 1)]) := by
    unfold hidB
    rw [hsB, hl]
    simp [hh]
  have e2 : f_hidden_by [.tup [.tup [.int 0, .int 5, .int 0]], .tup [.int 0, .int 0], .tup [.int 0, .int 2], .int 10] = some (.tup [.tup [.int 0, .int 1]], [.tup [.tup [.int 0, .int 5, .int 0]], .tup [.int 0, .int 0], .tup [.int 0, .int 2], .int 10]) := by
    have h := sp_hidden_by lk0_ok ha hb (y := 10) (by omega)
    rw [hB] at h
    exact h
  have e3 : gNe [.int 11, .int 11] = some (.bl false) := En.int.gNe (by decide) 11 11
  have e4 : gNe [.tup [.tup [.int 0, .int 1]], .tup [.tup [.int 0, .int 1]]] = some (.bl false) := by
    have := ne_ST (a := [(0, 1)]) (b := [(0, 1)])
    exact this
  unfold lww2
  simp -implicitDefEqProofs [e1, e2, e3, e4]
theorem law_holds : ∀ ns : List Int, ns.length ≤ 63 → LawD f_law ns := by
  intro ns hn
  obtain ⟨h, as, e, ok⟩ := sp_hand (ns := ns) (by omega)
  obtain ⟨a, rfl⟩ := List.length_eq_one_iff.mp (mkfn_out e)
  have key : ∃ r as, f_law [.frl (ns.map .int)] = some (r, as) ∧ r = .bl true := by
    refine wp_exit rfl ?_
    rw [lww_eq, wp_seq]
    have s1 : WP lww1 [.val (.frl (ns.map .int)), .un, .un] fun f e => f = .nx ∧ e = [.val (.frl (ns.map .int)), .val (pvH h), .un] := by
      unfold lww1
      simp -implicitDefEqProofs [e]
    refine wp_mono s1 ?_
    rintro f e ⟨rfl, rfl⟩
    refine then_nx ?_
    rw [wp_seq]
    refine wp_mono lww2_ok ?_
    rintro f e ⟨rfl, rfl⟩
    refine then_nx ?_
    have hb : okB 3 := by decide
    have hb2 : WP (lcP (setT (.nm 2)) [2] (dpure true) (dcallF f_ulaw_is_right (dcons (dname 1) dnil)) (rangeP 0 3 1) []) [.val (.frl (ns.map .int)), .val (pvH h), .un] fun a e => a = [.bl true, .bl true, .bl true] ∧ ∃ h', e = [.val (.frl (ns.map .int)), .val (pvH h'), .un] := by
      refine wp_lcI (fun n a e => a = List.replicate n (.bl true) ∧ ∃ h', HandOk h' ∧ e = [.val (.frl (ns.map .int)), .val (pvH h'), .un]) (n := 0) ⟨rfl, h, ok, rfl⟩ ?_ ?_
      · rintro n p a e hp ⟨rfl, h', ok', rfl⟩
        obtain ⟨hn, rfl⟩ := rangeP_get hp
        obtain ⟨h3, e3, ok3⟩ := sp_right ok'
        rw [Nat.zero_add, List.replicate_succ']
        simp -implicitDefEqProofs [e3, unalV_val]
        exact ⟨h3, ok3, rfl⟩
      · rintro a e ⟨rfl, h', ok', rfl⟩
        rw [rangeP_len]
        exact ⟨rfl, h', rfl⟩
    unfold lww3
    simp -implicitDefEqProofs [hb]
    refine ⟨by rw [rangeP_len]; decide, ?_⟩
    refine wp_mono hb2 ?_
    rintro a e ⟨rfl, h', rfl⟩
    simp [blsP]
  obtain ⟨r, as, e, rfl⟩ := key
  exact ⟨as, e⟩
end Wk
open PySem PySem.W PyProof.Rows in
set_option maxRecDepth 100000 in
set_option maxHeartbeats 0 in
theorem PySem.Challenge.cw_hillandwater_k16_whole_sight_by_just_the_holds : PySem.Challenge.rw_hillandwater_k16_whole_sight_by_just_the.Holds := by
  w_on; o_law; k_head; (case hw => w_witness2)
  k_fill
  refine Pv.walkG (l := PySem.Challenge.rw_hillandwater_k16_whole_sight_by_just_the) (n := 63) (k := 12) (x := "script") (D := Wk.f_law) rfl (by decide) rfl ⟨rfl, by decide, by decide⟩ (fun w h Y => PySem.W.kIn_of Y) ?F Wk.law_holds
  case F =>
    intro w mg fa h KX G hmg
    refine' Wk.all_mk KX G hmg ?T ?D_ulaw_hand ?D_is_integer ?D_is_within ?D_is_height ?D_is_row ?D_is_land ?D_check_land ?D_is_tuple_of ?D_is_spot_of ?D_check_spot ?D_check_two_spots ?D_stepped ?D_sign_by ?D_line_to ?D_height_of ?D_eye_over ?D_least_eye ?D_check_eye ?D_hiding_spots ?D_raw_sees ?D_hidden_by ?D_ulaw_draw ?D_ulaw_any ?D_ulaw_land ?D_ulaw_spots ?D_all_spots ?D_raw_seen ?D_best_seat ?D_seen_from ?D_see_one ?D_ulaw_line ?D_ulaw_ways ?D_ulaw_lines ?D_ulaw_at ?D_ulaw_least ?D_sees ?D_ulaw_hides ?D_ulaw_is_pair_right ?D_ulaw_seen ?D_are_told_spots ?D_never_seen ?D_ulaw_is_right ?D_law
    case T =>
      refine' ⟨?z_abs, ?z_all, ?z_any, ?z_bool, ?z_dict, ?z_enumerate, ?z_int, ?z_isinstance, ?z_len, ?z_max, ?z_range, ?z_repr, ?z_sorted, ?z_tuple, ?z_zip, ?c_MOST_EYE, ?c_MOST_HEIGHT, ?c_MOST_SIDE⟩
      case z_abs =>
        refine' PySem.W.mg_none_of KX G ?a
        (case a => k_is)
      case z_all =>
        refine' PySem.W.mg_none_of KX G ?a
        (case a => k_is)
      case z_any =>
        refine' PySem.W.mg_none_of KX G ?a
        (case a => k_is)
      case z_bool =>
        refine' PySem.W.mg_none_of KX G ?a
        (case a => k_is)
      case z_dict =>
        refine' PySem.W.mg_none_of KX G ?a
        (case a => k_is)
      case z_enumerate =>
        refine' PySem.W.mg_none_of KX G ?a
        (case a => k_is)
      case z_int =>
        refine' PySem.W.mg_none_of KX G ?a
        (case a => k_is)
      case z_isinstance =>
        refine' PySem.W.mg_none_of KX G ?a
        (case a => k_is)
      case z_len =>
        refine' PySem.W.mg_none_of KX G ?a
        (case a => k_is)
      case z_max =>
        refine' PySem.W.mg_none_of KX G ?a
        (case a => k_is)
      case z_range =>
        refine' PySem.W.mg_none_of KX G ?a
        (case a => k_is)
      case z_repr =>
        refine' PySem.W.mg_none_of KX G ?a
        (case a => k_is)
      case z_sorted =>
        refine' PySem.W.mg_none_of KX G ?a
        (case a => k_is)
      case z_tuple =>
        refine' PySem.W.mg_none_of KX G ?a
        (case a => k_is)
      case z_zip =>
        refine' PySem.W.mg_none_of KX G ?a
        (case a => k_is)
      case c_MOST_EYE =>
        refine' Wk.gc_of KX G ?a ?g
        (case a => k_is)
        case g =>
          exact Wk.gt_int
      case c_MOST_HEIGHT =>
        refine' Wk.gc_of KX G ?a ?g
        (case a => k_is)
        case g =>
          exact Wk.gt_int
      case c_MOST_SIDE =>
        refine' Wk.gc_of KX G ?a ?g
        (case a => k_is)
        case g =>
          exact Wk.gt_int
    case D_ulaw_hand =>
      refine' Wk.defAt ?a ?l ?c ?k
      (case a => k_is)
      (case l => k_is)
      (case c => k_is)
      (case k => k_is)
    case D_is_integer =>
      refine' Wk.defAt ?a ?l ?c ?k
      (case a => k_is)
      (case l => k_is)
      (case c => k_is)
      (case k => k_is)
    case D_is_within =>
      refine' Wk.defAt ?a ?l ?c ?k
      (case a => k_is)
      (case l => k_is)
      (case c => k_is)
      (case k => k_is)
    case D_is_height =>
      refine' Wk.defAt ?a ?l ?c ?k
      (case a => k_is)
      (case l => k_is)
      (case c => k_is)
      (case k => k_is)
    case D_is_row =>
      refine' Wk.defAt ?a ?l ?c ?k
      (case a => k_is)
      (case l => k_is)
      (case c => k_is)
      (case k => k_is)
    case D_is_land =>
      refine' Wk.defAt ?a ?l ?c ?k
      (case a => k_is)
      (case l => k_is)
      (case c => k_is)
      (case k => k_is)
    case D_check_land =>
      refine' Wk.defAt ?a ?l ?c ?k
      (case a => k_is)
      (case l => k_is)
      (case c => k_is)
      (case k => k_is)
    case D_is_tuple_of =>
      refine' Wk.defAt ?a ?l ?c ?k
      (case a => k_is)
      (case l => k_is)
      (case c => k_is)
      (case k => k_is)
    case D_is_spot_of =>
      refine' Wk.defAt ?a ?l ?c ?k
      (case a => k_is)
      (case l => k_is)
      (case c => k_is)
      (case k => k_is)
    case D_check_spot =>
      refine' Wk.defAt ?a ?l ?c ?k
      (case a => k_is)
      (case l => k_is)
      (case c => k_is)
      (case k => k_is)
    case D_check_two_spots =>
      refine' Wk.defAt ?a ?l ?c ?k
      (case a => k_is)
      (case l => k_is)
      (case c => k_is)
      (case k => k_is)
    case D_stepped =>
      refine' Wk.defAt ?a ?l ?c ?k
      (case a => k_is)
      (case l => k_is)
      (case c => k_is)
      (case k => k_is)
    case D_sign_by =>
      refine' Wk.defAt ?a ?l ?c ?k
      (case a => k_is)
      (case l => k_is)
      (case c => k_is)
      (case k => k_is)
    case D_line_to =>
      refine' Wk.defAt ?a ?l ?c ?k
      (case a => k_is)
      (case l => k_is)
      (case c => k_is)
      (case k => k_is)
    case D_height_of =>
      refine' Wk.defAt ?a ?l ?c ?k
      (case a => k_is)
      (case l => k_is)
      (case c => k_is)
      (case k => k_is)
    case D_eye_over =>
      refine' Wk.defAt ?a ?l ?c ?k
      (case a => k_is)
      (case l => k_is)
      (case c => k_is)
      (case k => k_is)
    case D_least_eye =>
      refine' Wk.defAt ?a ?l ?c ?k
      (case a => k_is)
      (case l => k_is)
      (case c => k_is)
      (case k => k_is)
    case D_check_eye =>
      refine' Wk.defAt ?a ?l ?c ?k
      (case a => k_is)
      (case l => k_is)
      (case c => k_is)
      (case k => k_is)
    case D_hiding_spots =>
      refine' Wk.defAt ?a ?l ?c ?k
      (case a => k_is)
      (case l => k_is)
      (case c => k_is)
      (case k => k_is)
    case D_raw_sees =>
      refine' Wk.defAt ?a ?l ?c ?k
      (case a => k_is)
      (case l => k_is)
      (case c => k_is)
      (case k => k_is)
    case D_hidden_by =>
      refine' Wk.defAt ?a ?l ?c ?k
      (case a => k_is)
      (case l => k_is)
      (case c => k_is)
      (case k => k_is)
    case D_ulaw_draw =>
      refine' Wk.defAt ?a ?l ?c ?k
      (case a => k_is)
      (case l => k_is)
      (case c => k_is)
      (case k => k_is)
    case D_ulaw_any =>
      refine' Wk.defAt ?a ?l ?c ?k
      (case a => k_is)
      (case l => k_is)
      (case c => k_is)
      (case k => k_is)
    case D_ulaw_land =>
      refine' Wk.defAt ?a ?l ?c ?k
      (case a => k_is)
      (case l => k_is)
      (case c => k_is)
      (case k => k_is)
    case D_ulaw_spots =>
      refine' Wk.defAt ?a ?l ?c ?k
      (case a => k_is)
      (case l => k_is)
      (case c => k_is)
      (case k => k_is)
    case D_all_spots =>
      refine' Wk.defAt ?a ?l ?c ?k
      (case a => k_is)
      (case l => k_is)
      (case c => k_is)
      (case k => k_is)
    case D_raw_seen =>
      refine' Wk.defAt ?a ?l ?c ?k
      (case a => k_is)
      (case l => k_is)
      (case c => k_is)
      (case k => k_is)
    case D_best_seat =>
      refine' Wk.defAt ?a ?l ?c ?k
      (case a => k_is)
      (case l => k_is)
      (case c => k_is)
      (case k => k_is)
    case D_seen_from =>
      refine' Wk.defAt ?a ?l ?c ?k
      (case a => k_is)
      (case l => k_is)
      (case c => k_is)
      (case k => k_is)
    case D_see_one =>
      refine' Wk.defAt ?a ?l ?c ?k
      (case a => k_is)
      (case l => k_is)
      (case c => k_is)
      (case k => k_is)
    case D_ulaw_line =>
      refine' Wk.defAt ?a ?l ?c ?k
      (case a => k_is)
      (case l => k_is)
      (case c => k_is)
      (case k => k_is)
    case D_ulaw_ways =>
      refine' Wk.defAt ?a ?l ?c ?k
      (case a => k_is)
      (case l => k_is)
      (case c => k_is)
      (case k => k_is)
    case D_ulaw_lines =>
      refine' Wk.defAt ?a ?l ?c ?k
      (case a => k_is)
      (case l => k_is)
      (case c => k_is)
      (case k => k_is)
    case D_ulaw_at =>
      refine' Wk.defAt ?a ?l ?c ?k
      (case a => k_is)
      (case l => k_is)
      (case c => k_is)
      (case k => k_is)
    case D_ulaw_least =>
      refine' Wk.defAt ?a ?l ?c ?k
      (case a => k_is)
      (case l => k_is)
      (case c => k_is)
      (case k => k_is)
    case D_sees =>
      refine' Wk.defAt ?a ?l ?c ?k
      (case a => k_is)
      (case l => k_is)
      (case c => k_is)
      (case k => k_is)
    case D_ulaw_hides =>
      refine' Wk.defAt ?a ?l ?c ?k
      (case a => k_is)
      (case l => k_is)
      (case c => k_is)
      (case k => k_is)
    case D_ulaw_is_pair_right =>
      refine' Wk.defAt ?a ?l ?c ?k
      (case a => k_is)
      (case l => k_is)
      (case c => k_is)
      (case k => k_is)
    case D_ulaw_seen =>
      refine' Wk.defAt ?a ?l ?c ?k
      (case a => k_is)
      (case l => k_is)
      (case c => k_is)
      (case k => k_is)
    case D_are_told_spots =>
      refine' Wk.defAt ?a ?l ?c ?k
      (case a => k_is)
      (case l => k_is)
      (case c => k_is)
      (case k => k_is)
    case D_never_seen =>
      refine' Wk.defAt ?a ?l ?c ?k
      (case a => k_is)
      (case l => k_is)
      (case c => k_is)
      (case k => k_is)
    case D_ulaw_is_right =>
      refine' Wk.defAt ?a ?l ?c ?k
      (case a => k_is)
      (case l => k_is)
      (case c => k_is)
      (case k => k_is)
    case D_law =>
      refine' Wk.defAt ?a ?l ?c ?k
      (case a => k_is)
      (case l => k_is)
      (case c => k_is)
      (case k => k_is)
